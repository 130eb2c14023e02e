import PyProof.Rows.All
import Wide.All
import OpenK.AllK
import Wide.FinOn
import KE.KStateDown
import HandS.ForSpec
import HandS.More
import HandS.Defaults
import HandS.Head0
import HandS.Head1
import HandS.Head2
import HandS.HeadEnd
import HandS.HeadHook1
import HandS.HeadHook2
import HandS.HeadHook4
import HandS.ForMost
import HandS.ForExc
import HandS.CallSlots
import HandS.Conv
import HandS.Flow
import HandS.TupAny
import HandS.Wide
import HandS.Zip
import HandS.SortInts
import HandS.IsInst
import HandS.Style
import HandS.TupMul
import HandS.Dict
import HandS.TupLen
import HandS.Deep
import HandS.SortOrd
import KE.KTupSum
import HandS.SetFor
import KE.GoesMore
import PyProof.ExcBaseAll.ValueError
import PySem.Challenge.RW_evenurn_k36_whole_fits_by_all_rows
set_option Elab.async false
set_option linter.all false
set_option maxRecDepth 100000
/-! Rf, part A: a small language without positions, its interpreter over data trees. -/
namespace Rf
open PySem

/-- data: what a value is as a tree -/
inductive D where
  | non | bl (b : Bool) | int (i : Int) | str (s : Str)
  | tup (ds : List D) | lst (ds : List D)
  | dic (ks ds : List D)
  | ins (c : Nat) (fs : List D)
  | fn (f : Str)
  | scr (ns : List Int)
  deriving Inhabited

/-- a slot: nothing known | a value that others may hold too (never changed) | a value whose container is this slot's alone -/
inductive Sl where
  | no | sh (d : D) | ow (d : D)
  deriving Inhabited
abbrev Env := List Sl
/-- a container that can be changed -/
def isC : D → Bool
  | .lst _ => true
  | .dic _ _ => true
  | _ => false
def mkSl (fr : Bool) (d : D) : Sl := if fr && isC d then .ow d else .sh d

/-- how an expression ends: its value or an error, and the slots behind it -/
inductive R (α : Type) where
  | stuck | ok (a : α) (s : Env) | exc (x : D) (s : Env)
def R.bind {α β : Type} : R α → (α → Env → R β) → R β
  | .ok a s, f => f a s
  | .exc x s, _ => .exc x s
  | .stuck, _ => .stuck
/-- how a statement ends -/
inductive S where
  | stuck | nx (s : Env) | bk (s : Env) | ct (s : Env) | ret (d : D) (s : Env) | exc (x : D) (s : Env)
def R.thn {α : Type} : R α → (α → Env → S) → S
  | .ok a s, f => f a s
  | .exc x s, _ => .exc x s
  | .stuck, _ => .stuck
/-- how a call ends: its value or error, what its in-out parameters are then -/
inductive CR where
  | stuck | ok (d : D) (outs : List D) | exc (x : D) (outs : List D)
structure Calls where
  fn : Nat → List D → CR
  fr : Nat → Bool
  fuel : Nat

inductive BOp where | add | sub | mul | fdiv | mod | pow
  deriving DecidableEq
inductive COp where | eq | ne | lt | le | gt | ge | is | isnot | inn | notin
  deriving DecidableEq
inductive P1 where
  | len | sum | min | max | sorted | tuple | list | all | any | abs | int | str | bool | lenset | sortedset
  deriving DecidableEq
inductive P2 where | min | max | index | count
  deriving DecidableEq
inductive Ty where | int | bool | str | tuple | list | dict | own (c : Nat)
  deriving DecidableEq

inductive Tg where
  | nm (i : Nat) | tp (ts : List Tg)

mutual
inductive E where
  | cst (d : D) | var (i : Nat) | mov (i : Nat) | glob (x : Str) (d : D) | sh (a : E)
  | tup (es : List E) | lst (es : List E)
  | bin (o : BOp) (a : E) (b : O) | binv (o : BOp) (i : Nat) (b : E) | neg (a : E)
  | cmp (o : COp) (a : E) (b : O) | cmpv (o : COp) (i : Nat) (b : E) | chain (o p : COp) (a b c : E)
  | and (a b : E) | or (a b : E) | not (a : O) | ite (t : T) (a b : E)
  | call (f : Nat) (as : List Arg)
  | p1 (p : P1) (a : O) | p2 (p : P2) (a b : E)
  | isi (a : O) (ts : List Ty)
  | sub (a i : E) | subv (v : Nat) (i : E) | slc (a : E) (lo hi : Option E) | slcv (v : Nat) (lo hi : Option E) | rev (a : O)
  | lc (elt : E) (tg : Tg) (it : It) (cond : Option T) (own : List Nat)
  | pop (v : Nat) | popAt (v : Nat) (i : E)
  | dnew | lrg (t : Bool) (it : It) | idx (a b : E)
/-- an operand: a slot that is looked at only, another expression -/
inductive O where
  | vw (i : Nat) | e (e : E)
/-- a test -/
inductive T where
  | and (a b : T) | or (a b : T) | not (a : T) | ite (t a b : T) | o (a : O)
  | cmp (o : COp) (a : E) (b : O) | cmpv (o : COp) (i : Nat) (b : E) | chain (o p : COp) (a b c : E)
inductive It where
  | seq (e : E) | rng1 (a : E) | rng2 (a b : E) | rng3 (a b c : E) | zip (a b : E) | enum (a : E)
inductive Arg where
  | io (i : Nat) | e (e : E)
end

inductive St where
  | asg (tg : Tg) (e : E) | par (is : List Nat) (es : List E)
  | aug (i : Nat) (o : BOp) (e : E)
  | setI (v : Nat) (i e : E) | augI (v : Nat) (i : E) (o : BOp) (e : E)
  | app (v : Nat) (e : E) | ext (v : Nat) (e : E) | expr (e : E)
  | ret (e : E) | retN | pass | brk | cnt
  | ifS (t : T) (a b : List St) | forS (tg : Tg) (it : It) (body : List St) | whl (t : T) (body : List St)
  | raise (c : Nat)

/-! ### operations on data -/
def truth : D → Option Bool
  | .non => some false
  | .bl b => some b
  | .int i => some (decide (i ≠ 0))
  | .str s => if s.length ≤ sizeLine then some (decide (s.length ≠ 0)) else none
  | .tup ds => some (!ds.isEmpty)
  | .lst ds => some (!ds.isEmpty)
  | .dic _ _ => none
  | .ins _ _ => none
  | .fn _ => none
  | .scr _ => none

def mulOk (i j : Int) : Bool := decide (i.natAbs < 2 ^ 64) || decide (j.natAbs < 2 ^ 64) || decide (i.natAbs.log2 + j.natAbs.log2 < 1000000)
def divOk (j : Int) : Bool := decide (0 < j) && (decide (j < 1073741824) || decide (j.natAbs.log2 < 9000))

mutual
/-- how deep it is nested -/
def dep : D → Nat
  | .tup ds => deps ds + 1
  | .lst ds => deps ds + 1
  | _ => 0
def deps : List D → Nat
  | [] => 0
  | d :: ds => max (dep d) (deps ds)
end
mutual
/-- none, truths, numbers, texts, lists and tuples of such -/
def plain : D → Bool
  | .tup ds => plains ds
  | .lst ds => plains ds
  | .dic _ _ => false
  | .ins _ _ => false
  | .fn _ => false
  | .scr _ => false
  | .str s => PyData.strOk s
  | _ => true
def plains : List D → Bool
  | [] => true
  | d :: ds => plain d && plains ds
end
mutual
/-- == of plain data, as Python has it: a truth is the number 0 or 1 -/
def eqd : D → D → Bool
  | .non, .non => true
  | .bl a, .bl b => a == b
  | .int a, .int b => decide (a = b)
  | .bl a, .int b => decide ((if a then 1 else 0) = b)
  | .int a, .bl b => decide (a = (if b then 1 else 0))
  | .str a, .str b => decide (a = b)
  | .tup a, .tup b => eqds a b
  | .lst a, .lst b => eqds a b
  | _, _ => false
def eqds : List D → List D → Bool
  | [], [] => true
  | a :: as, b :: bs => eqd a b && eqds as bs
  | _, _ => false
end
def cmpb (d : D) : Bool := plain d && decide (dep d ≤ 60)
def eqD (a b : D) : Option Bool := if cmpb a && cmpb b then some (eqd a b) else none

def bin : BOp → D → D → Option D
  | .add, .int a, .int b => some (.int (a + b))
  | .add, .str a, .str b => if a.length + b.length ≤ sizeLine then some (.str (a ++ b)) else none
  | .add, .tup a, .tup b => if a.length + b.length ≤ sizeLine then some (.tup (a ++ b)) else none
  | .add, .lst a, .lst b => if a.length + b.length ≤ sizeLine then some (.lst (a ++ b)) else none
  | .sub, .int a, .int b => some (.int (a - b))
  | .mul, .int a, .int b => if mulOk a b then some (.int (a * b)) else none
  | .mul, .lst a, .int b => if decide (-(2 ^ 63) ≤ b) && decide (b < 2 ^ 63) && decide (a.length * b.toNat ≤ sizeLine) then some (.lst (List.replicate b.toNat a).flatten) else none
  | .mul, .tup a, .int b => if decide (-(2 ^ 62) ≤ b) && decide (b < 2 ^ 62) && decide (a.length * b.toNat ≤ sizeLine) then some (.tup (List.replicate b.toNat a).flatten) else none
  | .fdiv, .int a, .int b => if divOk b then some (.int (a / b)) else none
  | .mod, .int a, .int b => if 0 < b then some (.int (a % b)) else none
  | .pow, .int a, .int b => if decide (0 ≤ b) && decide (b ≤ 1000000) && decide (a.natAbs < 2 ^ 64) then some (.int (a ^ b.toNat)) else none
  | _, _, _ => none

/-- op= : numbers and texts alone -/
def iop : BOp → D → D → Option D
  | .add, .int a, .int b => some (.int (a + b))
  | .add, .str a, .str b => if a.length + b.length ≤ sizeLine then some (.str (a ++ b)) else none
  | .sub, .int a, .int b => some (.int (a - b))
  | .mul, .int a, .int b => if decide (a.natAbs < 2 ^ 64) || decide (b.natAbs < 2 ^ 64) then some (.int (a * b)) else none
  | .fdiv, .int a, .int b => if decide (0 < b) && decide (b < 1073741824) then some (.int (a / b)) else none
  | .mod, .int a, .int b => if 0 < b then some (.int (a % b)) else none
  | _, _, _ => none
/-- the lexicographic order of tuples of numbers -/
def ltInts : List Int → List Int → Bool
  | [], [] => false
  | [], _ :: _ => true
  | _ :: _, [] => false
  | a :: as, b :: bs => if a < b then true else if b < a then false else ltInts as bs
def intsOf : List D → Option (List Int)
  | [] => some []
  | .int i :: r => (intsOf r).map (i :: ·)
  | _ :: _ => none
def boolsOf : List D → Option (List Bool)
  | [] => some []
  | .bl i :: r => (boolsOf r).map (i :: ·)
  | _ :: _ => none

/-- keys of a dict: numbers and texts | tuples of such -/
def isK1 : D → Bool
  | .int _ => true
  | .str _ => true
  | _ => false
def isKT : D → Bool
  | .tup ds => ds.all isK1
  | _ => false
def keyOk (ks : List D) (x : D) : Bool := (isK1 x && ks.all isK1) || (isKT x && ks.all isKT)
def dfind : List D → List D → D → Option D
  | k :: ks, d :: ds, x => if eqd k x then some d else dfind ks ds x
  | _, _, _ => none
def dputK (ks : List D) (x : D) : List D := if ks.any (fun k => eqd k x) then ks else ks ++ [x]
def dputV (ks ds : List D) (x v : D) : List D := if ks.any (fun k => eqd k x) then List.zipWith (fun k d => if eqd k x then v else d) ks ds else ds ++ [v]
def isIn (x : D) (ds : List D) : Option Bool := if cmpb x && ds.all cmpb then some (ds.any fun y => eqd y x) else none

def cmp : COp → D → D → Option Bool
  | .eq, a, b => eqD a b
  | .ne, a, b => (eqD a b).map (!·)
  | .lt, .int a, .int b => some (decide (a < b))
  | .le, .int a, .int b => some (decide (a ≤ b))
  | .gt, .int a, .int b => some (decide (b < a))
  | .ge, .int a, .int b => some (decide (b ≤ a))
  | .is, a, .non => some (match a with | .non => true | _ => false)
  | .isnot, a, .non => some (match a with | .non => false | _ => true)
  | .inn, x, .lst ds => isIn x ds
  | .inn, x, .tup ds => isIn x ds
  | .inn, x, .dic ks _ => if keyOk ks x then some (ks.any fun k => eqd k x) else none
  | .notin, x, .lst ds => (isIn x ds).map (!·)
  | .notin, x, .tup ds => (isIn x ds).map (!·)
  | .notin, x, .dic ks _ => if keyOk ks x then some (!(ks.any fun k => eqd k x)) else none
  | _, _, _ => none

abbrev ixN := L2.ixN
def item : D → D → Option D
  | .lst ds, .int i => L2.atI ds i
  | .tup ds, .int i => L2.atI ds i
  | .dic ks ds, k => if keyOk ks k then dfind ks ds k else none
  | _, _ => none
/-- a[i] = v -/
def setD : D → D → D → Option D
  | .lst ds, .int k, v => (ixN ds.length k).map fun j => .lst (ds.set j v)
  | .dic ks ds, k, v => if keyOk ks k && decide (ks.length < sizeLine) then some (.dic (dputK ks k) (dputV ks ds k v)) else none
  | _, _, _ => none
def cut {α : Type} (ds : List α) (lo hi : Option Int) : List α := (ds.drop (HT.sIx ds.length 0 lo)).take (HT.sIx ds.length ds.length hi - HT.sIx ds.length 0 lo)
def slice : D → Option Int → Option Int → Option D
  | .lst ds, lo, hi => some (.lst (cut ds lo hi))
  | .tup ds, lo, hi => some (.tup (cut ds lo hi))
  | .scr ns, lo, hi => some (.lst (cut (ns.map .int) lo hi))
  | _, _, _ => none

def insI (x : Int) : List Int → List Int
  | [] => [x]
  | y :: r => if x ≤ y then x :: y :: r else y :: insI x r
def sortI : List Int → List Int
  | [] => []
  | x :: r => insI x (sortI r)
def minI : List Int → Option Int
  | [] => none
  | x :: r => some (r.foldl (fun a b => if b < a then b else a) x)
def maxI : List Int → Option Int
  | [] => none
  | x :: r => some (r.foldl (fun a b => if b > a then b else a) x)
def seqOf : D → Option (List D)
  | .lst ds => some ds
  | .tup ds => some ds
  | _ => none

def p1 : P1 → D → Option D
  | .len, .lst ds => some (.int ds.length)
  | .len, .tup ds => some (.int ds.length)
  | .len, .dic ks _ => some (.int ks.length)
  | .len, .str s => if s.length ≤ sizeLine then some (.int s.length) else none
  | .sum, d => (seqOf d).bind fun ds => (intsOf ds).map fun l => .int l.sum
  | .min, .lst ds => (intsOf ds).bind fun l => (minI l).map .int
  | .max, .lst ds => (intsOf ds).bind fun l => (maxI l).map .int
  | .sorted, .lst ds => (intsOf ds).map fun l => .lst ((sortI l).map .int)
  | .sorted, .tup ds => (intsOf ds).map fun l => .lst ((sortI l).map .int)
  | .tuple, .lst ds => some (.tup ds)
  | .tuple, .tup ds => some (.tup ds)
  | .list, .lst ds => some (.lst ds)
  | .list, .tup ds => some (.lst ds)
  | .lenset, .lst ds => (intsOf ds).bind fun l => if l.length + 1 < 4096 then some (.int l.eraseDups.length) else none
  | .lenset, .tup ds => (intsOf ds).bind fun l => if l.length + 1 < 4096 then some (.int l.eraseDups.length) else none
  | .all, .lst ds => (boolsOf ds).map fun l => .bl (l.all id)
  | .any, .lst ds => (boolsOf ds).map fun l => .bl (l.any id)
  | .abs, .int i => some (.int (if i < 0 then -i else i))
  | .int, .int i => some (.int i)
  | .int, .bl b => some (.int (if b then 1 else 0))
  | .bool, .int i => some (.bl (decide (i ≠ 0)))
  | .bool, .bl b => some (.bl b)
  | _, _ => none
/-- the first place -/
def idxD (ds : List D) : D → Option D
  | .int a => if ds.length ≤ sizeLine then (intsOf ds).bind fun l => (l.findIdx? (fun b => decide (b = a))).map fun i => .int (i : Nat) else none
  | _ => none
def p2 : P2 → D → D → Option D
  | .min, .int a, .int b => some (.int (if b < a then b else a))
  | .max, .int a, .int b => some (.int (if b > a then b else a))
  | _, _, _ => none

def isTy : D → Ty → Option Bool
  | .non, _ => some false
  | .bl _, t => some (t == .bool || t == .int)
  | .int _, t => some (t == .int)
  | .str _, t => some (t == .str)
  | .tup _, t => some (t == .tuple)
  | .lst _, t => some (t == .list)
  | _, _ => none
def isTys (d : D) : List Ty → Option Bool
  | [] => some false
  | t :: r => match isTy d t with
    | some true => some true
    | some false => isTys d r
    | none => none

/-! ### targets -/
mutual
def bindT (fr : Bool) : Tg → D → Env → Option Env
  | .nm i, d, s => some (s.set i (mkSl fr d))
  | .tp ts, .tup ds, s => if ts.length = ds.length then bindTs ts ds s else none
  | .tp _, _, _ => none
def bindTs : List Tg → List D → Env → Option Env
  | [], _, s => some s
  | t :: ts, d :: ds, s => (bindT false t d s).bind fun s1 => bindTs ts ds s1
  | _ :: _, [], _ => none
end

/-- the slots of a comprehension's own names forgotten -/
def wipeE (s : Env) : List Nat → Env
  | [] => s
  | i :: r => (wipeE s r).set i .no
/-- these slots as they were ahead, where their values are shared -/
def backE (s0 : Env) (s : Env) : List Nat → Env
  | [] => s
  | i :: r => (backE s0 s r).set i (match s0[i]? with
    | some (.sh d) => .sh d
    | _ => .no)

def compL (own : List Nat) (f : D → Env → R (Option D)) : List D → Env → R (List D)
  | [], s => .ok [] s
  | d :: ds, s => match f d s with
    | .ok o s1 => (compL own f ds (wipeE s1 own)).bind fun r s2 => match o with
      | some x => .ok (x :: r) s2
      | none => .ok r s2
    | _ => .stuck
def forL (f : D → Env → S) : List D → Env → S
  | [], s => .nx s
  | d :: ds, s => match f d s with
    | .nx s1 => forL f ds s1
    | .ct s1 => forL f ds s1
    | .bk s1 => .nx s1
    | r => r
def whileL (t : Env → R Bool) (f : Env → S) : Nat → Env → S
  | 0, _ => .stuck
  | n + 1, s => (t s).thn fun b s1 => if b then (match f s1 with
    | .nx s2 => whileL t f n s2
    | .ct s2 => whileL t f n s2
    | .bk s2 => .nx s2
    | r => r) else .nx s1

def rangeD (lo : Int) (n : Nat) : List D := (List.range n).map fun i => .int (lo + (i : Nat))
def enumD (n : Nat) : List D → List D
  | [] => []
  | d :: r => .tup [.int n, d] :: enumD (n + 1) r

/-- the values at the in-out arguments, filled in -/
def fillA : List Arg → List D → Env → Option (List D)
  | [], _, _ => some []
  | .io i :: as, ds, s => match s[i]? with
    | some (.ow d) => if isC d then (fillA as ds s).map (d :: ·) else none
    | _ => none
  | .e _ :: as, d :: ds, s => (fillA as ds s).map (d :: ·)
  | .e _ :: _, [], _ => none
/-- what the in-out arguments are behind the call -/
def putA : List Arg → List D → Env → Env
  | [], _, s => s
  | .io i :: as, d :: ds, s => putA as ds (s.set i (.ow d))
  | .io _ :: _, [], s => s
  | .e _ :: as, ds, s => putA as ds s
def mapM {α β : Type} (f : α → Option β) : List α → Option (List β)
  | [] => some []
  | a :: r => (f a).bind fun b => (mapM f r).map (b :: ·)
def optR {α : Type} (o : Option α) (s : Env) : R α := match o with
  | some a => .ok a s
  | none => .stuck
def optS {α : Type} (o : Option α) (f : α → S) : S := match o with
  | some a => f a
  | none => .stuck
/-- looked at only -/
def slotR (s : Env) (i : Nat) : R D := match s[i]? with
  | some (.sh d) => .ok d s
  | some (.ow d) => .ok d s
  | _ => .stuck
/-- shared from now on -/
def readR (s : Env) (i : Nat) : R D := match s[i]? with
  | some (.sh d) => .ok d s
  | some (.ow d) => .ok d (s.set i (.sh d))
  | _ => .stuck
/-- an owned list -/
def ownR (s : Env) (i : Nat) : R (List D) := match s[i]? with
  | some (.ow (.lst ds)) => .ok ds s
  | _ => .stuck
/-- an owned container -/
def ownC (s : Env) (i : Nat) : R D := match s[i]? with
  | some (.ow d) => if isC d then .ok d s else .stuck
  | _ => .stuck
/-- given away: the slot holds nothing from now on -/
def moveR (s : Env) (i : Nat) : R D := match s[i]? with
  | some (.sh d) => if isC d then .stuck else .ok d s
  | some (.ow d) => .ok d (s.set i .no)
  | _ => .stuck

/-- is the value's container new, held by nobody else -/
def isFreshF (fr : Nat → Bool) : E → Bool
  | .mov _ => true
  | .tup _ => true
  | .lst _ => true
  | .bin _ _ _ => true
  | .binv _ _ _ => true
  | .neg _ => true
  | .cmp _ _ _ => true
  | .cmpv _ _ _ => true
  | .chain _ _ _ _ _ => true
  | .and a b => isFreshF fr a && isFreshF fr b
  | .or a b => isFreshF fr a && isFreshF fr b
  | .not _ => true
  | .ite _ a b => isFreshF fr a && isFreshF fr b
  | .call f _ => fr f
  | .p1 _ _ => true
  | .p2 _ _ _ => true
  | .isi _ _ => true
  | .slc _ _ _ => true
  | .slcv _ _ _ => true
  | .rev _ => true
  | .lc _ _ _ _ _ => true
  | .dnew => true
  | .lrg _ _ => true
  | .idx _ _ => true
  | _ => false

abbrev isFresh (C : Calls) (e : E) : Bool := isFreshF C.fr e

mutual
def evalE (C : Calls) : E → Env → R D
  | .cst d, s => .ok d s
  | .var i, s => readR s i
  | .mov i, s => moveR s i
  | .glob _ d, s => .ok d s
  | .sh a, s => evalE C a s
  | .tup es, s => (evalEs C es s).bind fun ds s => .ok (.tup ds) s
  | .lst es, s => (evalEs C es s).bind fun ds s => .ok (.lst ds) s
  | .bin o a b, s => (evalE C a s).bind fun x s => (evalV C b s).bind fun y s => optR (bin o x y) s
  | .binv o i b, s => (slotR s i).bind fun _ s => (evalE C b s).bind fun y s => (slotR s i).bind fun x s => optR (bin o x y) s
  | .neg a, s => (evalE C a s).bind fun x s => match x with
    | .int i => .ok (.int (-i)) s
    | _ => .stuck
  | .cmp o a b, s => (evalE C a s).bind fun x s => (evalV C b s).bind fun y s => (optR (cmp o x y) s).bind fun k s => .ok (.bl k) s
  | .cmpv o i b, s => (slotR s i).bind fun _ s => (evalE C b s).bind fun y s => (slotR s i).bind fun x s => (optR (cmp o x y) s).bind fun k s => .ok (.bl k) s
  | .chain o p a b c, s => (evalE C a s).bind fun x s => (evalE C b s).bind fun y s => (optR (cmp o x y) s).bind fun k s =>
      if k then (evalE C c s).bind fun z s => (optR (cmp p y z) s).bind fun k s => .ok (.bl k) s else .ok (.bl false) s
  | .and a b, s => (evalE C a s).bind fun x s => (optR (truth x) s).bind fun k s => if k then evalE C b s else .ok x s
  | .or a b, s => (evalE C a s).bind fun x s => (optR (truth x) s).bind fun k s => if k then .ok x s else evalE C b s
  | .not a, s => (evalV C a s).bind fun x s => (optR (truth x) s).bind fun k s => .ok (.bl (!k)) s
  | .ite t a b, s => (evalT C t s).bind fun k s => if k then evalE C a s else evalE C b s
  | .call f as, s => (evalA C as s).bind fun ds s => (optR (fillA as ds s) s).bind fun ds s => match C.fn f ds with
    | .ok d outs => .ok d (putA as outs s)
    | .exc x outs => .exc x (putA as outs s)
    | .stuck => .stuck
  | .p1 p a, s => (evalV C a s).bind fun x s => optR (p1 p x) s
  | .p2 p a b, s => (evalE C a s).bind fun x s => (evalE C b s).bind fun y s => optR (p2 p x y) s
  | .isi a ts, s => (evalV C a s).bind fun x s => (optR (isTys x ts) s).bind fun k s => .ok (.bl k) s
  | .sub a i, s => (evalE C a s).bind fun x s => (evalE C i s).bind fun y s => optR (item x y) s
  | .subv v i, s => (slotR s v).bind fun _ s => (evalE C i s).bind fun y s => (slotR s v).bind fun x s => optR (item x y) s
  | .slc a lo hi, s => (evalE C a s).bind fun x s => (evalO C lo s).bind fun l s => (evalO C hi s).bind fun h s => optR (slice x l h) s
  | .slcv v lo hi, s => (slotR s v).bind fun _ s => (evalO C lo s).bind fun l s => (evalO C hi s).bind fun h s => (slotR s v).bind fun x s => optR (slice x l h) s
  | .rev a, s => (evalV C a s).bind fun x s => match x with
    | .lst ds => .ok (.lst ds.reverse) s
    | .tup ds => .ok (.tup ds.reverse) s
    | _ => .stuck
  | .lc elt tg it cond own, s => (evalI C it s).bind fun ds s1 =>
      (compL own (fun d s => match bindT false tg d s with
        | none => .stuck
        | some s => (evalC C cond s).bind fun k s => if k then (evalE C elt s).bind fun x s => .ok (some x) s else .ok none s) ds (wipeE s1 own)).bind fun r s2 =>
        if r.length ≤ sizeLine then .ok (.lst r) (backE s1 s2 own) else .stuck
  | .pop v, s => (ownR s v).bind fun ds s => match ds.getLast? with
    | some d => .ok d (s.set v (.ow (.lst ds.dropLast)))
    | none => .stuck
  | .popAt v i, s => (ownR s v).bind fun _ s => (evalE C i s).bind fun y s => (ownR s v).bind fun ds s => match y with
    | .int k => if decide (-(2 ^ 62) ≤ k) && decide (k < 2 ^ 62) then (match ixN ds.length k with
      | some k => match ds[k]? with
        | some d => .ok d (s.set v (.ow (.lst (ds.eraseIdx k))))
        | none => .stuck
      | none => .stuck) else .stuck
    | _ => .stuck
  | .dnew, s => .ok (.dic [] []) s
  | .lrg t it, s => (evalI C it s).bind fun ds s => if ds.length ≤ sizeLine then .ok (if t then .tup ds else .lst ds) s else .stuck
  | .idx a b, s => (evalE C a s).bind fun x s => match x with
    | .lst ds => (evalE C b s).bind fun y s => optR (idxD ds y) s
    | _ => .stuck
def evalV (C : Calls) : O → Env → R D
  | .vw i, s => slotR s i
  | .e e, s => evalE C e s
def evalT (C : Calls) : T → Env → R Bool
  | .and a b, s => (evalT C a s).bind fun k s => if k then evalT C b s else .ok false s
  | .or a b, s => (evalT C a s).bind fun k s => if k then .ok true s else evalT C b s
  | .not a, s => (evalT C a s).bind fun k s => .ok (!k) s
  | .ite t a b, s => (evalT C t s).bind fun k s => if k then evalT C a s else evalT C b s
  | .o a, s => (evalV C a s).bind fun x s => optR (truth x) s
  | .cmp o a b, s => (evalE C a s).bind fun x s => (evalV C b s).bind fun y s => optR (cmp o x y) s
  | .cmpv o i b, s => (slotR s i).bind fun _ s => (evalE C b s).bind fun y s => (slotR s i).bind fun x s => optR (cmp o x y) s
  | .chain o p a b c, s => (evalE C a s).bind fun x s => (evalE C b s).bind fun y s => (optR (cmp o x y) s).bind fun k s =>
      if k then (evalE C c s).bind fun z s => optR (cmp p y z) s else .ok false s
def evalEs (C : Calls) : List E → Env → R (List D)
  | [], s => .ok [] s
  | e :: es, s => (evalE C e s).bind fun d s => (evalEs C es s).bind fun ds s => .ok (d :: ds) s
def evalA1 (C : Calls) : Arg → Env → R (List D)
  | .io i, s => (slotR s i).bind fun _ s => .ok [] s
  | .e e, s => (evalE C e s).bind fun d s => .ok [d] s
def evalA (C : Calls) : List Arg → Env → R (List D)
  | [], s => .ok [] s
  | a :: as, s => (evalA1 C a s).bind fun d s => (evalA C as s).bind fun ds s => .ok (d ++ ds) s
def evalO (C : Calls) : Option E → Env → R (Option Int)
  | none, s => .ok none s
  | some e, s => (evalE C e s).bind fun d s => match d with
    | .int i => .ok (some i) s
    | _ => .stuck
def evalC (C : Calls) : Option T → Env → R Bool
  | none, s => .ok true s
  | some e, s => evalT C e s
def evalI (C : Calls) : It → Env → R (List D)
  | .seq e, s => (evalE C e s).bind fun d s => optR (seqOf d) s
  | .rng1 a, s => (evalE C a s).bind fun x s => match x with
    | .int i => if decide (-(2 ^ 62) ≤ i) && decide (i < 2 ^ 62) then .ok (rangeD 0 i.toNat) s else .stuck
    | _ => .stuck
  | .rng2 a b, s => (evalE C a s).bind fun x s => (evalE C b s).bind fun y s => match x, y with
    | .int i, .int j => if decide (-(2 ^ 62) ≤ i) && decide (i < 2 ^ 62) && decide (-(2 ^ 62) ≤ j) && decide (j < 2 ^ 62) then .ok (rangeD i (j - i).toNat) s else .stuck
    | _, _ => .stuck
  | .rng3 _ _ _, _ => .stuck
  | .zip a b, s => (evalE C a s).bind fun x s => (evalE C b s).bind fun y s => match x, y with
    | .lst xs, .lst ys => .ok (List.zipWith (fun x y => .tup [x, y]) xs ys) s
    | .tup xs, .tup ys => .ok (List.zipWith (fun x y => .tup [x, y]) xs ys) s
    | _, _ => .stuck
  | .enum a, s => (evalE C a s).bind fun x s => match x with
    | .lst xs => .ok (enumD 0 xs) s
    | .tup xs => .ok (enumD 0 xs) s
    | _ => .stuck
end
/-- several slots get values (the last first) -/
def putP (C : Calls) : List Nat → List E → List D → Env → Env
  | i :: is, e :: es, d :: ds, s => (putP C is es ds s).set i (mkSl (isFresh C e) d)
  | _, _, _, s => s

mutual
def execS (C : Calls) : St → Env → S
  | .asg tg e, s => (evalE C e s).thn fun d s => optS (bindT (isFresh C e) tg d s) .nx
  | .par is es, s => (evalEs C es s).thn fun ds s => .nx (putP C is es ds s)
  | .aug i o e, s => (slotR s i).thn fun x s => (evalE C e s).thn fun y s => optS (iop o x y) fun z => .nx (s.set i (.sh z))
  | .setI v i e, s => (evalE C e s).thn fun d s => (ownC s v).thn fun _ s => (evalE C i s).thn fun k s => (ownC s v).thn fun c s => optS (setD c k d) fun c => .nx (s.set v (.ow c))
  | .augI v i o e, s => (ownR s v).thn fun _ s => (evalE C i s).thn fun k s => (ownR s v).thn fun ds s => match k with
    | .int k => match ixN ds.length k with
      | some j => match ds[j]? with
        | some a => (evalE C e s).thn fun b s => optS (iop o a b) fun z => (ownR s v).thn fun ds s => match ixN ds.length k with
          | some j => .nx (s.set v (.ow (.lst (ds.set j z))))
          | none => .stuck
        | none => .stuck
      | none => .stuck
    | _ => .stuck
  | .app v e, s => (ownR s v).thn fun _ s => (evalE C e s).thn fun d s => (ownR s v).thn fun ds s => if ds.length < sizeLine then .nx (s.set v (.ow (.lst (ds ++ [d])))) else .stuck
  | .ext v e, s => (ownR s v).thn fun _ s => (evalE C e s).thn fun d s => (ownR s v).thn fun ds s => match d with
    | .lst es => if ds.length + es.length ≤ sizeLine then .nx (s.set v (.ow (.lst (ds ++ es)))) else .stuck
    | _ => .stuck
  | .expr e, s => (evalE C e s).thn fun _ s => .nx s
  | .ret e, s => (evalE C e s).thn fun d s => .ret d s
  | .retN, s => .ret .non s
  | .pass, s => .nx s
  | .brk, s => .bk s
  | .cnt, s => .ct s
  | .ifS t a b, s => (evalT C t s).thn fun k s => if k then execSs C a s else execSs C b s
  | .forS tg it body, s => (evalI C it s).thn fun ds s => forL (fun d s => optS (bindT false tg d s) fun s => execSs C body s) ds s
  | .whl t body, s => whileL (fun s => evalT C t s) (fun s => execSs C body s) C.fuel s
  | .raise c, s => .exc (.ins c []) s
def execSs (C : Calls) : List St → Env → S
  | [], s => .nx s
  | st :: r, s => match execS C st s with
    | .nx s1 => execSs C r s1
    | x => x
end

structure Fn where
  ps : Nat
  n : Nat
  io : List Nat
  fr : Bool
  body : List St
abbrev Tab := List Fn
def outs (io : List Nat) (s : Env) : Option (List D) := mapM (fun (i : Nat) => match s[i]? with
  | some (.ow d) => if isC d then some d else none
  | _ => none) io
def finish (f : Fn) : S → CR
  | .nx s => match outs f.io s with
    | some o => .ok .non o
    | none => .stuck
  | .ret d s => match outs f.io s with
    | some o => .ok d o
    | none => .stuck
  | .exc x s => match outs f.io s with
    | some o => .exc x o
    | none => .stuck
  | _ => .stuck
def enterE (io : List Nat) : Nat → List D → Env
  | _, [] => []
  | i, d :: ds => (if io.contains i then .ow d else .sh d) :: enterE io (i + 1) ds
def frOf (T : Tab) (f : Nat) : Bool := match T[f]? with
  | some fd => fd.fr
  | none => false
def run (T : Tab) (w : Nat) : Nat → Nat → List D → CR
  | 0, _, _ => .stuck
  | k + 1, f, ds => match T[f]? with
    | none => .stuck
    | some fd => if ds.length = fd.ps then finish fd (execSs ⟨run T w k, frOf T, w⟩ fd.body (enterE fd.io 0 ds ++ List.replicate (fd.n - fd.ps) .no)) else .stuck
end Rf

/-! Rf, part B: what a tree stands for in the abstract heap; states; what an expression's end asks. -/
namespace Rf
open PySem PySem.Spec PyProof.Rows L2

structure Sit where
  K : PySem.W.Frag
  cls : Nat → Option Value
  G : Addr → Prop
  io : List (Nat × V)
  fr : Bool
def Sit.F (S : Sit) (O : Addr → Prop) : Addr → Prop := fun a => S.G a ∨ O a

/-- numbers and texts as keys -/
def kOf : D → Option Key
  | .int i => some (.inl i)
  | .str s => some (.inr s)
  | _ => none
def kTOf : D → Option (List Key)
  | .tup ds => mapM kOf ds
  | _ => none
/-- the object of a dict whose keys are ks, whose values are vs; the empty one is always of the first kind -/
def DcO (o : HO) (ks : List D) (vs : List V) : Prop :=
  ks.length = vs.length ∧ ((∃ l, mapM kOf ks = some l ∧ o = .dK (l.zip vs)) ∨ (ks ≠ [] ∧ ∃ l, mapM kTOf ks = some l ∧ o = .dT (l.zip vs)))
/-- the script -/
def ScF (K : PySem.W.Frag) (H : Hp) (F : Addr → Prop) (a : Addr) (xs : List V) : Prop :=
  (Rd H a (.lst xs) ∧ ¬ F a) ∨ ∃ (o : Obj) (its : Array Value) (n : Nat), K.lookup a = some o ∧ o.cls = .type "list" ∧ o.dict = none ∧ o.data = .seq its n ∧ its.size ≤ sizeLine ∧ Vals xs its.toList
/-- a list that nobody will change | a tuple -/
def LsF (H : Hp) (F : Addr → Prop) (a : Addr) (xs : List V) : Prop := H a = some (.lst xs) ∧ ¬ F a
def TpF (K : PySem.W.Frag) (H : Hp) (F : Addr → Prop) (a : Addr) (xs : List V) : Prop := H a = some (.tup xs) ∧ ¬ F a

mutual
/-- the value v is the tree d; none of its objects is at a place of F -/
def Rep (K : PySem.W.Frag) (H : Hp) (F : Addr → Prop) : D → V → Prop
  | .non, v => v = .non
  | .bl b, v => v = .bl b
  | .int i, v => v = .int i
  | .str s, v => v = .str s
  | .tup ds, v => ∃ a vs, v = .ref a ∧ TpF K H F a vs ∧ Reps K H F ds vs
  | .lst ds, v => ∃ a vs, v = .ref a ∧ LsF H F a vs ∧ Reps K H F ds vs
  | .dic ks ds, v => ∃ a vs o, v = .ref a ∧ (H a = some o ∧ ¬ F a ∧ DcO o ks vs) ∧ Reps K H F ds vs
  | .ins _ _, _ => False
  | .fn _, _ => False
  | .scr ns, v => ∃ a, v = .ref a ∧ ScF K H F a (ns.map V.int)
def Reps (K : PySem.W.Frag) (H : Hp) (F : Addr → Prop) : List D → List V → Prop
  | [], vs => vs = []
  | d :: ds, vs => ∃ v r, vs = v :: r ∧ Rep K H F d v ∧ Reps K H F ds r
end

/-- what was tracked stands, but at O; what is new in O was not tracked -/
structure Ext (H : Hp) (O : Addr → Prop) (H' : Hp) (O' : Addr → Prop) : Prop where
  keep : ∀ a o, H a = some o → ¬ O a → H' a = some o
  new : ∀ a, O' a → O a ∨ H a = none
theorem Ext.refl (H : Hp) (O : Addr → Prop) : Ext H O H O := ⟨fun _ _ e _ => e, fun _ h => .inl h⟩
theorem Ext.trans {H H1 H2 : Hp} {O O1 O2 : Addr → Prop} (a : Ext H O H1 O1) (b : Ext H1 O1 H2 O2) : Ext H O H2 O2 := by
  refine ⟨fun x o e n => b.keep x o (a.keep x o e n) fun h => ?_, fun x h => ?_⟩
  · rcases a.new x h with h | h
    · exact n h
    · rw [e] at h; cases h
  · rcases b.new x h with h | h
    · exact a.new x h
    · cases e : H x with
      | none => exact .inr rfl
      | some o =>
        by_cases n : O x
        · exact .inl n
        · rw [a.keep x o e n] at h; cases h
theorem Ext.same {H H' : Hp} {O : Addr → Prop} (h : Same H H') : Ext H O H' O := ⟨fun a o e _ => h a o e, fun _ h => .inl h⟩
theorem Ext.sub {H : Hp} {O O' : Addr → Prop} (h : ∀ a, O' a → O a) : Ext H O H O' := ⟨fun _ _ e _ => e, fun a x => .inl (h a x)⟩

section
variable {K : PySem.W.Frag} {H H' : Hp} {F F' : Addr → Prop}
/-- what lies outside F stands -/
def Mono (H : Hp) (F : Addr → Prop) (H' : Hp) (F' : Addr → Prop) : Prop := ∀ a o, H a = some o → ¬ F a → H' a = some o ∧ ¬ F' a
theorem LsF.mono {a : Addr} {xs : List V} (m : Mono H F H' F') (h : LsF H F a xs) : LsF H' F' a xs := m _ _ h.1 h.2
theorem TpF.mono {a : Addr} {xs : List V} (m : Mono H F H' F') (h : TpF K H F a xs) : TpF K H' F' a xs := m _ _ h.1 h.2
theorem ScF.mono {a : Addr} {xs : List V} (m : Mono H F H' F') (h : ScF K H F a xs) : ScF K H' F' a xs := by
  rcases h with ⟨r | ⟨o, r⟩, n⟩ | h
  · exact .inl ⟨.inl (m _ _ r n).1, (m _ _ r n).2⟩
  · exact .inl ⟨.inr ⟨o, (m _ _ r n).1⟩, (m _ _ r n).2⟩
  · exact .inr h
theorem ScF.sq {a : Addr} {xs : List V} (h : ScF K H F a xs) : SqL K H a xs := by
  rcases h with h | h
  · exact .inl h.1
  · exact .inr h
theorem LsF.sq {a : Addr} {xs : List V} (h : LsF H F a xs) : SqL K H a xs := SqL.of h.1
theorem TpF.sq {a : Addr} {xs : List V} (h : TpF K H F a xs) : SqT K H a xs := SqT.of h.1
mutual
theorem Rep.mono (m : Mono H F H' F') : ∀ {d : D} {v : V}, Rep K H F d v → Rep K H' F' d v
  | .non, _, h => h
  | .bl _, _, h => h
  | .int _, _, h => h
  | .str _, _, h => h
  | .tup ds, _, ⟨a, vs, e, t, r⟩ => ⟨a, vs, e, t.mono m, Reps.mono m (ds := ds) r⟩
  | .lst ds, _, ⟨a, vs, e, t, r⟩ => ⟨a, vs, e, t.mono m, Reps.mono m (ds := ds) r⟩
  | .dic ks ds, _, ⟨a, vs, o, e, ⟨t, n, c⟩, r⟩ => ⟨a, vs, o, e, ⟨(m _ _ t n).1, (m _ _ t n).2, c⟩, Reps.mono m (ds := ds) r⟩
  | .ins _ _, _, h => h
  | .fn _, _, h => h
  | .scr _, _, ⟨a, e, h⟩ => ⟨a, e, h.mono m⟩
theorem Reps.mono (m : Mono H F H' F') : ∀ {ds : List D} {vs : List V}, Reps K H F ds vs → Reps K H' F' ds vs
  | [], _, h => h
  | d :: ds, _, ⟨v, r, e, h, t⟩ => ⟨v, r, e, Rep.mono m (d := d) h, Reps.mono m (ds := ds) t⟩
end
theorem Reps.length : ∀ {ds : List D} {vs : List V}, Reps K H F ds vs → ds.length = vs.length
  | [], _, h => by rw [show _ = ([] : List V) from h] <;> rfl
  | d :: ds, _, ⟨v, r, e, h, t⟩ => by rw [e, List.length_cons, List.length_cons, t.length]
theorem Reps.get : ∀ {ds : List D} {vs : List V} {i : Nat} {d : D}, Reps K H F ds vs → ds[i]? = some d → ∃ v, vs[i]? = some v ∧ Rep K H F d v
  | [], _, _, _, _, e => by simp at e
  | x :: ds, _, 0, d, ⟨v, r, e, h, t⟩, q => by
    simp at q; subst q
    exact ⟨v, by rw [e]; rfl, h⟩
  | x :: ds, _, i + 1, d, ⟨v, r, e, h, t⟩, q => by
    obtain ⟨v', e', h'⟩ := t.get (i := i) (d := d) (by simpa using q)
    exact ⟨v', by rw [e]; simpa using e', h'⟩
theorem Reps.get' : ∀ {ds : List D} {vs : List V} {i : Nat} {v : V}, Reps K H F ds vs → vs[i]? = some v → ∃ d, ds[i]? = some d ∧ Rep K H F d v := fun {ds vs i v} r e => by
  have hl := r.length
  have hi : i < ds.length := by rw [hl]; exact (List.getElem?_eq_some_iff.mp e).1
  obtain ⟨v', e', h'⟩ := r.get (i := i) (d := ds[i]) (by simp [hi])
  rw [e] at e'; cases e'
  exact ⟨_, by simp [hi], h'⟩
theorem Reps.append : ∀ {ds es : List D} {vs us : List V}, Reps K H F ds vs → Reps K H F es us → Reps K H F (ds ++ es) (vs ++ us)
  | [], _, _, _, h, k => by rw [show _ = ([] : List V) from h]; exact k
  | d :: ds, es, _, us, ⟨v, r, e, h, t⟩, k => ⟨v, r ++ us, by rw [e]; rfl, h, t.append k⟩
theorem Reps.one {d : D} {v : V} (h : Rep K H F d v) : Reps K H F [d] [v] := ⟨v, [], rfl, h, rfl⟩
theorem Reps.cons {d : D} {v : V} {ds : List D} {vs : List V} (h : Rep K H F d v) (t : Reps K H F ds vs) : Reps K H F (d :: ds) (v :: vs) := ⟨v, vs, rfl, h, t⟩
theorem Reps.nil : Reps K H F [] [] := rfl
theorem Reps.set : ∀ {ds : List D} {vs : List V} {d : D} {v : V} (i : Nat), Reps K H F ds vs → Rep K H F d v → Reps K H F (ds.set i d) (vs.set i v)
  | [], _, _, _, _, h, _ => by rw [show _ = ([] : List V) from h]; exact rfl
  | x :: ds, _, d, v, 0, ⟨v0, r, e, h, t⟩, k => by rw [e]; exact ⟨v, r, rfl, k, t⟩
  | x :: ds, _, d, v, i + 1, ⟨v0, r, e, h, t⟩, k => by rw [e]; exact ⟨v0, r.set i v, rfl, h, t.set i k⟩
theorem Reps.take : ∀ {ds : List D} {vs : List V} (n : Nat), Reps K H F ds vs → Reps K H F (ds.take n) (vs.take n)
  | _, _, 0, _ => by simp only [List.take_zero]; exact rfl
  | [], _, n + 1, h => by rw [show _ = ([] : List V) from h]; exact rfl
  | d :: ds, _, n + 1, ⟨v, r, e, h, t⟩ => by rw [e]; exact ⟨v, r.take n, rfl, h, t.take n⟩
theorem Reps.drop : ∀ {ds : List D} {vs : List V} (n : Nat), Reps K H F ds vs → Reps K H F (ds.drop n) (vs.drop n)
  | _, _, 0, h => h
  | [], _, n + 1, h => by rw [show _ = ([] : List V) from h]; exact rfl
  | d :: ds, _, n + 1, ⟨v, r, e, h, t⟩ => by rw [e]; exact t.drop n
theorem Reps.reverse {ds : List D} {vs : List V} (h : Reps K H F ds vs) : Reps K H F ds.reverse vs.reverse := by
  induction ds generalizing vs with
  | nil => rw [show _ = ([] : List V) from h]; exact rfl
  | cons d ds ih =>
    obtain ⟨v, r, e, h, t⟩ := h
    rw [e, List.reverse_cons, List.reverse_cons]
    exact (ih t).append (.one h)
theorem Reps.eraseIdx : ∀ {ds : List D} {vs : List V} (i : Nat), Reps K H F ds vs → Reps K H F (ds.eraseIdx i) (vs.eraseIdx i)
  | [], _, _, h => by rw [show _ = ([] : List V) from h]; exact rfl
  | d :: ds, _, 0, ⟨v, r, e, h, t⟩ => by rw [e]; exact t
  | d :: ds, _, i + 1, ⟨v, r, e, h, t⟩ => by rw [e]; exact ⟨v, r.eraseIdx i, rfl, h, t.eraseIdx i⟩
end

theorem Ext.mono {S : Sit} {H H' : Hp} {O O' : Addr → Prop} (x : Ext H O H' O') : Mono H (S.F O) H' (S.F O') := fun a o e n => by
  refine ⟨x.keep a o e fun h => n (.inr h), fun h => ?_⟩
  rcases h with h | h
  · exact n (.inl h)
  · rcases x.new a h with h | h
    · exact n (.inr h)
    · rw [e] at h; cases h
theorem Mono.sub {H : Hp} {F F' : Addr → Prop} (h : ∀ a, F' a → F a) : Mono H F H F' := fun a o e n => ⟨e, fun q => n (h a q)⟩
theorem Mono.same {H H' : Hp} {F : Addr → Prop} (h : Same H H') : Mono H F H' F := fun a o e n => ⟨h a o e, n⟩

/-- the value of an owned slot, or of a fresh expression: its container stands in O -/
def Top (S : Sit) (H : Hp) (O : Addr → Prop) : D → V → Prop
  | .lst ds, v => ∃ a vs, v = .ref a ∧ O a ∧ ¬ S.G a ∧ H a = some (.lst vs) ∧ Reps S.K H (S.F O) ds vs
  | .dic ks ds, v => ∃ a vs, v = .ref a ∧ O a ∧ ¬ S.G a ∧ (∃ o, H a = some o ∧ DcO o ks vs) ∧ Reps S.K H (S.F O) ds vs
  | d, v => Rep S.K H (S.F O) d v
/-- the items of a container -/
def kids : D → List D
  | .lst ds => ds
  | .dic _ ds => ds
  | _ => []
/-- the object of a container whose items are vs -/
def CnO : D → HO → List V → Prop
  | .lst _, o, vs => o = .lst vs
  | .dic ks _, o, vs => DcO o ks vs
  | _, _, _ => False
def CnAt (H : Hp) (d : D) (a : Addr) (vs : List V) : Prop := ∃ o, H a = some o ∧ CnO d o vs
abbrev Pd := List (D × V)
/-- the owned containers: a slot's, a pending one -/
def rtS (env : Env) (σ : L2.St) (i : Nat) : Option V := match env[i]?, σ[i]? with
  | some (Sl.ow d), some (some v) => if isC d then some v else none
  | _, _ => none
def rtP (P : Pd) (j : Nat) : Option V := match P[j]? with
  | some (d, v) => if isC d then some v else none
  | none => none
def rt (env : Env) (σ : L2.St) (P : Pd) : Nat ⊕ Nat → Option V
  | .inl i => rtS env σ i
  | .inr j => rtP P j

structure SR (S : Sit) (P : Pd) (H : Hp) (O : Addr → Prop) (env : Env) (σ : L2.St) : Prop where
  len : env.length = σ.length
  own : ∀ a, S.G a ∨ O a → H a ≠ none
  dis : ∀ a, S.G a → ¬ O a
  sh : ∀ (i : Nat) (d : D), env[i]? = some (Sl.sh d) → ∃ v, σ[i]? = some (some v) ∧ Rep S.K H (S.F O) d v
  ow : ∀ (i : Nat) (d : D), env[i]? = some (Sl.ow d) → ∃ v, σ[i]? = some (some v) ∧ Top S H O d v
  pd : ∀ p ∈ P, Top S H O p.1 p.2
  ne : ∀ x y v, rt env σ P x = some v → rt env σ P y = some v → x = y
  io : ∀ p ∈ S.io, σ[p.1]? = some (some p.2)

section
variable {S : Sit} {P : Pd} {H H' : Hp} {O O' : Addr → Prop} {env : Env} {σ : L2.St}
theorem top_notC {d : D} {v : V} (h : isC d = false) : Top S H O d v = Rep S.K H (S.F O) d v := by
  cases d <;> first | rfl | (simp [isC] at h)
theorem CnAt.mem {d : D} {a : Addr} {vs : List V} (c : CnAt H d a vs) : H a ≠ none := let ⟨o, h, _⟩ := c; by rw [h]; simp
theorem CnAt.keep {d : D} {a : Addr} {vs : List V} (c : CnAt H d a vs) (k : ∀ o, H a = some o → H' a = some o) : CnAt H' d a vs := let ⟨o, h, q⟩ := c; ⟨o, k o h, q⟩
theorem top_C {d : D} {v : V} (c : isC d = true) : Top S H O d v ↔ ∃ a vs, v = .ref a ∧ O a ∧ ¬ S.G a ∧ CnAt H d a vs ∧ Reps S.K H (S.F O) (kids d) vs := by
  cases d with
  | lst ds =>
    constructor
    · rintro ⟨a, vs, e, o, g, x, r⟩; exact ⟨a, vs, e, o, g, ⟨_, x, rfl⟩, r⟩
    · rintro ⟨a, vs, e, o, g, ⟨ob, x, q⟩, r⟩
      exact ⟨a, vs, e, o, g, by rw [x, show ob = .lst vs from q], r⟩
  | dic ks ds => exact Iff.rfl
  | _ => simp [isC] at c
/-- a container that nobody will change -/
theorem rep_C {K : PySem.W.Frag} {F : Addr → Prop} {d : D} {v : V} (c : isC d = true) : Rep K H F d v ↔ ∃ a vs, v = .ref a ∧ CnAt H d a vs ∧ ¬ F a ∧ Reps K H F (kids d) vs := by
  cases d with
  | lst ds =>
    constructor
    · rintro ⟨a, vs, e, x, r⟩; exact ⟨a, vs, e, ⟨_, x.1, rfl⟩, x.2, r⟩
    · rintro ⟨a, vs, e, ⟨ob, x, q⟩, n, r⟩
      exact ⟨a, vs, e, ⟨by rw [x, show ob = .lst vs from q], n⟩, r⟩
  | dic ks ds =>
    constructor
    · rintro ⟨a, vs, o, e, ⟨x, n, q⟩, r⟩; exact ⟨a, vs, e, ⟨o, x, q⟩, n, r⟩
    · rintro ⟨a, vs, e, ⟨o, x, q⟩, n, r⟩; exact ⟨a, vs, o, e, ⟨x, n, q⟩, r⟩
  | _ => simp [isC] at c
theorem Top.same {d : D} {v : V} (h : Same H H') (t : Top S H O d v) : Top S H' O d v := by
  cases c : isC d with
  | true =>
    obtain ⟨a, vs, e, o, g, x, r⟩ := (top_C c).mp t
    exact (top_C c).mpr ⟨a, vs, e, o, g, x.keep (h a), r.mono (Mono.same h)⟩
  | false => rw [top_notC c] at t ⊢; exact Rep.mono (Mono.same h) t
/-- the heap grows -/
theorem SR.same (h : Same H H') (s : SR S P H O env σ) : SR S P H' O env σ := by
  refine ⟨s.len, fun a f => ?_, s.dis, fun i d e => ?_, fun i d e => ?_, fun p hp => (s.pd p hp).same h, s.ne, s.io⟩
  · have := s.own a f
    cases q : H a with
    | none => exact absurd q this
    | some o => rw [h a o q]; simp
  · obtain ⟨v, e1, t⟩ := s.sh i d e
    exact ⟨v, e1, t.mono (Mono.same h)⟩
  · obtain ⟨v, e1, t⟩ := s.ow i d e
    exact ⟨v, e1, t.same h⟩
theorem SR.new {p : Addr} (s : SR S P H O env σ) (h : H p = none) : ¬ S.F O p := fun f => s.own p f h
theorem same_upd {p : Addr} {o : HO} (h : H p = none) : Same H (upd H p o) := fun a u e => by rw [upd_ne (ne_of_none e h)]; exact e
theorem rt_inl {i : Nat} {v : V} : rt env σ P (.inl i) = some v ↔ ∃ d, env[i]? = some (Sl.ow d) ∧ isC d = true ∧ σ[i]? = some (some v) := by
  show rtS env σ i = some v ↔ _
  unfold rtS
  constructor
  · intro h
    split at h
    · rename_i d w e1 e2
      split at h
      · rename_i c; cases h; exact ⟨d, e1, c, e2⟩
      · cases h
    · cases h
  · rintro ⟨d, e1, c, e2⟩
    rw [e1, e2]; simp [c]
theorem rt_inr {j : Nat} {v : V} : rt env σ P (.inr j) = some v ↔ ∃ d, P[j]? = some (d, v) ∧ isC d = true := by
  show rtP P j = some v ↔ _
  unfold rtP
  constructor
  · intro h
    split at h
    · rename_i d w e1
      split at h
      · rename_i c; cases h; exact ⟨d, e1, c⟩
      · cases h
    · cases h
  · rintro ⟨d, e1, c⟩
    simp only [e1, c, if_true]
/-- what an owned container is -/
theorem SR.root (s : SR S P H O env σ) {x : Nat ⊕ Nat} {v : V} (h : rt env σ P x = some v) : ∃ d a vs, v = .ref a ∧ O a ∧ ¬ S.G a ∧ CnAt H d a vs ∧ Reps S.K H (S.F O) (kids d) vs := by
  cases x with
  | inl i =>
    obtain ⟨d, e1, c, e2⟩ := rt_inl.mp h
    obtain ⟨w, e3, t⟩ := s.ow i _ e1
    rw [e2] at e3; cases e3
    exact ⟨d, (top_C c).mp t⟩
  | inr j =>
    obtain ⟨d, e1, c⟩ := rt_inr.mp h
    exact ⟨d, (top_C c).mp (s.pd _ (List.mem_of_getElem? e1))⟩
end

/-! ### what an expression's end asks -/
/-- the error x, an exception of the class cls whose own dict is at dd -/
def RepX (S : Sit) (x : D) (cls : Value) (dd : Option Addr) (H : Hp) : Prop := match x with
  | .ins c [] => S.cls c = some cls ∧ dd = none
  | _ => False
def PostG {α : Type} (S : Sit) (W : WX) (P : Pd) (H : Hp) (O : Addr → Prop) (σ : L2.St) (r : R α) (Q : α → Env → Hp → (Addr → Prop) → Prop) : Prop := match r with
  | .stuck => False
  | .ok d s => ∀ H' O', Ext H O H' O' → SR S P H' O' s σ → Q d s H' O'
  | .exc x s => ∀ cls dd H' O', Ext H O H' O' → SR S P H' O' s σ → RepX S x cls dd H' → W cls dd σ H'
/-- a value comes -/
abbrev Post (S : Sit) (W : WX) (P : Pd) (H : Hp) (O : Addr → Prop) (σ : L2.St) (r : R D) (Q : VK) : Prop :=
  PostG S W P H O σ r fun d _ H' O' => ∀ v, Rep S.K H' (S.F O') d v → Q v H'
/-- it is no owned container -/
def NewTop (env : Env) (σ : L2.St) (P : Pd) (d : D) (v : V) : Prop := isC d = true → ∀ x, rt env σ P x ≠ some v
/-- a fresh value comes -/
abbrev PostF (S : Sit) (W : WX) (P : Pd) (H : Hp) (O : Addr → Prop) (σ : L2.St) (r : R D) (Q : VK) : Prop :=
  PostG S W P H O σ r fun d s H' O' => ∀ v, Top S H' O' d v → NewTop s σ P d v → Q v H'
abbrev PostT (S : Sit) (W : WX) (P : Pd) (H : Hp) (O : Addr → Prop) (σ : L2.St) (r : R Bool) (Q : Bool → Hp → Prop) : Prop :=
  PostG S W P H O σ r fun b _ H' _ => Q b H'

section
variable {S : Sit} {W : WX} {P : Pd} {H H1 : Hp} {O O1 : Addr → Prop} {σ : L2.St} {α β : Type} {r : R α}
theorem PostG.later {Q : α → Env → Hp → (Addr → Prop) → Prop} (x : Ext H O H1 O1) (h : PostG S W P H O σ r Q) : PostG S W P H1 O1 σ r Q := by
  cases r with
  | stuck => exact h
  | ok d s => exact fun H' O' e => h H' O' (x.trans e)
  | exc y s => exact fun cls dd H' O' e => h cls dd H' O' (x.trans e)
theorem PostG.imp {Q Q' : α → Env → Hp → (Addr → Prop) → Prop} (h : PostG S W P H O σ r Q) (i : ∀ d s H' O', r = .ok d s → Ext H O H' O' → SR S P H' O' s σ → Q d s H' O' → Q' d s H' O') : PostG S W P H O σ r Q' := by
  cases r with
  | stuck => exact h
  | ok d s => exact fun H' O' e t => i d s H' O' rfl e t (h H' O' e t)
  | exc y s => exact h
theorem PostG.bind {f : α → Env → R β} {Q : β → Env → Hp → (Addr → Prop) → Prop} (h : PostG S W P H O σ (r.bind f) Q) :
    PostG S W P H O σ r fun d s H' O' => Ext H O H' O' ∧ SR S P H' O' s σ ∧ PostG S W P H' O' σ (f d s) Q := by
  cases r with
  | stuck => exact h
  | ok d s => exact fun H' O' e t => ⟨e, t, PostG.later e h⟩
  | exc y s => exact h
theorem PostG.opt {o : Option α} {s : Env} {Q : α → Env → Hp → (Addr → Prop) → Prop} (h : PostG S W P H O σ (optR o s) Q) : ∃ a, o = some a ∧ PostG S W P H O σ (.ok a s) Q := by
  cases o with
  | none => exact False.elim h
  | some a => exact ⟨a, rfl, h⟩
theorem PostG.optBind {o : Option α} {s : Env} {f : α → Env → R β} {Q : β → Env → Hp → (Addr → Prop) → Prop} (h : PostG S W P H O σ ((optR o s).bind f) Q) : ∃ a, o = some a ∧ PostG S W P H O σ (f a s) Q := by
  cases o with
  | none => exact False.elim h
  | some a => exact ⟨a, rfl, h⟩
end

def tD (S : Sit) (C : Calls) (W : WX) (e : E) : TE := fun σ H Q => ∃ P env O, SR S P H O env σ ∧ Post S W P H O σ (evalE C e env) Q
def tDf (S : Sit) (C : Calls) (W : WX) (e : E) : TE := fun σ H Q => ∃ P env O, SR S P H O env σ ∧ PostF S W P H O σ (evalE C e env) Q
def tT (S : Sit) (C : Calls) (W : WX) (e : T) : TT := fun σ H Q => ∃ P env O, SR S P H O env σ ∧ PostT S W P H O σ (evalT C e env) Q

theorem PE.imp {X : Cx} {e : Expr} {t t' : TE} (h : PE X e t) (i : ∀ σ H Q, t' σ H Q → t σ H Q) : PE X e t' := ⟨fun pins s σ H Q I q => h.run pins s σ H Q I (i σ H Q q)⟩
theorem PT.imp {X : Cx} {e : Expr} {t t' : TT} (h : PT X e t) (i : ∀ σ H Q, t' σ H Q → t σ H Q) : PT X e t' := ⟨fun pins s σ H Q I q => h.run pins s σ H Q I (i σ H Q q)⟩
theorem PA.imp {X : Cx} {e : List Expr} {t t' : TA} (h : PA X e t) (i : ∀ σ H Q, t' σ H Q → t σ H Q) : PA X e t' := ⟨fun pos pins s σ H Q I q => h.run pos pins s σ H Q I (i σ H Q q)⟩

/-- a container leaves the owned ones: it is no root of what is left -/
theorem SR.drop {S : Sit} {P P' : Pd} {H : Hp} {O : Addr → Prop} {env env' : Env} {σ : L2.St} {a : Addr} (s : SR S P H O env σ) (hl : env'.length = env.length)
    (hsh : ∀ (i : Nat) (d : D), env'[i]? = some (Sl.sh d) → env[i]? = some (Sl.sh d) ∨ ∃ v, σ[i]? = some (some v) ∧ Rep S.K H (S.F fun b => O b ∧ b ≠ a) d v)
    (how : ∀ (i : Nat) (d : D), env'[i]? = some (Sl.ow d) → env[i]? = some (Sl.ow d)) (hP : ∀ p ∈ P', p ∈ P)
    (hrt : ∀ x v, rt env' σ P' x = some v → ∃ y, rt env σ P y = some v) (hne : ∀ x y v, rt env' σ P' x = some v → rt env' σ P' y = some v → x = y)
    (n : ∀ x, rt env' σ P' x ≠ some (.ref a)) : SR S P' H (fun b => O b ∧ b ≠ a) env' σ := by
  have fsub : ∀ b, S.F (fun b => O b ∧ b ≠ a) b → S.F O b := fun b h => h.elim .inl fun h => .inr h.1
  refine ⟨hl.trans s.len, fun b h => s.own b (h.elim .inl fun h => .inr h.1), fun b h k => s.dis b h k.1, fun i di e => ?_, fun i di e => ?_, fun p hp => ?_, hne, s.io⟩
  · rcases hsh i di e with h | h
    · obtain ⟨w, e1, q⟩ := s.sh i di h
      exact ⟨w, e1, q.mono (Mono.sub fsub)⟩
    · exact h
  · obtain ⟨w, e1, q⟩ := s.ow i di (how i di e)
    refine ⟨w, e1, ?_⟩
    cases ci : isC di with
    | false => rw [top_notC ci] at q ⊢; exact q.mono (Mono.sub fsub)
    | true =>
      obtain ⟨b, us, rfl, ob, gb, xb, rb⟩ := (top_C ci).mp q
      refine (top_C ci).mpr ⟨b, us, rfl, ⟨ob, ?_⟩, gb, xb, rb.mono (Mono.sub fsub)⟩
      rintro rfl
      exact n (.inl i) (rt_inl.mpr ⟨_, e, ci, e1⟩)
  · have q := s.pd p (hP p hp)
    cases ci : isC p.1 with
    | false => rw [top_notC ci] at q ⊢; exact q.mono (Mono.sub fsub)
    | true =>
      obtain ⟨d, v⟩ := p
      obtain ⟨b, us, rfl, ob, gb, xb, rb⟩ := (top_C ci).mp q
      refine (top_C ci).mpr ⟨b, us, rfl, ⟨ob, ?_⟩, gb, xb, rb.mono (Mono.sub fsub)⟩
      rintro rfl
      obtain ⟨j, hj, ej⟩ := List.mem_iff_getElem.mp hp
      exact n (.inr j) (rt_inr.mpr ⟨_, by rw [List.getElem?_eq_getElem hj, ej], ci⟩)
/-- a fresh value given up: its container belongs to nobody from now on -/
theorem fresh_drop {S : Sit} {P : Pd} {H : Hp} {O : Addr → Prop} {env : Env} {σ : L2.St} {d : D} {v : V} (s : SR S P H O env σ) (t : Top S H O d v) (n : NewTop env σ P d v) :
    ∃ O', Ext H O H O' ∧ SR S P H O' env σ ∧ Rep S.K H (S.F O') d v := by
  cases hc : isC d with
  | false => exact ⟨O, Ext.refl _ _, s, by rw [top_notC hc] at t; exact t⟩
  | true =>
    obtain ⟨a, vs, rfl, o, g, x, r⟩ := (top_C hc).mp t
    have fsub : ∀ b, S.F (fun b => O b ∧ b ≠ a) b → S.F O b := fun b h => h.elim .inl fun h => .inr h.1
    refine ⟨fun b => O b ∧ b ≠ a, Ext.sub fun b h => h.1, s.drop rfl (fun _ _ h => .inl h) (fun _ _ h => h) (fun _ h => h) (fun x v h => ⟨x, h⟩) s.ne (n hc), (rep_C hc).mpr ⟨a, vs, rfl, x, fun h => ?_, r.mono (Mono.sub fsub)⟩⟩
    rcases h with h | h
    · exact g h
    · exact h.2 rfl
theorem post_fresh {S : Sit} {W : WX} {P : Pd} {H : Hp} {O : Addr → Prop} {σ : L2.St} {r : R D} {Q : VK} (h : Post S W P H O σ r Q) : PostF S W P H O σ r Q := by
  cases r with
  | stuck => exact h
  | ok d s =>
    intro H' O' x t v p n
    obtain ⟨O2, x2, t2, r2⟩ := fresh_drop t p n
    exact h H' O2 (x.trans x2) t2 v r2
  | exc y s => exact h
theorem PE.unfresh {X : Cx} {S : Sit} {C : Calls} {W : WX} {pe : Expr} {e : E} (h : PE X pe (tDf S C W e)) : PE X pe (tD S C W e) := PE.imp h fun σ H Q ⟨P, env, O, s, p⟩ => ⟨P, env, O, s, post_fresh p⟩

theorem sh_ne {d : D} : ∀ e, Sl.sh d ≠ Sl.ow e := fun _ q => nomatch q
theorem no_ne : ∀ e, Sl.no ≠ Sl.ow e := fun _ q => nomatch q
/-- a slot that is set to a shared value or to nothing, the state as it is -/
theorem rt_set {env : Env} {σ : L2.St} {P : Pd} {i : Nat} {sl : Sl} (hsl : ∀ d, sl ≠ .ow d) {x : Nat ⊕ Nat} {v : V} (h : rt (env.set i sl) σ P x = some v) : rt env σ P x = some v ∧ x ≠ .inl i := by
  cases x with
  | inl j =>
    obtain ⟨d, e1, c, e2⟩ := rt_inl.mp h
    by_cases hj : j = i
    · subst hj
      have hlt : j < env.length := by
        have := (List.getElem?_eq_some_iff.mp e1).1
        simpa using this
      rw [List.getElem?_set_self hlt] at e1
      exact absurd (Option.some.inj e1) (hsl d)
    · rw [List.getElem?_set_ne (Ne.symm hj)] at e1
      exact ⟨rt_inl.mpr ⟨d, e1, c, e2⟩, fun q => hj (by cases q; rfl)⟩
  | inr j => exact ⟨h, fun q => nomatch q⟩
/-- an owned slot's container is shared from now on, or not looked at -/
theorem SR.freeze {S : Sit} {P : Pd} {H : Hp} {O : Addr → Prop} {env : Env} {σ : L2.St} {i : Nat} {d : D} (s : SR S P H O env σ) (h : env[i]? = some (Sl.ow d)) :
    ∃ v O', σ[i]? = some (some v) ∧ Ext H O H O' ∧ SR S P H O' (env.set i (Sl.sh d)) σ ∧ Rep S.K H (S.F O') d v := by
  obtain ⟨v, e1, t⟩ := s.ow i d h
  have hlt : i < env.length := (List.getElem?_eq_some_iff.mp h).1
  cases hc : isC d with
  | false =>
    rw [top_notC hc] at t
    refine ⟨v, O, e1, Ext.refl _ _, ⟨by rw [List.length_set]; exact s.len, s.own, s.dis, fun j dj ej => ?_, fun j dj ej => ?_, s.pd, fun x y w h1 h2 => s.ne x y w (rt_set sh_ne h1).1 (rt_set sh_ne h2).1, s.io⟩, t⟩
    · by_cases hj : j = i
      · subst hj
        rw [List.getElem?_set_self hlt] at ej
        cases ej
        exact ⟨v, e1, t⟩
      · rw [List.getElem?_set_ne (Ne.symm hj)] at ej
        exact s.sh j dj ej
    · by_cases hj : j = i
      · subst hj
        rw [List.getElem?_set_self hlt] at ej
        cases ej
      · rw [List.getElem?_set_ne (Ne.symm hj)] at ej
        exact s.ow j dj ej
  | true =>
    obtain ⟨a, vs, rfl, o, g, x, r⟩ := (top_C hc).mp t
    have fsub : ∀ b, S.F (fun b => O b ∧ b ≠ a) b → S.F O b := fun b h => h.elim .inl fun h => .inr h.1
    have rp : Rep S.K H (S.F fun b => O b ∧ b ≠ a) d (.ref a) := (rep_C hc).mpr ⟨a, vs, rfl, x, fun h => h.elim (fun h => g h) fun h => h.2 rfl, r.mono (Mono.sub fsub)⟩
    refine ⟨.ref a, fun b => O b ∧ b ≠ a, e1, Ext.sub fun b h => h.1, s.drop (by rw [List.length_set]) (fun j dj ej => ?_) (fun j dj ej => ?_) (fun _ h => h) (fun x v h => ⟨x, (rt_set sh_ne h).1⟩)
      (fun x y w h1 h2 => s.ne x y w (rt_set sh_ne h1).1 (rt_set sh_ne h2).1) (fun x h1 => ?_), rp⟩
    · by_cases hj : j = i
      · subst hj
        rw [List.getElem?_set_self hlt] at ej
        cases ej
        exact .inr ⟨_, e1, rp⟩
      · rw [List.getElem?_set_ne (Ne.symm hj)] at ej
        exact .inl ej
    · by_cases hj : j = i
      · subst hj
        rw [List.getElem?_set_self hlt] at ej
        cases ej
      · rw [List.getElem?_set_ne (Ne.symm hj)] at ej
        exact ej
    · obtain ⟨q1, q2⟩ := rt_set sh_ne h1
      exact q2 (s.ne _ _ _ q1 (rt_inl.mpr ⟨_, h, hc, e1⟩))
end Rf

/-! Rf, part C: operators by trees. -/
namespace Rf
open PySem PySem.Spec PyProof.Rows L2

/-- the list's content, however its place is guarded -/
def RepV (K : PySem.W.Frag) (H : Hp) (F : Addr → Prop) : D → V → Prop
  | .lst ds, v => ∃ a vs, v = .ref a ∧ H a = some (.lst vs) ∧ Reps K H F ds vs
  | .dic ks ds, v => ∃ a vs, v = .ref a ∧ (∃ o, H a = some o ∧ DcO o ks vs) ∧ Reps K H F ds vs
  | d, v => Rep K H F d v
theorem Rep.view {K : PySem.W.Frag} {H : Hp} {F : Addr → Prop} {d : D} {v : V} (h : Rep K H F d v) : RepV K H F d v := by
  cases d with
  | lst ds =>
    obtain ⟨a, vs, e, l, r⟩ := h
    exact ⟨a, vs, e, l.1, r⟩
  | dic ks ds =>
    obtain ⟨a, vs, o, e, l, r⟩ := h
    exact ⟨a, vs, e, ⟨o, l.1, l.2.2⟩, r⟩
  | _ => exact h
theorem Top.view {S : Sit} {H : Hp} {O : Addr → Prop} {d : D} {v : V} (h : Top S H O d v) : RepV S.K H (S.F O) d v := by
  cases d with
  | lst ds =>
    obtain ⟨a, vs, e, o, g, x, r⟩ := h
    exact ⟨a, vs, e, x, r⟩
  | dic ks ds =>
    obtain ⟨a, vs, e, o, g, x, r⟩ := h
    exact ⟨a, vs, e, x, r⟩
  | _ => exact h

/-- what comes: a new list, a new dict | another value -/
def ResK (K : PySem.W.Frag) (H : Hp) (F : Addr → Prop) : D → VK → Prop
  | .lst ds, Q => ∀ p vs, H p = none → Reps K H F ds vs → Q (.ref p) (upd H p (.lst vs))
  | .dic ks ds, Q => ∀ p o vs, H p = none → DcO o ks vs → Reps K H F ds vs → Q (.ref p) (upd H p o)
  | d, Q => ∀ v H', Same H H' → Rep K H' F d v → Q v H'
/-- a new container -/
theorem res_new {S : Sit} {W : WX} {P : Pd} {H : Hp} {O : Addr → Prop} {env : Env} {σ : L2.St} {d : D} {Q : VK} (s : SR S P H O env σ) (hd : isC d = true) (h : PostF S W P H O σ (.ok d env) Q) {p : Addr} {o : HO} {vs : List V}
    (hp : H p = none) (ho : CnO d o vs) (r : Reps S.K H (S.F O) (kids d) vs) : Q (.ref p) (upd H p o) := by
  have sm : Same H (upd H p o) := same_upd hp
  have x : Ext H O (upd H p o) (fun a => O a ∨ a = p) := ⟨fun a o e _ => sm a o e, fun a h => h.elim .inl fun h => .inr (h ▸ hp)⟩
  have m := x.mono (S := S)
  have gp : ¬ S.G p := fun g => s.own p (.inl g) hp
  have tm : ∀ {d : D} {v : V}, Top S H O d v → Top S (upd H p o) (fun a => O a ∨ a = p) d v := fun {d v} t => by
    cases hc : isC d with
    | false => rw [top_notC hc] at t ⊢; exact t.mono m
    | true =>
      obtain ⟨b, us, e2, ob, gb, xb, rb⟩ := (top_C hc).mp t
      exact (top_C hc).mpr ⟨b, us, e2, .inl ob, gb, xb.keep (sm b), rb.mono m⟩
  refine h _ _ x ⟨s.len, fun a f => ?_, fun a g h => ?_, fun i d e => ?_, fun i d e => ?_, fun q hq => tm (s.pd q hq), s.ne, s.io⟩ _ ((top_C hd).mpr ⟨p, vs, rfl, .inr rfl, gp, ⟨o, upd_same, ho⟩, r.mono m⟩) fun _ y e => ?_
  · by_cases e : a = p
    · subst e; rw [upd_same]; simp
    · rw [upd_ne e]
      exact s.own a (by rcases f with f | f | f; exact .inl f; exact .inr f; exact absurd f e)
  · rcases h with h | h
    · exact s.dis a g h
    · exact gp (h ▸ g)
  · obtain ⟨v, e1, t⟩ := s.sh i d e
    exact ⟨v, e1, t.mono m⟩
  · obtain ⟨v, e1, t⟩ := s.ow i d e
    exact ⟨v, e1, tm t⟩
  · obtain ⟨es, b, us, e2, ob, gb, xb, rb⟩ := s.root e
    cases e2
    exact xb.mem hp
theorem resK_of {S : Sit} {W : WX} {P : Pd} {H : Hp} {O : Addr → Prop} {env : Env} {σ : L2.St} {d : D} {Q : VK} (s : SR S P H O env σ) (h : PostF S W P H O σ (.ok d env) Q) : ResK S.K H (S.F O) d Q := by
  cases d with
  | lst ds => exact fun p vs hp r => res_new s rfl h hp rfl r
  | dic ks ds => exact fun p o vs hp ho r => res_new s rfl h hp ho r
  | _ => exact fun v H' sm r => h H' O (Ext.same sm) (s.same sm) v r fun c => by simp [isC] at c


abbrev OpD (X : Cx) (f : Value → Value → Sem Value) (g : D → D → Option D) : Prop :=
  OpR X f (fun x y H Q => ∃ d e z F, (∀ a, F a → H a ≠ none) ∧ RepV X.K H F d x ∧ RepV X.K H F e y ∧ g d e = some z ∧ ResK X.K H F z Q)

theorem Reps.rep {K : PySem.W.Frag} {H : Hp} {F : Addr → Prop} {ds : List D} {vs : List V} (h : Reps K H F ds vs) : ∀ n : Nat, Reps K H F (List.replicate n ds).flatten (List.replicate n vs).flatten
  | 0 => rfl
  | n + 1 => by
    rw [List.replicate_succ, List.replicate_succ, List.flatten_cons, List.flatten_cons]
    exact h.append (Reps.rep h n)
theorem flat_len {α : Type} (n : Nat) (xs : List α) : (List.replicate n xs).flatten.length = n * xs.length := by
  induction n with
  | zero => simp
  | succ n ih => rw [List.replicate_succ, List.flatten_cons, List.length_append, ih, Nat.succ_mul]; omega

section
variable {X : Cx}
theorem opD_add : OpD X (binaryOp .Add) (bin .add) := by
  intro pins s σ H x y v u Q I rx ry h
  obtain ⟨d, e, z, F, fn, rd, re, hb, k⟩ := h
  cases d <;> cases e <;> try (simp [bin] at hb; done)
  case int.int i j =>
    cases rd; cases re
    simp only [bin, Option.some.injEq] at hb; subst hb
    exact op_add pins s σ H _ _ v u Q I rx ry ⟨i, j, rfl, rfl, k _ H (Same.refl H) rfl⟩
  case str.str i j =>
    cases rd; cases re
    simp only [bin] at hb
    split at hb
    · rename_i hl
      cases hb
      exact op_add_str pins s σ H _ _ v u Q I rx ry ⟨i, j, rfl, rfl, hl, k _ H (Same.refl H) rfl⟩
    · cases hb
  case tup.tup ds es =>
    obtain ⟨a, vs, rfl, ta, ra⟩ := rd
    obtain ⟨b, us, rfl, tb, rb⟩ := re
    simp only [bin] at hb
    split at hb
    · rename_i hl
      cases hb
      have l1 := ra.length
      have l2 := rb.length
      refine op_catA pins s σ H _ _ v u Q I rx ry ⟨a, b, vs, us, rfl, rfl, ta.sq, tb.sq, by omega, fun e => ?_, fun _ e => ?_, fun _ _ p hp => ?_⟩
      · subst e
        obtain rfl : ds = [] := List.eq_nil_of_length_eq_zero l1
        exact k _ H (Same.refl H) ⟨b, us, rfl, tb, rb⟩
      · subst e
        obtain rfl : es = [] := List.eq_nil_of_length_eq_zero l2
        exact k _ H (Same.refl H) ⟨a, vs, rfl, ta, by rw [List.append_nil]; exact ra⟩
      · have sm : Same H (upd H p (.tup (vs ++ us))) := same_upd hp
        exact k _ _ sm ⟨p, _, rfl, ⟨upd_same, fun f => fn p f hp⟩, (ra.append rb).mono (Mono.same sm)⟩
    · cases hb
  case lst.lst ds es =>
    obtain ⟨a, vs, rfl, ta, ra⟩ := rd
    obtain ⟨b, us, rfl, tb, rb⟩ := re
    simp only [bin] at hb
    split at hb
    · rename_i hl
      cases hb
      have l1 := ra.length
      have l2 := rb.length
      exact op_cat pins s σ H _ _ v u Q I rx ry ⟨a, b, vs, us, rfl, rfl, ta, tb, by omega, fun p hp => k p _ hp (ra.append rb)⟩
    · cases hb
theorem opD_sub : OpD X (binaryOp .Sub) (bin .sub) := by
  intro pins s σ H x y v u Q I rx ry h
  obtain ⟨d, e, z, F, fn, rd, re, hb, k⟩ := h
  cases d <;> cases e <;> try (simp [bin] at hb; done)
  case int.int i j =>
    cases rd; cases re
    simp only [bin, Option.some.injEq] at hb; subst hb
    exact op_sub pins s σ H _ _ v u Q I rx ry ⟨i, j, rfl, rfl, k _ H (Same.refl H) rfl⟩
theorem opD_fdiv : OpD X (binaryOp .FloorDiv) (bin .fdiv) := by
  intro pins s σ H x y v u Q I rx ry h
  obtain ⟨d, e, z, F, fn, rd, re, hb, k⟩ := h
  cases d <;> cases e <;> try (simp [bin] at hb; done)
  case int.int i j =>
    cases rd; cases re
    simp only [bin] at hb
    split at hb
    · rename_i hl
      cases hb
      simp only [divOk, Bool.and_eq_true, Bool.or_eq_true, decide_eq_true_eq] at hl
      rcases hl with ⟨h0, h1 | h1⟩
      · exact op_fdiv pins s σ H _ _ v u Q I rx ry ⟨i, j, rfl, rfl, ⟨h0, h1⟩, k _ H (Same.refl H) rfl⟩
      · exact op_fdivW pins s σ H _ _ v u Q I rx ry ⟨i, j, rfl, rfl, ⟨h0, h1⟩, k _ H (Same.refl H) rfl⟩
    · cases hb
theorem opD_mod : OpD X (binaryOp .Mod) (bin .mod) := by
  intro pins s σ H x y v u Q I rx ry h
  obtain ⟨d, e, z, F, fn, rd, re, hb, k⟩ := h
  cases d <;> cases e <;> try (simp [bin] at hb; done)
  case int.int i j =>
    cases rd; cases re
    simp only [bin] at hb
    split at hb
    · rename_i hl
      cases hb
      exact op_mod pins s σ H _ _ v u Q I rx ry ⟨i, j, rfl, rfl, hl, k _ H (Same.refl H) rfl⟩
    · cases hb
theorem opD_pow : OpD X (binaryOp .Pow) (bin .pow) := by
  intro pins s σ H x y v u Q I rx ry h
  obtain ⟨d, e, z, F, fn, rd, re, hb, k⟩ := h
  cases d <;> cases e <;> try (simp [bin] at hb; done)
  case int.int i j =>
    cases rd; cases re
    simp only [bin] at hb
    split at hb
    · rename_i hl
      cases hb
      simp only [Bool.and_eq_true, decide_eq_true_eq] at hl
      exact op_pow pins s σ H _ _ v u Q I rx ry ⟨i, j, rfl, rfl, ⟨hl.1.1, hl.1.2, hl.2⟩, k _ H (Same.refl H) rfl⟩
    · cases hb

/-! tuple * int, whatever the number -/
theorem tuple_mul_one (l : Addr) (items : Array Value) (n : Nat) (dd : Option Addr) (sl : Array (Option Value)) (x : Int) (u : Tok) (c0 : (decide (x < -(2 ^ 63)) || decide (x ≥ 2 ^ 63)) = false) (c1 : (items.isEmpty || x == 1) = true) :
    Meets (Builtin.«tuple.__mul__» ⟨[.ref l, .int x u], []⟩) (fun _ R s => s.heap.get? l = some { cls := .type "tuple", dict := dd, data := .seq items n, slots := sl } ∧
      R (.ok (.ret (Value.ref l))) s) :=
  .of_wp fun prog w A R s h => by
    obtain ⟨hp, g, d, tk, os⟩ := s
    obtain ⟨hl, h⟩ := h
    have f1 := AutoSeq1.idx_int
    wp_walk using wpAny_loadPart' hl
    repeat (first
      | (refine wpAny_ite_false (decide_eq_false (by rw [c0]; exact Bool.false_ne_true)) ?_; wp_walk using wpAny_loadPart' hl)
      | (refine wpAny_ite_true (decide_eq_true (by rw [c1])) ?_; wp_walk using wpAny_loadPart' hl))
    exact ⟨_, rfl, h⟩
theorem tuple_mul_none (l : Addr) (items : Array Value) (n : Nat) (dd : Option Addr) (sl : Array (Option Value)) (x : Int) (u : Tok) (c0 : (decide (x < -(2 ^ 63)) || decide (x ≥ 2 ^ 63)) = false) (c1 : (items.isEmpty || x == 1) = false) (c2 : (decide (x ≤ 0) || items.isEmpty) = true) :
    Meets (Builtin.«tuple.__mul__» ⟨[.ref l, .int x u], []⟩) (fun _ R s => s.heap.get? l = some { cls := .type "tuple", dict := dd, data := .seq items n, slots := sl } ∧
      R (.ok (.ret (Value.ref s.heap.objs.size))) { s with heap := s.heap.push { cls := Value.type "tuple", data := Data.seq #[] } }) :=
  .of_wp fun prog w A R s h => by
    obtain ⟨hp, g, d, tk, os⟩ := s
    obtain ⟨hl, h⟩ := h
    have f1 := AutoSeq1.idx_int
    wp_walk using wpAny_loadPart' hl
    repeat (first
      | (refine wpAny_ite_false (decide_eq_false (by rw [c0]; exact Bool.false_ne_true)) ?_; wp_walk using wpAny_loadPart' hl)
      | (refine wpAny_ite_false (decide_eq_false (by rw [c1]; exact Bool.false_ne_true)) ?_; wp_walk using wpAny_loadPart' hl)
      | (refine wpAny_ite_true (decide_eq_true (by rw [c2])) ?_; wp_walk using wpAny_loadPart' hl))
    exact ⟨_, rfl, h⟩
theorem opD_mul : OpD X (binaryOp .Mult) (bin .mul) := by
  intro pins s σ H x y v u Q I rx ry h
  obtain ⟨d, e, z, F, fn, rd, re, hb, k⟩ := h
  cases d <;> cases e <;> try (simp [bin] at hb; done)
  case int.int i j =>
    cases rd; cases re
    simp only [bin] at hb
    split at hb
    · rename_i hl
      cases hb
      simp only [mulOk, Bool.or_eq_true, decide_eq_true_eq] at hl
      rcases hl with (h0 | h0) | h0
      · exact op_mul pins s σ H _ _ v u Q I rx ry ⟨i, j, rfl, rfl, .inl ⟨by omega, by omega⟩, k _ H (Same.refl H) rfl⟩
      · exact op_mul pins s σ H _ _ v u Q I rx ry ⟨i, j, rfl, rfl, .inr ⟨by omega, by omega⟩, k _ H (Same.refl H) rfl⟩
      · exact op_mulW pins s σ H _ _ v u Q I rx ry ⟨i, j, rfl, rfl, h0, k _ H (Same.refl H) rfl⟩
    · cases hb
  case lst.int ds j =>
    obtain ⟨a, vs, rfl, ta, ra⟩ := rd
    cases re
    simp only [bin] at hb
    split at hb
    · rename_i hl
      cases hb
      simp only [Bool.and_eq_true, decide_eq_true_eq] at hl
      have l1 := ra.length
      exact op_rep pins s σ H _ _ v u Q I rx ry ⟨a, j, vs, rfl, rfl, ta, hl.1.1, hl.1.2, by rw [← l1]; exact hl.2, fun p hp => k p _ hp (ra.rep _)⟩
    · cases hb
  case tup.int ds j =>
    obtain ⟨a, vs, rfl, ta, ra⟩ := rd
    cases re
    simp only [bin] at hb
    split at hb
    · rename_i hl
      cases hb
      simp only [Bool.and_eq_true, decide_eq_true_eq] at hl
      obtain ⟨⟨b1, b2⟩, b3⟩ := hl
      have l1 := ra.length
      cases rx
      obtain ⟨t, rfl⟩ := ry
      obtain ⟨its, r, ⟨⟨cls, dd, data, sl⟩, ho, hc, n, hd⟩, hs⟩ := I.tuple ta.sq
      simp only at hc hd
      subst hc hd
      have hle : its.length = vs.length := r.length.symm
      have c0 : (decide (j < -(2 ^ 63)) || decide (j ≥ 2 ^ 63)) = false := by
        rw [decide_eq_false (by omega), decide_eq_false (by omega)] <;> rfl
      have start : ∀ {R : Result → Shared → Prop}, codeAny (model X.prog X.w) X.A (.call (.builtin "tuple.__mul__") ⟨[.ref a, .int j t], []⟩) R s → True := fun _ => trivial
      cases c1 : (its.toArray.isEmpty || j == 1) with
      | true =>
        refine wpAny_binaryOp_repeat_ref (T := "tuple") (U := "int") (by decide) ⟨_, ho, rfl⟩ (fun s' => typeIs_int s' j t) noFill_tuple_mul PySem.F.fills_int_mul PySem.F.slot_int_rmul repeat_tuple PySem.F.slot_int_index.lookup
          (call_meets PySem.F.slot_int_rmul (typeIs_int s j t) PySem.F.entry_int_rmul (PySem.F.args_int_rmul_2 _ _) (int_rmul_tuple j t a its.toArray n dd sl)
            ⟨ho, rfl, ⟨_, ho, rfl⟩, call_meets PySem.F.slot_tuple_mul ⟨_, ho, rfl⟩ PySem.F.entry_tuple_mul (PySem.F.args_tuple_mul_2 _ _) (tuple_mul_one a its.toArray n dd sl j t c0 c1) ⟨ho, ?_⟩⟩)
        have e : (List.replicate j.toNat ds).flatten = ds := by
          by_cases hi : its = []
          · have : ds = [] := List.eq_nil_of_length_eq_zero (by rw [l1, ← hle, hi]; rfl)
            subst this
            apply List.eq_nil_of_length_eq_zero
            rw [flat_len]; simp
          · have hj : j = 1 := by
              have : its.toArray.isEmpty = false := by cases its with | nil => exact absurd rfl hi | cons _ _ => rfl
              rw [this, Bool.false_or] at c1
              exact eq_of_beq c1
            subst hj
            simp
        exact ⟨.ref a, H, I, rfl, k _ H (Same.refl H) (by rw [e]; exact ⟨a, vs, rfl, ta, ra⟩)⟩
      | false =>
        cases c2 : (decide (j ≤ 0) || its.toArray.isEmpty) with
        | true =>
          refine wpAny_binaryOp_repeat_ref (T := "tuple") (U := "int") (by decide) ⟨_, ho, rfl⟩ (fun s' => typeIs_int s' j t) noFill_tuple_mul PySem.F.fills_int_mul PySem.F.slot_int_rmul repeat_tuple PySem.F.slot_int_index.lookup
            (call_meets PySem.F.slot_int_rmul (typeIs_int s j t) PySem.F.entry_int_rmul (PySem.F.args_int_rmul_2 _ _) (int_rmul_tuple j t a its.toArray n dd sl)
              ⟨ho, rfl, ⟨_, ho, rfl⟩, call_meets PySem.F.slot_tuple_mul ⟨_, ho, rfl⟩ PySem.F.entry_tuple_mul (PySem.F.args_tuple_mul_2 _ _) (tuple_mul_none a its.toArray n dd sl j t c0 c1 c2) ⟨ho, ?_⟩⟩)
          have e : (List.replicate j.toNat ds).flatten = [] := by
            rw [Bool.or_eq_true, decide_eq_true_eq] at c2
            rw [Bool.or_eq_false_iff] at c1
            have : j.toNat = 0 := by
              rcases c2 with c2 | c2
              · omega
              · rw [c2] at c1; exact absurd c1.1 (by simp)
            rw [this]; simp
          have hn : H s.heap.objs.size = none := I.hok.fresh (Nat.le_refl _)
          have sm : Same H (upd H s.heap.objs.size (.tup [])) := same_upd hn
          refine ⟨.ref s.heap.objs.size, _, I.laid (t' := s.toks) (o := .tup []) (fun b ob q => Heap.get?_push_of_some _ q) (Nat.le_refl _) ⟨by rw [sizeLine_eq]; decide, [], .nil, IsTup.new _ _⟩, rfl, k _ _ sm ?_⟩
          rw [e]
          exact ⟨_, [], rfl, ⟨upd_same, fun f => fn _ f hn⟩, rfl⟩
        | false =>
          have flen : (List.replicate j.toNat its).flatten.length ≤ sizeLine := by
            rw [flat_len, hle, ← l1, Nat.mul_comm]; exact b3
          have hj0 : 0 < j := by
            rw [Bool.or_eq_false_iff, decide_eq_false_iff_not] at c2
            omega
          have b4 : ((its.toArray.size : Nat) : Int) * j ≤ sizeLine := by
            rw [List.size_toArray, hle, ← l1]
            have e1 : j = ((j.toNat : Nat) : Int) := by omega
            rw [e1]
            exact_mod_cast b3
          have hsl : sizeLine = 16777216 := sizeLine_eq
          have c4 : Builtin.Tuple.tupleTooMany (((its.toArray.size : Nat) : Int) * j) = false := by
            unfold Builtin.Tuple.tupleTooMany
            exact decide_eq_false (by omega)
          refine wpAny_binaryOp_repeat_ref (T := "tuple") (U := "int") (by decide) ⟨_, ho, rfl⟩ (fun s' => typeIs_int s' j t) noFill_tuple_mul PySem.F.fills_int_mul PySem.F.slot_int_rmul repeat_tuple PySem.F.slot_int_index.lookup
            (call_meets PySem.F.slot_int_rmul (typeIs_int s j t) PySem.F.entry_int_rmul (PySem.F.args_int_rmul_2 _ _) (int_rmul_tuple j t a its.toArray n dd sl)
              ⟨ho, rfl, ⟨_, ho, rfl⟩, call_meets PySem.F.slot_tuple_mul ⟨_, ho, rfl⟩ PySem.F.entry_tuple_mul (PySem.F.args_tuple_mul_2 _ _) (tuple_mulW a its.toArray n dd sl j t c0 c1 c2 (by omega) c4 (by rw [size_rep, List.size_toArray]; exact flen)) ⟨ho, ?_⟩⟩)
          rw [size_rep]
          have hn : H s.heap.objs.size = none := I.hok.fresh (Nat.le_refl _)
          have sm : Same H (upd H s.heap.objs.size (.tup (List.replicate j.toNat vs).flatten)) := same_upd hn
          refine ⟨.ref s.heap.objs.size, _, I.laid (t' := s.toks) (o := .tup (List.replicate j.toNat vs).flatten) (fun b ob q => Heap.get?_push_of_some _ q) (Nat.le_refl _) ?_, rfl, k _ _ sm ?_⟩
          · exact ⟨by rw [flat_len, ← hle, ← flat_len]; exact flen, _, r.rep j.toNat, IsTup.new _ _⟩
          · exact ⟨_, _, rfl, ⟨upd_same, fun f => fn _ f hn⟩, (ra.rep _).mono (Mono.same sm)⟩
    · cases hb
end
end Rf

/-! Rg, part C1: dicts: what is found, what is put. -/
namespace Rf
open PySem PySem.Spec PyProof.Rows L2

/-- keys that are told apart as the data are -/
def KeyLike {κ : Type} (f : D → Option κ) : Prop := ∀ k x a b, f k = some a → f x = some b → (eqd k x = true ↔ a = b)
theorem like_k : KeyLike kOf := by
  intro k x a b h1 h2
  cases k <;> simp [kOf] at h1 <;> cases x <;> simp [kOf] at h2 <;> subst h1 h2 <;> simp [eqd]
theorem like_ks : ∀ {ks xs : List D} {as bs : List Key}, mapM kOf ks = some as → mapM kOf xs = some bs → (eqds ks xs = true ↔ as = bs)
  | [], [], _, _, h1, h2 => by cases h1; cases h2; simp [eqds]
  | [], x :: xs, _, bs, h1, h2 => by
    cases h1
    simp only [mapM, Option.bind_eq_some_iff, Option.map_eq_some_iff] at h2
    obtain ⟨b, _, r, _, rfl⟩ := h2
    simp [eqds]
  | k :: ks, [], as, _, h1, h2 => by
    cases h2
    simp only [mapM, Option.bind_eq_some_iff, Option.map_eq_some_iff] at h1
    obtain ⟨b, _, r, _, rfl⟩ := h1
    simp [eqds]
  | k :: ks, x :: xs, as, bs, h1, h2 => by
    simp only [mapM, Option.bind_eq_some_iff, Option.map_eq_some_iff] at h1 h2
    obtain ⟨a, e1, r1, e2, rfl⟩ := h1
    obtain ⟨b, e3, r2, e4, rfl⟩ := h2
    simp [eqds, like_k _ _ _ _ e1 e3, like_ks e2 e4]
theorem like_t : KeyLike kTOf := by
  intro k x a b h1 h2
  cases k <;> simp [kTOf] at h1
  cases x <;> simp [kTOf] at h2
  simp only [eqd]
  exact like_ks h1 h2
section
variable {κ : Type} [DecidableEq κ] {f : D → Option κ}
theorem keys_len : ∀ {ks : List D} {l : List κ}, mapM f ks = some l → l.length = ks.length
  | [], _, h => by cases h; rfl
  | k :: ks, l, h => by
    simp only [mapM, Option.bind_eq_some_iff, Option.map_eq_some_iff] at h
    obtain ⟨a, _, r, e, rfl⟩ := h
    simp [keys_len e]
theorem keys_any (L : KeyLike f) {x : D} {b : κ} (hx : f x = some b) : ∀ {ks : List D} {l : List κ} {vs : List V}, mapM f ks = some l → ks.length = vs.length → ((l.zip vs).any fun kv => decide (kv.1 = b)) = ks.any fun k => eqd k x
  | [], _, vs, h, _ => by cases h; rfl
  | k :: ks, l, [], h, e => by simp at e
  | k :: ks, l, v :: vs, h, e => by
    simp only [mapM, Option.bind_eq_some_iff, Option.map_eq_some_iff] at h
    obtain ⟨a, e1, r, e2, rfl⟩ := h
    rw [List.zip_cons_cons, List.any_cons, List.any_cons, keys_any L hx e2 (by simpa using e)]
    congr 1
    rw [Bool.eq_iff_iff, decide_eq_true_eq]
    exact (L _ _ _ _ e1 hx).symm
theorem keys_find (L : KeyLike f) {K : PySem.W.Frag} {H : Hp} {F : Addr → Prop} {x d : D} {b : κ} (hx : f x = some b) : ∀ {ks : List D} {l : List κ} {ds : List D} {vs : List V}, mapM f ks = some l → Reps K H F ds vs → dfind ks ds x = some d → ∃ v, valV (l.zip vs) b = some v ∧ Rep K H F d v
  | [], _, ds, vs, h, _, e => by cases ds <;> simp [dfind] at e
  | k :: ks, l, [], vs, h, _, e => by simp [dfind] at e
  | k :: ks, l, d0 :: ds, vs, h, ⟨v, r, ev, h0, t⟩, e => by
    subst ev
    simp only [mapM, Option.bind_eq_some_iff, Option.map_eq_some_iff] at h
    obtain ⟨a, e1, r', e2, rfl⟩ := h
    rw [List.zip_cons_cons]
    simp only [dfind] at e
    split at e
    · rename_i hk
      cases e
      exact ⟨v, valV_pos ((L _ _ _ _ e1 hx).mp hk), h0⟩
    · rename_i hk
      rw [valV_neg (fun q => hk ((L _ _ _ _ e1 hx).mpr q))]
      exact keys_find L hx e2 t e
theorem keys_repl (L : KeyLike f) {x : D} {b : κ} (hx : f x = some b) (u : V) : ∀ {ks : List D} {l : List κ} {vs : List V}, mapM f ks = some l → ks.length = vs.length →
    (l.zip vs).map (fun kv => if kv.1 = b then (kv.1, u) else kv) = l.zip (List.zipWith (fun k v => if eqd k x = true then u else v) ks vs)
  | [], _, vs, h, _ => by cases h; rfl
  | k :: ks, l, [], h, e => by simp at e
  | k :: ks, l, v :: vs, h, e => by
    simp only [mapM, Option.bind_eq_some_iff, Option.map_eq_some_iff] at h
    obtain ⟨a, e1, r, e2, rfl⟩ := h
    rw [List.zip_cons_cons, List.map_cons, List.zipWith_cons_cons, List.zip_cons_cons, keys_repl L hx u e2 (by simpa using e)]
    congr 1
    by_cases q : a = b
    · rw [if_pos q, if_pos ((L _ _ _ _ e1 hx).mpr q)]
    · rw [if_neg q, if_neg (fun z => q ((L _ _ _ _ e1 hx).mp z))]
theorem mapM_snoc {x : D} {b : κ} (hx : f x = some b) : ∀ {ks : List D} {l : List κ}, mapM f ks = some l → mapM f (ks ++ [x]) = some (l ++ [b])
  | [], _, h => by cases h; simp [mapM, hx]
  | k :: ks, l, h => by
    simp only [mapM, Option.bind_eq_some_iff, Option.map_eq_some_iff] at h
    obtain ⟨a, e1, r, e2, rfl⟩ := h
    simp [mapM, e1, mapM_snoc hx e2]
/-- the values behind a put -/
def putVs (ks : List D) (vs : List V) (x : D) (u : V) : List V := if ks.any (fun k => eqd k x) then List.zipWith (fun k v => if eqd k x = true then u else v) ks vs else vs ++ [u]
theorem keys_put (L : KeyLike f) {x : D} {b : κ} (hx : f x = some b) (u : V) {ks : List D} {l : List κ} {vs : List V} (h : mapM f ks = some l) (e : ks.length = vs.length) :
    ∃ l', mapM f (dputK ks x) = some l' ∧ putK (l.zip vs) b u = l'.zip (putVs ks vs x u) ∧ (dputK ks x).length = (putVs ks vs x u).length := by
  unfold putK dputK putVs
  rw [keys_any L hx h e]
  by_cases q : (ks.any fun k => eqd k x) = true
  · rw [if_pos q, if_pos q, if_pos q]
    exact ⟨l, h, keys_repl L hx u h e, by simp [e]⟩
  · rw [if_neg q, if_neg q, if_neg q]
    refine ⟨l ++ [b], mapM_snoc hx h, ?_, by simp [e]⟩
    rw [List.zip_append (by rw [keys_len h, e])]
    rfl
end
theorem reps_repl {K : PySem.W.Frag} {H : Hp} {F : Addr → Prop} {x d : D} {u : V} (hd : Rep K H F d u) : ∀ (ks : List D) {ds : List D} {vs : List V}, Reps K H F ds vs →
    Reps K H F (List.zipWith (fun k e => if eqd k x = true then d else e) ks ds) (List.zipWith (fun k v => if eqd k x = true then u else v) ks vs)
  | [], _, _, _ => rfl
  | k :: ks, [], _, h => by rw [show _ = ([] : List V) from h]; rfl
  | k :: ks, e :: ds, _, ⟨v, r, ev, h, t⟩ => by
    subst ev
    rw [List.zipWith_cons_cons, List.zipWith_cons_cons]
    refine .cons ?_ (reps_repl hd ks t)
    split
    · exact hd
    · exact h
theorem reps_put {K : PySem.W.Frag} {H : Hp} {F : Addr → Prop} {x d : D} {u : V} {ks ds : List D} {vs : List V} (r : Reps K H F ds vs) (hd : Rep K H F d u) : Reps K H F (dputV ks ds x d) (putVs ks vs x u) := by
  unfold dputV putVs
  split
  · exact reps_repl hd ks r
  · exact r.append (.one hd)

section
variable {X : Cx} {pins : List (Addr × Obj)} {σ : L2.St} {H : Hp} {s : Shared} {a : Addr}
theorem flip_t (I : L2.Inv X pins σ H s) (e : H a = some (.dK [])) : L2.Inv X pins σ (upd H a (.dT [])) s := by
  obtain ⟨z, hd, vs, rel, dd⟩ := dk_of I.hok e
  cases rel
  obtain ⟨o, es, ep, h1, h2, h3, _, h5, _⟩ := dd
  cases hes : es.toList with
  | nil => exact I.write (x := a) (e := a) (t' := s.toks) (by rw [e]; exact True.intro) (.inl rfl) (fun _ _ _ q => q) ⟨o, h1⟩ ⟨Nat.zero_le _, hd, [], .nil, o, es, ep, h1, h2, h3, by simpa using hes, List.nodup_nil⟩
  | cons x xs => rw [hes] at h5; cases h5
theorem flip_k (I : L2.Inv X pins σ H s) (e : H a = some (.dT [])) : L2.Inv X pins σ (upd H a (.dK [])) s := by
  obtain ⟨z, hd, vs, rel, dd⟩ := dt_of I.hok e
  cases rel
  obtain ⟨o, es, ep, h1, h2, h3, h5, _, _⟩ := dd
  have hes : es = #[] := by
    have : es.toList = [] := by simpa using h5
    exact Array.toList_eq_nil_iff.mp this
  subst hes
  refine I.write (x := a) (e := a) (t' := s.toks) (by rw [e]; exact True.intro) (.inl rfl) (fun _ _ _ q => q) ⟨o, h1⟩ ⟨Nat.zero_le _, hd, [], .nil, o, #[], ep, h1, h2, h3, ?_, ?_, List.nodup_nil⟩
  · intro x hx; simp at hx
  · exact .nil
theorem flip_back (I : L2.Inv X pins σ (upd H a (.dT [])) s) (e : H a = some (.dK [])) : L2.Inv X pins σ H s := by
  have k := flip_k I upd_same
  rw [upd_upd] at k
  have : upd H a (.dK []) = H := by
    funext b
    unfold upd
    split
    · rename_i q; rw [q, e]
    · rfl
  rwa [this] at k
theorem k1_of {d : D} (h : isK1 d = true) : ∃ k, kOf d = some k := by
  cases d <;> first | (simp [isK1] at h; done) | exact ⟨_, rfl⟩
theorem k1s_of : ∀ {ds : List D}, ds.all isK1 = true → ∃ l, mapM kOf ds = some l
  | [], _ => ⟨[], rfl⟩
  | d :: ds, h => by
    rw [List.all_cons, Bool.and_eq_true] at h
    obtain ⟨k, e⟩ := k1_of h.1
    obtain ⟨l, e2⟩ := k1s_of h.2
    exact ⟨k :: l, by simp [mapM, e, e2]⟩
theorem rep_k {K : PySem.W.Frag} {F : Addr → Prop} {d : D} {k : Key} {y : V} (h : kOf d = some k) (r : Rep K H F d y) : y = kV k := by
  cases d <;> simp [kOf] at h <;> subst h <;> exact r
theorem reps_k {K : PySem.W.Frag} {F : Addr → Prop} : ∀ {ds : List D} {l : List Key} {ys : List V}, mapM kOf ds = some l → Reps K H F ds ys → ys = l.map kV
  | [], _, _, h, r => by cases h; exact r
  | d :: ds, l, _, h, ⟨v, r, ev, h0, t⟩ => by
    subst ev
    simp only [mapM, Option.bind_eq_some_iff, Option.map_eq_some_iff] at h
    obtain ⟨a, e1, r', e2, rfl⟩ := h
    rw [rep_k e1 h0, reps_k e2 t]; rfl
theorem kt_of {d : D} (h : isKT d = true) : ∃ k, kTOf d = some k := by
  cases d <;> first | (simp [isKT] at h; done) | skip
  rename_i ds
  obtain ⟨l, e⟩ := k1s_of (show ds.all isK1 = true from h)
  exact ⟨l, e⟩
theorem rep_kt {K : PySem.W.Frag} {F : Addr → Prop} {d : D} {k : List Key} {y : V} (h : kTOf d = some k) (r : Rep K H F d y) : ∃ b, y = .ref b ∧ H b = some (.tup (k.map kV)) := by
  cases d <;> simp [kTOf] at h
  obtain ⟨b, ys, rfl, t, rs⟩ := r
  exact ⟨b, rfl, by rw [← reps_k h rs]; exact t.1⟩
theorem kinds {ks : List D} {l : List Key} (h : mapM kOf ks = some l) (q : ks.all isKT = true) : ks = [] := by
  cases ks with
  | nil => rfl
  | cons k ks =>
    simp only [mapM, Option.bind_eq_some_iff, Option.map_eq_some_iff] at h
    obtain ⟨a, e1, _⟩ := h
    rw [List.all_cons, Bool.and_eq_true] at q
    cases k <;> first | (simp [kOf] at e1; done) | (simp [isKT] at q; done)
theorem kinds' {ks : List D} {l : List (List Key)} (h : mapM kTOf ks = some l) (q : ks.all isK1 = true) : ks = [] := by
  cases ks with
  | nil => rfl
  | cons k ks =>
    simp only [mapM, Option.bind_eq_some_iff, Option.map_eq_some_iff] at h
    obtain ⟨a, e1, _⟩ := h
    rw [List.all_cons, Bool.and_eq_true] at q
    cases k <;> first | (simp [kTOf] at e1; done) | (simp [isK1] at q; done)
/-- what the dict at a holds at a key: read over the heap H2, that is H but for the kind of an empty dict -/
theorem dget_ex {K : PySem.W.Frag} {F : Addr → Prop} {o : HO} {ks ds : List D} {vs : List V} {x : D} {y : V} (e : H a = some o) (c : DcO o ks vs) (r : Reps K H F ds vs) (hk : keyOk ks x = true) (rx : Rep K H F x y) :
    ∃ (H2 : Hp) (w : Option V), (∀ s, L2.Inv X pins σ H s ↔ L2.Inv X pins σ H2 s) ∧ DGet H2 a y w ∧ w.isSome = (ks.any fun k => eqd k x) ∧ ∀ d, dfind ks ds x = some d → ∃ v, w = some v ∧ Rep K H F d v := by
  obtain ⟨len, c⟩ := c
  unfold keyOk at hk
  rw [Bool.or_eq_true, Bool.and_eq_true, Bool.and_eq_true] at hk
  rcases c with ⟨l, hl, rfl⟩ | ⟨hne, l, hl, rfl⟩
  · rcases hk with ⟨k1, k2⟩ | ⟨k1, k2⟩
    · obtain ⟨k, hk⟩ := k1_of k1
      obtain rfl := rep_k hk rx
      refine ⟨H, _, fun _ => Iff.rfl, DGet.k e, ?_, fun d hd => keys_find like_k hk hl r hd⟩
      rw [← valV_any]; exact keys_any like_k hk hl len
    · obtain rfl := kinds hl k2
      cases hl
      obtain ⟨k, hk⟩ := kt_of k1
      obtain ⟨b, rfl, hb⟩ := rep_kt hk rx
      have hab : b ≠ a := fun q => by subst q; rw [hb] at e; cases e
      refine ⟨upd H a (.dT []), _, fun s => ⟨fun I => flip_t I e, fun I => flip_back I e⟩, DGet.t (kvs := []) upd_same (by rw [upd_ne hab]; exact hb), rfl, fun d hd => by cases ds <;> simp [dfind] at hd⟩
  · rcases hk with ⟨k1, k2⟩ | ⟨k1, k2⟩
    · exact absurd (kinds' hl k2) hne
    · obtain ⟨k, hk⟩ := kt_of k1
      obtain ⟨b, rfl, hb⟩ := rep_kt hk rx
      refine ⟨H, _, fun _ => Iff.rfl, DGet.t e hb, ?_, fun d hd => keys_find like_t hk hl r hd⟩
      rw [← valV_any]; exact keys_any like_t hk hl len
theorem dput_ex {K : PySem.W.Frag} {F : Addr → Prop} {o : HO} {ks : List D} {vs : List V} {x : D} {y : V} (u : V) (e : H a = some o) (c : DcO o ks vs) (hk : keyOk ks x = true) (hz : ks.length < sizeLine) (rx : Rep K H F x y) :
    ∃ (H2 : Hp) (o' : HO), (∀ s, L2.Inv X pins σ H s → L2.Inv X pins σ H2 s) ∧ DPut H2 a y u (upd H a o') ∧ DcO o' (dputK ks x) (putVs ks vs x u) := by
  obtain ⟨len, c⟩ := c
  unfold keyOk at hk
  rw [Bool.or_eq_true, Bool.and_eq_true, Bool.and_eq_true] at hk
  rcases c with ⟨l, hl, rfl⟩ | ⟨hne, l, hl, rfl⟩
  · have lz : (l.zip vs).length < sizeLine := by rw [List.length_zip, keys_len hl, ← len]; omega
    rcases hk with ⟨k1, k2⟩ | ⟨k1, k2⟩
    · obtain ⟨k, hk⟩ := k1_of k1
      obtain rfl := rep_k hk rx
      obtain ⟨l', h1, h2, h3⟩ := keys_put like_k hk u hl len
      exact ⟨H, _, fun _ I => I, by rw [← h2]; exact DPut.k e lz, h3, .inl ⟨l', h1, rfl⟩⟩
    · obtain rfl := kinds hl k2
      cases hl
      obtain rfl : vs = [] := List.eq_nil_of_length_eq_zero len.symm
      obtain ⟨k, hk⟩ := kt_of k1
      obtain ⟨b, rfl, hb⟩ := rep_kt hk rx
      have hab : b ≠ a := fun q => by subst q; rw [hb] at e; cases e
      obtain ⟨l', h1, h2, h3⟩ := keys_put like_t hk u (ks := []) (l := []) (vs := []) rfl rfl
      refine ⟨upd H a (.dT []), .dT (l'.zip (putVs [] [] x u)), fun s I => flip_t I e, ?_, h3, .inr ⟨by simp [dputK], l', h1, rfl⟩⟩
      rw [← h2]
      have k := DPut.t (H := upd H a (.dT [])) (kvs := []) (v := u) upd_same (by rw [upd_ne hab]; exact hb) (by rw [sizeLine_eq]; decide)
      rw [upd_upd] at k
      exact k
  · have lz : (l.zip vs).length < sizeLine := by rw [List.length_zip, keys_len hl, ← len]; omega
    rcases hk with ⟨k1, k2⟩ | ⟨k1, k2⟩
    · exact absurd (kinds' hl k2) hne
    · obtain ⟨k, hk⟩ := kt_of k1
      obtain ⟨b, rfl, hb⟩ := rep_kt hk rx
      obtain ⟨l', h1, h2, h3⟩ := keys_put like_t hk u hl len
      refine ⟨H, _, fun _ I => I, by rw [← h2]; exact DPut.t e hb lz, h3, .inr ⟨fun q => hne ?_, l', h1, rfl⟩⟩
      unfold dputK at q
      split at q
      · exact q
      · simp at q
end

/-! ### a[x], x in a, a[x] = v, len(a) -/
def rIxDc (K : PySem.W.Frag) : R2 := fun p y H Q => ∃ a o ks ds vs x d F, p = .ref a ∧ H a = some o ∧ DcO o ks vs ∧ Reps K H F ds vs ∧ keyOk ks x = true ∧ Rep K H F x y ∧ dfind ks ds x = some d ∧ ∀ v, Rep K H F d v → Q v H
theorem ix_dict {X : Cx} (hu : X.A.units + 1 < cLine) : IxR X (rIxDc X.K) := by
  intro value slice pins s σ H p y v u Q I rx ry h hs
  obtain ⟨a, o, ks, ds, vs, x, d, F, rfl, e, c, r, hk, rxy, hf, k⟩ := h
  obtain rfl : v = Value.ref a := rx
  obtain ⟨H2, w, eqv, g, _, fnd⟩ := dget_ex (X := X) (pins := pins) (σ := σ) e c r hk rxy
  obtain ⟨z, rfl, rz⟩ := fnd d hf
  have I2 := (eqv s).mp I
  have hT := dict_typeIs I2 g
  unfold subscriptTail
  refine wpAny_bind ?_
  rw [getitemInPython_of_ne hT.not_modules]
  refine wpAny_bind (wpAny_specialOf hT PySem.F.slot_dict_getitem.lookup ?_)
  have fin : wpAny (model X.prog X.w) X.A (subscripted slice false (.ref a) u) (fun r s₃ => wpAny (model X.prog X.w) X.A (letTemporaryGo value (.ref a) r >>= fun _ => pure r) (EP X pins σ Q) X.xe s₃) X.xe s := by
    rw [hs]
    exact wpAny_operating (d_getItem hu I2 g ry fun w' s3 I3 rw' => wpAny_bind (wpAny_letTemporaryGo (wpAny_pure ⟨z, H, (eqv s3).mpr I3, rw', k z rz⟩)))
  first
    | exact wpAny_pure (wpAny_bind fin)
    | exact wpAny_bind (wpAny_pure (wpAny_bind fin))
    | exact wpAny_bind fin
def rInDc (K : PySem.W.Frag) (g : Bool → Bool) : R2 := fun y p H Q => ∃ a o ks vs x F, p = .ref a ∧ H a = some o ∧ DcO o ks vs ∧ keyOk ks x = true ∧ Rep K H F x y ∧ Q (.bl (g (ks.any fun k => eqd k x))) H
theorem reps_none {K : PySem.W.Frag} {H : Hp} {F : Addr → Prop} : ∀ vs : List V, True := fun _ => trivial
theorem dget_ex' {X : Cx} {pins : List (Addr × Obj)} {σ : L2.St} {H : Hp} {a : Addr} {K : PySem.W.Frag} {F : Addr → Prop} {o : HO} {ks : List D} {vs : List V} {x : D} {y : V} (e : H a = some o) (c : DcO o ks vs) (hk : keyOk ks x = true) (rx : Rep K H F x y) :
    ∃ (H2 : Hp) (w : Option V), (∀ s, L2.Inv X pins σ H s ↔ L2.Inv X pins σ H2 s) ∧ DGet H2 a y w ∧ w.isSome = (ks.any fun k => eqd k x) := by
  obtain ⟨len, c'⟩ := id c
  unfold keyOk at hk
  rw [Bool.or_eq_true, Bool.and_eq_true, Bool.and_eq_true] at hk
  rcases c' with ⟨l, hl, rfl⟩ | ⟨hne, l, hl, rfl⟩
  · rcases hk with ⟨k1, k2⟩ | ⟨k1, k2⟩
    · obtain ⟨k, hk⟩ := k1_of k1
      obtain rfl := rep_k hk rx
      refine ⟨H, _, fun _ => Iff.rfl, DGet.k e, ?_⟩
      rw [← valV_any]; exact keys_any like_k hk hl len
    · obtain rfl := kinds hl k2
      cases hl
      obtain ⟨k, hk⟩ := kt_of k1
      obtain ⟨b, rfl, hb⟩ := rep_kt hk rx
      have hab : b ≠ a := fun q => by subst q; rw [hb] at e; cases e
      exact ⟨upd H a (.dT []), _, fun s => ⟨fun I => flip_t I e, fun I => flip_back I e⟩, DGet.t (kvs := []) upd_same (by rw [upd_ne hab]; exact hb), rfl⟩
  · rcases hk with ⟨k1, k2⟩ | ⟨k1, k2⟩
    · exact absurd (kinds' hl k2) hne
    · obtain ⟨k, hk⟩ := kt_of k1
      obtain ⟨b, rfl, hb⟩ := rep_kt hk rx
      refine ⟨H, _, fun _ => Iff.rfl, DGet.t e hb, ?_⟩
      rw [← valV_any]; exact keys_any like_t hk hl len
theorem op_inDc {X : Cx} (hu : X.A.units + 1 < cLine) : OpR X (compareOp .In) (rInDc X.K id) := by
  intro pins s σ H x y v u Q I rx ry h
  obtain ⟨a, o, ks, vs, xd, F, rfl, e, c, hk, rxd, q⟩ := h
  obtain rfl : u = Value.ref a := ry
  obtain ⟨H2, w, eqv, g, hw⟩ := dget_ex' (X := X) (pins := pins) (σ := σ) e c hk rxd
  refine d_in hu ((eqv s).mp I) g rx fun s3 I3 => ⟨.bl w.isSome, H, (eqv s3).mpr I3, rfl, ?_⟩
  rw [hw]; exact q
theorem op_notinDc {X : Cx} (hu : X.A.units + 1 < cLine) : OpR X (compareOp .NotIn) (rInDc X.K (!·)) := by
  intro pins s σ H x y v u Q I rx ry h
  obtain ⟨a, o, ks, vs, xd, F, rfl, e, c, hk, rxd, q⟩ := h
  obtain rfl : u = Value.ref a := ry
  obtain ⟨H2, w, eqv, g, hw⟩ := dget_ex' (X := X) (pins := pins) (σ := σ) e c hk rxd
  refine d_notIn hu ((eqv s).mp I) g rx fun s3 I3 => ⟨.bl (!w.isSome), H, (eqv s3).mpr I3, rfl, ?_⟩
  rw [hw]; exact q
/-- a[x] = v: a list | a dict -/
def rSetDc (K : PySem.W.Frag) : TSet := fun p y v H Q => rSetL p y v H Q ∨
  ∃ a o ks vs x F, p = .ref a ∧ H a = some o ∧ DcO o ks vs ∧ keyOk ks x = true ∧ ks.length < sizeLine ∧ Rep K H F x y ∧ ∀ o', DcO o' (dputK ks x) (putVs ks vs x v) → Q (upd H a o')
theorem set_Dc {X : Cx} (hu : X.A.units + 1 < cLine) : PSet X (rSetDc X.K) := by
  intro pins s σ H p y v ov iv u Q I ro ri rv h
  rcases h with h | ⟨a, o, ks, vs, x, F, rfl, e, c, hk, hz, rx, k⟩
  · exact set_list pins s σ H p y v ov iv u Q I ro ri rv h
  · obtain rfl : ov = Value.ref a := ro
    obtain ⟨H2, o', im, g, c'⟩ := dput_ex (X := X) (pins := pins) (σ := σ) v e c hk hz rx
    exact d_setItem hu (im s I) g ri rv fun s3 I3 => ⟨_, I3, k o' c'⟩
theorem len_Dc {X : Cx} {pins : List (Addr × Obj)} {σ : L2.St} {H : Hp} {s : Shared} {a : Addr} {o : HO} {ks : List D} {vs : List V} {us : List Value} {Q : VK} (I : L2.Inv X pins σ H s) (e : H a = some o) (c : DcO o ks vs) (q : Q (.int ks.length) H) (r : Vals [V.ref a] us) :
    wpAny (model X.prog X.w) X.A (call (.builtin "len") us) (EP X pins σ Q) X.xe s := by
  obtain ⟨len, c⟩ := c
  rcases c with ⟨l, hl, rfl⟩ | ⟨hne, l, hl, rfl⟩
  · rw [Vals.ref1 r]
    refine d_len I (.inl e) fun t s' I' => ⟨.int (l.zip vs).length, H, I', ⟨t, rfl⟩, ?_⟩
    rw [List.length_zip, keys_len hl, ← len, Nat.min_self]; exact q
  · refine call_len_dT pins s σ H _ us Q I r ⟨a, _, rfl, e, ?_⟩
    rw [List.length_zip, keys_len hl, ← len, Nat.min_self]; exact q
end Rf

/-! Rf, part D: comparisons by trees. -/
namespace Rf
open PySem PySem.Spec PyProof.Rows L2
mutual
def pd : D → PyData
  | .bl b => .bool b
  | .int i => .int i
  | .str s => .str s
  | .tup ds => .tuple (pds ds)
  | .lst ds => .list (pds ds)
  | _ => .none
def pds : List D → List PyData
  | [] => []
  | d :: ds => pd d :: pds ds
end
mutual
theorem pd_lay : ∀ d : D, plain d = true → (pd d).canLay0 = true
  | .non, _ => by simp [pd, PyData.canLay0]
  | .bl _, _ => by simp [pd, PyData.canLay0]
  | .int _, _ => by simp [pd, PyData.canLay0]
  | .str s, h => by simpa [pd, PyData.canLay0, plain] using h
  | .tup ds, h => by
    simp only [pd, PyData.canLay0]
    exact pds_lay ds (by simpa [plain] using h)
  | .lst ds, h => by
    simp only [pd, PyData.canLay0]
    exact pds_lay ds (by simpa [plain] using h)
  | .dic _ _, h => by simp [plain] at h
  | .ins _ _, h => by simp [plain] at h
  | .fn _, h => by simp [plain] at h
  | .scr _, h => by simp [plain] at h
theorem pds_lay : ∀ ds : List D, plains ds = true → PyData.canLayAll0 (pds ds) = true
  | [], _ => by simp [pds, PyData.canLayAll0]
  | d :: ds, h => by
    simp only [plains, Bool.and_eq_true] at h
    simp only [pds, PyData.canLayAll0, Bool.and_eq_true]
    exact ⟨pd_lay d h.1, pds_lay ds h.2⟩
end
mutual
theorem pd_depth : ∀ d : D, (pd d).depth = dep d
  | .non => by simp [pd, PyData.depth, dep]
  | .bl _ => by simp [pd, PyData.depth, dep]
  | .int _ => by simp [pd, PyData.depth, dep]
  | .str s => by simp [pd, PyData.depth, dep]
  | .tup ds => by simp only [pd, PyData.depth, dep, pds_depth ds]
  | .lst ds => by simp only [pd, PyData.depth, dep, pds_depth ds]
  | .dic _ _ => by simp [pd, PyData.depth, dep]
  | .ins _ _ => by simp [pd, PyData.depth, dep]
  | .fn _ => by simp [pd, PyData.depth, dep]
  | .scr _ => by simp [pd, PyData.depth, dep]
theorem pds_depth : ∀ ds : List D, PyData.depthAll (pds ds) = deps ds
  | [] => by simp [pds, PyData.depthAll, deps]
  | d :: ds => by simp only [pds, PyData.depthAll, deps, pd_depth d, pds_depth ds]
end
theorem pd_shaped {d : D} (h : cmpb d = true) : SeqAt.shaped (pd d) = true := by
  simp only [cmpb, Bool.and_eq_true, decide_eq_true_eq] at h
  unfold SeqAt.shaped
  rw [pd_lay d h.1, pd_depth]
  simp; omega
mutual
theorem pd_eqv : ∀ a b : D, plain a = true → plain b = true → PyData.eqv (pd a) (pd b) = eqd a b
  | .non, b, _, hb => by cases b <;> first | (simp [plain] at hb; done) | simp [pd, PyData.eqv, eqd]
  | .bl x, b, _, hb => by
    cases b <;> first | (simp [plain] at hb; done) | simp [pd, PyData.eqv, eqd]
    all_goals (cases x <;> simp <;> rfl)
  | .int x, b, _, hb => by
    cases b <;> first | (simp [plain] at hb; done) | simp [pd, PyData.eqv, eqd]
    all_goals rfl
  | .str x, b, _, hb => by
    cases b <;> first | (simp [plain] at hb; done) | simp [pd, PyData.eqv, eqd]
    all_goals rfl
  | .tup x, b, ha, hb => by
    cases b <;> try first | (simp [plain] at hb; done) | (simp [pd, PyData.eqv, eqd]; done)
    simp only [pd, PyData.eqv, eqd]
    exact pds_eqv _ _ (by simpa [plain] using ha) (by simpa [plain] using hb)
  | .lst x, b, ha, hb => by
    cases b <;> try first | (simp [plain] at hb; done) | (simp [pd, PyData.eqv, eqd]; done)
    simp only [pd, PyData.eqv, eqd]
    exact pds_eqv _ _ (by simpa [plain] using ha) (by simpa [plain] using hb)
  | .dic _ _, _, h, _ => by simp [plain] at h
  | .ins _ _, _, h, _ => by simp [plain] at h
  | .fn _, _, h, _ => by simp [plain] at h
  | .scr _, _, h, _ => by simp [plain] at h
theorem pds_eqv : ∀ a b : List D, plains a = true → plains b = true → PyData.eqvAll (pds a) (pds b) = eqds a b
  | [], [], _, _ => by simp [pds, PyData.eqvAll, eqds]
  | [], _ :: _, _, _ => by simp [pds, PyData.eqvAll, eqds]
  | _ :: _, [], _, _ => by simp [pds, PyData.eqvAll, eqds]
  | a :: as, b :: bs, ha, hb => by
    simp only [plains, Bool.and_eq_true] at ha hb
    simp only [pds, PyData.eqvAll, eqds]
    rw [pd_eqv a b ha.1 hb.1, pds_eqv as bs ha.2 hb.2]
end
mutual
theorem dp_of {K : PySem.W.Frag} {H : Hp} {F : Addr → Prop} : ∀ {d : D} {v : V}, plain d = true → Rep K H F d v → Dp K H v (pd d)
  | .non, _, _, h => by cases h; simp only [pd]; exact .non
  | .bl _, _, _, h => by cases h; simp only [pd]; exact .bl _
  | .int _, _, _, h => by cases h; simp only [pd]; exact .int _
  | .str _, _, _, h => by cases h; simp only [pd]; exact .str _
  | .tup ds, _, p, ⟨a, vs, e, t, r⟩ => by subst e; simp only [pd]; exact .tup t.sq (dps_of (ds := ds) (by simpa [plain] using p) r)
  | .lst ds, _, p, ⟨a, vs, e, t, r⟩ => by subst e; simp only [pd]; exact .lst t.sq (dps_of (ds := ds) (by simpa [plain] using p) r)
  | .dic _ _, _, p, _ => by simp [plain] at p
  | .ins _ _, _, p, _ => by simp [plain] at p
  | .fn _, _, p, _ => by simp [plain] at p
  | .scr _, _, p, _ => by simp [plain] at p
theorem dps_of {K : PySem.W.Frag} {H : Hp} {F : Addr → Prop} : ∀ {ds : List D} {vs : List V}, plains ds = true → Reps K H F ds vs → DpAll K H vs (pds ds)
  | [], _, _, h => by cases h; simp only [pds]; exact .nil
  | d :: ds, _, p, ⟨v, r, e, h, t⟩ => by
    subst e
    simp only [plains, Bool.and_eq_true] at p
    simp only [pds]
    exact .cons (dp_of (d := d) p.1 h) (dps_of (ds := ds) p.2 t)
end
theorem dpv_of {K : PySem.W.Frag} {H : Hp} {F : Addr → Prop} {d : D} {v : V} (p : plain d = true) (h : RepV K H F d v) : Dp K H v (pd d) := by
  cases d with
  | lst ds =>
    obtain ⟨a, vs, e, t, r⟩ := h
    subst e
    simp only [pd]
    exact .lst (SqL.of t) (dps_of (by simpa [plain] using p) r)
  | dic => simp [plain] at p
  | _ => exact dp_of (F := F) p h
theorem any_pds (x : D) (hx : plain x = true) : ∀ ds : List D, plains ds = true → ((pds ds).any fun y => PyData.eqv y (pd x)) = ds.any fun y => eqd y x
  | [], _ => by simp [pds]
  | d :: ds, h => by
    simp only [plains, Bool.and_eq_true] at h
    simp only [pds, List.any_cons]
    rw [pd_eqv d x h.1 hx, any_pds x hx ds h.2]
theorem plains_of {ds : List D} (h : ds.all cmpb = true) : plains ds = true := by
  induction ds with
  | nil => rfl
  | cons d ds ih =>
    simp only [List.all_cons, Bool.and_eq_true, cmpb] at h
    simp only [plains, Bool.and_eq_true]
    exact ⟨h.1.1, ih h.2⟩

theorem repV_key {K : PySem.W.Frag} {H : Hp} {F : Addr → Prop} {ks : List D} {d : D} {v : V} (h : keyOk ks d = true) (r : RepV K H F d v) : Rep K H F d v := by
  cases d <;> first | exact r | (simp [keyOk, isK1, isKT] at h)
def cop : COp → CmpOp
  | .eq => .Eq | .ne => .NotEq | .lt => .Lt | .le => .LtE | .gt => .Gt | .ge => .GtE | .is => .Is | .isnot => .IsNot | .inn => .In | .notin => .NotIn
abbrev CmD (X : Cx) (o : COp) : Prop :=
  OpR X (compareOp (cop o)) (fun x y H Q => ∃ d e b F, RepV X.K H F d x ∧ RepV X.K H F e y ∧ cmp o d e = some b ∧ Q (.bl b) H)
section
variable {X : Cx}
theorem cmD (hu : X.A.units + 100 < cLine) (o : COp) : CmD X o := by
  intro pins s σ H x y v u Q I rx ry h
  obtain ⟨d, e, b, F, rd, re, hb, k⟩ := h
  have eqs : ∀ {b : Bool}, eqD d e = some b → (∃ d' e', Dp X.K H x d' ∧ Dp X.K H y e' ∧ SeqAt.shaped d' = true ∧ SeqAt.shaped e' = true ∧ PyData.eqv d' e' = b) := fun {b} h => by
    unfold eqD at h
    split at h
    · rename_i hc
      rw [Bool.and_eq_true] at hc
      cases h
      have h1 := hc.1
      have h2 := hc.2
      simp only [cmpb, Bool.and_eq_true] at h1 h2
      exact ⟨pd d, pd e, dpv_of h1.1 rd, dpv_of h2.1 re, pd_shaped hc.1, pd_shaped hc.2, pd_eqv d e h1.1 h2.1⟩
    · cases h
  cases o with
  | eq =>
    obtain ⟨d', e', p1, p2, s1, s2, q⟩ := eqs hb
    exact op_eqD (by omega) pins s σ H x y v u Q I rx ry ⟨d', e', p1, p2, s1, s2, by rw [q]; exact k⟩
  | ne =>
    simp only [cmp, Option.map_eq_some_iff] at hb
    obtain ⟨b', hb, rfl⟩ := hb
    obtain ⟨d', e', p1, p2, s1, s2, q⟩ := eqs hb
    exact op_neD (by omega) pins s σ H x y v u Q I rx ry ⟨d', e', p1, p2, s1, s2, by rw [q]; exact k⟩
  | lt =>
    cases d <;> cases e <;> try (simp [cmp] at hb; done)
    cases rd; cases re
    simp only [cmp, Option.some.injEq] at hb; subst hb
    exact op_lt pins s σ H _ _ v u Q I rx ry ⟨_, _, rfl, rfl, k⟩
  | le =>
    cases d <;> cases e <;> try (simp [cmp] at hb; done)
    cases rd; cases re
    simp only [cmp, Option.some.injEq] at hb; subst hb
    exact op_le pins s σ H _ _ v u Q I rx ry ⟨_, _, rfl, rfl, k⟩
  | gt =>
    cases d <;> cases e <;> try (simp [cmp] at hb; done)
    cases rd; cases re
    simp only [cmp, Option.some.injEq] at hb; subst hb
    exact op_gt pins s σ H _ _ v u Q I rx ry ⟨_, _, rfl, rfl, k⟩
  | ge =>
    cases d <;> cases e <;> try (simp [cmp] at hb; done)
    cases rd; cases re
    simp only [cmp, Option.some.injEq] at hb; subst hb
    exact op_ge pins s σ H _ _ v u Q I rx ry ⟨_, _, rfl, rfl, k⟩
  | is =>
    cases e <;> try (simp [cmp] at hb; done)
    cases re
    have e1 : decide (x = V.non) = b := by
      simp only [cmp, Option.some.injEq] at hb; subst hb
      cases d <;> first | (cases rd; rfl) | (obtain ⟨a, vs, rfl, _⟩ := rd; rfl) | (obtain ⟨a, rfl, _⟩ := rd; rfl) | exact False.elim rd
    exact op_isN pins s σ H _ _ v u Q I rx ry ⟨rfl, by rw [e1]; exact k⟩
  | isnot =>
    cases e <;> try (simp [cmp] at hb; done)
    cases re
    have e1 : (!decide (x = V.non)) = b := by
      simp only [cmp, Option.some.injEq] at hb; subst hb
      cases d <;> first | (cases rd; rfl) | (obtain ⟨a, vs, rfl, _⟩ := rd; rfl) | (obtain ⟨a, rfl, _⟩ := rd; rfl) | exact False.elim rd
    exact op_notN pins s σ H _ _ v u Q I rx ry ⟨rfl, by rw [e1]; exact k⟩
  | inn =>
    have go : ∀ {ds : List D}, isIn d ds = some b → ∃ as, Reads s.heap v (pd d) as ∧ (pd d).canLay0 = true ∧ PyData.canLayAll0 (pds ds) = true ∧ X.A.units + 1 + min (PyData.depthAll (pds ds)) (pd d).depth < cLine ∧ ((pds ds).any fun y => PyData.eqv y (pd d)) = b ∧ plains ds = true := fun {ds} hb => by
      unfold isIn at hb
      split at hb
      · rename_i hc
        rw [Bool.and_eq_true] at hc
        have h1 := hc.1
        simp only [cmpb, Bool.and_eq_true] at h1
        have h2 := plains_of hc.2
        obtain ⟨as, r1⟩ := Dp.reads I (pd d) x v (dpv_of h1.1 rd) rx
        exact ⟨as, r1, pd_lay d h1.1, pds_lay ds h2, PyProof.Rows.room_in_shaped (pd_shaped hc.1) (by omega), by rw [any_pds d h1.1 ds h2]; simpa using hb, h2⟩
      · cases hb
    cases e <;> try (simp [cmp] at hb; done)
    case lst ds =>
      obtain ⟨as, r1, c1, c2, hr, hv, hp⟩ := go (ds := ds) hb
      obtain ⟨bs, r2⟩ := Dp.reads I (.list (pds ds)) y u (by have := dpv_of (d := .lst ds) (by simpa [plain] using hp) re; simpa [pd] using this) ry
      exact SeqAt.in_list_reads r2 r1 c2 c1 hr ⟨.bl _, H, I, rfl, by rw [hv]; exact k⟩
    case tup ds =>
      obtain ⟨as, r1, c1, c2, hr, hv, hp⟩ := go (ds := ds) hb
      obtain ⟨bs, r2⟩ := Dp.reads I (.tuple (pds ds)) y u (by have := dpv_of (d := .tup ds) (by simpa [plain] using hp) re; simpa [pd] using this) ry
      exact SeqAt.in_tuple_reads r2 r1 c2 c1 hr ⟨.bl _, H, I, rfl, by rw [hv]; exact k⟩
    case dic ks ds =>
      simp only [cmp] at hb
      split at hb
      · rename_i hk
        cases hb
        obtain ⟨a, vs, rfl, ⟨o, eo, c⟩, _⟩ := re
        exact op_inDc (by omega) pins s σ H _ _ v u Q I rx ry ⟨a, o, ks, vs, d, F, rfl, eo, c, hk, repV_key hk rd, k⟩
      · cases hb
  | notin =>
    have go : ∀ {ds : List D}, (isIn d ds).map (!·) = some b → ∃ as, Reads s.heap v (pd d) as ∧ (pd d).canLay0 = true ∧ PyData.canLayAll0 (pds ds) = true ∧ X.A.units + 1 + min (PyData.depthAll (pds ds)) (pd d).depth < cLine ∧ (!((pds ds).any fun y => PyData.eqv y (pd d))) = b ∧ plains ds = true := fun {ds} hb => by
      obtain ⟨b', hb, rfl⟩ := Option.map_eq_some_iff.mp hb
      unfold isIn at hb
      split at hb
      · rename_i hc
        rw [Bool.and_eq_true] at hc
        have h1 := hc.1
        simp only [cmpb, Bool.and_eq_true] at h1
        have h2 := plains_of hc.2
        obtain ⟨as, r1⟩ := Dp.reads I (pd d) x v (dpv_of h1.1 rd) rx
        exact ⟨as, r1, pd_lay d h1.1, pds_lay ds h2, PyProof.Rows.room_in_shaped (pd_shaped hc.1) (by omega), by rw [any_pds d h1.1 ds h2]; simpa using hb, h2⟩
      · cases hb
    cases e <;> try (simp [cmp] at hb; done)
    case lst ds =>
      obtain ⟨as, r1, c1, c2, hr, hv, hp⟩ := go (ds := ds) hb
      obtain ⟨bs, r2⟩ := Dp.reads I (.list (pds ds)) y u (by have := dpv_of (d := .lst ds) (by simpa [plain] using hp) re; simpa [pd] using this) ry
      exact SeqAt.notIn_list_reads r2 r1 c2 c1 hr ⟨.bl _, H, I, rfl, by rw [hv]; exact k⟩
    case tup ds =>
      obtain ⟨as, r1, c1, c2, hr, hv, hp⟩ := go (ds := ds) hb
      obtain ⟨bs, r2⟩ := Dp.reads I (.tuple (pds ds)) y u (by have := dpv_of (d := .tup ds) (by simpa [plain] using hp) re; simpa [pd] using this) ry
      exact SeqAt.notIn_tuple_reads r2 r1 c2 c1 hr ⟨.bl _, H, I, rfl, by rw [hv]; exact k⟩
    case dic ks ds =>
      simp only [cmp] at hb
      split at hb
      · rename_i hk
        cases hb
        obtain ⟨a, vs, rfl, ⟨o, eo, c⟩, _⟩ := re
        exact op_notinDc (by omega) pins s σ H _ _ v u Q I rx ry ⟨a, o, ks, vs, d, F, rfl, eo, c, hk, repV_key hk rd, k⟩
      · cases hb
end
end Rf

/-! Rg, part E0: a tuple collected; sorted of a tuple. -/
namespace Rf
open PySem PySem.Spec PyProof.Rows L2
section
variable {prog : Program} {w : World} {A : Around} {E : Value → Shared → Prop} {s : Shared}
abbrev gathered (h : Heap) (vs : List Value) : Heap := (h.push (seqObj "list" #[] 0)).update h.objs.size (Obj.mapSeq (· ++ vs.toArray))
theorem collect_tup {l : Addr} {vs : List Value} {Q : List Value → Shared → Prop} (ht : IsTup s.heap l vs.toArray) (h : Q vs { s with heap := gathered s.heap vs }) (hsz : vs.length ≤ sizeLine) :
    wpAny (model prog w) A (collect (.ref l)) Q E s := by
  obtain ⟨o, ho, hc, n, hd⟩ := id ht
  have ho2 : (s.heap.push (seqObj "list" #[] 0)).get? l = some o := Heap.get?_push_of_some _ ho
  have new0 : (s.heap.push (seqObj "list" #[] 0)).get? s.heap.objs.size = some (seqObj "list" #[] 0) := Heap.get?_push_size _ rfl
  have isT : (Value.type "tuple" == Value.type "tuple") = true := by rfl
  have catE : ((#[] : Array Value) ++ vs.toArray).toList = vs := by simp
  unfold collect
  refine wpAny_bind (wpAny_runValue (codeAny_builtin PyProof.Rows.entry_proto_collect' ?_))
  show wpAny _ _ (newList [] >>= fun ls => again (.builtin "list.__iadd__" ⟨[ls, .ref l], []⟩)) _ _ s
  refine wpAny_bind (wpAny_newList (wpAny_pure ⟨Code.quiet_builtin _ (by decide +kernel), codeAny_builtin PyProof.Rows.entry_list_iadd' ?_⟩))
  show wpAny _ _ (Builtin.List.listExtendWith (.ref s.heap.objs.size) (.ref l) _) _ _ { s with heap := s.heap.push (seqObj "list" #[] 0) }
  unfold Builtin.List.listExtendWith
  refine wpAny_bind (wpAny_typeOf (T := "tuple") ⟨o, ho2, hc⟩ ?_)
  rw [if_pos (by rw [isT]; simp)]
  refine wpAny_bind (listItems_at ho2 hd (wpAny_bind (listItems_at (xs := #[]) (n := 0) new0 rfl ?_)))
  rw [if_neg (by simp)]
  refine wpAny_bind (listUpdate_at (xs := #[]) (n := 0) new0 rfl (wpAny_pure ?_) (Nat.zero_le _) (by show (#[] ++ vs.toArray).size ≤ sizeLine + 1; simp only [Array.size_append, List.size_toArray, List.length_nil]; omega))
  refine wpAny_bind (wpAny_load (get?_update_seq new0 _) ?_)
  refine (show wpAny (model prog w) A (pure ((#[] : Array Value) ++ vs.toArray).toList) Q E { s with heap := gathered s.heap vs } from ?_)
  rw [catE]
  exact wpAny_pure h
theorem sorted_ordT {l : Addr} {vs : List Value} {lt : Value → Value → Bool} {Q : Value → Shared → Prop} (O : SrtO.Swo lt) (ht : IsTup s.heap l vs.toArray) (hz : vs.length ≤ sizeLine)
    (hS : 2 ≤ vs.length → ∀ (h1 : Heap) (a : Addr), h1.get? a = some (seqObj "list" vs.toArray 0) → (∀ b o, s.heap.get? b = some o → b ≠ a ∧ h1.get? b = some o) → SrtO.SortableO prog w A.in1.in1 { s with heap := h1 } a vs lt)
    (h : ∀ out : List Value, SrtO.Srtd lt out → SrtO.Stb lt out vs → Q (.ref (s.heap.objs.size + 1)) { s with heap := sortedAll s.heap vs out.toArray }) :
    wpAny (model prog w) A (call (.builtin "sorted") [.ref l]) Q E s := by
  have sz : (gathered s.heap vs).objs.size = s.heap.objs.size + 1 := by rw [Heap.size_update, size_push']
  have atL : ((gathered s.heap vs).push (seqObj "list" vs.toArray 0)).get? (s.heap.objs.size + 1) = some (seqObj "list" vs.toArray 0) := by
    rw [← sz]
    exact Heap.get?_push_size _ rfl
  have stay : ∀ b o, s.heap.get? b = some o → b ≠ s.heap.objs.size + 1 ∧ ((gathered s.heap vs).push (seqObj "list" vs.toArray 0)).get? b = some o := fun b o e => by
    have lt : b < s.heap.objs.size := Heap.lt_size e
    refine ⟨Nat.ne_of_lt (Nat.lt_succ_of_lt lt), Heap.get?_push_of_some _ ?_⟩
    rw [Heap.get?_update_ne _ _ _ _ (Nat.ne_of_lt lt)]
    exact Heap.get?_push_of_some _ e
  refine Calls.call_function_entry PyProof.Rows.kind_sorted PyProof.Rows.plain_sorted PyProof.Rows.entry_sorted (PyProof.Rows.args_sorted1 _) ?_
  unfold Builtin.«sorted»
  refine wpAny_bind (m := checkCount "sorted" 1 1 _) (wpAny_pure (wpAny_bind (collect_tup ht (wpAny_bind (wpAny_newList ?_ hz)) hz)))
  show wpAny _ _ _ _ _ { s with heap := (gathered s.heap vs).push (seqObj "list" vs.toArray 0) }
  rw [sz]
  refine wpAny_bind (wpAny_holding (wpAny_call_entry PyProof.Rows.slot_list_sort ⟨_, atL, rfl⟩ PyProof.Rows.entry_list_sort (SrtO.list_sort_ord O atL hz (fun h2 => hS h2 _ _ atL stay) fun out h1 h2 => ⟨_, rfl, ?_⟩) (PyProof.Rows.args_list_sort _)))
  exact wpAny_pure ⟨_, rfl, h out h1 h2⟩
end
def rSortedTu (K : PySem.W.Frag) : List V → Hp → VK → Prop := fun vs H Q => ∃ (a : Addr) (ns : List Int), vs = [V.ref a] ∧ SqT K H a (ns.map V.int) ∧ ∀ (ns' : List Int) (p : Addr), ns'.Perm ns → ns'.Pairwise (· ≤ ·) → H p = none → Q (.ref p) (upd H p (.lst (ns'.map V.int)))
theorem cr_sortedTu {X : Cx} : CallR X (.builtin "sorted") (rSortedTu X.K) := by
  intro pins s σ H vs us Q I r ⟨a, ns, ev, hs, q⟩
  subst ev
  obtain ⟨its, rv, hl, hz⟩ := I.tuple hs
  rw [Vals.ref1 r]
  have isI := rv.ints
  refine sorted_ordT SrtO.swo_int hl (by rw [← rv.length]; exact hz) (fun h2 h1 a2 _ _ => SrtO.ints_sortable isI h2) fun out o1 o2 => ?_
  obtain ⟨k1, k2, k3⟩ := SrtO.ints_out isI o1 o2
  obtain ⟨ep, at_⟩ := PyProof.Rows.sortedAll_at s.heap its out.toArray
  have len : ((out.map SrtO.iv).map V.int).length ≤ sizeLine := by
    rw [List.length_map, k2.length_eq]
    simpa using hz
  exact ⟨.ref _, _, I.laid (t' := s.toks) (o := .lst ((out.map SrtO.iv).map V.int)) (fun _ _ => PyProof.Rows.sortedAll_old) (Nat.le_succ _) ⟨len, out, ep, vals_of_ints k1, at_⟩, rfl, q _ _ k2 k3 (I.hok.fresh (Nat.le_succ _))⟩
end Rf

/-! Rf, part E: built-in functions, isinstance, items and slices by trees. -/
namespace Rf
open PySem PySem.Spec PyProof.Rows L2

theorem reps_ints {K : PySem.W.Frag} {H : Hp} {F : Addr → Prop} : ∀ {ds : List D} {vs : List V} {l : List Int}, Reps K H F ds vs → intsOf ds = some l → vs = l.map V.int ∧ ds = l.map D.int
  | [], _, _, h, e => by cases h; cases e; exact ⟨rfl, rfl⟩
  | d :: ds, _, l, ⟨v, r, e1, h, t⟩, e => by
    subst e1
    cases d <;> try (simp [intsOf] at e; done)
    rename_i i
    simp only [intsOf, Option.map_eq_some_iff] at e
    obtain ⟨l', e2, rfl⟩ := e
    cases h
    obtain ⟨h1, h2⟩ := reps_ints t e2
    exact ⟨by rw [h1]; rfl, by rw [h2]; rfl⟩
theorem reps_bools {K : PySem.W.Frag} {H : Hp} {F : Addr → Prop} : ∀ {ds : List D} {vs : List V} {l : List Bool}, Reps K H F ds vs → boolsOf ds = some l → vs = l.map V.bl
  | [], _, _, h, e => by cases h; cases e; rfl
  | d :: ds, _, l, ⟨v, r, e1, h, t⟩, e => by
    subst e1
    cases d <;> try (simp [boolsOf] at e; done)
    rename_i i
    simp only [boolsOf, Option.map_eq_some_iff] at e
    obtain ⟨l', e2, rfl⟩ := e
    cases h
    rw [reps_bools t e2]; rfl
theorem reps_of_ints {K : PySem.W.Frag} {H : Hp} {F : Addr → Prop} : ∀ l : List Int, Reps K H F (l.map D.int) (l.map V.int)
  | [] => rfl
  | i :: l => ⟨_, _, rfl, rfl, reps_of_ints l⟩
theorem minI_spec {l : List Int} {m : Int} (h : minI l = some m) : 0 < l.length ∧ ∀ k, k ∈ l → (∀ y ∈ l, k ≤ y) → k = m := by
  cases l with
  | nil => cases h
  | cons x r =>
    simp only [minI, Option.some.injEq] at h
    have key : ∀ (r : List Int) (x : Int), (r.foldl (fun a b => if b < a then b else a) x) ∈ x :: r ∧ ∀ y ∈ x :: r, r.foldl (fun a b => if b < a then b else a) x ≤ y := by
      intro r
      induction r with
      | nil => intro x; simp
      | cons z r ih =>
        intro x
        simp only [List.foldl_cons]
        by_cases hz : z < x
        · rw [if_pos hz]
          obtain ⟨h1, h2⟩ := ih z
          refine ⟨List.mem_cons_of_mem _ h1, fun y hy => ?_⟩
          rcases List.mem_cons.mp hy with rfl | hy
          · have := h2 z List.mem_cons_self; omega
          · exact h2 y hy
        · rw [if_neg hz]
          obtain ⟨h1, h2⟩ := ih x
          refine ⟨?_, fun y hy => ?_⟩
          · rcases List.mem_cons.mp h1 with h | h
            · rw [h]; exact List.mem_cons_self
            · exact List.mem_cons_of_mem _ (List.mem_cons_of_mem _ h)
          · rcases List.mem_cons.mp hy with rfl | hy
            · exact h2 y List.mem_cons_self
            · rcases List.mem_cons.mp hy with rfl | hy
              · have := h2 x List.mem_cons_self; omega
              · exact h2 y (List.mem_cons_of_mem _ hy)
    obtain ⟨h1, h2⟩ := key r x
    rw [h] at h1 h2
    exact ⟨by simp, fun k hk hall => by have a1 := hall m h1; have a2 := h2 k hk; omega⟩
theorem maxI_spec {l : List Int} {m : Int} (h : maxI l = some m) : 0 < l.length ∧ ∀ k, k ∈ l → (∀ y ∈ l, y ≤ k) → k = m := by
  cases l with
  | nil => cases h
  | cons x r =>
    simp only [maxI, Option.some.injEq] at h
    have key : ∀ (r : List Int) (x : Int), (r.foldl (fun a b => if b > a then b else a) x) ∈ x :: r ∧ ∀ y ∈ x :: r, y ≤ r.foldl (fun a b => if b > a then b else a) x := by
      intro r
      induction r with
      | nil => intro x; simp
      | cons z r ih =>
        intro x
        simp only [List.foldl_cons]
        by_cases hz : z > x
        · rw [if_pos hz]
          obtain ⟨h1, h2⟩ := ih z
          refine ⟨List.mem_cons_of_mem _ h1, fun y hy => ?_⟩
          rcases List.mem_cons.mp hy with rfl | hy
          · have := h2 z List.mem_cons_self; omega
          · exact h2 y hy
        · rw [if_neg hz]
          obtain ⟨h1, h2⟩ := ih x
          refine ⟨?_, fun y hy => ?_⟩
          · rcases List.mem_cons.mp h1 with h | h
            · rw [h]; exact List.mem_cons_self
            · exact List.mem_cons_of_mem _ (List.mem_cons_of_mem _ h)
          · rcases List.mem_cons.mp hy with rfl | hy
            · exact h2 y List.mem_cons_self
            · rcases List.mem_cons.mp hy with rfl | hy
              · have := h2 x List.mem_cons_self; omega
              · exact h2 y (List.mem_cons_of_mem _ hy)
    obtain ⟨h1, h2⟩ := key r x
    rw [h] at h1 h2
    exact ⟨by simp, fun k hk hall => by have a1 := hall m h1; have a2 := h2 k hk; omega⟩
theorem insI_perm (x : Int) : ∀ l : List Int, (insI x l).Perm (x :: l)
  | [] => .refl _
  | y :: r => by
    unfold insI
    split
    · exact .refl _
    · exact ((insI_perm x r).cons y).trans (.swap x y r)
theorem insI_sorted (x : Int) : ∀ {l : List Int}, l.Pairwise (· ≤ ·) → (insI x l).Pairwise (· ≤ ·)
  | [], _ => by simp [insI]
  | y :: r, h => by
    unfold insI
    have h1 := List.pairwise_cons.mp h
    split
    · rename_i hx
      refine List.pairwise_cons.mpr ⟨fun z hz => ?_, h⟩
      rcases List.mem_cons.mp hz with rfl | hz
      · exact hx
      · have := h1.1 z hz; omega
    · rename_i hx
      refine List.pairwise_cons.mpr ⟨fun z hz => ?_, insI_sorted x h1.2⟩
      rcases List.mem_cons.mp ((insI_perm x r).mem_iff.mp hz) with rfl | hz
      · omega
      · exact h1.1 z hz
theorem sortI_perm : ∀ l : List Int, (sortI l).Perm l
  | [] => .refl _
  | x :: r => (insI_perm x (sortI r)).trans ((sortI_perm r).cons x)
theorem sortI_sorted : ∀ l : List Int, (sortI l).Pairwise (· ≤ ·)
  | [] => .nil
  | x :: r => insI_sorted x (sortI_sorted r)
theorem sorted_unique : ∀ {a b : List Int}, a.Pairwise (· ≤ ·) → b.Pairwise (· ≤ ·) → a.Perm b → a = b := fun {a b} ha hb p =>
  List.Perm.eq_of_pairwise (le := (· ≤ ·)) (fun x y _ _ h1 h2 => by omega) ha hb p

section
variable {X : Cx}
abbrev P1D (X : Cx) (f : Value) (p : P1) : Prop :=
  CallR X f (fun xs H Q => ∃ x d z F, xs = [x] ∧ (∀ a, F a → H a ≠ none) ∧ RepV X.K H F d x ∧ p1 p d = some z ∧ ResK X.K H F z Q)
theorem p1_len : P1D X (.builtin "len") .len := by
  intro pins s σ H xs us Q I rs h
  obtain ⟨x, d, z, F, rfl, fn, rd, hz, k⟩ := h
  cases d <;> try (simp [p1] at hz; done)
  case str t =>
    cases rd
    simp only [p1] at hz
    split at hz
    · rename_i hl
      cases hz
      exact call_len_str pins s σ H _ us Q I rs ⟨t, rfl, hl, k _ H (Same.refl H) rfl⟩
    · cases hz
  case tup ds =>
    obtain ⟨a, vs, rfl, ta, ra⟩ := rd
    simp only [p1, Option.some.injEq] at hz
    subst hz
    exact call_len_seq pins s σ H _ us Q I rs ⟨a, vs, rfl, .inr ta.sq, k _ H (Same.refl H) (by rw [← ra.length]; rfl)⟩
  case lst ds =>
    obtain ⟨a, vs, rfl, ta, ra⟩ := rd
    simp only [p1, Option.some.injEq] at hz
    subst hz
    exact call_len_seq pins s σ H _ us Q I rs ⟨a, vs, rfl, .inl (SqL.of ta), k _ H (Same.refl H) (by rw [← ra.length]; rfl)⟩
  case dic ks ds =>
    obtain ⟨a, vs, rfl, ⟨o, eo, c⟩, _⟩ := rd
    simp only [p1, Option.some.injEq] at hz
    subst hz
    exact len_Dc I eo c (k _ H (Same.refl H) rfl) rs
theorem p1_sum (hc : X.calm = true) : P1D X (.builtin "sum") .sum := by
  intro pins s σ H xs us Q I rs h
  obtain ⟨x, d, z, F, rfl, fn, rd, hz, k⟩ := h
  cases d <;> try (simp [p1, seqOf] at hz; done)
  case tup ds =>
    obtain ⟨a, vs, rfl, ta, ra⟩ := rd
    simp only [p1, seqOf, Option.bind_some, Option.map_eq_some_iff] at hz
    obtain ⟨l, hl, rfl⟩ := hz
    obtain ⟨rfl, rfl⟩ := reps_ints ra hl
    obtain ⟨its, rv, ht, _⟩ := I.tuple ta.sq
    rw [Vals.ref1 rs]
    have hi := rv.ints
    obtain ⟨xs, e⟩ := hi.allInts.items
    have hn : numsOf (intItems xs).toList = l := by rw [← e]; exact hi.numsOf
    rw [nums_intItems] at hn
    rw [e] at ht
    refine PySem.W.ktm_sumG (I.ok.hd hc) (show s.heap.IsTuple a (intItems xs) from ht) fun h' tk t' hk => ?_
    rw [preSum_eq, List.take_of_length_le (by simp), hn]
    exact ⟨.int _, H, I.kept hk, ⟨_, rfl⟩, k _ H (Same.refl H) rfl⟩
  case lst ds =>
    obtain ⟨a, vs, rfl, ta, ra⟩ := rd
    simp only [p1, seqOf, Option.bind_some, Option.map_eq_some_iff] at hz
    obtain ⟨l, hl, rfl⟩ := hz
    obtain ⟨rfl, rfl⟩ := reps_ints ra hl
    exact cr_sum hc pins s σ H _ us Q I rs ⟨a, l, rfl, SqL.of ta, k _ H (Same.refl H) rfl⟩
theorem p1_min (hc : X.calm = true) : P1D X (.builtin "min") .min := by
  intro pins s σ H xs us Q I rs h
  obtain ⟨x, d, z, F, rfl, fn, rd, hz, k⟩ := h
  cases d <;> try (simp [p1] at hz; done)
  case lst ds =>
    obtain ⟨a, vs, rfl, ta, ra⟩ := rd
    simp only [p1, Option.bind_eq_some_iff, Option.map_eq_some_iff] at hz
    obtain ⟨l, hl, m, hm, rfl⟩ := hz
    obtain ⟨rfl, rfl⟩ := reps_ints ra hl
    obtain ⟨h1, h2⟩ := minI_spec hm
    exact cr_min hc pins s σ H _ us Q I rs ⟨a, l, rfl, SqL.of ta, h1, fun m' hm' hall => k _ H (Same.refl H) (by rw [h2 m' hm' hall]; rfl)⟩
theorem p1_max (hc : X.calm = true) : P1D X (.builtin "max") .max := by
  intro pins s σ H xs us Q I rs h
  obtain ⟨x, d, z, F, rfl, fn, rd, hz, k⟩ := h
  cases d <;> try (simp [p1] at hz; done)
  case lst ds =>
    obtain ⟨a, vs, rfl, ta, ra⟩ := rd
    simp only [p1, Option.bind_eq_some_iff, Option.map_eq_some_iff] at hz
    obtain ⟨l, hl, m, hm, rfl⟩ := hz
    obtain ⟨rfl, rfl⟩ := reps_ints ra hl
    obtain ⟨h1, h2⟩ := maxI_spec hm
    exact cr_max hc pins s σ H _ us Q I rs ⟨a, l, rfl, SqL.of ta, h1, fun m' hm' hall => k _ H (Same.refl H) (by rw [h2 m' hm' hall]; rfl)⟩
theorem p1_sorted : P1D X (.builtin "sorted") .sorted := by
  intro pins s σ H xs us Q I rs h
  obtain ⟨x, d, z, F, rfl, fn, rd, hz, k⟩ := h
  cases d <;> try (simp [p1] at hz; done)
  case lst ds =>
    obtain ⟨a, vs, rfl, ta, ra⟩ := rd
    simp only [p1, Option.map_eq_some_iff] at hz
    obtain ⟨l, hl, rfl⟩ := hz
    obtain ⟨rfl, rfl⟩ := reps_ints ra hl
    refine cr_sortedI pins s σ H _ us Q I rs ⟨a, l, rfl, SqL.of ta, fun ns p hp hs hn => ?_⟩
    have e : ns = sortI l := sorted_unique hs (sortI_sorted l) (hp.trans (sortI_perm l).symm)
    subst e
    exact k p _ hn (reps_of_ints _)
  case tup ds =>
    obtain ⟨a, vs, rfl, ta, ra⟩ := rd
    simp only [p1, Option.map_eq_some_iff] at hz
    obtain ⟨l, hl, rfl⟩ := hz
    obtain ⟨rfl, rfl⟩ := reps_ints ra hl
    refine cr_sortedTu pins s σ H _ us Q I rs ⟨a, l, rfl, ta.sq, fun ns p hp hs hn => ?_⟩
    have e : ns = sortI l := sorted_unique hs (sortI_sorted l) (hp.trans (sortI_perm l).symm)
    subst e
    exact k p _ hn (reps_of_ints _)
theorem p1_tuple : P1D X (.type "tuple") .tuple := by
  intro pins s σ H xs us Q I rs h
  obtain ⟨x, d, z, F, rfl, fn, rd, hz, k⟩ := h
  cases d <;> try (simp [p1] at hz; done)
  case tup ds =>
    obtain ⟨a, vs, rfl, ta, ra⟩ := rd
    simp only [p1, Option.some.injEq] at hz; subst hz
    exact call_tuple_of pins s σ H _ us Q I rs ⟨a, vs, rfl, .inr ⟨ta.sq, k _ H (Same.refl H) ⟨a, vs, rfl, ta, ra⟩⟩⟩
  case lst ds =>
    obtain ⟨a, vs, rfl, ta, ra⟩ := rd
    simp only [p1, Option.some.injEq] at hz; subst hz
    refine call_tuple_of pins s σ H _ us Q I rs ⟨a, vs, rfl, .inl ⟨SqL.of ta, fun p hp => ?_⟩⟩
    have sm : Same H (upd H p (.tup vs)) := same_upd hp
    exact k _ _ sm ⟨p, vs, rfl, ⟨upd_same, fun f => fn p f hp⟩, ra.mono (Mono.same sm)⟩
theorem p1_list : P1D X (.type "list") .list := by
  intro pins s σ H xs us Q I rs h
  obtain ⟨x, d, z, F, rfl, fn, rd, hz, k⟩ := h
  cases d <;> try (simp [p1] at hz; done)
  case tup ds =>
    obtain ⟨a, vs, rfl, ta, ra⟩ := rd
    simp only [p1, Option.some.injEq] at hz; subst hz
    exact call_list_of pins s σ H _ us Q I rs ⟨a, vs, rfl, .inr ta.sq, fun p hp => k p vs hp ra⟩
  case lst ds =>
    obtain ⟨a, vs, rfl, ta, ra⟩ := rd
    simp only [p1, Option.some.injEq] at hz; subst hz
    exact call_list_of pins s σ H _ us Q I rs ⟨a, vs, rfl, .inl (SqL.of ta), fun p hp => k p vs hp ra⟩
/-! len(set(..)) of a tuple of numbers: the number of unlike ones -/
theorem dedup_count : ∀ (l : List Int), True := fun _ => trivial
theorem p1_all (hc : X.calm = true) : P1D X (.builtin "all") .all := by
  intro pins s σ H xs us Q I rs h
  obtain ⟨x, d, z, F, rfl, fn, rd, hz, k⟩ := h
  cases d <;> try (simp [p1] at hz; done)
  case lst ds =>
    obtain ⟨a, vs, rfl, ta, ra⟩ := rd
    simp only [p1, Option.map_eq_some_iff] at hz
    obtain ⟨l, hl, rfl⟩ := hz
    obtain rfl := reps_bools ra hl
    exact cr_all hc pins s σ H _ us Q I rs ⟨a, l, rfl, SqL.of ta, k _ H (Same.refl H) rfl⟩
theorem p1_any (hc : X.calm = true) : P1D X (.builtin "any") .any := by
  intro pins s σ H xs us Q I rs h
  obtain ⟨x, d, z, F, rfl, fn, rd, hz, k⟩ := h
  cases d <;> try (simp [p1] at hz; done)
  case lst ds =>
    obtain ⟨a, vs, rfl, ta, ra⟩ := rd
    simp only [p1, Option.map_eq_some_iff] at hz
    obtain ⟨l, hl, rfl⟩ := hz
    obtain rfl := reps_bools ra hl
    exact cr_any hc pins s σ H _ us Q I rs ⟨a, l, rfl, SqL.of ta, k _ H (Same.refl H) rfl⟩
theorem p1_abs : P1D X (.builtin "abs") .abs := by
  intro pins s σ H xs us Q I rs h
  obtain ⟨x, d, z, F, rfl, fn, rd, hz, k⟩ := h
  cases d <;> try (simp [p1] at hz; done)
  cases rd
  simp only [p1, Option.some.injEq] at hz; subst hz
  exact call_abs pins s σ H _ us Q I rs ⟨_, rfl, k _ H (Same.refl H) rfl⟩
theorem p1_int : P1D X (.type "int") .int := by
  intro pins s σ H xs us Q I rs h
  obtain ⟨x, d, z, F, rfl, fn, rd, hz, k⟩ := h
  cases d <;> try (simp [p1] at hz; done)
  · cases rd
    simp only [p1, Option.some.injEq] at hz; subst hz
    exact call_int1 pins s σ H _ us Q I rs (.inr ⟨_, rfl, k _ H (Same.refl H) rfl⟩)
  · cases rd
    simp only [p1, Option.some.injEq] at hz; subst hz
    exact call_int1 pins s σ H _ us Q I rs (.inl ⟨_, rfl, k _ H (Same.refl H) rfl⟩)
theorem p1_bool : P1D X (.type "bool") .bool := by
  intro pins s σ H xs us Q I rs h
  obtain ⟨x, d, z, F, rfl, fn, rd, hz, k⟩ := h
  cases d <;> try (simp [p1] at hz; done)
  · cases rd
    simp only [p1, Option.some.injEq] at hz; subst hz
    exact call_bool1 pins s σ H _ us Q I rs (.inr ⟨_, rfl, k _ H (Same.refl H) rfl⟩)
  · cases rd
    simp only [p1, Option.some.injEq] at hz; subst hz
    exact call_bool1 pins s σ H _ us Q I rs (.inl ⟨_, rfl, k _ H (Same.refl H) (by simp only [Rep]; congr 1; rw [Bool.eq_iff_iff]; simp)⟩)
abbrev P2D (X : Cx) (f : Value) (p : P2) : Prop :=
  CallR X f (fun xs H Q => ∃ x y d e z F, xs = [x, y] ∧ (∀ a, F a → H a ≠ none) ∧ RepV X.K H F d x ∧ RepV X.K H F e y ∧ p2 p d e = some z ∧ ResK X.K H F z Q)
theorem p2_min (hc : X.calm = true) : P2D X (.builtin "min") .min := by
  intro pins s σ H xs us Q I rs h
  obtain ⟨x, y, d, e, z, F, rfl, fn, rd, re, hz, k⟩ := h
  cases d <;> cases e <;> try (simp [p2] at hz; done)
  cases rd; cases re
  simp only [p2, Option.some.injEq] at hz; subst hz
  exact call_min2 hc pins s σ H _ us Q I rs ⟨_, _, rfl, k _ H (Same.refl H) rfl⟩
theorem p2_max (hc : X.calm = true) : P2D X (.builtin "max") .max := by
  intro pins s σ H xs us Q I rs h
  obtain ⟨x, y, d, e, z, F, rfl, fn, rd, re, hz, k⟩ := h
  cases d <;> cases e <;> try (simp [p2] at hz; done)
  cases rd; cases re
  simp only [p2, Option.some.injEq] at hz; subst hz
  exact call_max2 hc pins s σ H _ us Q I rs ⟨_, _, rfl, k _ H (Same.refl H) rfl⟩

/-! ### items, slices -/
theorem atI_reps {K : PySem.W.Frag} {H : Hp} {F : Addr → Prop} {ds : List D} {vs : List V} {i : Int} {d : D} (r : Reps K H F ds vs) (h : atI ds i = some d) : ∃ v, atI vs i = some v ∧ Rep K H F d v := by
  unfold atI at *
  rw [← r.length]
  cases e : L2.ixN ds.length i with
  | none => rw [e] at h; cases h
  | some j =>
    rw [e] at h
    exact r.get h
theorem ixD (hu : X.A.units + 100 < cLine) : IxR X (fun x y H Q => ∃ d e z F, (∀ a, F a → H a ≠ none) ∧ RepV X.K H F d x ∧ RepV X.K H F e y ∧ item d e = some z ∧ ∀ v, Rep X.K H F z v → Q v H) := by
  intro value slice pins s σ H x y v u Q I rx ry h hs
  obtain ⟨d, e, z, F, fn, rd, re, hz, k⟩ := h
  cases d
  case dic ks ds =>
    simp only [item] at hz
    split at hz
    · rename_i hk
      obtain ⟨a, vs, rfl, ⟨o, eo, c⟩, r⟩ := rd
      exact ix_dict (by omega) value slice pins s σ H _ _ v u Q I rx ry ⟨a, o, ks, ds, vs, e, z, F, rfl, eo, c, r, hk, repV_key hk re, hz, k⟩ hs
    · cases hz
  all_goals cases e <;> try (simp [item] at hz; done)
  · obtain ⟨a, vs, rfl, ta, ra⟩ := rd
    cases re
    obtain ⟨v', hv, rv⟩ := atI_reps ra hz
    exact ix_tup value slice pins s σ H _ _ v u Q I rx ry ⟨a, vs, _, v', rfl, rfl, ta.sq, hv, k v' rv⟩ hs
  · obtain ⟨a, vs, rfl, ta, ra⟩ := rd
    cases re
    obtain ⟨v', hv, rv⟩ := atI_reps ra hz
    exact ix_list value slice pins s σ H _ _ v u Q I rx ry ⟨a, vs, _, v', rfl, rfl, SqL.of ta, hv, k v' rv⟩ hs
theorem cut_reps {K : PySem.W.Frag} {H : Hp} {F : Addr → Prop} {ds : List D} {vs : List V} (lo hi : Option Int) (r : Reps K H F ds vs) : Reps K H F (cut ds lo hi) (cutV vs lo hi) := by
  unfold cut cutV
  rw [← r.length]
  exact (r.drop _).take _
theorem slD : SlR X (fun x lo hi H Q => ∃ d z F, (∀ a, F a → H a ≠ none) ∧ RepV X.K H F d x ∧ slice d lo hi = some z ∧ ResK X.K H F z Q) := by
  intro pins s σ H x v vl vu lo hi sl Q I rx hs pl pu h
  obtain ⟨d, z, F, fn, rd, hz, k⟩ := h
  cases d <;> try (simp [slice] at hz; done)
  · obtain ⟨a, vs, rfl, ta, ra⟩ := rd
    simp only [slice, Option.some.injEq] at hz; subst hz
    refine sl_tupA pins s σ H _ v vl vu lo hi sl Q I rx hs pl pu ⟨a, vs, rfl, ta.sq, fun h => ?_, fun h p hp => ?_⟩
    · refine k _ H (Same.refl H) ⟨a, vs, rfl, ta, ?_⟩
      have e := cut_reps lo hi ra
      have e2 : cutV vs lo hi = vs := by
        unfold cutV
        rw [h.1, h.2]; simp
      rw [e2] at e
      exact e
    · have sm : Same H (upd H p (.tup (cutV vs lo hi))) := same_upd hp
      exact k _ _ sm ⟨p, _, rfl, ⟨upd_same, fun f => fn p f hp⟩, (cut_reps lo hi ra).mono (Mono.same sm)⟩
  · obtain ⟨a, vs, rfl, ta, ra⟩ := rd
    simp only [slice, Option.some.injEq] at hz; subst hz
    exact sl_list pins s σ H _ v vl vu lo hi sl Q I rx hs pl pu ⟨a, vs, rfl, SqL.of ta, fun p hp => k p _ hp (cut_reps lo hi ra)⟩
  · obtain ⟨a, rfl, ta⟩ := rd
    simp only [slice, Option.some.injEq] at hz; subst hz
    exact sl_list pins s σ H _ v vl vu lo hi sl Q I rx hs pl pu ⟨a, _, rfl, ta.sq, fun p hp => k p _ hp (cut_reps lo hi (reps_of_ints _))⟩
end
end Rf

/-! Rg, part F: the rules of expressions over trees. -/
namespace Rf
open PySem PySem.Spec PyProof.Rows L2

def tDv (S : Sit) (C : Calls) (W : WX) (a : O) : TE := fun σ H Q => ∃ P env O, SR S P H O env σ ∧ PostG S W P H O σ (evalV C a env) fun d _ H' O' => ∀ v, RepV S.K H' (S.F O') d v → Q v H'
def tDo (S : Sit) (C : Calls) (W : WX) (o : Option E) : TO := fun σ H Q => ∃ P env O, SR S P H O env σ ∧ PostG S W P H O σ (evalO C o env) fun i _ H' _ => Q i H'
def tDs (S : Sit) (C : Calls) (W : WX) (es : List E) : TA := fun σ H Q => ∃ P env O, SR S P H O env σ ∧ PostG S W P H O σ (evalEs C es env) fun ds _ H' O' => ∀ vs, Reps S.K H' (S.F O') ds vs → Q vs H'

/-! ### exprs that are no stars, no slices -/
def nst : Expr → Bool
  | .Starred _ _ => false
  | _ => true
def nsl : Expr → Bool
  | .Slice _ _ _ _ => false
  | _ => true
section
variable {env : PySem.Env}
theorem star_cons {p : Expr} {ps : List Expr} (h : nst p = true) : starEach (p :: ps) env = (false, eval p env) :: starEach ps env := by
  cases p <;> first | rfl | (simp [nst] at h)
theorem star_none : ∀ {ps : List Expr} {pos : Pos}, ps.all nst = true → (backTo pos (starEach ps env)).any (·.1) = false
  | [], _, _ => rfl
  | p :: ps, pos, h => by
    rw [List.all_cons, Bool.and_eq_true] at h
    rw [star_cons h.1]
    show (false || (backTo pos (starEach ps env)).any (·.1)) = false
    rw [star_none h.2]; rfl
theorem plainIx {p : Expr} (h : nsl p = true) : PlainIx p := fun o i => by
  cases p <;> first | rfl | (simp [nsl] at h)
end

section
variable {X : Cx} {S : Sit} {C : Calls} {W : WX} {pos p1' : Pos}
theorem rep_scalar {K : PySem.W.Frag} {H : Hp} {F : Addr → Prop} {d : D} {v v' : V} (h : Rep K H F d v) (c : isC d = false) (h2 : ∀ H F, Rep K H F d v') : True := trivial

/-- a constant -/
def scl : D → Option V
  | .non => some .non
  | .bl b => some (.bl b)
  | .int i => some (.int i)
  | .str x => some (.str x)
  | _ => none
theorem rep_scl {K : PySem.W.Frag} {H : Hp} {F : Addr → Prop} {d : D} {v : V} (h : scl d = some v) : Rep K H F d v := by
  cases d <;> simp [scl] at h <;> subst h <;> rfl
theorem scl_notC {d : D} {v : V} (h : scl d = some v) : isC d = false := by
  cases d <;> first | rfl | (simp [scl] at h)
theorem r_cst {pe : Expr} {d : D} {v : V} {e : E} (h : scl d = some v) (hp : PE X pe (tC v)) (he : ∀ s, evalE C e s = .ok d s) : PE X pe (tD S C W e) :=
  PE.imp hp fun σ H Q ⟨P, env, O, s, p⟩ => by
    unfold Post at p
    rw [he] at p
    exact p H O (Ext.refl _ _) s v (rep_scl h)
theorem r_var {x : Str} {i : Nat} (hN : X.N[i]? = some x) (hv : Vis X.env.scope x) (hd : (x == ("__debug__" : Str)) = false) (hcd : (x == ("__classdict__" : Str)) = false) : PE X (.Name x pos) (tD S C W (.var i)) :=
  PE.imp (pe_var hN hv hd hcd) fun σ H Q ⟨P, env, O, s, p⟩ => by
    have p : Post S W P H O σ (readR env i) Q := p
    unfold readR at p
    split at p
    · rename_i d e
      obtain ⟨v, e1, r⟩ := s.sh i d e
      exact ⟨v, e1, p H O (Ext.refl _ _) s v r⟩
    · rename_i d e
      obtain ⟨v, O', e1, x, s', r⟩ := s.freeze e
      exact ⟨v, e1, p H O' x s' v r⟩
    · exact p.elim
theorem r_vw {x : Str} {i : Nat} (hN : X.N[i]? = some x) (hv : Vis X.env.scope x) (hd : (x == ("__debug__" : Str)) = false) (hcd : (x == ("__classdict__" : Str)) = false) : PE X (.Name x pos) (tDv S C W (.vw i)) :=
  PE.imp (pe_var hN hv hd hcd) fun σ H Q ⟨P, env, O, s, p⟩ => by
    have p : PostG S W P H O σ (slotR env i) _ := p
    unfold slotR at p
    split at p
    · rename_i d e
      obtain ⟨v, e1, r⟩ := s.sh i d e
      exact ⟨v, e1, p H O (Ext.refl _ _) s v r.view⟩
    · rename_i d e
      obtain ⟨v, e1, t⟩ := s.ow i d e
      exact ⟨v, e1, p H O (Ext.refl _ _) s v t.view⟩
    · exact p.elim
theorem SR.forget {P : Pd} {H : Hp} {O : Addr → Prop} {env : Env} {σ : L2.St} (s : SR S P H O env σ) (i : Nat) : SR S P H O (env.set i .no) σ := by
  refine ⟨by rw [List.length_set]; exact s.len, s.own, s.dis, fun j d e => ?_, fun j d e => ?_, s.pd, fun x y v h1 h2 => s.ne x y v (rt_set no_ne h1).1 (rt_set no_ne h2).1, s.io⟩
  · by_cases hj : j = i
    · subst hj
      have hlt : j < env.length := by
        have := (List.getElem?_eq_some_iff.mp e).1
        simpa using this
      rw [List.getElem?_set_self hlt] at e; cases e
    · rw [List.getElem?_set_ne (Ne.symm hj)] at e
      exact s.sh j d e
  · by_cases hj : j = i
    · subst hj
      have hlt : j < env.length := by
        have := (List.getElem?_eq_some_iff.mp e).1
        simpa using this
      rw [List.getElem?_set_self hlt] at e; cases e
    · rw [List.getElem?_set_ne (Ne.symm hj)] at e
      exact s.ow j d e
theorem r_mov {x : Str} {i : Nat} (hN : X.N[i]? = some x) (hv : Vis X.env.scope x) (hd : (x == ("__debug__" : Str)) = false) (hcd : (x == ("__classdict__" : Str)) = false) : PE X (.Name x pos) (tDf S C W (.mov i)) :=
  PE.imp (pe_var hN hv hd hcd) fun σ H Q ⟨P, env, O, s, p⟩ => by
    have p : PostF S W P H O σ (moveR env i) Q := p
    unfold moveR at p
    split at p
    · rename_i d e
      obtain ⟨v, e1, r⟩ := s.sh i d e
      split at p
      · exact p.elim
      · rename_i hc
        have hc : isC d = false := by simpa using hc
        exact ⟨v, e1, p H O (Ext.refl _ _) s v (by rw [top_notC hc]; exact r) fun c => by rw [hc] at c; cases c⟩
    · rename_i d e
      obtain ⟨v, e1, t⟩ := s.ow i d e
      refine ⟨v, e1, p H O (Ext.refl _ _) (s.forget i) v t fun c y hy => ?_⟩
      obtain ⟨q1, q2⟩ := rt_set no_ne hy
      exact q2 (s.ne _ _ _ q1 (rt_inl.mpr ⟨d, e, c, e1⟩))
    · exact p.elim
/-- any expression as an operand -/
theorem r_opd {pe : Expr} {e : E} (h : PE X pe (tD S C W e)) : PE X pe (tDv S C W (.e e)) := PE.imp h fun σ H Q ⟨P, env, O, s, p⟩ => ⟨P, env, O, s, PostG.imp (show PostG S W P H O σ (evalE C e env) _ from p) fun _ _ _ _ _ _ _ q v r => q v r.view⟩
/-- a slot, read behind the other operands -/
theorem SR.slot {P : Pd} {H : Hp} {O : Addr → Prop} {env : Env} {σ : L2.St} {i : Nat} {α : Type} {f : D → Env → R α} {Q : α → Env → Hp → (Addr → Prop) → Prop} (s : SR S P H O env σ) (h : PostG S W P H O σ ((slotR env i).bind f) Q) :
    ∃ d v, σ[i]? = some (some v) ∧ RepV S.K H (S.F O) d v ∧ PostG S W P H O σ (f d env) Q := by
  unfold slotR at h
  split at h
  · rename_i d e
    obtain ⟨v, e1, r⟩ := s.sh i d e
    exact ⟨d, v, e1, r.view, h⟩
  · rename_i d e
    obtain ⟨v, e1, t⟩ := s.ow i d e
    exact ⟨d, v, e1, t.view, h⟩
  · exact h.elim

variable {a b c : E} {pa pb pc : Expr} {o : BOp} {op : Operator}
theorem r_bin {b : O} (hK : S.K = X.K) (ho : OpD X (binaryOp op) (bin o)) (ha : PE X pa (tD S C W a)) (hb : PE X pb (tDv S C W b)) : PE X (.BinOp pa op pb pos) (tDf S C W (.bin o a b)) := by
  refine PE.imp (pe_op ho ha hb) fun σ H Q ⟨P, env, O, s, p⟩ => ⟨P, env, O, s, PostG.imp (PostG.bind p) fun d1 s1 H1 O1 _ _ _ ⟨x1, t1, p1⟩ v1 r1 => ⟨P, s1, O1, t1, PostG.imp (PostG.bind p1) fun d2 s2 H2 O2 _ _ _ ⟨x2, t2, p2⟩ v2 r2 => ?_⟩⟩
  obtain ⟨z, hz, p3⟩ := PostG.opt p2
  rw [hK] at r1 r2
  have k := resK_of t2 p3
  rw [hK] at k
  exact ⟨d1, d2, z, S.F O2, t2.own, (r1.mono x2.mono).view, r2, hz, k⟩
theorem r_var_ {X : Cx} {x : Str} {i : Nat} {pos : Pos} (hN : X.N[i]? = some x) (hv : Vis X.env.scope x) (hd : (x == ("__debug__" : Str)) = false) (hcd : (x == ("__classdict__" : Str)) = false) : PE X (.Name x pos) (tVar i) := pe_var hN hv hd hcd
theorem r_binv {i : Nat} (hK : S.K = X.K) (ho : OpD X (binaryOp op) (bin o)) (ha : PE X pa (tVar i)) (hb : PE X pb (tD S C W b)) : PE X (.BinOp pa op pb pos) (tDf S C W (.binv o i b)) := by
  refine PE.imp (pe_op ho ha hb) fun σ H Q ⟨P, env, O, s, p⟩ => ?_
  obtain ⟨_, v1, e1, _, p⟩ := s.slot (show PostG S W P H O σ ((slotR env i).bind _) _ from p)
  refine ⟨v1, e1, P, env, O, s, PostG.imp (PostG.bind p) fun d2 s2 H2 O2 _ _ _ ⟨x2, t2, p2⟩ v2 r2 => ?_⟩
  obtain ⟨d1, v1', e1', r1, p3⟩ := t2.slot p2
  rw [e1] at e1'; cases e1'
  obtain ⟨z, hz, p3⟩ := PostG.opt p3
  rw [hK] at r1 r2
  have k := resK_of t2 p3
  rw [hK] at k
  exact ⟨d1, d2, z, S.F O2, t2.own, r1, r2.view, hz, k⟩
theorem post_bl {P : Pd} {H : Hp} {O : Addr → Prop} {env : Env} {σ : L2.St} {k : Bool} {Q : VK} (s : SR S P H O env σ) (h : PostF S W P H O σ (.ok (.bl k) env) Q) : Q (.bl k) H :=
  h H O (Ext.refl _ _) s (.bl k) rfl fun c => by cases c
theorem post_int {P : Pd} {H : Hp} {O : Addr → Prop} {env : Env} {σ : L2.St} {k : Int} {Q : VK} (s : SR S P H O env σ) (h : PostF S W P H O σ (.ok (.int k) env) Q) : Q (.int k) H :=
  h H O (Ext.refl _ _) s (.int k) rfl fun c => by cases c
theorem r_neg (ha : PE X pa (tD S C W a)) : PE X (.UnaryOp .USub pa pos) (tDf S C W (.neg a)) := by
  refine PE.imp (pe_un un_neg ha) fun σ H Q ⟨P, env, O, s, p⟩ => ⟨P, env, O, s, PostG.imp (PostG.bind p) fun d1 s1 H1 O1 _ _ _ ⟨x1, t1, p1⟩ v1 r1 => ?_⟩
  cases d1 <;> try exact p1.elim
  cases r1
  exact ⟨_, rfl, post_int t1 p1⟩
variable {p : COp} {opc opc2 : CmpOp}
theorem cmD' (hr : X.A.units + 100 < cLine) (o : COp) : CmD X o := cmD hr o
theorem r_cmp {p : COp} {b : O} (hK : S.K = X.K) (hu : X.A.units + 100 < cLine) (ha : PE X pa (tD S C W a)) (hb : PE X pb (tDv S C W b)) (hm : behindInMarks (cop p) pb = false) : PE X (.Compare pa [cop p] [pb] pos) (tDf S C W (.cmp p a b)) := by
  refine PE.imp (pe_cmpR (cmD hu p) ha hb hm) fun σ H Q ⟨P, env, O, s, p⟩ => ⟨P, env, O, s, PostG.imp (PostG.bind p) fun d1 s1 H1 O1 _ _ _ ⟨x1, t1, p1⟩ v1 r1 => ⟨P, s1, O1, t1, PostG.imp (PostG.bind p1) fun d2 s2 H2 O2 _ _ _ ⟨x2, t2, p2⟩ v2 r2 => ?_⟩⟩
  obtain ⟨z, hz, p3⟩ := PostG.optBind p2
  rw [hK] at r1 r2
  exact ⟨d1, d2, z, S.F O2, (r1.mono x2.mono).view, r2, hz, post_bl t2 p3⟩
end
end Rf

/-! Rg, part G: .. comparisons, tests, calls of builtins, items. -/
namespace Rf
open PySem PySem.Spec PyProof.Rows L2
section
variable {X : Cx} {S : Sit} {C : Calls} {W : WX} {pos : Pos} {a b c : E} {pa pb pc : Expr}
abbrev rCm (X : Cx) (o : COp) : R2 := fun x y H Q => ∃ d e b F, RepV X.K H F d x ∧ RepV X.K H F e y ∧ cmp o d e = some b ∧ Q (.bl b) H
/-- a truth has come -/
abbrev BlK (S : Sit) (P : Pd) (σ : L2.St) (R : D → Env → Hp → (Addr → Prop) → Prop) : VK := fun x H' => ∃ k env' O', x = .bl k ∧ SR S P H' O' env' σ ∧ R (.bl k) env' H' O'
section
variable {P : Pd} {H : Hp} {O : Addr → Prop} {env : Env} {σ : L2.St} {R : D → Env → Hp → (Addr → Prop) → Prop}
theorem core_cmp {p : COp} {b : Rf.O} (hK : S.K = X.K) (s : SR S P H O env σ) (q : PostG S W P H O σ (evalE C (.cmp p a b) env) R) : tOp (rCm X p) (tD S C W a) (tDv S C W b) σ H (BlK S P σ R) := by
  refine ⟨P, env, O, s, PostG.imp (PostG.bind q) fun d1 s1 H1 O1 _ _ _ ⟨x1, t1, p1⟩ v1 r1 => ⟨P, s1, O1, t1, PostG.imp (PostG.bind p1) fun d2 s2 H2 O2 _ _ _ ⟨x2, t2, p2⟩ v2 r2 => ?_⟩⟩
  obtain ⟨z, hz, p3⟩ := PostG.optBind p2
  rw [hK] at r1 r2
  exact ⟨d1, d2, z, S.F O2, (r1.mono x2.mono).view, r2, hz, z, s2, O2, rfl, t2, p3 H2 O2 (Ext.refl _ _) t2⟩
theorem core_cmpv {p : COp} {i : Nat} (hK : S.K = X.K) (s : SR S P H O env σ) (q : PostG S W P H O σ (evalE C (.cmpv p i b) env) R) : tOp (rCm X p) (tVar i) (tD S C W b) σ H (BlK S P σ R) := by
  obtain ⟨_, v1, e1, _, p⟩ := s.slot (show PostG S W P H O σ ((slotR env i).bind _) _ from q)
  refine ⟨v1, e1, P, env, O, s, PostG.imp (PostG.bind p) fun d2 s2 H2 O2 _ _ _ ⟨x2, t2, p2⟩ v2 r2 => ?_⟩
  obtain ⟨d1, v1', e1', r1, p3⟩ := t2.slot p2
  rw [e1] at e1'; cases e1'
  obtain ⟨z, hz, p3⟩ := PostG.optBind p3
  rw [hK] at r1 r2
  exact ⟨d1, d2, z, S.F O2, r1, r2.view, hz, z, s2, O2, rfl, t2, p3 H2 O2 (Ext.refl _ _) t2⟩
theorem core_chain {p p' : COp} (hK : S.K = X.K) (s : SR S P H O env σ) (q : PostG S W P H O σ (evalE C (.chain p p' a b c) env) R) : tChain (rCm X p) (rCm X p') (tD S C W a) (tD S C W b) (tD S C W c) σ H (BlK S P σ R) := by
  refine ⟨P, env, O, s, PostG.imp (PostG.bind q) fun d1 s1 H1 O1 _ _ _ ⟨x1, t1, p1⟩ v1 r1 => ⟨P, s1, O1, t1, PostG.imp (PostG.bind p1) fun d2 s2 H2 O2 _ _ _ ⟨x2, t2, p2⟩ v2 r2 => ?_⟩⟩
  obtain ⟨z, hz, p3⟩ := PostG.optBind p2
  rw [hK] at r1 r2
  refine ⟨d1, d2, z, S.F O2, (r1.mono x2.mono).view, r2.view, hz, z, rfl, ?_⟩
  cases z with
  | false => exact ⟨false, s2, O2, rfl, t2, p3 H2 O2 (Ext.refl _ _) t2⟩
  | true =>
    refine ⟨P, s2, O2, t2, PostG.imp (PostG.bind (show PostG S W P H2 O2 σ ((evalE C c s2).bind _) _ from p3)) fun d3 s3 H3 O3 _ _ _ ⟨x3, t3, p4⟩ v3 r3 => ?_⟩
    obtain ⟨z', hz', p5⟩ := PostG.optBind p4
    rw [hK] at r3
    exact ⟨d2, d3, z', S.F O3, (r2.mono x3.mono).view, r3.view, hz', z', s3, O3, rfl, t3, p5 H3 O3 (Ext.refl _ _) t3⟩
theorem blk_val {Q : VK} {x : V} {H' : Hp} (h : BlK S P σ (fun d s H' O' => ∀ v, Top S H' O' d v → NewTop s σ P d v → Q v H') x H') : Q x H' := by
  obtain ⟨k, env', O', rfl, t, q⟩ := h
  exact q _ rfl fun c => by cases c
theorem blk_test {Q : Bool → Hp → Prop} {x : V} {H' : Hp} {H0 : Hp} {O0 : Addr → Prop} (h : BlK S P σ (fun d s H' O' => Ext H0 O0 H' O' ∧ SR S P H' O' s σ ∧ PostG S W P H' O' σ (optR (truth d) s) fun b _ H' _ => Q b H') x H') : ∃ k, x = .bl k ∧ Q k H' := by
  obtain ⟨k, env', O', rfl, t, _, _, q⟩ := h
  exact ⟨k, rfl, q H' O' (Ext.refl _ _) t⟩
end
theorem tOp_imp {r : R2} {ta tb : TE} (ma : ∀ σ H Q Q', ta σ H Q → (∀ v H', Q v H' → Q' v H') → ta σ H Q') {σ : L2.St} {H : Hp} {Q Q' : VK} : True := trivial
/-- the end of such a reading may be weakened -/
def MonoT (t : TE) : Prop := ∀ σ H (Q Q' : VK), (∀ v H', Q v H' → Q' v H') → t σ H Q → t σ H Q'
theorem mono_tD {e : E} : MonoT (tD S C W e) := fun σ H Q Q' i ⟨P, env, O, s, p⟩ => ⟨P, env, O, s, PostG.imp p fun _ _ _ _ _ _ _ q v r => i _ _ (q v r)⟩
theorem mono_tDv {e : Rf.O} : MonoT (tDv S C W e) := fun σ H Q Q' i ⟨P, env, O, s, p⟩ => ⟨P, env, O, s, PostG.imp p fun _ _ _ _ _ _ _ q v r => i _ _ (q v r)⟩
theorem mono_var {i : Nat} : MonoT (tVar i) := fun σ H Q Q' j ⟨v, e, q⟩ => ⟨v, e, j _ _ q⟩
theorem mono_cm {p : COp} {ta tb : TE} (ha : MonoT ta) (hb : MonoT tb) : MonoT (tOp (rCm X p) ta tb) := fun σ H Q Q' i h => ha _ _ _ _ (fun x H1 q => hb _ _ _ _ (fun y H2 ⟨d, e, b, F, h1, h2, h3, h4⟩ => ⟨d, e, b, F, h1, h2, h3, i _ _ h4⟩) q) h
theorem mono_chain {p p' : COp} {ta tb tc : TE} (ha : MonoT ta) (hb : MonoT tb) (hc : MonoT tc) : MonoT (tChain (rCm X p) (rCm X p') ta tb tc) := fun σ H Q Q' i h =>
  ha _ _ _ _ (fun x H1 q => hb _ _ _ _ (fun y H2 ⟨d, e, b, F, h1, h2, h3, k, h4, h5⟩ => ⟨d, e, b, F, h1, h2, h3, k, h4, by
    cases k with
    | false => exact i _ _ h5
    | true => exact hc _ _ _ _ (fun w H4 ⟨d, e, b, F, h1, h2, h3, h4⟩ => ⟨d, e, b, F, h1, h2, h3, i _ _ h4⟩) h5⟩) q) h

theorem r_cmpv {p : COp} {i : Nat} (hK : S.K = X.K) (hu : X.A.units + 100 < cLine) (ha : PE X pa (tVar i)) (hb : PE X pb (tD S C W b)) (hm : behindInMarks (cop p) pb = false) : PE X (.Compare pa [cop p] [pb] pos) (tDf S C W (.cmpv p i b)) :=
  PE.imp (pe_cmpR (cmD hu p) ha hb hm) fun σ H Q ⟨P, env, O, s, q⟩ => mono_cm mono_var mono_tD _ _ _ _ (fun _ _ => blk_val) (core_cmpv hK s q)
theorem r_chain {p p' : COp} (hK : S.K = X.K) (hu : X.A.units + 100 < cLine) (ha : PE X pa (tD S C W a)) (hb : PE X pb (tD S C W b)) (hc : PE X pc (tD S C W c)) (hm : lastMarks [cop p, cop p'] [pb, pc] = false) :
    PE X (.Compare pa [cop p, cop p'] [pb, pc] pos) (tDf S C W (.chain p p' a b c)) :=
  PE.imp (pe_chain (cmD hu p) (cmD hu p') ha hb hc hm) fun σ H Q ⟨P, env, O, s, q⟩ => mono_chain mono_tD mono_tD mono_tD _ _ _ _ (fun _ _ => blk_val) (core_chain hK s q)
/-! as tests -/
theorem rt_cmp {p : COp} {b : Rf.O} (hK : S.K = X.K) (hu : X.A.units + 100 < cLine) (ha : PE X pa (tD S C W a)) (hb : PE X pb (tDv S C W b)) (hm : behindInMarks (cop p) pb = false) : PT X (.Compare pa [cop p] [pb] pos) (tT S C W (.cmp p a b)) :=
  PT.imp (pt_cmpR (cmD hu p) ha hb hm) fun σ H Q ⟨P, env, O, s, q⟩ => ⟨P, env, O, s, PostG.imp (PostG.bind (show PostG S W P H O σ ((evalE C a env).bind _) _ from q)) fun d1 s1 H1 O1 _ _ _ ⟨x1, t1, p1⟩ v1 r1 => ⟨P, s1, O1, t1, PostG.imp (PostG.bind p1) fun d2 s2 H2 O2 _ _ _ ⟨x2, t2, p2⟩ v2 r2 => by
    obtain ⟨z, hz, p3⟩ := PostG.opt p2
    rw [hK] at r1 r2
    exact ⟨d1, d2, z, S.F O2, (r1.mono x2.mono).view, r2, hz, z, rfl, p3 H2 O2 (Ext.refl _ _) t2⟩⟩⟩
theorem rt_cmpv {p : COp} {i : Nat} (hK : S.K = X.K) (hu : X.A.units + 100 < cLine) (ha : PE X pa (tVar i)) (hb : PE X pb (tD S C W b)) (hm : behindInMarks (cop p) pb = false) : PT X (.Compare pa [cop p] [pb] pos) (tT S C W (.cmpv p i b)) :=
  PT.imp (pt_cmpR (cmD hu p) ha hb hm) fun σ H Q ⟨P, env, O, s, q⟩ => by
    obtain ⟨_, v1, e1, _, p⟩ := s.slot (show PostG S W P H O σ ((slotR env i).bind _) _ from q)
    refine ⟨v1, e1, P, env, O, s, PostG.imp (PostG.bind p) fun d2 s2 H2 O2 _ _ _ ⟨x2, t2, p2⟩ v2 r2 => ?_⟩
    obtain ⟨d1, v1', e1', r1, p3⟩ := t2.slot p2
    rw [e1] at e1'; cases e1'
    obtain ⟨z, hz, p3⟩ := PostG.opt p3
    rw [hK] at r1 r2
    exact ⟨d1, d2, z, S.F O2, r1, r2.view, hz, z, rfl, p3 H2 O2 (Ext.refl _ _) t2⟩
theorem rt_chain {p p' : COp} (hK : S.K = X.K) (hu : X.A.units + 100 < cLine) (ha : PE X pa (tD S C W a)) (hb : PE X pb (tD S C W b)) (hc : PE X pc (tD S C W c)) (hm : lastMarks [cop p, cop p'] [pb, pc] = false) :
    PT X (.Compare pa [cop p, cop p'] [pb, pc] pos) (tT S C W (.chain p p' a b c)) :=
  PT.imp (pt_chain (cmD hu p) (cmD hu p') ha hb hc hm) fun σ H Q ⟨P, env, O, s, q⟩ => ⟨P, env, O, s, PostG.imp (PostG.bind (show PostG S W P H O σ ((evalE C a env).bind _) _ from q)) fun d1 s1 H1 O1 _ _ _ ⟨x1, t1, p1⟩ v1 r1 => ⟨P, s1, O1, t1, PostG.imp (PostG.bind p1) fun d2 s2 H2 O2 _ _ _ ⟨x2, t2, p2⟩ v2 r2 => by
    obtain ⟨z, hz, p3⟩ := PostG.optBind p2
    rw [hK] at r1 r2
    refine ⟨d1, d2, z, S.F O2, (r1.mono x2.mono).view, r2.view, hz, z, rfl, ?_⟩
    cases z with
    | false => exact ⟨false, rfl, p3 H2 O2 (Ext.refl _ _) t2⟩
    | true =>
      refine ⟨P, s2, O2, t2, PostG.imp (PostG.bind (show PostG S W P H2 O2 σ ((evalE C c s2).bind _) _ from p3)) fun d3 s3 H3 O3 _ _ _ ⟨x3, t3, p4⟩ v3 r3 => ?_⟩
      obtain ⟨z', hz', p5⟩ := PostG.opt p4
      rw [hK] at r3
      exact ⟨d2, d3, z', S.F O3, (r2.mono x3.mono).view, r3.view, hz', z', rfl, p5 H3 O3 (Ext.refl _ _) t3⟩⟩⟩
/-- what is true of data -/
theorem truD {K : PySem.W.Frag} {H : Hp} {F : Addr → Prop} {d : D} {v : V} {k : Bool} (r : RepV K H F d v) (h : truth d = some k) : TruV K v H k := by
  cases d with
  | non => cases r; cases h; rfl
  | bl b => cases r; cases h; rfl
  | int i => cases r; simp only [truth, Option.some.injEq] at h; subst h; show _ = (i != 0); rw [Bool.eq_iff_iff]; simp
  | str x =>
    cases r
    simp only [truth] at h
    split at h
    · rename_i hl
      cases h
      exact ⟨hl, by rw [Bool.eq_iff_iff]; simp⟩
    · cases h
  | tup ds =>
    obtain ⟨a, vs, rfl, t, rs⟩ := r
    simp only [truth, Option.some.injEq] at h; subst h
    refine .inr (.inl ⟨vs, t.sq, ?_⟩)
    have := rs.length
    cases ds <;> cases vs <;> first | rfl | (simp at this)
  | lst ds =>
    obtain ⟨a, vs, rfl, t, rs⟩ := r
    simp only [truth, Option.some.injEq] at h; subst h
    refine .inl ⟨vs, SqL.of t, ?_⟩
    have := rs.length
    cases ds <;> cases vs <;> first | rfl | (simp at this)
  | dic => cases h
  | ins => cases h
  | fn => cases h
  | scr => cases h
theorem rt_o {b : Rf.O} (hK : S.K = X.K) (ha : PE X pa (tDv S C W b)) (he : ∀ whole, isTrue pa X.env whole = (do let v ← whole; standAt pa.pos; holding [v] (truthy v))) : PT X pa (tT S C W (.o b)) :=
  PT.imp (pt_truth ha he) fun σ H Q ⟨P, env, O, s, q⟩ => ⟨P, env, O, s, PostG.imp (PostG.bind (show PostG S W P H O σ ((evalV C b env).bind _) _ from q)) fun d s1 H1 O1 _ _ _ ⟨x1, t1, p1⟩ v r => by
    obtain ⟨z, hz, p3⟩ := PostG.opt p1
    rw [hK] at r
    exact ⟨z, truD r hz, p3 H1 O1 (Ext.refl _ _) t1⟩⟩
theorem r_not {b : Rf.O} (hK : S.K = X.K) (ha : PE X pa (tDv S C W b)) : PE X (.UnaryOp .Not pa pos) (tDf S C W (.not b)) :=
  PE.imp (pe_notT ha) fun σ H Q ⟨P, env, O, s, q⟩ => ⟨P, env, O, s, PostG.imp (PostG.bind (show PostG S W P H O σ ((evalV C b env).bind _) _ from q)) fun d s1 H1 O1 _ _ _ ⟨x1, t1, p1⟩ v r => by
    obtain ⟨z, hz, p3⟩ := PostG.optBind p1
    rw [hK] at r
    exact ⟨z, truD r hz, post_bl t1 p3⟩⟩
theorem r_and {rest : List Expr} (hK : S.K = X.K) (ha : PE X pa (tD S C W a)) (hb : PE X (.BoolOp .And (pb :: rest) pos) (tD S C W b)) : PE X (.BoolOp .And (pa :: pb :: rest) pos) (tD S C W (.and a b)) :=
  PE.imp (pe_andT ha hb) fun σ H Q ⟨P, env, O, s, q⟩ => ⟨P, env, O, s, PostG.imp (PostG.bind (show PostG S W P H O σ ((evalE C a env).bind _) _ from q)) fun d s1 H1 O1 _ _ _ ⟨x1, t1, p1⟩ v r => by
    obtain ⟨z, hz, p3⟩ := PostG.optBind p1
    have r' := r
    rw [hK] at r'
    refine ⟨z, truD r'.view hz, ?_⟩
    cases z with
    | true => exact ⟨P, s1, O1, t1, p3⟩
    | false => exact p3 H1 O1 (Ext.refl _ _) t1 v r⟩
theorem r_or {rest : List Expr} (hK : S.K = X.K) (ha : PE X pa (tD S C W a)) (hb : PE X (.BoolOp .Or (pb :: rest) pos) (tD S C W b)) : PE X (.BoolOp .Or (pa :: pb :: rest) pos) (tD S C W (.or a b)) :=
  PE.imp (pe_orT ha hb) fun σ H Q ⟨P, env, O, s, q⟩ => ⟨P, env, O, s, PostG.imp (PostG.bind (show PostG S W P H O σ ((evalE C a env).bind _) _ from q)) fun d s1 H1 O1 _ _ _ ⟨x1, t1, p1⟩ v r => by
    obtain ⟨z, hz, p3⟩ := PostG.optBind p1
    have r' := r
    rw [hK] at r'
    refine ⟨z, truD r'.view hz, ?_⟩
    cases z with
    | false => exact ⟨P, s1, O1, t1, p3⟩
    | true => exact p3 H1 O1 (Ext.refl _ _) t1 v r⟩
theorem r_ite {t : Rf.T} {pt : Expr} (ht : PT X pt (tT S C W t)) (ha : PE X pa (tD S C W a)) (hb : PE X pb (tD S C W b)) : PE X (.IfExp pt pa pb pos) (tD S C W (.ite t a b)) :=
  PE.imp (pe_ifExp ht ha hb) fun σ H Q ⟨P, env, O, s, q⟩ => ⟨P, env, O, s, PostG.imp (PostG.bind (show PostG S W P H O σ ((evalT C t env).bind _) _ from q)) fun d s1 H1 O1 _ _ _ ⟨x1, t1, p1⟩ => by
    cases d with
    | true => exact ⟨P, s1, O1, t1, p1⟩
    | false => exact ⟨P, s1, O1, t1, p1⟩⟩
theorem rf_ite {t : Rf.T} {pt : Expr} (ht : PT X pt (tT S C W t)) (ha : PE X pa (tDf S C W a)) (hb : PE X pb (tDf S C W b)) : PE X (.IfExp pt pa pb pos) (tDf S C W (.ite t a b)) :=
  PE.imp (pe_ifExp ht ha hb) fun σ H Q ⟨P, env, O, s, q⟩ => ⟨P, env, O, s, PostG.imp (PostG.bind (show PostG S W P H O σ ((evalT C t env).bind _) _ from q)) fun d s1 H1 O1 _ _ _ ⟨x1, t1, p1⟩ => by
    cases d with
    | true => exact ⟨P, s1, O1, t1, p1⟩
    | false => exact ⟨P, s1, O1, t1, p1⟩⟩
/-! tests put together -/
theorem PT.pw {op : BoolOp} {vs : List Expr} {t : TT} (h : PT X (.BoolOp op vs pos) t) : PW X (.BoolOp op vs pos) t := ⟨fun whole pins s σ H Q I q => h.run pins s σ H Q I q⟩
theorem rt_and {ta tb : Rf.T} {rest : List Expr} (ha : PT X pa (tT S C W ta)) (hb : PW X (.BoolOp .And (pb :: rest) pos) (tT S C W tb)) : PW X (.BoolOp .And (pa :: pb :: rest) pos) (tT S C W (.and ta tb)) := by
  have h := pw_and ha hb
  refine ⟨fun whole pins s σ H Q I ⟨P, env, O, t, q⟩ => h.run whole pins s σ H Q I ⟨P, env, O, t, PostG.imp (PostG.bind (show PostG S W P H O σ ((evalT C ta env).bind _) _ from q)) fun d s1 H1 O1 _ _ _ ⟨x1, t1, p1⟩ => ?_⟩⟩
  cases d with
  | true => exact ⟨P, s1, O1, t1, p1⟩
  | false => exact p1 H1 O1 (Ext.refl _ _) t1
theorem rt_or {ta tb : Rf.T} {rest : List Expr} (ha : PT X pa (tT S C W ta)) (hb : PW X (.BoolOp .Or (pb :: rest) pos) (tT S C W tb)) : PW X (.BoolOp .Or (pa :: pb :: rest) pos) (tT S C W (.or ta tb)) := by
  have h := pw_or ha hb
  refine ⟨fun whole pins s σ H Q I ⟨P, env, O, t, q⟩ => h.run whole pins s σ H Q I ⟨P, env, O, t, PostG.imp (PostG.bind (show PostG S W P H O σ ((evalT C ta env).bind _) _ from q)) fun d s1 H1 O1 _ _ _ ⟨x1, t1, p1⟩ => ?_⟩⟩
  cases d with
  | false => exact ⟨P, s1, O1, t1, p1⟩
  | true => exact p1 H1 O1 (Ext.refl _ _) t1
theorem rt_not {ta : Rf.T} (ha : PT X pa (tT S C W ta)) : PT X (.UnaryOp .Not pa pos) (tT S C W (.not ta)) :=
  PT.imp (pt_not ha) fun σ H Q ⟨P, env, O, t, q⟩ => ⟨P, env, O, t, PostG.imp (PostG.bind (show PostG S W P H O σ ((evalT C ta env).bind _) _ from q)) fun d s1 H1 O1 _ _ _ ⟨x1, t1, p1⟩ => p1 H1 O1 (Ext.refl _ _) t1⟩
/-- a if t else b as a test -/
theorem rt_ite {t ta tb : Rf.T} {pt : Expr} (ht : PT X pt (tT S C W t)) (ha : PT X pa (tT S C W ta)) (hb : PT X pb (tT S C W tb)) : PT X (.IfExp pt pa pb pos) (tT S C W (.ite t ta tb)) := by
  refine ⟨fun pins s σ H Q I ⟨P, env, O, t', q⟩ => ?_⟩
  show wpAny _ _ (do if ← isTrue pt X.env (eval pt X.env) then isTrue pa X.env (eval pa X.env) else isTrue pb X.env (eval pb X.env)) _ _ s
  refine wpAny_bind (thn (ht.run pins s σ H (fun k H1 => if k = true then tT S C W ta σ H1 Q else tT S C W tb σ H1 Q) I ⟨P, env, O, t', PostG.imp (PostG.bind (show PostG S W P H O σ ((evalT C t env).bind _) _ from q)) fun d s1 H1 O1 _ _ _ ⟨x1, t1, p1⟩ => ?_⟩) fun k s1 ⟨H1, I1, q1⟩ => ?_)
  · cases d with
    | true => exact ⟨P, s1, O1, t1, p1⟩
    | false => exact ⟨P, s1, O1, t1, p1⟩
  · cases k with
    | true => exact ha.run pins s1 σ H1 Q I1 q1
    | false => exact hb.run pins s1 σ H1 Q I1 q1
end
end Rf

/-! Rg, part H: .. displays, builtins, items, slices; owned lists written. -/
namespace Rf
open PySem PySem.Spec PyProof.Rows L2
section
variable {X : Cx} {S : Sit} {C : Calls} {W : WX} {pos : Pos} {a b c : E} {pa pb pc : Expr}
theorem r_ds_nil : PA X [] (tDs S C W []) := PA.imp pa_nil fun σ H Q ⟨P, env, O, s, p⟩ => p H O (Ext.refl _ _) s [] rfl
theorem r_ds_cons {es : List E} {ps : List Expr} (ha : PE X pa (tD S C W a)) (hr : PA X ps (tDs S C W es)) (hn : nst pa = true) : PA X (pa :: ps) (tDs S C W (a :: es)) :=
  PA.imp (pa_cons ha hr (star_cons hn)) fun σ H Q ⟨P, env, O, s, p⟩ => ⟨P, env, O, s, PostG.imp (PostG.bind (show PostG S W P H O σ ((evalE C a env).bind _) _ from p)) fun d s1 H1 O1 _ _ _ ⟨x1, t1, p1⟩ v r =>
    ⟨P, s1, O1, t1, PostG.imp (PostG.bind p1) fun ds s2 H2 O2 _ _ _ ⟨x2, t2, p2⟩ vs rs => p2 H2 O2 (Ext.refl _ _) t2 (v :: vs) (.cons (r.mono x2.mono) rs)⟩⟩
theorem evalEs_len {C : Calls} : ∀ {es : List E} {env env' : Env} {ds : List D}, evalEs C es env = .ok ds env' → ds.length = es.length
  | [], _, _, _, h => by
    simp only [evalEs] at h
    cases h; rfl
  | e :: es, env, env', ds, h => by
    simp only [evalEs] at h
    cases q : evalE C e env with
    | stuck => rw [q] at h; cases h
    | exc x s => rw [q] at h; cases h
    | ok d s =>
      rw [q] at h
      simp only [R.bind] at h
      cases q2 : evalEs C es s with
      | stuck => rw [q2] at h; cases h
      | exc x s => rw [q2] at h; cases h
      | ok r s2 =>
        rw [q2] at h
        cases h
        rw [List.length_cons, List.length_cons, evalEs_len q2]
theorem small {n : Nat} (h : n ≤ 1000) : n ≤ sizeLine := by rw [sizeLine_eq]; omega
theorem r_tup {es : List E} {ps : List Expr} {x1 : Nat} (h : PA X ps (tDs S C W es)) (hl : es.length ≤ 1000) : PE X (.Tuple ps x1 pos) (tDf S C W (.tup es)) :=
  PE.imp (pe_tup h) fun σ H Q ⟨P, env, O, s, p⟩ => ⟨P, env, O, s, PostG.imp (PostG.bind (show PostG S W P H O σ ((evalEs C es env).bind _) _ from p)) fun ds s1 H1 O1 e _ _ ⟨x1, t1, p1⟩ vs r => by
    refine ⟨by rw [← r.length, evalEs_len e]; exact small hl, fun q hq => ?_⟩
    exact resK_of t1 p1 _ _ (same_upd hq) ⟨q, vs, rfl, ⟨upd_same, t1.new hq⟩, r.mono (Mono.same (same_upd hq))⟩⟩
theorem r_lst {es : List E} {ps : List Expr} (h : PA X ps (tDs S C W es)) (hl : es.length ≤ 1000) : PE X (.List ps pos) (tDf S C W (.lst es)) :=
  PE.imp (pe_lst h) fun σ H Q ⟨P, env, O, s, p⟩ => ⟨P, env, O, s, PostG.imp (PostG.bind (show PostG S W P H O σ ((evalEs C es env).bind _) _ from p)) fun ds s1 H1 O1 e _ _ ⟨x1, t1, p1⟩ vs r => by
    refine ⟨by rw [← r.length, evalEs_len e]; exact small hl, fun q hq => ?_⟩
    exact resK_of t1 p1 q vs hq r⟩
/-! ### builtins -/
def p1Name : P1 → Str
  | .len => "len" | .sum => "sum" | .min => "min" | .max => "max" | .sorted => "sorted" | .tuple => "tuple" | .list => "list" | .all => "all" | .any => "any" | .abs => "abs" | .int => "int" | .str => "str" | .bool => "bool"
  | .lenset => "len" | .sortedset => "sorted"
inductive BT where | b (id : String) | t (n : String)
def BT.v : BT → Value
  | .b id => .builtin id
  | .t n => .type n
def p1Val : P1 → Option BT
  | .len => some (.b "len") | .sum => some (.b "sum") | .min => some (.b "min") | .max => some (.b "max") | .sorted => some (.b "sorted") | .tuple => some (.t "tuple") | .list => some (.t "list") | .all => some (.b "all") | .any => some (.b "any")
  | .abs => some (.b "abs") | .int => some (.t "int") | .bool => some (.t "bool")
  | _ => none
theorem p1_boot : ∀ {p : P1} {f : BT}, p1Val p = some f → bootBuiltins (p1Name p) = some f.v := fun {p f} h => by
  cases p <;> simp only [p1Val] at h <;> cases h <;> decide +kernel
theorem p1_D (hc : X.calm = true) : ∀ {p : P1} {f : BT}, p1Val p = some f → P1D X f.v p := fun {p f} h => by
  cases p <;> simp only [p1Val] at h <;> cases h
  · exact p1_len
  · exact p1_sum hc
  · exact p1_min hc
  · exact p1_max hc
  · exact p1_sorted
  · exact p1_tuple
  · exact p1_list
  · exact p1_all hc
  · exact p1_any hc
  · exact p1_abs
  · exact p1_int
  · exact p1_bool
/-- a builtin called -/
theorem pe_bt {f : BT} {r : List V → Hp → VK → Prop} {x : Str} {p : Pos} {e : Expr} {es : List Expr} {t : TA} (hc : CallR X f.v r) (hg : Gl X x) (hm : X.mg x = none) (hv : bootBuiltins x = some f.v) (ha : PA X (e :: es) t) (hn : x ≠ "__name__") (hdb : (x == ("__debug__" : Str)) = false)
    (he : nst e = true) (hes : es.all nst = true) : PE X (.Call (.Name x p) (e :: es) [] pos) (tCB r t) := by
  cases f with
  | b id => exact pe_callB hc hg hm hv ha hn hdb (star_cons he) (star_none hes)
  | t n => exact pe_callTy hc hg hm hv ha hn hdb (star_cons he) (star_none hes)
theorem r_p1 {b : Rf.O} {p : P1} {f : BT} {q : Pos} {x : Str} (hK : S.K = X.K) (hc : X.calm = true) (hf : p1Val p = some f) (hx : x = p1Name p) (hg : Gl X x) (hm : X.mg x = none) (hn : x ≠ "__name__") (hdb : (x == ("__debug__" : Str)) = false)
    (ha : PE X pa (tDv S C W b)) (he : nst pa = true) : PE X (.Call (.Name x q) [pa] [] pos) (tDf S C W (.p1 p b)) := by
  refine PE.imp (pe_bt (p1_D hc hf) hg hm (by rw [hx]; exact p1_boot hf) (pa_cons ha pa_nil (star_cons he)) hn hdb he rfl) fun σ H Q ⟨P, env, O, s, p⟩ => ⟨P, env, O, s, PostG.imp (PostG.bind (show PostG S W P H O σ ((evalV C b env).bind _) _ from p)) fun d s1 H1 O1 _ _ _ ⟨x1, t1, p1⟩ v r => ?_⟩
  obtain ⟨z, hz, p3⟩ := PostG.opt p1
  rw [hK] at r
  have k := resK_of t1 p3
  rw [hK] at k
  exact ⟨v, d, z, S.F O1, rfl, t1.own, r, hz, k⟩
def p2Name : P2 → Str
  | .min => "min" | .max => "max" | .index => "index" | .count => "count"
theorem r_p2 {p : P2} {q : Pos} {x : Str} (hp : p = .min ∨ p = .max) (hK : S.K = X.K) (hc : X.calm = true) (hx : x = p2Name p) (hg : Gl X x) (hm : X.mg x = none) (hn : x ≠ "__name__") (hdb : (x == ("__debug__" : Str)) = false)
    (ha : PE X pa (tD S C W a)) (hb : PE X pb (tD S C W b)) (he : nst pa = true) (he2 : nst pb = true) : PE X (.Call (.Name x q) [pa, pb] [] pos) (tDf S C W (.p2 p a b)) := by
  have key : ∀ {f : BT}, P2D X f.v p → bootBuiltins (p2Name p) = some f.v → PE X (.Call (.Name x q) [pa, pb] [] pos) (tDf S C W (.p2 p a b)) := fun {f} hD hv => by
    refine PE.imp (pe_bt hD hg hm (by rw [hx]; exact hv) (pa_cons ha (pa_cons hb pa_nil (star_cons he2)) (star_cons he)) hn hdb he (by simp [he2])) fun σ H Q ⟨P, env, O, s, p⟩ => ⟨P, env, O, s, PostG.imp (PostG.bind (show PostG S W P H O σ ((evalE C a env).bind _) _ from p)) fun d s1 H1 O1 _ _ _ ⟨x1, t1, p1⟩ v r => ⟨P, s1, O1, t1, PostG.imp (PostG.bind p1) fun d2 s2 H2 O2 _ _ _ ⟨x2, t2, p2⟩ v2 r2 => ?_⟩⟩
    obtain ⟨z, hz, p3⟩ := PostG.opt p2
    rw [hK] at r r2
    have k := resK_of t2 p3
    rw [hK] at k
    exact ⟨v, v2, d, d2, z, S.F O2, rfl, t2.own, (r.mono x2.mono).view, r2.view, hz, k⟩
  rcases hp with rfl | rfl
  · exact key (f := .b "min") (p2_min hc) (by decide +kernel)
  · exact key (f := .b "max") (p2_max hc) (by decide +kernel)
/-! ### isinstance -/
def tyName : Ty → Option String
  | .int => some "int" | .bool => some "bool" | .str => some "str" | .tuple => some "tuple" | .list => some "list" | .dict => some "dict"
  | .own _ => none
def dTy : D → Option String
  | .non => some "NoneType"
  | .bl _ => some "bool"
  | .int _ => some "int"
  | .str _ => some "str"
  | .tup _ => some "tuple"
  | .lst _ => some "list"
  | _ => none
theorem isTy_dTy {d : D} {t : Ty} {k : Bool} (h : isTy d t = some k) : ∃ n, dTy d = some n := by
  cases d <;> first | exact ⟨_, rfl⟩ | (simp [isTy] at h; done)
theorem isTy_kit {d : D} {t : Ty} {k : Bool} {n m : String} (h : isTy d t = some k) (hd : dTy d = some n) (hm : tyName t = some m) : kitB n m = some k := by
  cases d <;> simp only [dTy] at hd <;> cases hd <;> cases t <;> simp only [tyName] at hm <;> cases hm <;> simp only [isTy] at h <;> cases h <;> decide +kernel
theorem tyX {K : PySem.W.Frag} {H : Hp} {F : Addr → Prop} {d : D} {v : V} {n : String} (r : RepV K H F d v) (h : dTy d = some n) : TyX K H v (.type n) := by
  cases d with
  | non => cases r; cases h; exact .base .non
  | bl b => cases r; cases h; exact .base (.bl b)
  | int i => cases r; cases h; exact .base (.int i)
  | str x => cases r; cases h; exact .base (.str x)
  | tup ds =>
    obtain ⟨a, vs, rfl, ta, ra⟩ := r
    cases h
    exact .base (.tup ta.1)
  | lst ds =>
    obtain ⟨a, vs, rfl, ta, ra⟩ := r
    cases h
    exact .base (.lst ta)
  | _ => cases h
theorem ty_boot : ∀ {t : Ty} {m : String}, tyName t = some m → bootBuiltins (m : Str) = some (.type m) := fun {t m} h => by
  cases t <;> simp only [tyName] at h <;> cases h <;> decide +kernel
def tCs (vs : List V) : TA := fun _ H Q => Q vs H
/-- names of builtin types -/
def tyC : List Ty → List Expr → Bool
  | [], [] => true
  | t :: ts, .Name x _ :: ps => (match tyName t with
    | some m => decide (x = (m : Str))
    | none => false) && tyC ts ps
  | _, _ => false
def tyVs (ts : List Ty) : List V := ts.filterMap fun t => (tyName t).map V.ty
def tyUs (ts : List Ty) : List Value := ts.filterMap fun t => (tyName t).map Value.type
theorem tyC_pa : ∀ {ts : List Ty} {ps : List Expr}, (∀ t ∈ ts, ∀ {m : String}, tyName t = some m → ∀ p, PE X (.Name (m : Str) p) (tC (.ty m))) → tyC ts ps = true → PA X ps (tCs (tyVs ts)) ∧ Paired ClsV (tyVs ts) (tyUs ts) ∧ ps.all nst = true
  | [], [], _, _ => ⟨PA.imp pa_nil fun σ H Q q => q, .nil, rfl⟩
  | [], _ :: _, _, h => by simp [tyC] at h
  | t :: ts, [], _, h => by simp [tyC] at h
  | t :: ts, p :: ps, hg, h => by
    cases p <;> try (simp [tyC] at h; done)
    rename_i x q
    simp only [tyC, Bool.and_eq_true] at h
    cases e : tyName t with
    | none => rw [e] at h; cases h.1
    | some m =>
      rw [e] at h
      have hx := of_decide_eq_true h.1
      subst hx
      obtain ⟨h1, h2, h3⟩ := tyC_pa (fun t ht => hg t (List.mem_cons_of_mem _ ht)) h.2
      have e1 : tyVs (t :: ts) = .ty m :: tyVs ts := by simp [tyVs, e]
      have e2 : tyUs (t :: ts) = .type m :: tyUs ts := by simp [tyUs, e]
      rw [e1, e2]
      exact ⟨PA.imp (pa_cons (hg t List.mem_cons_self e q) h1 (star_cons rfl)) fun σ H Q q => q, .cons (.ty m) h2, by rw [List.all_cons, h3]; rfl⟩
theorem isTys_kit {K : PySem.W.Frag} {d : D} {n : String} (hd : dTy d = some n) : ∀ {ts : List Ty} {k : Bool}, (∀ t ∈ ts, (tyName t).isSome = true) → isTys d ts = some k → PySem.W.kitAny K (.type n) (tyUs ts) = some k
  | [], k, _, h => by
    simp only [isTys] at h
    cases h
    exact kitAny_nil
  | t :: ts, k, ht, h => by
    obtain ⟨m, e⟩ := Option.isSome_iff_exists.mp (ht t List.mem_cons_self)
    have e2 : tyUs (t :: ts) = .type m :: tyUs ts := by simp [tyUs, e]
    rw [e2]
    simp only [isTys] at h
    cases q : isTy d t with
    | none => rw [q] at h; cases h
    | some b =>
      rw [q] at h
      refine kitAny_cons (kit_ty (isTy_kit q hd e)) (fun hb => ?_) fun hb => ?_
      · subst hb
        exact isTys_kit hd (fun t h => ht t (List.mem_cons_of_mem _ h)) h
      · subst hb
        simpa using h.symm
theorem tyC_some : ∀ {ts : List Ty} {ps : List Expr}, tyC ts ps = true → ∀ t ∈ ts, (tyName t).isSome = true
  | [], _, _ => fun t h => by cases h
  | t :: ts, [], h => by simp [tyC] at h
  | t :: ts, p :: ps, h => by
    cases p <;> try (simp [tyC] at h; done)
    simp only [tyC, Bool.and_eq_true] at h
    intro t' ht
    rcases List.mem_cons.mp ht with rfl | ht
    · cases e : tyName t' with
      | none => rw [e] at h; cases h.1
      | some m => rfl
    · exact tyC_some h.2 t' ht
theorem isTys_dTy {d : D} {ts : List Ty} {k : Bool} (hne : ts ≠ []) (h : isTys d ts = some k) : ∃ n, dTy d = some n := by
  cases ts with
  | nil => exact absurd rfl hne
  | cons t r =>
    simp only [isTys] at h
    cases q : isTy d t with
    | none => rw [q] at h; cases h
    | some b => exact isTy_dTy q
theorem r_isi1 {b : Rf.O} {t : Ty} {m : String} {q q2 : Pos} (hK : S.K = X.K) (hg : Gl X "isinstance") (hm : X.mg "isinstance" = none) (ht : tyName t = some m) (hT : PE X (.Name (m : Str) q2) (tC (.ty m))) (ha : PE X pa (tDv S C W b)) (he : nst pa = true) :
    PE X (.Call (.Name "isinstance" q) [pa, .Name (m : Str) q2] [] pos) (tDf S C W (.isi b [t])) := by
  refine PE.imp (pe_bt (f := .b "isinstance") call_isi hg hm (by decide +kernel) (pa_cons ha (pa_cons hT pa_nil (star_cons rfl)) (star_cons he)) (by decide) (by decide) he rfl) fun σ H Q ⟨P, env, O, s, p⟩ => ⟨P, env, O, s, PostG.imp (PostG.bind (show PostG S W P H O σ ((evalV C b env).bind _) _ from p)) fun d s1 H1 O1 _ _ _ ⟨x1, t1, p1⟩ v r => ?_⟩
  obtain ⟨z, hz, p3⟩ := PostG.optBind p1
  have hz' : isTy d t = some z := by
    simp only [isTys] at hz
    cases e : isTy d t with
    | none => rw [e] at hz; cases hz
    | some k => rw [e] at hz; cases k <;> simpa using hz
  obtain ⟨n, hn⟩ := isTy_dTy hz'
  rw [hK] at r
  exact ⟨v, .ty m, .type n, .type m, z, rfl, .ty m, tyX r hn, kit_ty (isTy_kit hz' hn ht), post_bl t1 p3⟩
theorem RepV.same {K : PySem.W.Frag} {H H' : Hp} {F : Addr → Prop} {d : D} {v : V} (h : Same H H') (r : RepV K H F d v) : RepV K H' F d v := by
  cases d with
  | lst ds =>
    obtain ⟨a, vs, e, t, rs⟩ := r
    exact ⟨a, vs, e, h _ _ t, rs.mono (Mono.same h)⟩
  | dic ks ds =>
    obtain ⟨a, vs, e, ⟨o, t, c⟩, rs⟩ := r
    exact ⟨a, vs, e, ⟨o, h _ _ t, c⟩, rs.mono (Mono.same h)⟩
  | _ => exact Rep.mono (Mono.same h) r
theorem r_isiT {b : Rf.O} {ts : List Ty} {ps : List Expr} {k1 : Nat} {q q2 : Pos} (hK : S.K = X.K) (hg : Gl X "isinstance") (hm : X.mg "isinstance" = none) (hne : ts ≠ []) (hc : tyC ts ps = true) (hT : ∀ t ∈ ts, ∀ {m : String}, tyName t = some m → ∀ p, PE X (.Name (m : Str) p) (tC (.ty m))) (hl : ts.length ≤ 1000) (ha : PE X pa (tDv S C W b)) (he : nst pa = true) :
    PE X (.Call (.Name "isinstance" q) [pa, .Tuple ps k1 q2] [] pos) (tDf S C W (.isi b ts)) := by
  obtain ⟨h1, h2, h3⟩ := tyC_pa hT hc
  have hl2 : (tyVs ts).length ≤ 1000 := Nat.le_trans (List.length_filterMap_le _ _) hl
  refine PE.imp (pe_bt (f := .b "isinstance") call_isiT hg hm (by decide +kernel) (pa_cons ha (pa_cons (pe_tup h1) pa_nil (star_cons rfl)) (star_cons he)) (by decide) (by decide) he rfl) fun σ H Q ⟨P, env, O, s, p⟩ => ⟨P, env, O, s, PostG.imp (PostG.bind (show PostG S W P H O σ ((evalV C b env).bind _) _ from p)) fun d s1 H1 O1 _ _ _ ⟨x1, t1, p1⟩ v r => ⟨small hl2, fun q hq => ?_⟩⟩
  obtain ⟨z, hz, p3⟩ := PostG.optBind p1
  obtain ⟨n, hn⟩ := isTys_dTy hne hz
  rw [hK] at r
  have sm : Same H1 (upd H1 q (.tup (tyVs ts))) := same_upd hq
  exact ⟨v, q, tyVs ts, .type n, tyUs ts, z, rfl, upd_same, h2, tyX (r.same sm) hn, isTys_kit hn (tyC_some hc) hz, p3 _ _ (Ext.same sm) (t1.same sm) (.bl z) rfl fun c => by cases c⟩
end
end Rf

/-! Rg, part H0: {}, list(range(..)), len(set(..)), l.index(x). -/
namespace Rf
open PySem PySem.Spec PyProof.Rows L2
section
variable {X : Cx} {S : Sit} {C : Calls} {W : WX} {pos : Pos} {a b c : E} {pa pb pc : Expr}
theorem r_dnew : PE X (.Dict [] [] pos) (tDf S C W .dnew) :=
  PE.imp pe_dnewK fun σ H Q ⟨P, env, O, s, q⟩ p hp => res_new (d := .dic [] []) (o := .dK []) (vs := []) s rfl q hp ⟨rfl, .inl ⟨[], rfl, rfl⟩⟩ rfl
/-! ### range(..) handed to list, tuple -/
theorem reps_rg {K : PySem.W.Frag} {H : Hp} {F : Addr → Prop} (lo : Int) (n : Nat) : Reps K H F (rangeD lo n) ((List.range n).map fun i => V.int (lo + (i : Nat))) := by
  have e : rangeD lo n = ((List.range n).map fun (i : Nat) => lo + (i : Int)).map D.int := by simp [rangeD, Function.comp_def]
  have e2 : ((List.range n).map fun (i : Nat) => V.int (lo + (i : Nat))) = ((List.range n).map fun (i : Nat) => lo + (i : Int)).map V.int := by simp [Function.comp_def]
  rw [e, e2]
  exact reps_of_ints _
def tRgD (S : Sit) (C : Calls) (W : WX) (it : It) : L2.St → Hp → (Int → Int → Hp → Prop) → Prop := fun σ H Q => ∃ P env O, SR S P H O env σ ∧
  PostG S W P H O σ (evalI C it env) fun ds s H' O' => ∀ lo hi, ds = rangeD lo (hi - lo).toNat → -(2 ^ 62) ≤ lo → lo < 2 ^ 62 → -(2 ^ 62) ≤ hi → hi < 2 ^ 62 → Q lo hi H'
theorem PRg.imp {X : Cx} {e : Expr} {t t' : L2.St → Hp → (Int → Int → Hp → Prop) → Prop} (h : PRg X e t) (i : ∀ σ H Q, t' σ H Q → t σ H Q) : PRg X e t' := fun pins s σ H Q I q => h pins s σ H Q I (i σ H Q q)
theorem prg1 {p : Pos} (hg : Gl X "range") (hm : X.mg "range" = none) (ha : PE X pa (tD S C W a)) (he : nst pa = true) : PRg X (.Call (.Name "range" p) [pa] [] pos) (tRgD S C W (.rng1 a)) :=
  PRg.imp (prg_1 hg hm ha (star_cons he)) fun σ H Q ⟨P, env, O, s, q⟩ => ⟨P, env, O, s, PostG.imp (PostG.bind (show PostG S W P H O σ ((evalE C a env).bind _) _ from q)) fun d s1 H1 O1 _ _ _ ⟨x1, t1, p1⟩ v r => by
    obtain ⟨n, rfl⟩ : ∃ n, d = .int n := by cases d <;> first | exact ⟨_, rfl⟩ | exact p1.elim
    cases r
    refine ⟨n, rfl, ?_⟩
    have p1 : PostG S W P H1 O1 σ (if decide (-(2 ^ 62) ≤ n) && decide (n < 2 ^ 62) then R.ok (rangeD 0 n.toNat) s1 else .stuck) _ := p1
    split at p1
    · rename_i hn
      simp only [Bool.and_eq_true, decide_eq_true_eq] at hn
      exact p1 H1 O1 (Ext.refl _ _) t1 0 n (by rw [Int.sub_zero]) (by decide) (by decide) hn.1 hn.2
    · exact False.elim p1⟩
theorem prg2 {p : Pos} (hg : Gl X "range") (hm : X.mg "range" = none) (ha : PE X pa (tD S C W a)) (hb : PE X pb (tD S C W b)) (he : nst pa = true) (he2 : nst pb = true) : PRg X (.Call (.Name "range" p) [pa, pb] [] pos) (tRgD S C W (.rng2 a b)) :=
  PRg.imp (prg_2 hg hm ha hb (star_cons he) (star_cons he2) (star_none (by simp [he2]))) fun σ H Q ⟨P, env, O, s, q⟩ => ⟨P, env, O, s, PostG.imp (PostG.bind (show PostG S W P H O σ ((evalE C a env).bind _) _ from q)) fun d s1 H1 O1 _ _ _ ⟨x1, t1, p1⟩ v r =>
    ⟨P, s1, O1, t1, PostG.imp (PostG.bind p1) fun d2 s2 H2 O2 _ _ _ ⟨x2, t2, p2⟩ v2 r2 => by
      obtain ⟨i, rfl⟩ : ∃ n, d = .int n := by cases d <;> first | exact ⟨_, rfl⟩ | exact p2.elim
      obtain ⟨j, rfl⟩ : ∃ n, d2 = .int n := by cases d2 <;> first | exact ⟨_, rfl⟩ | exact p2.elim
      cases r; cases r2
      refine ⟨i, j, rfl, rfl, ?_⟩
      have p2 : PostG S W P H2 O2 σ (if decide (-(2 ^ 62) ≤ i) && decide (i < 2 ^ 62) && decide (-(2 ^ 62) ≤ j) && decide (j < 2 ^ 62) then R.ok (rangeD i (j - i).toNat) s2 else .stuck) _ := p2
      split at p2
      · rename_i hn
        simp only [Bool.and_eq_true, decide_eq_true_eq] at hn
        exact p2 H2 O2 (Ext.refl _ _) t2 i j rfl hn.1.1.1 hn.1.1.2 hn.1.2 hn.2
      · exact False.elim p2⟩⟩
theorem rg_len (lo : Int) (n : Nat) : (rangeD lo n).length = n := by simp [rangeD]
theorem r_lrgL {it : It} {p : Pos} (hc : X.calm = true) (hg : Gl X "list") (hm : X.mg "list" = none) (he : PRg X pa (tRgD S C W it)) (hn : nst pa = true) : PE X (.Call (.Name "list" p) [pa] [] pos) (tDf S C W (.lrg false it)) :=
  PE.imp (pe_listRg hc hg hm he (star_cons hn)) fun σ H Q ⟨P, env, O, s, q⟩ => ⟨P, env, O, s, PostG.imp (PostG.bind (show PostG S W P H O σ ((evalI C it env).bind _) _ from q)) fun ds s1 H1 O1 _ _ _ ⟨x1, t1, p1⟩ lo hi e b1 b2 b3 b4 => by
    split at p1
    · rename_i hz
      have hz' : (hi - lo).toNat ≤ sizeLine := by rw [e, rg_len] at hz; exact hz
      refine ⟨⟨b1, b2, b3, b4, by rw [sizeLine_eq] at hz'; omega⟩, fun l hl => ?_⟩
      have k := resK_of t1 (d := .lst ds) p1
      exact k l _ hl (by rw [e]; exact reps_rg _ _)
    · exact False.elim p1⟩
theorem r_lrgT {it : It} {p : Pos} (hc : X.calm = true) (hg : Gl X "tuple") (hm : X.mg "tuple" = none) (he : PRg X pa (tRgD S C W it)) (hn : nst pa = true) : PE X (.Call (.Name "tuple" p) [pa] [] pos) (tDf S C W (.lrg true it)) :=
  PE.imp (pe_tupRg hc hg hm he (star_cons hn)) fun σ H Q ⟨P, env, O, s, q⟩ => ⟨P, env, O, s, PostG.imp (PostG.bind (show PostG S W P H O σ ((evalI C it env).bind _) _ from q)) fun ds s1 H1 O1 _ _ _ ⟨x1, t1, p1⟩ lo hi e b1 b2 b3 b4 => by
    split at p1
    · rename_i hz
      have hz' : (hi - lo).toNat ≤ sizeLine := by rw [e, rg_len] at hz; exact hz
      refine ⟨⟨b1, b2, b3, b4, by rw [sizeLine_eq] at hz'; omega⟩, fun l hl => ?_⟩
      have k := resK_of t1 (d := .tup ds) p1
      have sm : Same H1 (upd H1 l (.tup (rgV lo hi))) := same_upd hl
      exact k _ _ sm ⟨l, _, rfl, ⟨upd_same, t1.new hl⟩, by rw [e]; exact reps_rg _ _⟩
    · exact False.elim p1⟩
/-! ### len(set(..)) of numbers -/
theorem nodup_dd (l : List Int) : l.eraseDups.Nodup := by
  induction hn : l.length using Nat.strongRecOn generalizing l with
  | ind n ih =>
    cases l with
    | nil => simp
    | cons x xs =>
      rw [List.eraseDups_cons]
      refine List.nodup_cons.mpr ⟨fun q => ?_, ih _ (by subst hn; exact Nat.lt_succ_of_le (List.length_filter_le _ _)) _ rfl⟩
      rw [List.mem_eraseDups] at q
      simp at q
theorem dist_len {out ns : List Int} (h1 : out.Nodup) (h2 : ∀ k, k ∈ out ↔ k ∈ ns) : out.length = ns.eraseDups.length := by
  refine List.Perm.length_eq ((List.perm_ext_iff_of_nodup h1 (nodup_dd ns)).mpr fun k => ?_)
  rw [h2, List.mem_eraseDups]
theorem firstMet_nd (val : Nat → Int) : ∀ i, (PyProof.Rows.firstMet val i).Nodup
  | 0 => .nil
  | i + 1 => by
    rw [PyProof.Rows.firstMet_succ]
    unfold PyProof.Rows.step_dedup
    split
    · exact firstMet_nd val i
    · rename_i h
      refine List.nodup_append.mpr ⟨firstMet_nd val i, by simp, fun x hx y hy q => h ?_⟩
      rw [List.mem_singleton.mp hy] at q
      exact List.any_eq_true.mpr ⟨x, hx, by rw [q]; simp⟩
theorem firstMet_mem (ns : List Int) (k : Int) : k ∈ PyProof.Rows.firstMet (fun i => ns.getD i 0) ns.length ↔ k ∈ ns := by
  have e := PyProof.Rows.firstMet_any (fun i => ns.getD i 0) ns.length k
  have e2 : (List.range ns.length).map (fun i => ns.getD i 0) = ns := by
    refine List.ext_getElem (by simp) fun i h1 h2 => ?_
    simp only [List.getElem_map, List.getElem_range]
    rw [List.getD_eq_getElem?_getD, List.getElem?_eq_getElem h2]; rfl
  rw [e2] at e
  have any_iff : ∀ l : List Int, (l.any (· == k)) = true ↔ k ∈ l := fun l => by simp
  rw [← any_iff, e, any_iff]
def tLenSetD (K : PySem.W.Frag) (ta : TE) : TE := fun σ H Q => ta σ H fun x H1 => ∃ (l : Addr) (ns : List Int), x = .ref l ∧ (SqL K H1 l (ns.map V.int) ∨ SqT K H1 l (ns.map V.int)) ∧ ns.length + 1 < scanBound ∧ Q (.int (ns.eraseDups.length : Nat)) H1
theorem pe_lenSetD {ta : TE} {p p2 q : Pos} (hc : X.calm = true) (hg : Gl X "len") (hm : X.mg "len" = none) (hg2 : Gl X "set") (hm2 : X.mg "set" = none) (ha : PE X pa ta)
    (na : starEach [pa] X.env = (false, eval pa X.env) :: starEach [] X.env) : PE X (.Call (.Name "len" p) [.Call (.Name "set" p2) [pa] [] q] [] pos) (tLenSetD X.K ta) := by
  refine ⟨fun pins s σ H Q I h => ?_⟩
  refine Call_ (ld_blt I hg hm boot_len ?_)
  refine PyProof.Rows.callWith_builtin1 (PyProof.Rows.args_cons ?_ rfl) rfl rfl
  refine Call_ (ld_blt I hg2 hm2 boot_set ?_)
  refine PyProof.Rows.callWith_type1 (PyProof.Rows.args_cons (thn (ha.run pins s σ H _ I h) fun v s1 ⟨x, H1, I1, r1, q1⟩ => PyProof.Rows.args_nil ?_) na) na rfl
  obtain ⟨l, ns, rfl, hq, hl, q1⟩ := q1
  cases r1
  have sb : scanBound < 2 ^ 40 := by decide +kernel
  rcases hq with hq | hq
  · obtain ⟨its, r, pl, hz⟩ := I1.list hq
    have hlen : its.toArray.size = ns.length := by rw [List.size_toArray, ← r.length, List.length_map]
    refine call_set_list (I1.ok.hd hc) pl.isList (by simpa using r.ints) (by rw [hlen]; exact hl) fun h' tk hS hk => ?_
    refine PyProof.Rows.args_nil ?_
    rw [hlen] at hS
    obtain ⟨o, es, ep, t, ho, hex, hd, _, _, _, hf, hn⟩ := hS
    have I2 : L2.Inv X pins σ H1 { s1 with heap := h', toks := tk } := I1.kept fun b o e => hk b o (Heap.lt_size e) e
    have hn : es.size = ns.eraseDups.length := by rw [hn]; exact dist_len (firstMet_nd _ _) (firstMet_mem ns)
    have hle := PyProof.Rows.firstMet_length_le (fun i => ns.getD i 0) ns.length
    rw [dist_len (firstMet_nd _ _) (firstMet_mem ns)] at hle
    exact call_len_set ho hex hd hf (by rw [hn]; omega) ⟨.int ns.eraseDups.length, H1, I2.tok _, ⟨_, by rw [hn]⟩, q1⟩
  · obtain ⟨its, r, pl, hz⟩ := I1.tuple hq
    refine call_set_tupI ns (I1.ok.hd hc) pl (by simpa using r.ints) hl fun h' tk c R1 hcn k => ?_
    refine PyProof.Rows.args_nil ?_
    obtain ⟨o, es, ep, t, ho, hex, hdt, g, nd, hm2, hb, hf, hn, hr, hl2⟩ := R1
    have I2 : L2.Inv X pins σ H1 { s1 with heap := h', toks := tk } := I1.kept k
    have hn2 : es.size = ns.eraseDups.length := by
      have e := dist_len nd (ns := ns) fun k => by rw [← hm2 k, decide_eq_true_eq]
      simpa using e
    exact call_len_set ho hex hdt hf (by omega) ⟨.int ns.eraseDups.length, H1, I2.tok _, ⟨_, by rw [hn2]⟩, q1⟩
theorem r_lenset {b : Rf.O} {p p2 q : Pos} (hK : S.K = X.K) (hc : X.calm = true) (hg : Gl X "len") (hm : X.mg "len" = none) (hg2 : Gl X "set") (hm2 : X.mg "set" = none) (ha : PE X pa (tDv S C W b)) (he : nst pa = true) :
    PE X (.Call (.Name "len" p) [.Call (.Name "set" p2) [pa] [] q] [] pos) (tDf S C W (.p1 .lenset b)) := by
  refine PE.imp (pe_lenSetD hc hg hm hg2 hm2 ha (star_cons he)) fun σ H Q ⟨P, env, O, s, p⟩ => ⟨P, env, O, s, PostG.imp (PostG.bind (show PostG S W P H O σ ((evalV C b env).bind _) _ from p)) fun d s1 H1 O1 _ _ _ ⟨x1, t1, p1⟩ v r => ?_⟩
  obtain ⟨z, hz, p3⟩ := PostG.opt p1
  cases d <;> try (simp [Rf.p1] at hz; done)
  · obtain ⟨l, vs, rfl, t, rs⟩ := r
    simp only [Rf.p1, Option.bind_eq_some_iff] at hz
    obtain ⟨ns, hns, hz⟩ := hz
    obtain ⟨rfl, rfl⟩ := reps_ints rs hns
    split at hz
    · rename_i hl
      cases hz
      have sq := t.sq
      rw [hK] at sq
      exact ⟨l, ns, rfl, .inr sq, hl, post_int t1 p3⟩
    · cases hz
  · obtain ⟨l, vs, rfl, t, rs⟩ := r
    simp only [Rf.p1, Option.bind_eq_some_iff] at hz
    obtain ⟨ns, hns, hz⟩ := hz
    obtain ⟨rfl, rfl⟩ := reps_ints rs hns
    split at hz
    · rename_i hl
      cases hz
      exact ⟨l, ns, rfl, .inl (SqL.of t), hl, post_int t1 p3⟩
    · cases hz
/-! ### l.index(x), numbers -/
theorem few1' (env : PySem.Env) (cpos : Pos) (hn : nst pb = true) : ((backTo cpos (starEach [pb] env)).all (fun x => !x.1) && (backToKw cpos (keywordEach [] env)).all (fun x => x.1.isSome)
      && decide (([pb] : List Expr).length + ([] : List Keyword).length + (if ([] : List Keyword).isEmpty then 0 else 1) < 30)) = true := by
  rw [star_cons hn]; rfl
theorem flat_ints (l : List Int) : (l.map V.int).all flatV = true := by
  induction l with
  | nil => rfl
  | cons a l ih => rw [List.map_cons, List.all_cons, ih]; rfl
theorem r_idx {x : Str} {p apos cpos : Pos} (hK : S.K = X.K) (ha : PE X (.Name x p) (tD S C W a)) (hb : PE X pb (tD S C W b)) (hl : (apos.endLine == cpos.line) = true) (hn : nst pb = true) : PE X (.Call (.Attribute (.Name x p) "index" apos) [pb] [] cpos) (tDf S C W (.idx a b)) := by
  refine PE.imp (pe_bm PySem.F.plainAttrs_list PySem.F.slot_list_index PySem.F.type_list_index mt_index ha (pa_cons hb pa_nil (star_cons hn)) (by rfl) (few1' _ _ hn) hl (star_cons hn) rfl) fun σ H Q ⟨P, env, O, s, q⟩ => ⟨P, env, O, s, PostG.imp (PostG.bind (show PostG S W P H O σ ((evalE C a env).bind _) _ from q)) fun d s1 H1 O1 _ _ _ ⟨x1, t1, p1⟩ v r => ?_⟩
  obtain ⟨ds, rfl⟩ : ∃ n, d = .lst n := by cases d <;> first | exact ⟨_, rfl⟩ | exact p1.elim
  obtain ⟨l, vs, rfl, t, rs⟩ := r
  refine ⟨.inl ⟨rfl, vs, SqL.of t.1⟩, P, s1, O1, t1, PostG.imp (PostG.bind (show PostG S W P H1 O1 σ ((evalE C b s1).bind _) _ from p1)) fun d2 s2 H2 O2 _ _ _ ⟨x2, t2, p2⟩ v2 r2 => ?_⟩
  obtain ⟨z, hz, p3⟩ := PostG.opt p2
  obtain ⟨y, rfl⟩ : ∃ n, d2 = .int n := by cases d2 <;> first | exact ⟨_, rfl⟩ | (simp [idxD] at hz; done)
  cases r2
  simp only [idxD] at hz
  split at hz
  · rename_i hlen
    simp only [Option.bind_eq_some_iff, Option.map_eq_some_iff] at hz
    obtain ⟨ns, hns, j, hj, rfl⟩ := hz
    obtain ⟨rfl, rfl⟩ := reps_ints rs hns
    obtain ⟨hlt, hj2, hj3⟩ := List.findIdx?_eq_some_iff_getElem.mp hj
    have sq2 : SqL X.K H2 l (ns.map V.int) := SqL.of (t.mono x2.mono).1
    refine ⟨l, ns.map V.int, .int y, j, .int ns[j], rfl, rfl, sq2, rfl, flat_ints ns, by simp [hlt], ?_, fun m z' hm hz' => ?_, post_int t2 p3⟩
    · have e := of_decide_eq_true hj2
      rw [e]; simp [eqV]
    · rw [List.getElem?_map] at hz'
      obtain ⟨w, hw, rfl⟩ := Option.map_eq_some_iff.mp hz'
      have e := hj3 m hm
      obtain ⟨h1, h2⟩ := List.getElem?_eq_some_iff.mp hw
      rw [h2] at e
      simp at e
      simp [eqV, e]
  · cases hz
end
end Rf

/-! Rg, part I0: t[::-1] of a tuple. -/
namespace Rf
open PySem PySem.Spec PyProof.Rows L2 HT
section
variable {prog : Program} {w : World} {A : Around} {E : Value → Shared → Prop} {s : Shared}
theorem back_adjust (n : Nat) : Builtin.Slice.sliceAdjust none none (-1) (n : Int) = ((n : Int) - 1, -1) := rfl
theorem back_places (n : Nat) : Builtin.Slice.slicePlaces ((n : Int) - 1) (-1) (-1) = n := by
  have neg : ¬ ((-1 : Int) > 0) := by decide
  unfold Builtin.Slice.slicePlaces
  rw [if_neg neg]
  by_cases h : (n : Int) - 1 > -1
  · rw [if_pos h, show (- -1 : Int) = 1 by decide, Int.ediv_one]
    omega
  · rw [if_neg h]
    omega
theorem fm_on {α β : Type} {f g : α → Option β} : ∀ {l : List α}, (∀ a ∈ l, f a = g a) → l.filterMap f = l.filterMap g
  | [], _ => rfl
  | a :: l, h => by rw [List.filterMap_cons, List.filterMap_cons, h a List.mem_cons_self, fm_on fun b hb => h b (List.mem_cons_of_mem _ hb)]
theorem back_pick (xs : Array Value) : ((List.range xs.size).filterMap fun (k : Nat) => xs[((xs.size : Int) - 1 + (k : Int) * (-1)).toNat]?).toArray = xs.toList.reverse.toArray := by
  rw [← PySem.W.krv_all xs, ← List.filterMap_reverse, ← PySem.W.krv_range, List.filterMap_map]
  congr 1
  refine fm_on fun k hk => ?_
  have := List.mem_range.mp hk
  show _ = xs[xs.size - 1 - k]?
  congr 1
  omega
theorem back_applied {sl : Addr} {vs : Value} {n : Nat} {Q : Int × Int × Nat → Shared → Prop} (hs : s.heap.IsSliceOf sl .none .none vs) (ps : IsPart vs (some (-1)))
    (h : Q ((n : Int) - 1, -1, n) s) : wpAny (model prog w) A (Builtin.Slice.sliceApplied (.ref sl) (pure (n : Int))) Q E s := by
  obtain ⟨os, hos, hcs, hds⟩ := id hs
  unfold Builtin.Slice.sliceApplied Builtin.Slice.sliceFields
  refine wpAny_bind (wpAny_bind (wpAny_field hos hds (x := .none) rfl (wpAny_bind (wpAny_field hos hds (x := .none) rfl (wpAny_bind (wpAny_field hos hds (x := vs) rfl (wpAny_pure ?_)))))))
  refine wpAny_bind (slicePart_ ps ?_)
  show wpAny _ _ (if ((-1 : Int) == 0) = true then _ else _) _ _ s
  rw [if_neg (by decide)]
  refine wpAny_bind (slicePart_none (wpAny_bind (slicePart_none (wpAny_bind (wpAny_pure ?_)))))
  show wpAny _ _ (match Builtin.Slice.sliceAdjust none none (-1) (n : Int) with | (lo, hi) => pure (lo, (-1 : Int), Builtin.Slice.slicePlaces lo hi (-1))) _ _ s
  rw [back_adjust]
  show wpAny _ _ (pure ((n : Int) - 1, (-1 : Int), Builtin.Slice.slicePlaces ((n : Int) - 1) (-1) (-1))) _ _ s
  rw [back_places]
  exact wpAny_pure h
theorem getItem_tuple_back {t sl : Addr} {items : Array Value} {vs : Value} {Q : Value → Shared → Prop} (ht : IsTup s.heap t items) (hs : s.heap.IsSliceOf sl .none .none vs) (ps : IsPart vs (some (-1)))
    (h : Q (.ref s.heap.objs.size) { s with heap := s.heap.push ⟨.type "tuple", none, .seq items.toList.reverse.toArray 0, #[]⟩ }) (hsz : items.size ≤ sizeLine) : wpAny (model prog w) A (getItem (.ref t) (.ref sl)) Q E s := by
  have fits : sizeOk (.seq items.toList.reverse.toArray) := by
    show items.toList.reverse.toArray.size ≤ sizeLine
    simpa using hsz
  obtain ⟨os, hos, hcs, hds⟩ := id hs
  have isS : s.TypeIs (.ref sl) "slice" := ⟨os, hos, hcs⟩
  unfold getItem
  try with_reducible refine wpAny_holding ?_
  first
    | refine wpAny_bind (wpAny_pure ?_)
    | skip
  refine wpAny_bind (wpAny_sequenceKey ht.typeIs (by decide) (wpAny_bind (wpAny_callSpecial?_slot (name := Str.ofString "__getitem__") ht.typeIs PyProof.Rows.slot_tuple_getitem (wpAny_call_entry PyProof.Rows.slot_tuple_getitem ht.typeIs entry_tuple_getitem ?_ (args_tuple_getitem _ _)))))
  show wpAny _ _ (Builtin.Tuple.tupleItemsOf (.ref t) >>= _) _ _ s
  refine wpAny_bind (tupleItemsOf_ ht (wpAny_bind (wpAny_typeOf isS ?_)))
  rw [if_pos (by decide)]
  refine wpAny_bind (back_applied hs ps ?_)
  have no : ¬ ((((items.size : Int) - 1 == 0 && (-1 : Int) == 1 && items.size == items.size)) = true) := by simp
  show wpAny _ _ (if ((items.size : Int) - 1 == 0 && (-1 : Int) == 1 && items.size == items.size) = true then _ else _) _ _ s
  rw [if_neg no, back_pick]
  first
    | exact wpAny_bind (m := Builtin.Tuple.tupleExact _) (wpAny_newObj_type (wpAny_pure ⟨_, rfl, wpAny_pure h⟩) fits)
    | exact wpAny_bind (m := Builtin.Tuple.tupleExact _) (wpAny_newObj_type (wpAny_bind (wpAny_pure (wpAny_pure ⟨_, rfl, wpAny_pure h⟩))) fits)
    | exact wpAny_bind (wpAny_bind (m := Builtin.Tuple.tupleExact _) (wpAny_newObj_type (wpAny_pure (wpAny_pure ⟨_, rfl, wpAny_pure h⟩)) fits))
    | exact wpAny_bind (wpAny_bind (m := Builtin.Tuple.tupleExact _) (wpAny_newObj_type (wpAny_pure ⟨_, rfl, wpAny_pure h⟩) fits))
end
def tRevA (K : PySem.W.Frag) (te : TE) : TE := fun σ H Q => te σ H fun x H1 => ∃ a xs, x = .ref a ∧ ((SqL K H1 a xs ∧ ∀ p, H1 p = none → Q (.ref p) (upd H1 p (.lst xs.reverse))) ∨ (SqT K H1 a xs ∧ ∀ p, H1 p = none → Q (.ref p) (upd H1 p (.tup xs.reverse))))
theorem pe_revA {X : Cx} {e : Expr} {te : TE} {k : Nat} {p1 p2 p3 pos : Pos} (he : PE X e te) : PE X (.Subscript e (.Slice none none (some (.UnaryOp .USub (.Constant (.int 1) k p1) p2)) p3) pos) (tRevA X.K te) := ⟨fun pins s σ H Q I h => by
  refine Subscript_ (thn (he.run pins s σ H _ I h) fun v s1 ⟨x, H1, I1, r1, a, xs, ex, q⟩ => ?_)
  subst ex
  cases r1
  have last : PO X (some (.UnaryOp .USub (.Constant (.int 1) k p1) p2)) (tPart (tUn (rU fun i => .int (-i)) (tC (.int 1)))) := po_some (pe_un un_neg pe_int)
  refine wpAny_Slice (thn (po_none.run pins s1 σ H1 (fun o H2 => o = none ∧ H2 = H1) I1 ⟨rfl, rfl⟩) fun vl s2 ⟨l, H2, I2, pl, el, e2⟩ => ?_)
  subst el e2
  refine thn (po_none.run pins s2 σ H2 (fun o H3 => o = none ∧ H3 = H2) I2 ⟨rfl, rfl⟩) fun vu s3 ⟨u, H3, I3, pu, eu, e3⟩ => ?_
  subst eu e3
  refine thn (last.run pins s3 σ H3 (fun o H4 => o = some (-1) ∧ H4 = H3) I3 ⟨1, rfl, -1, rfl, rfl, rfl⟩) fun vs s4 ⟨o, H4, I4, ps, eo, e4⟩ => ?_
  subst eo e4
  cases pl
  cases pu
  have I5 : Inv X pins σ H4 { s4 with heap := s4.heap.push ⟨.type "slice", none, .fields #[.none, .none, vs], #[]⟩ } := I4.kept (t' := s4.toks) fun b ob q => Heap.get?_push_of_some _ q
  show wpAny (model X.prog X.w) X.A (subscriptTail e (.Slice none none (some (.UnaryOp .USub (.Constant (.int 1) k p1) p2)) p3) (.ref a) (.ref s4.heap.objs.size)) (EP X pins σ Q) X.xe { s4 with heap := s4.heap.push ⟨.type "slice", none, .fields #[.none, .none, vs], #[]⟩ }
  rcases q with ⟨hx, q⟩ | ⟨hx, q⟩
  · obtain ⟨its, r, ht, hz⟩ := I5.list hx
    have len := r.length
    refine tail_any (ops := [.ref a, .ref s4.heap.objs.size]) ht.isList.typeIs (PySem.slot_list_getitem.lookup) ?_ (by with_unfolding_all rfl)
    refine wpAny_getItem_list_slice ht.isList (Heap.IsSliceOf.new _ .none .none vs) .none .none ps (by decide) ?_ (by rw [List.size_toArray]; omega)
    rw [PySem.W.krv_pick]
    refine ⟨.ref _, _, I5.laid (t' := s4.toks) (o := .lst xs.reverse) (fun b ob q => Heap.get?_push_of_some _ q) (Nat.le_refl _) ?_, rfl, q _ (I5.hok.fresh (Nat.le_refl _))⟩
    exact ⟨by rw [List.length_reverse]; exact hz, _, 0, r.reverse, Heap.get?_push_size _ rfl⟩
  · obtain ⟨its, r, ht, hz⟩ := I5.tuple hx
    have len := r.length
    refine tail_any (ops := [.ref a, .ref s4.heap.objs.size]) ht.typeIs (PyProof.Rows.slot_tuple_getitem.lookup) ?_ (by with_unfolding_all rfl)
    refine getItem_tuple_back ht (Heap.IsSliceOf.new _ .none .none vs) ps ?_ (by rw [List.size_toArray]; omega)
    refine ⟨.ref _, _, I5.laid (t' := s4.toks) (o := .tup xs.reverse) (fun b ob q => Heap.get?_push_of_some _ q) (Nat.le_refl _) ?_, rfl, q _ (I5.hok.fresh (Nat.le_refl _))⟩
    exact ⟨by rw [List.length_reverse]; exact hz, _, r.reverse, IsTup.new _ _⟩⟩
end Rf

/-! Rg, part I: .. items, slices, reversed lists, owned lists written. -/
namespace Rf
open PySem PySem.Spec PyProof.Rows L2
section
variable {X : Cx} {S : Sit} {C : Calls} {W : WX} {pos : Pos} {a b c : E} {pa pb pc : Expr}
theorem r_sub (hK : S.K = X.K) (hu : X.A.units + 100 < cLine) (ha : PE X pa (tD S C W a)) (hb : PE X pb (tD S C W b)) (hs : nsl pb = true) : PE X (.Subscript pa pb pos) (tD S C W (.sub a b)) :=
  PE.imp (pe_ix (ixD hu) ha hb (plainIx hs)) fun σ H Q ⟨P, env, O, s, p⟩ => ⟨P, env, O, s, PostG.imp (PostG.bind (show PostG S W P H O σ ((evalE C a env).bind _) _ from p)) fun d1 s1 H1 O1 _ _ _ ⟨x1, t1, p1⟩ v1 r1 => ⟨P, s1, O1, t1, PostG.imp (PostG.bind p1) fun d2 s2 H2 O2 _ _ _ ⟨x2, t2, p2⟩ v2 r2 => by
    obtain ⟨z, hz, p3⟩ := PostG.opt p2
    have k := p3 H2 O2 (Ext.refl _ _) t2
    rw [hK] at r1 r2 k
    exact ⟨d1, d2, z, S.F O2, t2.own, (r1.mono x2.mono).view, r2.view, hz, k⟩⟩⟩
theorem r_subv {i : Nat} (hK : S.K = X.K) (hu : X.A.units + 100 < cLine) (ha : PE X pa (tVar i)) (hb : PE X pb (tD S C W b)) (hs : nsl pb = true) : PE X (.Subscript pa pb pos) (tD S C W (.subv i b)) := by
  refine PE.imp (pe_ix (ixD hu) ha hb (plainIx hs)) fun σ H Q ⟨P, env, O, s, p⟩ => ?_
  obtain ⟨_, v1, e1, _, p⟩ := s.slot (show PostG S W P H O σ ((slotR env i).bind _) _ from p)
  refine ⟨v1, e1, P, env, O, s, PostG.imp (PostG.bind p) fun d2 s2 H2 O2 _ _ _ ⟨x2, t2, p2⟩ v2 r2 => ?_⟩
  obtain ⟨d1, v1', e1', r1, p3⟩ := t2.slot p2
  rw [e1] at e1'; cases e1'
  obtain ⟨z, hz, p3⟩ := PostG.opt p3
  have k := p3 H2 O2 (Ext.refl _ _) t2
  rw [hK] at r1 r2 k
  exact ⟨d1, d2, z, S.F O2, t2.own, r1, r2.view, hz, k⟩
theorem r_po_none : PO X none (tDo S C W none) := ⟨fun pins s σ H Q I ⟨P, env, O, t, p⟩ => po_none.run pins s σ H Q I (p H O (Ext.refl _ _) t)⟩
theorem r_po_some (ha : PE X pa (tD S C W a)) : PO X (some pa) (tDo S C W (some a)) :=
  ⟨fun pins s σ H Q I ⟨P, env, O, t, p⟩ => (po_some ha).run pins s σ H Q I ⟨P, env, O, t, PostG.imp (PostG.bind (show PostG S W P H O σ ((evalE C a env).bind _) _ from p)) fun d s1 H1 O1 _ _ _ ⟨x1, t1, p1⟩ v r => by
    cases d <;> try exact p1.elim
    cases r
    exact ⟨_, rfl, p1 H1 O1 (Ext.refl _ _) t1⟩⟩⟩
theorem r_slc {lo hi : Option E} {plo phi : Option Expr} {p2 : Pos} (hK : S.K = X.K) (ha : PE X pa (tD S C W a)) (hl : PO X plo (tDo S C W lo)) (hh : PO X phi (tDo S C W hi)) : PE X (.Subscript pa (.Slice plo phi none p2) pos) (tDf S C W (.slc a lo hi)) :=
  PE.imp (pe_slice slD ha hl hh) fun σ H Q ⟨P, env, O, s, p⟩ => ⟨P, env, O, s, PostG.imp (PostG.bind (show PostG S W P H O σ ((evalE C a env).bind _) _ from p)) fun d1 s1 H1 O1 _ _ _ ⟨x1, t1, p1⟩ v1 r1 => ⟨P, s1, O1, t1, PostG.imp (PostG.bind p1) fun l s2 H2 O2 _ _ _ ⟨x2, t2, p2⟩ =>
    ⟨P, s2, O2, t2, PostG.imp (PostG.bind p2) fun h s3 H3 O3 _ _ _ ⟨x3, t3, p3⟩ => by
      obtain ⟨z, hz, p4⟩ := PostG.opt p3
      have k := resK_of t3 p4
      rw [hK] at r1 k
      exact ⟨d1, z, S.F O3, t3.own, ((r1.mono x2.mono).mono x3.mono).view, hz, k⟩⟩⟩⟩
theorem r_slcv {i : Nat} {lo hi : Option E} {plo phi : Option Expr} {p2 : Pos} (hK : S.K = X.K) (ha : PE X pa (tVar i)) (hl : PO X plo (tDo S C W lo)) (hh : PO X phi (tDo S C W hi)) : PE X (.Subscript pa (.Slice plo phi none p2) pos) (tDf S C W (.slcv i lo hi)) := by
  refine PE.imp (pe_slice slD ha hl hh) fun σ H Q ⟨P, env, O, s, p⟩ => ?_
  obtain ⟨_, v1, e1, _, p⟩ := s.slot (show PostG S W P H O σ ((slotR env i).bind _) _ from p)
  refine ⟨v1, e1, P, env, O, s, PostG.imp (PostG.bind p) fun l s2 H2 O2 _ _ _ ⟨x2, t2, p2⟩ => ⟨P, s2, O2, t2, PostG.imp (PostG.bind p2) fun h s3 H3 O3 _ _ _ ⟨x3, t3, p3⟩ => ?_⟩⟩
  obtain ⟨d1, v1', e1', r1, p4⟩ := t3.slot p3
  rw [e1] at e1'; cases e1'
  obtain ⟨z, hz, p5⟩ := PostG.opt p4
  have k := resK_of t3 p5
  rw [hK] at r1 k
  exact ⟨d1, z, S.F O3, t3.own, r1, hz, k⟩
theorem r_rev {b : Rf.O} {k : Nat} {p1 p2 p3 : Pos} (hK : S.K = X.K) (ha : PE X pa (tDv S C W b)) : PE X (.Subscript pa (.Slice none none (some (.UnaryOp .USub (.Constant (.int 1) k p1) p2)) p3) pos) (tDf S C W (.rev b)) :=
  PE.imp (pe_revA ha) fun σ H Q ⟨P, env, O, s, p⟩ => ⟨P, env, O, s, PostG.imp (PostG.bind (show PostG S W P H O σ ((evalV C b env).bind _) _ from p)) fun d s1 H1 O1 _ _ _ ⟨x1, t1, p1⟩ v r => by
    cases d <;> try exact p1.elim
    · obtain ⟨q, vs, rfl, t, rs⟩ := r
      have sq := t.sq
      rw [hK] at sq
      exact ⟨q, vs, rfl, .inr ⟨sq, fun l hl => resK_of t1 p1 _ _ (same_upd hl) ⟨l, vs.reverse, rfl, ⟨upd_same, t1.new hl⟩, rs.reverse.mono (Mono.same (same_upd hl))⟩⟩⟩
    · obtain ⟨q, vs, rfl, t, rs⟩ := r
      exact ⟨q, vs, rfl, .inl ⟨SqL.of t, fun l hl => resK_of t1 p1 l _ hl rs.reverse⟩⟩⟩
/-! ### an owned container is written -/
theorem SR.writeC {P : Pd} {H : Hp} {O : Addr → Prop} {env : Env} {σ : L2.St} {i : Nat} {c : D} (s : SR S P H O env σ) (h : env[i]? = some (Sl.ow c)) (hc : isC c = true) :
    ∃ l vs, σ[i]? = some (some (.ref l)) ∧ CnAt H c l vs ∧ Reps S.K H (S.F O) (kids c) vs ∧ ∀ (d : D) (o' : HO) (us : List V), isC d = true → CnO d o' us → Reps S.K H (S.F O) (kids d) us →
      Ext H O (upd H l o') O ∧ SR S P (upd H l o') O (env.set i (Sl.ow d)) σ ∧ Mono H (S.F O) (upd H l o') (S.F O) := by
  obtain ⟨v, e1, t0⟩ := s.ow i _ h
  obtain ⟨l, vs, rfl, o, g, x, r⟩ := (top_C hc).mp t0
  have hlt : i < env.length := (List.getElem?_eq_some_iff.mp h).1
  refine ⟨l, vs, e1, x, r, fun d0 o' us hd ho ru => ?_⟩
  have m : Mono H (S.F O) (upd H l o') (S.F O) := fun b ob e n => ⟨by rw [upd_ne (fun q => by rw [q] at n; exact n (.inr o))]; exact e, n⟩
  have xt : Ext H O (upd H l o') O := ⟨fun b ob e n => by rw [upd_ne (fun q => by rw [q] at n; exact n o)]; exact e, fun b h => .inl h⟩
  have top : ∀ {d : D} {v : V}, Top S H O d v → (isC d = true → v ≠ .ref l) → Top S (upd H l o') O d v := fun {d v} t n => by
    cases hc : isC d with
    | false => rw [top_notC hc] at t ⊢; exact t.mono m
    | true =>
      obtain ⟨b, ws, rfl, ob, gb, xb, rb⟩ := (top_C hc).mp t
      exact (top_C hc).mpr ⟨b, ws, rfl, ob, gb, xb.keep fun o e => by rw [upd_ne (fun q => n hc (by rw [q]))]; exact e, rb.mono m⟩
  have root : rt env σ P (.inl i) = some (.ref l) := rt_inl.mpr ⟨_, h, hc, e1⟩
  refine ⟨xt, ⟨by rw [List.length_set]; exact s.len, fun b f => ?_, s.dis, fun j d e => ?_, fun j d e => ?_, fun p hp => ?_, fun y z w h1 h2 => ?_, s.io⟩, m⟩
  · by_cases hb : b = l
    · rw [hb, upd_same]; simp
    · rw [upd_ne hb]; exact s.own b f
  · by_cases hj : j = i
    · subst hj
      rw [List.getElem?_set_self hlt] at e; cases e
    · rw [List.getElem?_set_ne (Ne.symm hj)] at e
      obtain ⟨w, e2, t⟩ := s.sh j d e
      exact ⟨w, e2, t.mono m⟩
  · by_cases hj : j = i
    · subst hj
      rw [List.getElem?_set_self hlt] at e; cases e
      exact ⟨_, e1, (top_C hd).mpr ⟨l, us, rfl, o, g, ⟨o', upd_same, ho⟩, ru.mono m⟩⟩
    · rw [List.getElem?_set_ne (Ne.symm hj)] at e
      obtain ⟨w, e2, t⟩ := s.ow j d e
      refine ⟨w, e2, top t fun c q => ?_⟩
      have := s.ne (.inl j) (.inl i) (.ref l) (rt_inl.mpr ⟨d, e, c, by rw [e2, q]⟩) root
      exact hj (by cases this; rfl)
  · refine top (s.pd p hp) fun c q => ?_
    obtain ⟨j, hj, ej⟩ := List.mem_iff_getElem.mp hp
    have := s.ne (.inr j) (.inl i) (.ref l) (rt_inr.mpr ⟨p.1, by rw [List.getElem?_eq_getElem hj, ej, ← q], c⟩) root
    cases this
  · have back : ∀ y w, rt (env.set i (Sl.ow d0)) σ P y = some w → rt env σ P y = some w := fun y w h1 => by
      cases y with
      | inr j => exact h1
      | inl j =>
        obtain ⟨d, q1, q2, q3⟩ := rt_inl.mp h1
        by_cases hj : j = i
        · subst hj
          rw [e1] at q3; cases q3
          exact root
        · rw [List.getElem?_set_ne (Ne.symm hj)] at q1
          exact rt_inl.mpr ⟨d, q1, q2, q3⟩
    exact s.ne y z w (back y w h1) (back z w h2)
theorem SR.write {P : Pd} {H : Hp} {O : Addr → Prop} {env : Env} {σ : L2.St} {i : Nat} {ds es : List D} (s : SR S P H O env σ) (h : env[i]? = some (Sl.ow (.lst ds))) :
    ∃ l vs, σ[i]? = some (some (.ref l)) ∧ H l = some (.lst vs) ∧ Reps S.K H (S.F O) ds vs ∧ ∀ us, Reps S.K H (S.F O) es us → Ext H O (upd H l (.lst us)) O ∧ SR S P (upd H l (.lst us)) O (env.set i (Sl.ow (.lst es))) σ ∧ Mono H (S.F O) (upd H l (.lst us)) (S.F O) := by
  obtain ⟨l, vs, e1, ⟨o, x, q⟩, r, k⟩ := s.writeC h rfl
  exact ⟨l, vs, e1, by rw [x, show o = .lst vs from q], r, fun us ru => k (.lst es) (.lst us) us rfl rfl ru⟩
theorem Reps.last {K : PySem.W.Frag} {H : Hp} {F : Addr → Prop} {ds : List D} {vs : List V} {d : D} (r : Reps K H F ds vs) (h : ds.getLast? = some d) : ∃ v, vs[vs.length - 1]? = some v ∧ Rep K H F d v := by
  rw [List.getLast?_eq_getElem?] at h
  obtain ⟨v, e, q⟩ := r.get h
  rw [r.length] at e
  exact ⟨v, e, q⟩
theorem Reps.dropLast {K : PySem.W.Frag} {H : Hp} {F : Addr → Prop} {ds : List D} {vs : List V} (r : Reps K H F ds vs) : Reps K H F ds.dropLast vs.dropLast := by
  rw [List.dropLast_eq_take, List.dropLast_eq_take, ← r.length]
  exact r.take _
theorem base_name {x : Str} {p : Pos} {f : Str} {env : PySem.Env} : attributeBase (.Name x p) f env (eval (.Name x p) env) = eval (.Name x p) env := rfl
/-- an owned list read, written -/
theorem SR.own_ {P : Pd} {H : Hp} {O : Addr → Prop} {env : Env} {σ : L2.St} {i : Nat} {α : Type} {f : List D → Env → R α} {Q : α → Env → Hp → (Addr → Prop) → Prop} (s : SR S P H O env σ) (h : PostG S W P H O σ ((ownR env i).bind f) Q) :
    ∃ ds l vs, env[i]? = some (Sl.ow (.lst ds)) ∧ σ[i]? = some (some (.ref l)) ∧ H l = some (.lst vs) ∧ Reps S.K H (S.F O) ds vs ∧ PostG S W P H O σ (f ds env) Q := by
  unfold ownR at h
  split at h
  · rename_i ds e
    obtain ⟨l, vs, e1, x, r, k⟩ := s.write (es := []) e
    exact ⟨ds, l, vs, e, e1, x, r, h⟩
  · exact h.elim
theorem SR.ownC_ {P : Pd} {H : Hp} {O : Addr → Prop} {env : Env} {σ : L2.St} {i : Nat} {α : Type} {f : D → Env → R α} {Q : α → Env → Hp → (Addr → Prop) → Prop} (s : SR S P H O env σ) (h : PostG S W P H O σ ((ownC env i).bind f) Q) :
    ∃ c l vs, env[i]? = some (Sl.ow c) ∧ isC c = true ∧ σ[i]? = some (some (.ref l)) ∧ CnAt H c l vs ∧ Reps S.K H (S.F O) (kids c) vs ∧ PostG S W P H O σ (f c env) Q := by
  unfold ownC at h
  split at h
  · rename_i c e
    split at h
    · rename_i hc
      obtain ⟨l, vs, e1, x, r, k⟩ := s.writeC e hc
      exact ⟨c, l, vs, e, hc, e1, x, r, h⟩
    · exact h.elim
  · exact h.elim
theorem r_pop {i : Nat} {x : Str} {p apos cpos : Pos} (ha : PE X (.Name x p) (tVar i)) (hl : (apos.endLine == cpos.line) = true) : PE X (.Call (.Attribute (.Name x p) "pop" apos) [] [] cpos) (tD S C W (.pop i)) := by
  refine PE.imp (pe_bm0 PySem.F.plainAttrs_list PySem.F.slot_list_pop PySem.F.type_list_pop mt_pop ha base_name hl) fun σ H Q ⟨P, env, O, s, q⟩ => ?_
  obtain ⟨ds, _, _, e, _, _, _, q⟩ := s.own_ (show PostG S W P H O σ ((ownR env i).bind _) _ from q)
  split at q
  · rename_i d el
    obtain ⟨l, vs, e1, x, r, k⟩ := s.write (es := ds.dropLast) e
    obtain ⟨w, hw, rw'⟩ := r.last el
    obtain ⟨x2, t2, m2⟩ := k vs.dropLast r.dropLast
    exact ⟨.ref l, e1, .inl ⟨rfl, vs, SqL.of x⟩, l, vs, w, rfl, rfl, x, hw, q _ _ x2 t2 w (rw'.mono m2)⟩
  · exact q.elim
theorem few1 (env : PySem.Env) (cpos : Pos) (hn : nst pb = true) : ((backTo cpos (starEach [pb] env)).all (fun x => !x.1) && (backToKw cpos (keywordEach [] env)).all (fun x => x.1.isSome)
      && decide (([pb] : List Expr).length + ([] : List Keyword).length + (if ([] : List Keyword).isEmpty then 0 else 1) < 30)) = true := by
  rw [star_cons hn]; rfl
theorem r_popAt {i : Nat} {x : Str} {p apos cpos : Pos} (ha : PE X (.Name x p) (tVar i)) (hb : PE X pb (tD S C W b)) (hl : (apos.endLine == cpos.line) = true) (hn : nst pb = true) : PE X (.Call (.Attribute (.Name x p) "pop" apos) [pb] [] cpos) (tD S C W (.popAt i b)) := by
  refine PE.imp (pe_bm PySem.F.plainAttrs_list PySem.F.slot_list_pop PySem.F.type_list_pop mt_popAt ha (pa_cons hb pa_nil (star_cons hn)) base_name (few1 _ _ hn) hl (star_cons hn) rfl) fun σ H Q ⟨P, env, O, s, q⟩ => ?_
  obtain ⟨ds, l, vs, e, e1, x, r, q⟩ := s.own_ (show PostG S W P H O σ ((ownR env i).bind _) _ from q)
  refine ⟨.ref l, e1, .inl ⟨rfl, vs, SqL.of x⟩, P, env, O, s, PostG.imp (PostG.bind q) fun d2 s2 H2 O2 _ _ _ ⟨x2, t2, p2⟩ v2 r2 => ?_⟩
  obtain ⟨ds2, l2, vs2, e2, e12, x2', rs2, p2⟩ := t2.own_ p2
  rw [e1] at e12; cases e12
  cases d2 with
  | int k =>
    cases r2
    have p2 : PostG S W P H2 O2 σ (if decide (-(2 ^ 62) ≤ k) && decide (k < 2 ^ 62) then (match ixN ds2.length k with
      | some k => match ds2[k]? with
        | some d => .ok d (s2.set i (.ow (.lst (ds2.eraseIdx k))))
        | none => .stuck
      | none => .stuck) else .stuck) fun d _ H' O' => ∀ v, Rep S.K H' (S.F O') d v → Q v H' := p2
    split at p2
    · rename_i hb
      simp only [Bool.and_eq_true, decide_eq_true_eq] at hb
      cases hj : ixN ds2.length k with
      | none => rw [hj] at p2; exact False.elim p2
      | some j =>
        rw [hj] at p2
        cases hd : ds2[j]? with
        | none => simp only [hd] at p2; exact False.elim p2
        | some d =>
          simp only [hd] at p2
          obtain ⟨l3, vs3, e3, x3, r3, k3⟩ := t2.write (es := ds2.eraseIdx j) e2
          rw [e1] at e3; cases e3
          obtain ⟨w, hw, rw'⟩ := r3.get hd
          obtain ⟨x4, t4, m4⟩ := k3 (vs3.eraseIdx j) (r3.eraseIdx j)
          obtain ⟨g1, g2, g3, g4⟩ := ixN_seq hj
          rw [r3.length] at g1
          exact ⟨l, vs3, k, j, w, rfl, rfl, x3, by omega, by omega, g1, hw, p2 _ _ x4 t4 w (rw'.mono m4)⟩
    · exact False.elim p2
  | _ => exact False.elim p2
end
end Rf

/-! Rg, part J: calls of defs. -/
namespace Rf
open PySem PySem.Spec PyProof.Rows L2

def FinK (S : Sit) (H : Hp) (O : Addr → Prop) (io : List Nat) (r : CR) (Q : VK) (E : XK) : Prop := match r with
  | .stuck => False
  | .ok d o => ∀ H' O' s σ' v, Ext H O H' O' → SR S [] H' O' s σ' → outs io s = some o → (if S.fr = true then Top S H' O' d v ∧ NewTop s σ' [] d v else Rep S.K H' (S.F O') d v) → Q v H'
  | .exc x o => ∀ cls dd H' O' s σ', Ext H O H' O' → SR S [] H' O' s σ' → outs io s = some o → RepX S x cls dd H' → E cls dd H'
def ioV (io : List Nat) (vs : List V) : List (Nat × V) := io.filterMap fun i => (vs[i]?).map fun v => (i, v)
/-- a def's promise: what g reckons is what it does. io: its in-out parameters; fr: its value is new; n: how many parameters; N: all its names -/
def spOf (K : PySem.W.Frag) (cls : Nat → Option Value) (g : List D → CR) (io : List Nat) (fr : Bool) (n : Nat) (N : List Str) : Sp := fun vs H Q E => vs.length = n ∧ ∃ G O ds, ds.length = n ∧
  SR ⟨K, cls, G, ioV io vs, fr⟩ [] H O (enterE io 0 ds ++ List.replicate (N.length - n) .no) (start N vs) ∧ FinK ⟨K, cls, G, ioV io vs, fr⟩ H O io (g ds) Q E

/-! ### the arguments -/
def ioPos : Nat → List Arg → List Nat
  | _, [] => []
  | n, .io _ :: as => n :: ioPos (n + 1) as
  | n, .e _ :: as => ioPos (n + 1) as
def ioSl : List Arg → List Nat
  | [] => []
  | .io i :: as => i :: ioSl as
  | .e _ :: as => ioSl as
theorem mem_ioPos : ∀ {as : List Arg} {n p : Nat}, p ∈ ioPos n as ↔ ∃ (q : Nat) (j : Nat), p = n + q ∧ as[q]? = some (Arg.io j)
  | [], n, p => by simp [ioPos]
  | .io i :: as, n, p => by
    simp only [ioPos, List.mem_cons, mem_ioPos (as := as)]
    constructor
    · rintro (rfl | ⟨q, j, rfl, e⟩)
      · exact ⟨0, i, rfl, rfl⟩
      · exact ⟨q + 1, j, by omega, by simpa using e⟩
    · rintro ⟨q, j, rfl, e⟩
      cases q with
      | zero => exact .inl rfl
      | succ q => exact .inr ⟨q, j, by omega, by simpa using e⟩
  | .e _ :: as, n, p => by
    simp only [ioPos, mem_ioPos (as := as)]
    constructor
    · rintro ⟨q, j, rfl, e⟩
      exact ⟨q + 1, j, by omega, by simpa using e⟩
    · rintro ⟨q, j, rfl, e⟩
      cases q with
      | zero => simp at e
      | succ q => exact ⟨q, j, by omega, by simpa using e⟩
theorem mem_ioSl : ∀ {as : List Arg} {i : Nat}, i ∈ ioSl as ↔ ∃ q : Nat, as[q]? = some (Arg.io i)
  | [], i => by simp [ioSl]
  | .io j :: as, i => by
    simp only [ioSl, List.mem_cons, mem_ioSl (as := as)]
    constructor
    · rintro (rfl | ⟨q, e⟩)
      · exact ⟨0, rfl⟩
      · exact ⟨q + 1, by simpa using e⟩
    · rintro ⟨q, e⟩
      cases q with
      | zero => simp at e; exact .inl e.symm
      | succ q => exact .inr ⟨q, by simpa using e⟩
  | .e _ :: as, i => by
    simp only [ioSl, mem_ioSl (as := as)]
    constructor
    · rintro ⟨q, e⟩
      exact ⟨q + 1, by simpa using e⟩
    · rintro ⟨q, e⟩
      cases q with
      | zero => simp at e
      | succ q => exact ⟨q, by simpa using e⟩
/-- an in-out slot stands at one place -/
theorem ioSl_inj : ∀ {as : List Arg} {i p q : Nat}, (ioSl as).Nodup → as[p]? = some (Arg.io i) → as[q]? = some (Arg.io i) → p = q
  | [], _, _, _, _, h, _ => by simp at h
  | .io j :: as, i, p, q, nd, hp, hq => by
    have nd := List.nodup_cons.mp (show (j :: ioSl as).Nodup from nd)
    cases p with
    | zero =>
      cases q with
      | zero => rfl
      | succ q =>
        simp at hp; subst hp
        exact absurd (mem_ioSl.mpr ⟨q, by simpa using hq⟩) nd.1
    | succ p =>
      cases q with
      | zero =>
        simp at hq; subst hq
        exact absurd (mem_ioSl.mpr ⟨p, by simpa using hp⟩) nd.1
      | succ q => exact congrArg Nat.succ (ioSl_inj nd.2 (by simpa using hp) (by simpa using hq))
  | .e _ :: as, i, p, q, nd, hp, hq => by
    cases p with
    | zero => simp at hp
    | succ p =>
      cases q with
      | zero => simp at hq
      | succ q => exact congrArg Nat.succ (ioSl_inj (as := as) nd (by simpa using hp) (by simpa using hq))

def ArgsR (K : PySem.W.Frag) (H : Hp) (F : Addr → Prop) (σ : L2.St) : List Arg → List D → List V → Prop
  | [], ds, vs => ds = [] ∧ vs = []
  | .io i :: as, ds, vs => ∃ v r, vs = v :: r ∧ σ[i]? = some (some v) ∧ ArgsR K H F σ as ds r
  | .e _ :: as, ds, vs => ∃ v r d e, vs = v :: r ∧ ds = d :: e ∧ Rep K H F d v ∧ ArgsR K H F σ as e r
def tAr (S : Sit) (C : Calls) (W : WX) (as : List Arg) : TA := fun σ H Q => ∃ P env O, SR S P H O env σ ∧ PostG S W P H O σ (evalA C as env) fun ds _ H' O' => ∀ vs, ArgsR S.K H' (S.F O') σ as ds vs → Q vs H'
section
variable {X : Cx} {S : Sit} {C : Calls} {W : WX} {pos : Pos} {a b c : E} {pa pb pc : Expr} {as : List Arg} {ps : List Expr}
theorem r_ar_nil : PA X [] (tAr S C W []) := PA.imp pa_nil fun σ H Q ⟨P, env, O, s, p⟩ => p H O (Ext.refl _ _) s [] ⟨rfl, rfl⟩
theorem r_ar_io {i : Nat} (ha : PE X pa (tVar i)) (hr : PA X ps (tAr S C W as)) (hn : nst pa = true) : PA X (pa :: ps) (tAr S C W (.io i :: as)) := by
  refine PA.imp (pa_cons ha hr (star_cons hn)) fun σ H Q ⟨P, env, O, s, p⟩ => ?_
  have p : PostG S W P H O σ ((slotR env i).bind fun _ s1 => (evalA C as s1).bind fun ds s => .ok ([] ++ ds) s) (fun ds _ H' O' => ∀ vs, ArgsR S.K H' (S.F O') σ (.io i :: as) ds vs → Q vs H') := by
    have e : evalA C (.io i :: as) env = (slotR env i).bind fun _ s1 => (evalA C as s1).bind fun ds s => .ok ([] ++ ds) s := by
      show ((slotR env i).bind fun _ s => R.ok [] s).bind (fun d s => (evalA C as s).bind fun ds s => .ok (d ++ ds) s) = _
      cases slotR env i <;> rfl
    rw [e] at p
    exact p
  obtain ⟨_, v, e1, _, p⟩ := s.slot p
  exact ⟨v, e1, P, env, O, s, PostG.imp (PostG.bind p) fun ds s1 H1 O1 _ _ _ ⟨x1, t1, p1⟩ vs r => p1 H1 O1 (Ext.refl _ _) t1 (v :: vs) ⟨v, vs, rfl, e1, r⟩⟩
theorem ArgsR.mono {K : PySem.W.Frag} {H H' : Hp} {F F' : Addr → Prop} {σ : L2.St} (m : Mono H F H' F') : ∀ {as : List Arg} {ds : List D} {vs : List V}, ArgsR K H F σ as ds vs → ArgsR K H' F' σ as ds vs
  | [], _, _, h => h
  | .io _ :: as, _, _, ⟨v, r, e, e1, h⟩ => ⟨v, r, e, e1, h.mono m⟩
  | .e _ :: as, _, _, ⟨v, r, d, e, e1, e2, h1, h⟩ => ⟨v, r, d, e, e1, e2, h1.mono m, h.mono m⟩
theorem r_ar_e (ha : PE X pa (tD S C W a)) (hr : PA X ps (tAr S C W as)) (hn : nst pa = true) : PA X (pa :: ps) (tAr S C W (.e a :: as)) := by
  refine PA.imp (pa_cons ha hr (star_cons hn)) fun σ H Q ⟨P, env, O, s, p⟩ => ?_
  have p : PostG S W P H O σ ((evalE C a env).bind fun d s1 => (evalA C as s1).bind fun ds s => .ok ([d] ++ ds) s) (fun ds _ H' O' => ∀ vs, ArgsR S.K H' (S.F O') σ (.e a :: as) ds vs → Q vs H') := by
    have e : evalA C (.e a :: as) env = (evalE C a env).bind fun d s1 => (evalA C as s1).bind fun ds s => .ok ([d] ++ ds) s := by
      show ((evalE C a env).bind fun d s => R.ok [d] s).bind (fun d s => (evalA C as s).bind fun ds s => .ok (d ++ ds) s) = _
      cases evalE C a env <;> rfl
    rw [e] at p
    exact p
  exact ⟨P, env, O, s, PostG.imp (PostG.bind p) fun d s1 H1 O1 _ _ _ ⟨x1, t1, p1⟩ v r => ⟨P, s1, O1, t1, PostG.imp (PostG.bind p1) fun ds s2 H2 O2 _ _ _ ⟨x2, t2, p2⟩ vs rs => p2 H2 O2 (Ext.refl _ _) t2 (v :: vs) ⟨v, vs, d, ds, rfl, rfl, r.mono x2.mono, rs⟩⟩⟩
end
/-- what stands at each place -/
theorem args_at {K : PySem.W.Frag} {H : Hp} {F : Addr → Prop} {σ : L2.St} {s : Env} : ∀ {as : List Arg} {ds es : List D} {vs : List V}, ArgsR K H F σ as ds vs → fillA as ds s = some es → vs.length = as.length ∧ es.length = as.length ∧
    (∀ (p i : Nat), as[p]? = some (Arg.io i) → ∃ v d, vs[p]? = some v ∧ es[p]? = some d ∧ σ[i]? = some (some v) ∧ s[i]? = some (Sl.ow d) ∧ isC d = true) ∧ (∀ (p : Nat) (e : E), as[p]? = some (Arg.e e) → ∃ v d, vs[p]? = some v ∧ es[p]? = some d ∧ Rep K H F d v)
  | [], _, _, _, ⟨e1, e2⟩, h => by
    subst e1 e2
    simp only [fillA] at h
    cases h
    exact ⟨rfl, rfl, fun p i h => by simp at h, fun p i h => by simp at h⟩
  | .io j :: as, ds, es, _, ⟨v, r, e, e1, q⟩, h => by
    subst e
    simp only [fillA] at h
    split at h
    · rename_i d ed
      split at h
      · rename_i hc
        obtain ⟨es', he, rfl⟩ := Option.map_eq_some_iff.mp h
        obtain ⟨l1, l2, a1, a2⟩ := args_at q he
        refine ⟨by simp [l1], by simp [l2], fun p i hp => ?_, fun p e hp => ?_⟩
        · cases p with
          | zero =>
            simp at hp; subst hp
            exact ⟨v, d, rfl, rfl, e1, ed, hc⟩
          | succ p => simpa using a1 p i (by simpa using hp)
        · cases p with
          | zero => simp at hp
          | succ p => simpa using a2 p e (by simpa using hp)
      · cases h
    · cases h
  | .e _ :: as, _, es, _, ⟨v, r, d, ds, e1, e2, rp, q⟩, h => by
    subst e1 e2
    simp only [fillA] at h
    obtain ⟨es', he, rfl⟩ := Option.map_eq_some_iff.mp h
    obtain ⟨l1, l2, a1, a2⟩ := args_at q he
    refine ⟨by simp [l1], by simp [l2], fun p i hp => ?_, fun p e hp => ?_⟩
    · cases p with
      | zero => simp at hp
      | succ p => simpa using a1 p i (by simpa using hp)
    · cases p with
      | zero => exact ⟨v, d, rfl, rfl, rp⟩
      | succ p => simpa using a2 p e (by simpa using hp)
theorem enterE_len (io : List Nat) : ∀ (ds : List D) (k : Nat), (enterE io k ds).length = ds.length
  | [], _ => rfl
  | d :: ds, k => by simp [enterE, enterE_len io ds]
theorem enterE_at (io : List Nat) : ∀ (ds : List D) (k p : Nat), (enterE io k ds)[p]? = (ds[p]?).map fun d => if io.contains (k + p) then Sl.ow d else Sl.sh d
  | [], _, p => by simp [enterE]
  | d :: ds, k, 0 => by simp [enterE]
  | d :: ds, k, p + 1 => by
    simp only [enterE, List.getElem?_cons_succ]
    rw [enterE_at io ds (k + 1) p, show k + 1 + p = k + (p + 1) by omega]
theorem putA_len : ∀ (as : List Arg) (o : List D) (s : Env), (putA as o s).length = s.length
  | [], _, _ => rfl
  | .io i :: as, d :: ds, s => by simp [putA, putA_len as ds]
  | .io _ :: _, [], s => rfl
  | .e _ :: as, ds, s => by simp [putA, putA_len as ds]
/-- behind a call: another slot is as it was -/
theorem putA_out : ∀ {as : List Arg} {o : List D} {s : Env} {j : Nat}, j ∉ ioSl as → (putA as o s)[j]? = s[j]?
  | [], _, _, _, _ => rfl
  | .io i :: as, d :: ds, s, j, h => by
    simp only [ioSl, List.mem_cons, not_or] at h
    simp only [putA]
    rw [putA_out h.2, List.getElem?_set_ne (Ne.symm h.1)]
  | .io _ :: _, [], s, _, _ => rfl
  | .e _ :: as, ds, s, j, h => by
    simp only [putA]
    exact putA_out (as := as) h
/-- an in-out slot holds what the callee's parameter holds -/
theorem putA_at {s' : Env} : ∀ {as : List Arg} {n : Nat} {o : List D} {s : Env} {p i : Nat}, (ioSl as).Nodup → outs (ioPos n as) s' = some o → as[p]? = some (Arg.io i) → i < s.length → ∃ d, s'[n + p]? = some (Sl.ow d) ∧ isC d = true ∧ (putA as o s)[i]? = some (Sl.ow d)
  | [], _, _, _, _, _, _, _, h, _ => by simp at h
  | .io j :: as, n, o, s, p, i, nd, ho, hp, hi => by
    have nd := List.nodup_cons.mp (show (j :: ioSl as).Nodup from nd)
    simp only [ioPos, outs, mapM] at ho
    obtain ⟨d, hd, ho⟩ := Option.bind_eq_some_iff.mp ho
    obtain ⟨o', ho', rfl⟩ := Option.map_eq_some_iff.mp ho
    have hd' : s'[n]? = some (Sl.ow d) ∧ isC d = true := by
      split at hd
      · rename_i d' e
        split at hd
        · rename_i hc; cases hd; exact ⟨e, hc⟩
        · cases hd
      · cases hd
    cases p with
    | zero =>
      simp at hp; subst hp
      refine ⟨d, hd'.1, hd'.2, ?_⟩
      simp only [putA]
      rw [putA_out nd.1, List.getElem?_set_self hi]
    | succ p =>
      obtain ⟨d2, h1, h2, h3⟩ := putA_at (as := as) (n := n + 1) (s := s.set j (Sl.ow d)) nd.2 ho' (by simpa using hp) (by rw [List.length_set]; exact hi)
      exact ⟨d2, by rw [show n + (p + 1) = n + 1 + p by omega]; exact h1, h2, h3⟩
  | .e _ :: as, n, o, s, p, i, nd, ho, hp, hi => by
    cases p with
    | zero => simp at hp
    | succ p =>
      obtain ⟨d2, h1, h2, h3⟩ := putA_at (as := as) (n := n + 1) (s := s) nd ho (by simpa using hp) hi
      exact ⟨d2, by rw [show n + (p + 1) = n + 1 + p by omega]; exact h1, h2, h3⟩
end Rf

/-! Rg, part K: what a call leaves. -/
namespace Rf
open PySem PySem.Spec PyProof.Rows L2
theorem start_at {N : List Str} {vs : List V} {i : Nat} {v : V} (h : vs[i]? = some v) : (start N vs)[i]? = some (some v) := by
  unfold L2.start
  have hi := (List.getElem?_eq_some_iff.mp h).1
  rw [List.getElem?_append_left (by rw [List.length_map]; exact hi), List.getElem?_map, h]
  rfl
theorem start_len {N : List Str} {vs : List V} (h : vs.length ≤ N.length) : (start N vs).length = N.length := by
  unfold L2.start
  rw [List.length_append, List.length_map, List.length_replicate]; omega
/-- the slots at a def's entry -/
theorem enter_sl {io : List Nat} {ds : List D} {m i : Nat} {sl : Sl} (h : (enterE io 0 ds ++ List.replicate m Sl.no)[i]? = some sl) : sl = .no ∨ ∃ d, ds[i]? = some d ∧ sl = if io.contains i then Sl.ow d else Sl.sh d := by
  by_cases hi : i < ds.length
  · rw [List.getElem?_append_left (by rw [enterE_len]; exact hi), enterE_at] at h
    obtain ⟨d, hd, rfl⟩ := Option.map_eq_some_iff.mp h
    exact .inr ⟨d, hd, by rw [Nat.zero_add]⟩
  · rw [List.getElem?_append_right (by rw [enterE_len]; omega)] at h
    exact .inl (List.mem_replicate.mp (List.mem_of_getElem? h)).2
def FrK (S : Sit) (fr : Bool) (P : Pd) (s : Env) (σ : L2.St) (d : D) (v : V) (H' : Hp) (O' : Addr → Prop) : Prop := if fr = true then Top S H' O' d v ∧ NewTop s σ P d v else Rep S.K H' (S.F O') d v
theorem call_core {S : Sit} {W : WX} {P : Pd} {H : Hp} {O : Addr → Prop} {env : Env} {σ : L2.St} {as : List Arg} {ds es : List D} {vs : List V} {g : List D → CR} {fr : Bool} {N : List Str} {Q : VK} (s : SR S P H O env σ)
    (r : ArgsR S.K H (S.F O) σ as ds vs) (hf : fillA as ds env = some es) (nd : (ioSl as).Nodup) (hN : as.length ≤ N.length)
    (h : PostG S W P H O σ (match g es with
      | .ok d outs => R.ok d (putA as outs env)
      | .exc x outs => .exc x (putA as outs env)
      | .stuck => .stuck) fun d s' H' O' => ∀ v, FrK S fr P s' σ d v H' O' → Q v H') :
    spOf S.K S.cls g (ioPos 0 as) fr as.length N vs H Q (WE W σ) := by
  obtain ⟨l1, l2, atI, atE⟩ := args_at r hf
  let Oc : Addr → Prop := fun a => O a ∧ ∃ i, i ∈ ioSl as ∧ σ[i]? = some (some (.ref a))
  let G' : Addr → Prop := fun a => S.G a ∨ (O a ∧ ¬ Oc a)
  let S' : Sit := ⟨S.K, S.cls, G', ioV (ioPos 0 as) vs, fr⟩
  have fsub : ∀ a, S'.F Oc a → S.F O a := fun a q => by
    rcases q with (q | q) | q
    · exact .inl q
    · exact .inr q.1
    · exact .inr q.1
  have isIo : ∀ {p : Nat}, (ioPos 0 as).contains p = true ↔ ∃ j : Nat, as[p]? = some (Arg.io j) := fun {p} => by
    rw [List.contains_iff_mem, mem_ioPos]
    constructor
    · rintro ⟨q, j, e, h⟩
      exact ⟨j, by rw [e, Nat.zero_add]; exact h⟩
    · rintro ⟨j, h⟩
      exact ⟨p, j, by omega, h⟩
  -- an in-out argument's root
  have rootI : ∀ {p i : Nat}, as[p]? = some (Arg.io i) → ∃ l d, es[p]? = some d ∧ vs[p]? = some (.ref l) ∧ σ[i]? = some (some (.ref l)) ∧ env[i]? = some (Sl.ow d) ∧ isC d = true ∧ Oc l ∧ rt env σ P (.inl i) = some (.ref l) ∧ Top S H O d (.ref l) := fun {p i} hp => by
    obtain ⟨v, d, h1, h2, h3, h4, h5⟩ := atI p i hp
    obtain ⟨w, e1, t⟩ := s.ow i d h4
    rw [h3] at e1; cases e1
    obtain ⟨l, us, rfl, o, _, _, _⟩ := (top_C h5).mp t
    exact ⟨l, _, h2, h1, h3, h4, h5, ⟨o, i, mem_ioSl.mpr ⟨p, hp⟩, h3⟩, rt_inl.mpr ⟨_, h4, h5, h3⟩, t⟩
  have srt : SR S' [] H Oc (enterE (ioPos 0 as) 0 es ++ List.replicate (N.length - as.length) .no) (start N vs) := by
    refine ⟨?_, fun a q => s.own a (fsub a q), fun a q k => ?_, fun p d e => ?_, fun p d e => ?_, fun p hp => (nomatch hp), fun x y v h1 h2 => ?_, fun p hp => ?_⟩
    · rw [List.length_append, enterE_len, List.length_replicate, start_len (by omega)]; omega
    · rcases q with q | q
      · exact s.dis a q k.1
      · exact q.2 k
    · rcases enter_sl e with e | ⟨d', hd, e⟩
      · cases e
      · have hlt : p < as.length := by rw [← l2]; exact (List.getElem?_eq_some_iff.mp hd).1
        cases ha : as[p] with
        | io j =>
          have hc : (ioPos 0 as).contains p = true := isIo.mpr ⟨j, by rw [List.getElem?_eq_getElem hlt, ha]⟩
          rw [if_pos hc] at e; cases e
        | e x =>
          obtain ⟨v, d2, h1, h2, h3⟩ := atE p x (by rw [List.getElem?_eq_getElem hlt, ha])
          rw [hd] at h2; cases h2
          have hd' : d = d' := by
            split at e
            · cases e
            · cases e; rfl
          subst hd'
          exact ⟨v, start_at h1, h3.mono (Mono.sub fsub)⟩
    · rcases enter_sl e with e | ⟨d', hd, e⟩
      · cases e
      · split at e
        · rename_i hc
          cases e
          obtain ⟨j, hj⟩ := isIo.mp hc
          obtain ⟨l, d2, h1, h2, h3, h4, h5, h6, h7, t⟩ := rootI hj
          rw [hd] at h1; cases h1
          refine ⟨_, start_at h2, ?_⟩
          obtain ⟨b, us, e, o, gb, xb, rb⟩ := (top_C h5).mp t
          cases e
          exact (top_C h5).mpr ⟨l, us, rfl, h6, fun q => q.elim gb fun q => q.2 h6, xb, rb.mono (Mono.sub fsub)⟩
        · cases e
    · have key : ∀ {x v}, rt (enterE (ioPos 0 as) 0 es ++ List.replicate (N.length - as.length) .no) (start N vs) [] x = some v → ∃ p i l, x = .inl p ∧ v = .ref l ∧ as[p]? = some (Arg.io i) ∧ rt env σ P (.inl i) = some (.ref l) := fun {x v} h1 => by
        cases x with
        | inr j => obtain ⟨d, e, _⟩ := rt_inr.mp h1; simp at e
        | inl p =>
          obtain ⟨d, e, c, e2⟩ := rt_inl.mp h1
          rcases enter_sl e with e | ⟨d', hd, e⟩
          · cases e
          · split at e
            · rename_i hc
              obtain ⟨j, hj⟩ := isIo.mp hc
              obtain ⟨l, d2, h1, h2, h3, h4, h5, h6, h7, t⟩ := rootI hj
              rw [start_at h2] at e2; cases e2
              exact ⟨p, j, l, rfl, rfl, hj, h7⟩
            · cases e
      obtain ⟨p, i, l, rfl, rfl, h3, h4⟩ := key h1
      obtain ⟨q, j, l2, rfl, e, h5, h6⟩ := key h2
      cases e
      have := s.ne _ _ _ h4 h6
      cases this
      rw [ioSl_inj nd h3 h5]
    · obtain ⟨i, hi, e⟩ := List.mem_filterMap.mp hp
      obtain ⟨v, hv, rfl⟩ := Option.map_eq_some_iff.mp e
      exact start_at hv
  refine ⟨l1, G', Oc, es, l2, srt, ?_⟩
  -- behind
  have fsub2 : ∀ {O2 : Addr → Prop}, (∀ a, O2 a → O a) → True := fun _ => trivial
  have keepG : ∀ {H' : Hp} {O' : Addr → Prop}, Ext H Oc H' O' → ∀ a o, H a = some o → ¬ Oc a → H' a = some o := fun x a o e n => x.keep a o e n
  -- the caller's state behind the call, R: what joins the owned
  have back : ∀ {H' : Hp} {O' : Addr → Prop} {s' : Env} {σ' : L2.St} {o : List D} (R : Addr → Prop), Ext H Oc H' O' → SR S' [] H' O' s' σ' → outs (ioPos 0 as) s' = some o → (∀ a, R a → O' a ∧ ¬ G' a) →
      Ext H O H' (fun a => O a ∨ R a) ∧ SR S P H' (fun a => O a ∨ R a) (putA as o env) σ ∧ (∀ a, S.F (fun a => O a ∨ R a) a → S'.F O' a) ∧ (∀ x l, rt (putA as o env) σ P x = some (.ref l) → R l → ∃ p : Nat, rt s' σ' [] (.inl p) = some (.ref l)) := by
    intro H' O' s' σ' o R x t ho hR
    -- a parameter behind the call
    have par : ∀ {p i : Nat}, as[p]? = some (Arg.io i) → ∃ l d, σ[i]? = some (some (.ref l)) ∧ rt env σ P (.inl i) = some (.ref l) ∧ isC d = true ∧ (putA as o env)[i]? = some (Sl.ow d) ∧ Top S' H' O' d (.ref l) ∧ rt s' σ' [] (.inl p) = some (.ref l) := fun {p i} hp => by
      obtain ⟨l, d2, h1, h2, h3, h4, h5, h6, h7, _⟩ := rootI hp
      obtain ⟨d, k1, k2, k3⟩ := putA_at (s := env) nd ho hp (List.getElem?_eq_some_iff.mp h4).1
      rw [Nat.zero_add] at k1
      obtain ⟨w, e1, tp⟩ := t.ow p d k1
      have e2 : σ'[p]? = some (some (.ref l)) := t.io (p, .ref l) (List.mem_filterMap.mpr ⟨p, mem_ioPos.mpr ⟨p, i, by omega, hp⟩, by rw [h2]; rfl⟩)
      rw [e2] at e1; cases e1
      exact ⟨l, _, h3, h7, k2, k3, tp, rt_inl.mpr ⟨_, k1, k2, e2⟩⟩
    have ocO : ∀ {l : Addr}, Oc l → O' l ∧ H' l ≠ none := fun {l} ⟨_, i, hi, e⟩ => by
      obtain ⟨p, hp⟩ := mem_ioSl.mp hi
      obtain ⟨l2, d, e1, _, cd, _, tp, _⟩ := par hp
      obtain ⟨b, us, e3, ob, _, xb, _⟩ := (top_C cd).mp tp
      rw [e] at e1; cases e1; cases e3
      exact ⟨ob, xb.mem⟩
    have fin : ∀ a, S.F (fun a => O a ∨ R a) a → S'.F O' a := fun a q => by
      rcases q with q | q | q
      · exact .inl (.inl q)
      · by_cases hc : Oc a
        · exact .inr (ocO hc).1
        · exact .inl (.inr ⟨q, hc⟩)
      · exact .inr (hR a q).1
    have x2 : Ext H O H' (fun a => O a ∨ R a) := ⟨fun a ob e n => x.keep a ob e fun q => n q.1, fun a q => by
      rcases q with q | q
      · exact .inl q
      · rcases x.new a (hR a q).1 with q | q
        · exact .inl q.1
        · exact .inr q⟩
    have m : Mono H (S.F O) H' (S.F fun a => O a ∨ R a) := x2.mono
    -- another owned container
    have other : ∀ {d : D} {v : V}, Top S H O d v → (isC d = true → ∀ i, i ∈ ioSl as → σ[i]? ≠ some (some v)) → Top S H' (fun a => O a ∨ R a) d v := fun {d v} tp n => by
      cases hc : isC d with
      | false => rw [top_notC hc] at tp ⊢; exact tp.mono m
      | true =>
        obtain ⟨b, us, rfl, ob, gb, xb, rb⟩ := (top_C hc).mp tp
        exact (top_C hc).mpr ⟨b, us, rfl, .inl ob, gb, xb.keep fun o eo => x.keep b o eo fun q => let ⟨_, i, hi, e⟩ := q; n hc i hi e, rb.mono m⟩
    have rootback : ∀ {y : Nat ⊕ Nat} {w : V}, rt (putA as o env) σ P y = some w → rt env σ P y = some w := fun {y w} h1 => by
      cases y with
      | inr j => exact h1
      | inl j =>
        obtain ⟨d, q1, q2, q3⟩ := rt_inl.mp h1
        by_cases hj : j ∈ ioSl as
        · obtain ⟨p, hp⟩ := mem_ioSl.mp hj
          obtain ⟨l, d', e1, e2, _, _, _, _⟩ := par hp
          rw [q3] at e1; cases e1
          exact e2
        · rw [putA_out hj] at q1
          exact rt_inl.mpr ⟨d, q1, q2, q3⟩
    refine ⟨x2, ⟨by rw [putA_len]; exact s.len, fun a q => ?_, fun a q k => ?_, fun j d e => ?_, fun j d e => ?_, fun p hp => ?_, fun y z w h1 h2 => s.ne y z w (rootback h1) (rootback h2), s.io⟩, fin, fun y l h1 hl => ?_⟩
    · have base : S.G a ∨ O a → H' a ≠ none := fun q => by
        by_cases hc : Oc a
        · exact (ocO hc).2
        · cases e : H a with
          | none => exact absurd e (s.own a q)
          | some ob => rw [x.keep a ob e hc]; simp
      rcases q with q | q | q
      · exact base (.inl q)
      · exact base (.inr q)
      · exact t.own a (.inr (hR a q).1)
    · rcases k with k | k
      · exact s.dis a q k
      · exact (hR a k).2 (.inl q)
    · by_cases hj : j ∈ ioSl as
      · obtain ⟨p, hp⟩ := mem_ioSl.mp hj
        obtain ⟨l, d', e1, e2, _, e3, _, _⟩ := par hp
        rw [e3] at e; cases e
      · rw [putA_out hj] at e
        obtain ⟨w, e1, q⟩ := s.sh j d e
        exact ⟨w, e1, q.mono m⟩
    · by_cases hj : j ∈ ioSl as
      · obtain ⟨p, hp⟩ := mem_ioSl.mp hj
        obtain ⟨l, d', e1, e2, cd, e3, tp, _⟩ := par hp
        rw [e3] at e; cases e
        refine ⟨_, e1, ?_⟩
        obtain ⟨b, us, eb, ob, gb, xb, rb⟩ := (top_C cd).mp tp
        cases eb
        obtain ⟨ds0, b0, us0, eb0, ob0, gb0, _⟩ := s.root e2
        cases eb0
        exact (top_C cd).mpr ⟨l, us, rfl, .inl ob0, gb0, xb, rb.mono (Mono.sub fin)⟩
      · rw [putA_out hj] at e
        obtain ⟨w, e1, q⟩ := s.ow j d e
        refine ⟨w, e1, other q fun c i hi e2 => ?_⟩
        obtain ⟨p, hp⟩ := mem_ioSl.mp hi
        obtain ⟨l, d', k1, k2, _, _, _, _⟩ := par hp
        rw [e2] at k1; cases k1
        have := s.ne _ _ _ k2 (rt_inl.mpr ⟨d, e, c, e1⟩)
        cases this
        exact hj hi
    · refine other (s.pd p hp) fun c i hi e2 => ?_
      obtain ⟨q, hq⟩ := mem_ioSl.mp hi
      obtain ⟨l, d', k1, k2, _, _, _, _⟩ := par hq
      rw [e2] at k1
      obtain ⟨j, hj, ej⟩ := List.mem_iff_getElem.mp hp
      have e3 : p.2 = .ref l := by simpa using k1
      have := s.ne _ _ _ k2 (show rt env σ P (.inr j) = some (.ref l) from rt_inr.mpr ⟨p.1, by rw [List.getElem?_eq_getElem hj, ej, ← e3], c⟩)
      cases this
    · cases y with
      | inl j =>
        by_cases hj : j ∈ ioSl as
        · obtain ⟨p, hp⟩ := mem_ioSl.mp hj
          obtain ⟨l2, d', e1, e2, _, e3, _, e5⟩ := par hp
          have := rootback h1
          rw [e2] at this; cases this
          exact ⟨p, e5⟩
        · have h0 := rootback h1
          obtain ⟨ds0, b0, us0, eb0, ob0, gb0, _⟩ := s.root h0
          cases eb0
          refine absurd (.inr ⟨ob0, fun q => ?_⟩) (hR l hl).2
          obtain ⟨_, i, hi, e⟩ := q
          obtain ⟨p, hp⟩ := mem_ioSl.mp hi
          obtain ⟨l2, d', k1, k2, _, _, _, _⟩ := par hp
          rw [e] at k1; cases k1
          have := s.ne _ _ _ k2 h0
          cases this
          exact hj hi
      | inr j =>
        have h1 : rt env σ P (.inr j) = some (.ref l) := h1
        obtain ⟨ds0, b0, us0, eb0, ob0, gb0, _⟩ := s.root h1
        cases eb0
        refine absurd (.inr ⟨ob0, fun q => ?_⟩) (hR l hl).2
        obtain ⟨_, i, hi, e⟩ := q
        obtain ⟨p, hp⟩ := mem_ioSl.mp hi
        obtain ⟨l2, d', k1, k2, _, _, _, _⟩ := par hp
        rw [e] at k1; cases k1
        have := s.ne _ _ _ k2 (show rt env σ P (.inr j) = some (.ref l) from h1)
        cases this
  cases hg : g es with
  | stuck => rw [hg] at h; exact h
  | ok d o =>
    rw [hg] at h
    intro H' O' s' σ' v x t ho hv
    cases fr with
    | false =>
      obtain ⟨x2, t2, fin, _⟩ := back (fun _ => False) x t ho fun a q => q.elim
      refine h H' _ x2 t2 v ?_
      have hv : Rep S.K H' (S'.F O') d v := hv
      exact hv.mono (Mono.sub fin)
    | true =>
      have hv : Top S' H' O' d v ∧ NewTop s' σ' [] d v := hv
      obtain ⟨tp, nt⟩ := hv
      cases hc : isC d with
      | false =>
        obtain ⟨x2, t2, fin, _⟩ := back (fun _ => False) x t ho fun a q => q.elim
        refine h H' _ x2 t2 v ⟨?_, fun c => by rw [hc] at c; cases c⟩
        rw [top_notC hc] at tp ⊢
        exact tp.mono (Mono.sub fin)
      | true =>
        obtain ⟨b, us, rfl, ob, gb, xb, rb⟩ := (top_C hc).mp tp
        obtain ⟨x2, t2, fin, hn⟩ := back (fun a => a = b) x t ho fun a q => by rw [q]; exact ⟨ob, gb⟩
        refine h H' _ x2 t2 (.ref b) ⟨(top_C hc).mpr ⟨b, us, rfl, .inr rfl, fun q => gb (.inl q), xb, rb.mono (Mono.sub fin)⟩, fun c y hy => ?_⟩
        obtain ⟨p, hp⟩ := hn y b hy rfl
        exact nt hc _ hp
  | exc y o =>
    rw [hg] at h
    intro cls dd H' O' s' σ' x t ho hx
    obtain ⟨x2, t2, fin, _⟩ := back (fun _ => False) x t ho fun a q => q.elim
    refine h cls dd H' _ x2 t2 ?_
    unfold RepX at *
    exact hx
end Rf
namespace Rf
open PySem PySem.Spec PyProof.Rows L2
def tDk (fr : Bool) (S : Sit) (C : Calls) (W : WX) (e : E) : TE := fun σ H Q => ∃ P env O, SR S P H O env σ ∧ PostG S W P H O σ (evalE C e env) fun d s H' O' => ∀ v, FrK S fr P s σ d v H' O' → Q v H'
section
variable {X : Cx} {S : Sit} {C : Calls} {W : WX} {pos p : Pos} {as : List Arg} {ps : List Expr} {k j n : Nat} {f : Addr} {x : Str} {fd : FuncData} {psN N : List Str} {io : List Nat} {fr : Bool}
/-- what a def whose function object is at f does, at the level k -/
structure Callee (X : Cx) (S : Sit) (C : Calls) (k j : Nat) (x : Str) (n : Nat) (io : List Nat) (fr : Bool) : Prop where
  ex : ∃ (f : Addr) (fd : FuncData) (psN N : List Str), X.mg x = some (.ref f) ∧ PySem.W.keepIn X.K (.ref f) = true ∧ Binds X.K fd psN [] ∧ n ≤ N.length ∧ FnOk X.prog X.w X.K X.mg X.base (L2.CX X.prog X.w) k f fd psN (spOf X.K S.cls (C.fn j) io fr n N)
theorem call_main (hK : S.K = X.K) (hn : n = as.length) (hio : io = ioPos 0 as) (nd : (ioSl as).Nodup) (hN : n ≤ N.length) (σ : L2.St) (H : Hp) (Q : VK) (h : tDk fr S C W (.call j as) σ H Q) :
    tCallSD (spOf X.K S.cls (C.fn j) io fr n N) [] (WE W) (tAr S C W as) σ H Q := by
  subst hn hio
  obtain ⟨P, env, O, s, q⟩ := h
  exact ⟨P, env, O, s, PostG.imp (PostG.bind (show PostG S W P H O σ ((evalA C as env).bind _) _ from q)) fun ds s1 H1 O1 _ _ _ ⟨x1, t1, p1⟩ vs r => by
    obtain ⟨es, hf, p2⟩ := PostG.optBind p1
    rw [List.append_nil, ← hK]
    exact call_core t1 r hf nd hN p2⟩
theorem r_call {e : Expr} (hK : S.K = X.K) (tk : Takes X W) (hr : Room k X.A) (hg : Gl X x) (hdb : (x == ("__debug__" : Str)) = false) (F : Callee X S C k j x n io fr) (hn : n = as.length) (hio : io = ioPos 0 as) (nd : (ioSl as).Nodup) (ha : PA X (e :: ps) (tAr S C W as)) (hs : (e :: ps).all nst = true) :
    PE X (.Call (.Name x p) (e :: ps) [] pos) (tDk fr S C W (.call j as)) := by
  obtain ⟨f, fd, psN, N, hm, hk, hb, hN, F⟩ := F.ex
  rw [List.all_cons, Bool.and_eq_true] at hs
  exact PE.imp (pe_callSD F hr hg hm hk hb .nil (fun σ => passAt tk σ) ha hdb (star_cons hs.1) (star_none hs.2)) (call_main hK hn hio nd hN)
theorem r_call0 (hK : S.K = X.K) (tk : Takes X W) (hr : Room k X.A) (hg : Gl X x) (hdb : (x == ("__debug__" : Str)) = false) (F : Callee X S C k j x 0 io fr) (hio : io = []) :
    PE X (.Call (.Name x p) [] [] pos) (tDk fr S C W (.call j [])) := by
  obtain ⟨f, fd, psN, N, hm, hk, hb, hN, F⟩ := F.ex
  refine ⟨fun pins s σ H Q I h => ?_⟩
  refine wpAny_Call_Name_kw (ld_glob I hg hm ?_ hdb)
  obtain ⟨P, env, O, t, q⟩ := call_main (as := []) hK rfl hio List.nodup_nil hN σ H Q h
  exact PySem.W.callWith_K0 I.kIn hk (run_fnSD (us := []) F hr hb .nil (passAt tk σ) I .nil (q H O (Ext.refl _ _) t [] ⟨rfl, rfl⟩))
end
end Rf

/-! Rg, part L0: enumerate over a tuple. -/
namespace Rf
open PySem PySem.Spec PyProof.Rows L2
/-- the two cells that enumerate makes of a source whose iterator is new -/
abbrev cellIt (h : Heap) (ob : Obj) : Heap := h.push ob
abbrev cellEn (h : Heap) (ob : Obj) : Heap := (h.push ob).push ⟨.type "enumerate", none, .fields #[.none, .bool false, .ref h.objs.size, rawInt 0, .none, .none], #[]⟩
theorem meets_enumV {v : Value} {ob : Obj} {Hy : Heap → Prop} (B : Begins v ob Hy) : Meets (Builtin.«enumerate.__new__» ⟨[.type "enumerate", v], []⟩)
    (fun _ R s => Hy s.heap ∧ R (.ok (.ret (.ref (cellIt s.heap ob).objs.size))) { s with heap := cellEn s.heap ob }) := .of_wp fun P w A R s hs => by
  obtain ⟨hp, gs, dr, tk, os⟩ := s
  obtain ⟨hy, hr⟩ := hs
  have subE := sub_enumerate
  have step : ∀ {A2 : Around} {E2 : Value → Shared → Prop} {Q2 : Value → Shared → Prop}, Q2 (.ref hp.objs.size) ⟨cellIt hp ob, gs, dr, tk, os⟩ → wpAny (model P w) A2 (pyIter v) Q2 E2 ⟨hp, gs, dr, tk, os⟩ := fun q2 => B.iter P w _ _ ⟨hp, gs, dr, tk, os⟩ _ hy q2
  wp_walk using step
  refine wpAny_stack_any fun stk => wpAny_pure ?_
  split
  · rename_i cc _ _ _ _ _
    cases (cc == Value.type "enumerate") <;> (wp_walk using step) <;> exact ⟨_, rfl, hr⟩
  · wp_walk using step
    exact ⟨_, rfl, hr⟩
section
variable {P : Program} {w : World} {A : Around} {E : Value → Shared → Prop} {s : Shared}
theorem enum_made {v : Value} {ob : Obj} {Hy : Heap → Prop} {Q : Value → Shared → Prop} (B : Begins v ob Hy) (hy : Hy s.heap)
    (k : ∀ h2, IsEnum h2 (s.heap.objs.size + 1) s.heap.objs.size 0 .none → h2.get? s.heap.objs.size = some ob → (∀ b o, s.heap.get? b = some o → h2.get? b = some o) → Q (.ref (s.heap.objs.size + 1)) { s with heap := h2 }) :
    wpAny (model P w) A (call (.type "enumerate") [v]) Q E s := by
  have sz : (cellIt s.heap ob).objs.size = s.heap.objs.size + 1 := Heap.size_push ..
  have isE : IsEnum (cellEn s.heap ob) (s.heap.objs.size + 1) s.heap.objs.size 0 .none := by
    have z := Heap.get?_push_size (cellIt s.heap ob) (o := ⟨.type "enumerate", none, .fields #[.none, .bool false, .ref s.heap.objs.size, rawInt 0, .none, .none], #[]⟩) rfl
    rw [sz] at z
    exact z
  refine callType_new F.called_enumerate (by decide) (F.typeCall_enumerate_1 _) (F.newCall_enumerate_1 _) (fun ob2 => F.args_object_init_2 ob2 _) F.entry_enumerate_new (meets_enumV B) ⟨hy, ?_⟩
  show (∃ _, _) ∧ _
  rw [sz]
  exact ⟨⟨_, isE, rfl⟩, k _ isE (Heap.get?_push_of_some _ (Heap.get?_push_size _ B.free)) fun b o e => Heap.get?_push_of_some _ (Heap.get?_push_of_some _ e)⟩
end
/-- the tuple at a as it stands at each turn, each item in a new pair -/
def IteT (K : PySem.W.Frag) (a : Addr) : L2.It where
  go := fun i H => ∃ (xs : List V) (x : V), SqT K H a xs ∧ xs[i]? = some x
  yld := fun i H v H' => ∃ T x, v = .ref T ∧ H T = none ∧ H' = upd H T (.tup [.int (i : Nat), x]) ∧ ∀ xs, SqT K H a xs → xs[i]? = some x
  stop := fun i H => ∃ xs : List V, SqT K H a xs ∧ xs.length ≤ i
theorem in1_handled {A : Around} (h : A.handled = none) : A.in1.handled = none := h
theorem turn_enumT {P : Program} {w : World} {K : PySem.W.Frag} {elts : List Expr} {kk : Nat} {tpos : Pos} (a e it : Addr) :
    Turn P w K (.Tuple elts kk tpos) (IteT K a) [e, it] e (fun i h => (∃ old, IsEnum h e it ((i : Nat) : Int) old) ∧ h.IsTupleIter it a i ∧ e ≠ it ∧ a ≠ it ∧ a ≠ e) where
  mem := List.mem_cons_self
  obj := fun i h ⟨⟨old, he⟩, ⟨o, ho, _, hd⟩, _⟩ b hb => by
    rcases List.mem_cons.mp hb with z | z
    · rw [z]; exact ⟨_, he, fun v q => nomatch q⟩
    · rw [List.mem_singleton.mp z]; exact ⟨o, ho, fun v q => by rw [hd] at q; cases q⟩
  keep := fun i h h' ⟨⟨old, he⟩, hi, hn⟩ k => ⟨⟨old, k e List.mem_cons_self _ he⟩, hi.at fun o q => k it (List.mem_cons_of_mem _ List.mem_cons_self) o q, hn⟩
  item := by
    intro X hP hw hK hc i pins s σ H E I hf ⟨⟨old, he⟩, hit, hne, ha1, ha2⟩ ⟨xs, x, hq, hx⟩
    subst hP hw hK
    obtain ⟨its, rv, p, hz⟩ := I.tuple hq
    obtain ⟨u, hu, ru⟩ := rv.get hx
    have p : s.heap.IsTuple a its.toArray := p
    have hlt : i < its.toArray.size := by
      have := (List.getElem?_eq_some_iff.mp hu).1
      simpa using this
    have lte : e < s.heap.objs.size := Heap.lt_size he
    have lti : it < s.heap.objs.size := by obtain ⟨_, q, _⟩ := hit; exact Heap.lt_size q
    have ee : e ∉ [it, a] := by simp [hne, Ne.symm ha2]
    refine wpAny_pyNext_enum_itemD (Draws.tuple (in1_handled (I.ok.hd hc)) it a ha1 its.toArray) he ⟨hit, p⟩ hlt hne ee fun x' h1 tk hPx ho hst hT hsz hk => ?_
    obtain rfl : x' = u := by
      have : its.toArray[i]? = some u := by simpa using hu
      rw [this] at hPx
      exact (Option.some.inj hPx).symm
    refine ⟨_, rfl, wpAny_letOwnedTupleGo_enum (s := { s with heap := h1, toks := tk + 1 }) ho fun h2 he2 sb => ?_⟩
    have hT2 : h2.get? s.heap.objs.size = some ⟨.type "tuple", none, .seq #[.int i tk, x'] 0, #[]⟩ := (sb.2 _ (Nat.ne_of_gt lte)).trans hT
    have made : ObjOk X.prog X.w (upd H s.heap.objs.size (.tup [.int (i : Nat), x])) h2 s.heap.objs.size (.tup [.int (i : Nat), x]) := ⟨by show 2 ≤ sizeLine; decide, [.int i tk, x'], .cons ⟨_, rfl⟩ (.cons ru .nil), ⟨_, hT2, rfl, _, rfl⟩⟩
    have I1 : Inv X pins σ (upd H s.heap.objs.size (.tup [.int (i : Nat), x])) { s with heap := h2, toks := tk + 1 } :=
      I.turnedNew (ch := [e, it]) (fun b ob hb q => (sb.2 b (fun z => hb (by simp [z]))).trans (hk b ob (fun z => hb (by simp [z])) (fun z => hb (by simp [z])) q)) hf (Nat.le_refl _) made
    refine ⟨.ref s.heap.objs.size, _, I1, rfl, ⟨_, x, rfl, I.hok.fresh (Nat.le_refl _), rfl, fun ys hy => by rw [I.tuple_inj hy hq]; exact hx⟩, ⟨⟨x', ?_⟩, hst.1.at fun o q => (sb.2 it (Ne.symm hne)).trans q, hne, ha1, ha2⟩, fun b hb => ?_⟩
    · rw [show ((i + 1 : Nat) : Int) = (i : Int) + 1 by omega]
      exact he2
    · have lt : b < s.heap.objs.size := by
        rcases List.mem_cons.mp hb with z | z
        · rw [z]; exact lte
        · rw [List.mem_singleton.mp z]; exact lti
      rw [upd_ne (Nat.ne_of_lt lt)]
      exact (hf b hb).1
  done := by
    intro X hP hw hK hc i pins s σ H E I hf ⟨⟨old, he⟩, hit, hne, ha1, ha2⟩ ⟨xs, hq, hx⟩
    subst hP hw hK
    obtain ⟨its, rv, p, hz⟩ := I.tuple hq
    obtain ⟨f0, f1, f2, f3, f4, f5⟩ := hf it (List.mem_cons_of_mem _ List.mem_cons_self)
    have p : s.heap.IsTuple a its.toArray := p
    have len := rv.length
    have none_ : its.toArray[i]? = none := by simp; omega
    have nothing : Draws X.prog X.w X.A.in1 it [it, a] 0 (fun _ _ => True) (fun _ h => h.IsTupleIter it a i ∧ h.IsTuple a its.toArray) := {
      live := fun _ _ st => let ⟨o, ho, _⟩ := st.1; ⟨o, ho⟩
      frame := fun _ _ _ st k => ⟨st.1.at fun o q => k it (by simp) o q, st.2.at fun o q => k a (by simp) o q⟩
      item := fun j _ _ _ hj => absurd hj (Nat.not_lt_zero j)
      done := fun s2 Q2 E2 st hE => wpAny_nextOf_tuple_end (in1_handled (I.ok.hd hc)) st.1 st.2 none_ hE }
    exact wpAny_pyNext_enum_endD nothing he ⟨hit, p⟩ fun h2 eb => ⟨rfl, I.turned (t' := s.toks) (fun b o hb q => eb b o hb q) f0 f1 f3 f4 f5⟩
  self := fun A i s Q E ⟨⟨_, he⟩, _⟩ k => wpAny_pyIter_enum he k
def iEnumA (K : PySem.W.Frag) (ta : TA) : TI := fun σ H R => ta σ H fun vs H1 => ∃ a, vs = [.ref a] ∧ ((∃ xs, SqL K H1 a xs ∧ R (Ite K a) H1) ∨ ∃ xs, SqT K H1 a xs ∧ R (IteT K a) H1)
/-- enumerate of a list or of a tuple -/
theorem pi_enumA {X : Cx} {e : Expr} {ta : TA} {p pos tpos : Pos} {elts : List Expr} {kk : Nat} (hg : Gl X "enumerate") (hm : X.mg "enumerate" = none) (ha : PA X [e] ta) (hs : starEach [e] X.env = [(false, eval e X.env)]) :
    PI X (.Tuple elts kk tpos) (.Call (.Name "enumerate" p) [e] [] pos) (iEnumA X.K ta) := ⟨fun pins s σ H R I h => by
  refine Call_ (ld_blt I hg hm boot_enumerate (PyProof.Rows.callWith_type1 (thn (ha.run pos pins s σ H _ I h) fun us s1 ⟨vs, H1, I1, r1, a, ex, q1⟩ => ?_) hs rfl))
  subst ex
  cases r1 with
  | cons r rr =>
    cases rr
    cases r
    have fresh : ∀ b, b ∈ [s1.heap.objs.size + 1, s1.heap.objs.size] → FpOk X pins H1 b := fun b hb => by
      have le : s1.heap.objs.size ≤ b := by
        rcases List.mem_cons.mp hb with z | z
        · rw [z]; exact Nat.le_add_right _ _
        · rw [List.mem_singleton.mp z]; exact Nat.le_refl _
      exact I1.fpOk le (I1.hok.fresh le)
    rcases q1 with ⟨xs, hq, q⟩ | ⟨xs, hq, q⟩
    · obtain ⟨its, rv, pl, _⟩ := I1.list hq
      refine call_enumerate_list pl.isList fun h2 he hit _ hk => wpAny_pyIter_enum he ?_
      exact ⟨s1.heap.objs.size + 1, _, _, _, H1, rfl, I1.kept (t' := s1.toks) hk, turn_enum a _ _, ⟨⟨.none, he⟩, hit, Nat.succ_ne_self _⟩, fresh, q⟩
    · obtain ⟨its, rv, pl, _⟩ := I1.tuple hq
      have pl : s1.heap.IsTuple a its.toArray := pl
      have lt : a < s1.heap.objs.size := by obtain ⟨o, ho, _⟩ := id pl; exact Heap.lt_size ho
      refine enum_made (begins_tuple a its.toArray) pl fun h2 he hit hk => wpAny_pyIter_enum he ?_
      exact ⟨s1.heap.objs.size + 1, _, _, _, H1, rfl, I1.kept (t' := s1.toks) hk, turn_enumT a _ _, ⟨⟨.none, he⟩, ⟨_, hit, rfl, rfl⟩, Nat.succ_ne_self _, Nat.ne_of_lt lt, Nat.ne_of_lt (Nat.lt_succ_of_lt lt)⟩, fresh, q⟩⟩
end Rf

/-! Rg, part L: what loops and comprehensions walk; list comprehensions. -/
namespace Rf
open PySem PySem.Spec PyProof.Rows L2
/-- the iterator J yields these, whatever is changed that is owned -/
def ItOk (S : Sit) (J : L2.It) (ds : List D) (H1 : Hp) (O1 : Addr → Prop) : Prop := ∀ (i : Nat) (H : Hp) (F' : Addr → Prop), Mono H1 (S.F O1) H F' → (∀ a, F' a → H a ≠ none) →
  (∀ d, ds[i]? = some d → J.go i H ∧ ∀ x H', J.yld i H x H' → Same H H' ∧ Rep S.K H' F' d x) ∧ (ds.length ≤ i → J.stop i H)
def tIt (S : Sit) (C : Calls) (W : WX) (it : Rf.It) : TI := fun σ H R => ∃ P env O, SR S P H O env σ ∧ PostG S W P H O σ (evalI C it env) fun ds _ H' O' => ∀ J, ItOk S J ds H' O' → R J H'
section
variable {X : Cx} {S : Sit} {C : Calls} {W : WX} {pos : Pos} {a b c : E} {pa pb pc tg : Expr}
theorem LsF.inj {H : Hp} {K : PySem.W.Frag} {F : Addr → Prop} {a : Addr} {xs ys : List V} (h : LsF H F a xs) (hk : K.lookup a = none ∨ True) (h2 : H a = some (.lst ys)) : ys = xs := by
  rw [h.1] at h2; cases h2; rfl
/-- a list that is tracked is no known one -/
theorem itOk_list {ds : List D} {vs : List V} {l : Addr} {H1 : Hp} {O1 : Addr → Prop} (hl : LsF H1 (S.F O1) l vs) (rs : Reps S.K H1 (S.F O1) ds vs) : ItOk S (Itl S.K l) ds H1 O1 := fun i H F' m hn => by
  have q := hl.mono m
  have r := rs.mono m
  have sq : SqL S.K H l vs := q.sq
  refine ⟨fun d hd => ?_, fun hle => ⟨vs, sq, by rw [← r.length]; exact hle⟩⟩
  obtain ⟨v, hv, rv⟩ := r.get hd
  refine ⟨⟨vs, v, sq, hv⟩, fun x H' y => ?_⟩
  obtain ⟨e, y⟩ := y
  subst e
  have := y vs sq
  rw [hv] at this; cases this
  exact ⟨Same.refl _, rv⟩
theorem itOk_tup {ds : List D} {vs : List V} {l : Addr} {H1 : Hp} {O1 : Addr → Prop} (hl : TpF S.K H1 (S.F O1) l vs) (rs : Reps S.K H1 (S.F O1) ds vs) : ItOk S (Itt S.K l) ds H1 O1 := fun i H F' m hn => by
  have q := hl.mono m
  have r := rs.mono m
  have sq : SqT S.K H l vs := q.sq
  refine ⟨fun d hd => ?_, fun hle => ⟨vs, sq, by rw [← r.length]; exact hle⟩⟩
  obtain ⟨v, hv, rv⟩ := r.get hd
  refine ⟨⟨vs, v, sq, hv⟩, fun x H' y => ?_⟩
  obtain ⟨e, y⟩ := y
  subst e
  have := y vs sq
  rw [hv] at this; cases this
  exact ⟨Same.refl _, rv⟩
theorem itOk_rng {lo : Int} {n : Nat} {H1 : Hp} {O1 : Addr → Prop} : ItOk S (Itr lo n) (rangeD lo n) H1 O1 := fun i H F' m hn => by
  unfold rangeD
  refine ⟨fun d hd => ?_, fun hle => show n ≤ i by simpa using hle⟩
  rw [List.getElem?_map] at hd
  obtain ⟨j, hj, rfl⟩ := Option.map_eq_some_iff.mp hd
  obtain ⟨h1, h2⟩ := List.getElem?_eq_some_iff.mp hj
  rw [List.length_range] at h1
  have : j = i := by rw [← h2, List.getElem_range]
  subst this
  refine ⟨h1, fun x H' y => ?_⟩
  obtain ⟨e, y⟩ := y
  subst e y
  exact ⟨Same.refl _, rfl⟩
theorem zip_at {xs ys : List D} {i : Nat} {d : D} (h : (List.zipWith (fun x y => D.tup [x, y]) xs ys)[i]? = some d) : ∃ x y, xs[i]? = some x ∧ ys[i]? = some y ∧ d = .tup [x, y] := by
  rw [List.getElem?_zipWith] at h
  split at h
  · rename_i x y h1 h2
    cases h
    exact ⟨x, y, h1, h2, rfl⟩
  · cases h
theorem rep_pair {K : PySem.W.Frag} {H : Hp} {F : Addr → Prop} {d e : D} {v w : V} {T : Addr} (h1 : Rep K H F d v) (h2 : Rep K H F e w) (hT : H T = none) (hn : ∀ a, F a → H a ≠ none) : Rep K (upd H T (.tup [v, w])) F (.tup [d, e]) (.ref T) :=
  ⟨T, [v, w], rfl, ⟨upd_same, fun q => hn T q hT⟩, .cons (h1.mono (Mono.same (same_upd hT))) (.cons (h2.mono (Mono.same (same_upd hT))) .nil)⟩
theorem itOk_zip {ds es : List D} {vs us : List V} {l k : Addr} {H1 : Hp} {O1 : Addr → Prop} (hl : LsF H1 (S.F O1) l vs) (rs : Reps S.K H1 (S.F O1) ds vs) (hk : LsF H1 (S.F O1) k us) (rs2 : Reps S.K H1 (S.F O1) es us) :
    ItOk S (Itz S.K l k) (List.zipWith (fun x y => D.tup [x, y]) ds es) H1 O1 := fun i H F' m hn => by
  have q := hl.mono m
  have r := rs.mono m
  have q2 := hk.mono m
  have r2 := rs2.mono m
  have sq : SqL S.K H l vs := q.sq
  have sq2 : SqL S.K H k us := q2.sq
  have l1 := r.length
  have l2 := r2.length
  refine ⟨fun d hd => ?_, fun hle => ⟨vs, us, sq, sq2, by rw [List.length_zipWith] at hle; omega⟩⟩
  obtain ⟨x, y, hx, hy, rfl⟩ := zip_at hd
  obtain ⟨v, hv, rv⟩ := r.get hx
  obtain ⟨u, hu, ru⟩ := r2.get hy
  refine ⟨⟨vs, us, v, u, sq, sq2, hv, hu⟩, fun x H' y => ?_⟩
  obtain ⟨T, v', u', rfl, hT, rfl, y1, y2⟩ := y
  have e1 := y1 vs sq
  rw [hv] at e1; cases e1
  have e2 := y2 us sq2
  rw [hu] at e2; cases e2
  exact ⟨same_upd hT, rep_pair rv ru hT hn⟩
theorem itOk_zipT {ds es : List D} {vs us : List V} {l k : Addr} {H1 : Hp} {O1 : Addr → Prop} (hl : TpF S.K H1 (S.F O1) l vs) (rs : Reps S.K H1 (S.F O1) ds vs) (hk : TpF S.K H1 (S.F O1) k us) (rs2 : Reps S.K H1 (S.F O1) es us) :
    ItOk S (RZ.ItzT S.K l k) (List.zipWith (fun x y => D.tup [x, y]) ds es) H1 O1 := fun i H F' m hn => by
  have q := hl.mono m
  have r := rs.mono m
  have q2 := hk.mono m
  have r2 := rs2.mono m
  have sq : SqT S.K H l vs := q.sq
  have sq2 : SqT S.K H k us := q2.sq
  have l1 := r.length
  have l2 := r2.length
  refine ⟨fun d hd => ?_, fun hle => ⟨vs, us, sq, sq2, by rw [List.length_zipWith] at hle; omega⟩⟩
  obtain ⟨x, y, hx, hy, rfl⟩ := zip_at hd
  obtain ⟨v, hv, rv⟩ := r.get hx
  obtain ⟨u, hu, ru⟩ := r2.get hy
  refine ⟨⟨vs, us, v, u, sq, sq2, hv, hu⟩, fun x H' y => ?_⟩
  obtain ⟨T, v', u', rfl, hT, rfl, y1, y2⟩ := y
  have e1 := y1 vs sq
  rw [hv] at e1; cases e1
  have e2 := y2 us sq2
  rw [hu] at e2; cases e2
  exact ⟨same_upd hT, rep_pair rv ru hT hn⟩
theorem enum_at : ∀ {xs : List D} {n i : Nat} {d : D}, (enumD n xs)[i]? = some d → ∃ x, xs[i]? = some x ∧ d = .tup [.int ((n + i : Nat) : Int), x]
  | [], _, _, _, h => by simp [enumD] at h
  | x :: xs, n, 0, d, h => by simp [enumD] at h; exact ⟨x, rfl, h.symm⟩
  | x :: xs, n, i + 1, d, h => by
    obtain ⟨y, h1, h2⟩ := enum_at (xs := xs) (n := n + 1) (i := i) (by simpa [enumD] using h)
    exact ⟨y, by simpa using h1, by rw [h2, show n + 1 + i = n + (i + 1) by omega]⟩
theorem enum_len : ∀ (xs : List D) (n : Nat), (enumD n xs).length = xs.length
  | [], _ => rfl
  | x :: xs, n => by simp [enumD, enum_len xs]
theorem itOk_enum {ds : List D} {vs : List V} {l : Addr} {H1 : Hp} {O1 : Addr → Prop} (hl : LsF H1 (S.F O1) l vs) (rs : Reps S.K H1 (S.F O1) ds vs) : ItOk S (Ite S.K l) (enumD 0 ds) H1 O1 := fun i H F' m hn => by
  have q := hl.mono m
  have r := rs.mono m
  have sq : SqL S.K H l vs := q.sq
  refine ⟨fun d hd => ?_, fun hle => ⟨vs, sq, by rw [enum_len, r.length] at hle; exact hle⟩⟩
  obtain ⟨x, hx, rfl⟩ := enum_at hd
  obtain ⟨v, hv, rv⟩ := r.get hx
  refine ⟨⟨vs, v, sq, hv⟩, fun y H' z => ?_⟩
  obtain ⟨T, v', rfl, hT, rfl, y1⟩ := z
  have e1 := y1 vs sq
  rw [hv] at e1; cases e1
  exact ⟨same_upd hT, by rw [Nat.zero_add]; exact rep_pair (d := .int i) rfl rv hT hn⟩

/-- a list or a tuple that is walked -/
def iSeq (K : PySem.W.Frag) (tl : TE) : TI := fun σ H R => tl σ H fun x H1 => ∃ a, x = .ref a ∧ ((∃ xs, SqL K H1 a xs ∧ R (Itl K a) H1) ∨ ∃ xs, SqT K H1 a xs ∧ R (Itt K a) H1)
theorem pi_seq {l : Expr} {tl : TE} (hl : PE X l tl) : PI X tg l (iSeq X.K tl) := by
  refine ⟨fun pins s σ H R I h => ?_⟩
  refine thn (hl.run pins s σ H _ I h) fun v s1 ⟨x, H1, I1, r1, q1⟩ => ?_
  obtain ⟨a, e, q⟩ := q1
  subst e
  cases r1
  rcases q with ⟨xs, hq, q⟩ | ⟨xs, hq, q⟩
  · obtain ⟨its, rv, p, hz⟩ := I1.list hq
    refine wpAny_pyIter_list p.isList ?_
    refine ⟨s1.heap.objs.size, [s1.heap.objs.size], _, _, H1, rfl, I1.kept (t' := s1.toks) fun b o e => Heap.get?_push_of_some _ e, turn_list a _, ⟨_, Heap.get?_push_size _ rfl, rfl, rfl⟩, fun b hb => ?_, q⟩
    have e : b = s1.heap.objs.size := by simpa using hb
    subst e
    exact I1.fpOk (Nat.le_refl _) (I1.hok.fresh (Nat.le_refl _))
  · obtain ⟨its, rv, p, hz⟩ := I1.tuple hq
    refine wpAny_pyIter_tuple (show s1.heap.IsTuple a its.toArray from p) ?_
    refine ⟨s1.heap.objs.size, [s1.heap.objs.size], _, _, H1, rfl, I1.kept (t' := s1.toks) fun b o e => Heap.get?_push_of_some _ e, turn_tuple a _, ⟨_, Heap.get?_push_size _ rfl, rfl, rfl⟩, fun b hb => ?_, q⟩
    have e : b = s1.heap.objs.size := by simpa using hb
    subst e
    exact I1.fpOk (Nat.le_refl _) (I1.hok.fresh (Nat.le_refl _))
theorem PI.imp {t t' : TI} {pe : Expr} (h : PI X tg pe t) (i : ∀ σ H Q, t' σ H Q → t σ H Q) : PI X tg pe t' := ⟨fun pins s σ H Q I q => h.run pins s σ H Q I (i σ H Q q)⟩
theorem ri_seq (hK : S.K = X.K) (ha : PE X pa (tD S C W a)) : PI X tg pa (tIt S C W (.seq a)) :=
  PI.imp (pi_seq ha) fun σ H R ⟨P, env, O, s, p⟩ => ⟨P, env, O, s, PostG.imp (PostG.bind (show PostG S W P H O σ ((evalE C a env).bind _) _ from p)) fun d s1 H1 O1 _ _ _ ⟨x1, t1, p1⟩ v r => by
    obtain ⟨z, hz, p2⟩ := PostG.opt p1
    have k := p2 H1 O1 (Ext.refl _ _) t1
    cases d <;> simp only [seqOf] at hz <;> cases hz
    · obtain ⟨l, vs, rfl, t, rs⟩ := r
      have k := k _ (itOk_tup t rs)
      rw [hK] at k t
      exact ⟨l, rfl, .inr ⟨vs, t.sq, k⟩⟩
    · obtain ⟨l, vs, rfl, t, rs⟩ := r
      have k := k _ (itOk_list t rs)
      rw [hK] at k
      exact ⟨l, rfl, .inl ⟨vs, t.sq, k⟩⟩⟩
theorem star1 {env : PySem.Env} {p : Expr} (h : nst p = true) : starEach [p] env = [(false, eval p env)] := star_cons h
theorem star2 {env : PySem.Env} {p q : Expr} (h : nst p = true) (h2 : nst q = true) : starEach [p, q] env = [(false, eval p env), (false, eval q env)] := by rw [star_cons h, star_cons h2]; rfl
theorem ri_rng1 {p : Pos} (hg : Gl X "range") (hm : X.mg "range" = none) (ha : PE X pa (tD S C W a)) (hn : nst pa = true) : PI X tg (.Call (.Name "range" p) [pa] [] pos) (tIt S C W (.rng1 a)) :=
  PI.imp (pi_range1 hg hm (pa_cons ha pa_nil (star_cons hn)) (star1 hn)) fun σ H R ⟨P, env, O, s, p⟩ => ⟨P, env, O, s, PostG.imp (PostG.bind (show PostG S W P H O σ ((evalE C a env).bind _) _ from p)) fun d s1 H1 O1 _ _ _ ⟨x1, t1, p1⟩ v r => by
    cases d with
    | int i =>
      cases r
      have p1 : PostG S W P H1 O1 σ (if (decide (-(2 ^ 62) ≤ i) && decide (i < 2 ^ 62)) = true then .ok (rangeD 0 i.toNat) s1 else .stuck) fun ds _ H' O' => ∀ J, ItOk S J ds H' O' → R J H' := p1
      split at p1
      · rename_i hb
        simp only [Bool.and_eq_true, decide_eq_true_eq] at hb
        exact ⟨i, rfl, hb.1, hb.2, p1 H1 O1 (Ext.refl _ _) t1 _ itOk_rng⟩
      · exact False.elim p1
    | _ => exact False.elim p1⟩
theorem ri_rng2 {p : Pos} (hg : Gl X "range") (hm : X.mg "range" = none) (ha : PE X pa (tD S C W a)) (hb : PE X pb (tD S C W b)) (hn : nst pa = true) (hn2 : nst pb = true) : PI X tg (.Call (.Name "range" p) [pa, pb] [] pos) (tIt S C W (.rng2 a b)) :=
  PI.imp (pi_range2 hg hm (pa_cons ha (pa_cons hb pa_nil (star_cons hn2)) (star_cons hn)) (star2 hn hn2) (star1 hn2)) fun σ H R ⟨P, env, O, s, p⟩ => ⟨P, env, O, s, PostG.imp (PostG.bind (show PostG S W P H O σ ((evalE C a env).bind _) _ from p)) fun d s1 H1 O1 _ _ _ ⟨x1, t1, p1⟩ v r =>
   ⟨P, s1, O1, t1, PostG.imp (PostG.bind p1) fun d2 s2 H2 O2 _ _ _ ⟨x2, t2, p2⟩ v2 r2 => by
    cases d with
    | int i =>
      cases d2 with
      | int j =>
        cases r
        cases r2
        have p2 : PostG S W P H2 O2 σ (if (decide (-(2 ^ 62) ≤ i) && decide (i < 2 ^ 62) && decide (-(2 ^ 62) ≤ j) && decide (j < 2 ^ 62)) = true then .ok (rangeD i (j - i).toNat) s2 else .stuck) fun ds _ H' O' => ∀ J, ItOk S J ds H' O' → R J H' := p2
        split at p2
        · rename_i hb
          simp only [Bool.and_eq_true, decide_eq_true_eq] at hb
          exact ⟨i, j, rfl, ⟨hb.1.1.1, hb.1.1.2, hb.1.2, hb.2⟩, p2 H2 O2 (Ext.refl _ _) t2 _ itOk_rng⟩
        · exact False.elim p2
      | _ => exact False.elim p2
    | _ => exact False.elim (by cases d2 <;> exact p2)⟩⟩
theorem ri_zip {p tpos : Pos} {kk : Nat} {elts : List Expr} (hK : S.K = X.K) (hg : Gl X "zip") (hm : X.mg "zip" = none) (ha : PE X pa (tD S C W a)) (hb : PE X pb (tD S C W b)) (hn : nst pa = true) (hn2 : nst pb = true) : PI X (.Tuple elts kk tpos) (.Call (.Name "zip" p) [pa, pb] [] pos) (tIt S C W (.zip a b)) :=
  PI.imp (RZ.pi_zipA hg hm (pa_cons ha (pa_cons hb pa_nil (star_cons hn2)) (star_cons hn)) (star_cons hn) (star_none (by rw [List.all_cons, hn2]; rfl))) fun σ H R ⟨P, env, O, s, p⟩ => ⟨P, env, O, s, PostG.imp (PostG.bind (show PostG S W P H O σ ((evalE C a env).bind _) _ from p)) fun d s1 H1 O1 _ _ _ ⟨x1, t1, p1⟩ v r =>
   ⟨P, s1, O1, t1, PostG.imp (PostG.bind p1) fun d2 s2 H2 O2 _ _ _ ⟨x2, t2, p2⟩ v2 r2 => by
    cases d with
    | lst ds =>
      cases d2 with
      | lst es =>
        obtain ⟨l, vs, rfl, t, rs⟩ := r.mono x2.mono
        obtain ⟨l2, vs2, rfl, t', rs'⟩ := r2
        have k := p2 H2 O2 (Ext.refl _ _) t2 _ (itOk_zip t rs t' rs')
        rw [hK] at k
        exact ⟨l, l2, vs, vs2, rfl, .inl ⟨t.sq, t'.sq, k⟩⟩
      | _ => exact False.elim p2
    | tup ds =>
      cases d2 with
      | tup es =>
        obtain ⟨l, vs, rfl, t, rs⟩ := r.mono x2.mono
        obtain ⟨l2, vs2, rfl, t', rs'⟩ := r2
        have k := p2 H2 O2 (Ext.refl _ _) t2 _ (itOk_zipT t rs t' rs')
        rw [hK] at k t t'
        exact ⟨l, l2, vs, vs2, rfl, .inr ⟨t.sq, t'.sq, k⟩⟩
      | _ => exact False.elim p2
    | _ => exact False.elim (by cases d2 <;> exact p2)⟩⟩
theorem itOk_enumT {ds : List D} {vs : List V} {l : Addr} {H1 : Hp} {O1 : Addr → Prop} (hl : TpF S.K H1 (S.F O1) l vs) (rs : Reps S.K H1 (S.F O1) ds vs) : ItOk S (IteT S.K l) (enumD 0 ds) H1 O1 := fun i H F' m hn => by
  have q := hl.mono m
  have r := rs.mono m
  have sq : SqT S.K H l vs := q.sq
  refine ⟨fun d hd => ?_, fun hle => ⟨vs, sq, by rw [enum_len, r.length] at hle; exact hle⟩⟩
  obtain ⟨x, hx, rfl⟩ := enum_at hd
  obtain ⟨v, hv, rv⟩ := r.get hx
  refine ⟨⟨vs, v, sq, hv⟩, fun y H' z => ?_⟩
  obtain ⟨T, v', rfl, hT, rfl, y1⟩ := z
  have e1 := y1 vs sq
  rw [hv] at e1; cases e1
  exact ⟨same_upd hT, by rw [Nat.zero_add]; exact rep_pair (d := .int i) rfl rv hT hn⟩
theorem ri_enum {p tpos : Pos} {kk : Nat} {elts : List Expr} (hK : S.K = X.K) (hg : Gl X "enumerate") (hm : X.mg "enumerate" = none) (ha : PE X pa (tD S C W a)) (hn : nst pa = true) : PI X (.Tuple elts kk tpos) (.Call (.Name "enumerate" p) [pa] [] pos) (tIt S C W (.enum a)) :=
  PI.imp (pi_enumA hg hm (pa_cons ha pa_nil (star_cons hn)) (star1 hn)) fun σ H R ⟨P, env, O, s, p⟩ => ⟨P, env, O, s, PostG.imp (PostG.bind (show PostG S W P H O σ ((evalE C a env).bind _) _ from p)) fun d s1 H1 O1 _ _ _ ⟨x1, t1, p1⟩ v r => by
    cases d with
    | lst ds =>
      obtain ⟨l, vs, rfl, t, rs⟩ := r
      have k := p1 H1 O1 (Ext.refl _ _) t1 _ (itOk_enum t rs)
      rw [hK] at k
      exact ⟨l, rfl, .inl ⟨vs, t.sq, k⟩⟩
    | tup ds =>
      obtain ⟨l, vs, rfl, t, rs⟩ := r
      have k := p1 H1 O1 (Ext.refl _ _) t1 _ (itOk_enumT t rs)
      have sq := t.sq
      rw [hK] at k sq
      exact ⟨l, rfl, .inr ⟨vs, sq, k⟩⟩
    | _ => exact False.elim p1⟩
end
end Rf

/-! Rg, part M: targets; slots set. -/
namespace Rf
open PySem PySem.Spec PyProof.Rows L2
def ioFree (S : Sit) (i : Nat) : Prop := ∀ p ∈ S.io, p.1 ≠ i
section
variable {S : Sit} {P : Pd} {H : Hp} {O : Addr → Prop} {env : Env} {σ : L2.St} {i : Nat} {d : D} {v : V}
/-- a slot gets a shared value -/
theorem SR.setSh (s : SR S P H O env σ) (hio : ioFree S i) (hi : i < σ.length) (r : Rep S.K H (S.F O) d v) : SR S P H O (env.set i (Sl.sh d)) (σ.set i (some v)) := by
  have hie : i < env.length := by rw [s.len]; exact hi
  have back : ∀ {y w}, rt (env.set i (Sl.sh d)) (σ.set i (some v)) P y = some w → rt env σ P y = some w := fun {y w} h => by
    cases y with
    | inr j => exact h
    | inl j =>
      obtain ⟨d', q1, q2, q3⟩ := rt_inl.mp h
      by_cases hj : j = i
      · subst hj
        rw [List.getElem?_set_self hie] at q1; cases q1
      · rw [List.getElem?_set_ne (Ne.symm hj)] at q1 q3
        exact rt_inl.mpr ⟨d', q1, q2, q3⟩
  refine ⟨by rw [List.length_set, List.length_set]; exact s.len, s.own, s.dis, fun j dj e => ?_, fun j dj e => ?_, s.pd, fun x y w h1 h2 => s.ne x y w (back h1) (back h2), fun p hp => ?_⟩
  · by_cases hj : j = i
    · subst hj
      rw [List.getElem?_set_self hie] at e; cases e
      exact ⟨v, List.getElem?_set_self hi, r⟩
    · rw [List.getElem?_set_ne (Ne.symm hj)] at e ⊢
      exact s.sh j dj e
  · by_cases hj : j = i
    · subst hj
      rw [List.getElem?_set_self hie] at e; cases e
    · rw [List.getElem?_set_ne (Ne.symm hj)] at e ⊢
      exact s.ow j dj e
  · rw [List.getElem?_set_ne (fun q => hio p hp q.symm)]
    exact s.io p hp
/-- a slot gets a fresh value -/
theorem SR.setOw (s : SR S P H O env σ) (hio : ioFree S i) (hi : i < σ.length) (t : Top S H O d v) (n : NewTop env σ P d v) : SR S P H O (env.set i (Sl.ow d)) (σ.set i (some v)) := by
  have hie : i < env.length := by rw [s.len]; exact hi
  have back : ∀ {y w}, rt (env.set i (Sl.ow d)) (σ.set i (some v)) P y = some w → (y = .inl i ∧ w = v ∧ isC d = true) ∨ (y ≠ .inl i ∧ rt env σ P y = some w) := fun {y w} h => by
    cases y with
    | inr j => exact .inr ⟨(fun q => nomatch q), h⟩
    | inl j =>
      obtain ⟨d', q1, q2, q3⟩ := rt_inl.mp h
      by_cases hj : j = i
      · subst hj
        rw [List.getElem?_set_self hie] at q1; cases q1
        rw [List.getElem?_set_self hi] at q3; cases q3
        exact .inl ⟨rfl, rfl, q2⟩
      · rw [List.getElem?_set_ne (Ne.symm hj)] at q1 q3
        exact .inr ⟨fun q => hj (by cases q; rfl), rt_inl.mpr ⟨d', q1, q2, q3⟩⟩
  refine ⟨by rw [List.length_set, List.length_set]; exact s.len, s.own, s.dis, fun j dj e => ?_, fun j dj e => ?_, s.pd, fun x y w h1 h2 => ?_, fun p hp => ?_⟩
  · by_cases hj : j = i
    · subst hj
      rw [List.getElem?_set_self hie] at e; cases e
    · rw [List.getElem?_set_ne (Ne.symm hj)] at e ⊢
      exact s.sh j dj e
  · by_cases hj : j = i
    · subst hj
      rw [List.getElem?_set_self hie] at e; cases e
      exact ⟨v, List.getElem?_set_self hi, t⟩
    · rw [List.getElem?_set_ne (Ne.symm hj)] at e ⊢
      exact s.ow j dj e
  · rcases back h1 with ⟨e1, e2, c⟩ | ⟨n1, g1⟩
    · rcases back h2 with ⟨e3, _, _⟩ | ⟨n2, g2⟩
      · rw [e1, e3]
      · rw [e2] at g2; exact absurd g2 (n c y)
    · rcases back h2 with ⟨e1, e2, c⟩ | ⟨n2, g2⟩
      · rw [e2] at g1; exact absurd g1 (n c x)
      · exact s.ne x y w g1 g2
  · rw [List.getElem?_set_ne (fun q => hio p hp q.symm)]
    exact s.io p hp
/-- a slot gets what an expression gave -/
theorem SR.setMk {fr : Bool} (s : SR S P H O env σ) (hio : ioFree S i) (hi : i < σ.length) (h : FrK S fr P env σ d v H O) : ∃ O', Ext H O H O' ∧ SR S P H O' (env.set i (mkSl fr d)) (σ.set i (some v)) := by
  unfold FrK at h
  unfold mkSl
  cases fr with
  | false => exact ⟨O, Ext.refl _ _, s.setSh hio hi h⟩
  | true =>
    simp only [if_true] at h
    cases hc : isC d with
    | true => exact ⟨O, Ext.refl _ _, s.setOw hio hi h.1 h.2⟩
    | false =>
      have t := h.1
      rw [top_notC hc] at t
      exact ⟨O, Ext.refl _ _, s.setSh hio hi t⟩
end
/-! ### targets -/
mutual
def tgSl : Tg → List Nat
  | .nm i => [i]
  | .tp ts => tgSls ts
def tgSls : List Tg → List Nat
  | [] => []
  | t :: ts => tgSl t ++ tgSls ts
end
def Agree (σ σ' : L2.St) (l : List Nat) : Prop := σ'.length = σ.length ∧ ∀ i, i ∉ l → σ'[i]? = σ[i]?
theorem Agree.trans {σ σ1 σ2 : L2.St} {l l2 : List Nat} (a : Agree σ σ1 l) (b : Agree σ1 σ2 l2) : Agree σ σ2 (l ++ l2) :=
  ⟨b.1.trans a.1, fun i h => by rw [List.mem_append, not_or] at h; rw [b.2 i h.2, a.2 i h.1]⟩
def gD (S : Sit) (tg : Tg) : TG := fun v σ H Q => ∃ P env O d env', SR S P H O env σ ∧ Rep S.K H (S.F O) d v ∧ bindT false tg d env = some env' ∧ ∀ σ', SR S P H O env' σ' → Agree σ σ' (tgSl tg) → Q σ' H
def gDs (S : Sit) (ts : List Tg) : TGs := fun vs σ H Q => ∃ P env O ds env', SR S P H O env σ ∧ Reps S.K H (S.F O) ds vs ∧ ds.length = ts.length ∧ bindTs ts ds env = some env' ∧ ∀ σ', SR S P H O env' σ' → Agree σ σ' (tgSls ts) → Q σ' H
section
variable {X : Cx} {S : Sit} {C : Calls} {W : WX} {pos : Pos}
theorem PG.imp {g g' : TG} {pe : Expr} (h : PG X pe g) (i : ∀ v σ H Q, g' v σ H Q → g v σ H Q) : PG X pe g' := ⟨fun pins s σ H v u Q I r q => h.run pins s σ H v u Q I r (i v σ H Q q)⟩
theorem PGs.imp {g g' : TGs} {pe : List Expr} (h : PGs X pe g) (i : ∀ v σ H Q, g' v σ H Q → g v σ H Q) : PGs X pe g' := ⟨fun pins s σ H v u Q I r q => h.run pins s σ H v u Q I r (i v σ H Q q)⟩
theorem lt_of_ix {N : List Str} {i : Nat} {x : Str} (h : N[i]? = some x) : i < N.length := (List.getElem?_eq_some_iff.mp h).1
theorem rg_name {i : Nat} {x : Str} (hN : X.N.Nodup) (hi : X.N[i]? = some x) (hx : Loc X.env.scope x) (hf : X.fn x = true ∨ X.env.scope.names.lookup x = some .local) (hio : ioFree S i) : PG X (.Name x pos) (gD S (.nm i)) := by
  refine ⟨fun pins s σ H v u Q I r ⟨P, env, O, d, env', t, rp, hb, q⟩ => (pg_name hN hi hx hf).run pins s σ H v u Q I r ?_⟩
  have hl : i < σ.length := by rw [I.len]; exact lt_of_ix hi
  simp only [bindT, Option.some.injEq] at hb
  subst hb
  refine q _ ?_ ⟨List.length_set, fun j hj => List.getElem?_set_ne (fun e => hj (by simp [tgSl, e]))⟩
  show SR S P H O (env.set i (mkSl false d)) _
  exact t.setSh hio hl rp
theorem rg_nil : PGs X [] (gDs S []) := PGs.imp pgs_nil fun vs σ H Q ⟨P, env, O, ds, env', t, r, hl, hb, q⟩ => by
  obtain rfl : ds = [] := List.eq_nil_of_length_eq_zero hl
  simp only [bindTs, Option.some.injEq] at hb
  subst hb
  exact ⟨r, q σ t ⟨rfl, fun _ _ => rfl⟩⟩
theorem asgEach_cons {p : Expr} {ps : List Expr} {env : PySem.Env} (h : nst p = true) : assignEach (p :: ps) env = (false, assign p env) :: assignEach ps env := by
  cases p <;> first | rfl | (simp [nst] at h)
theorem asgEach_len {env : PySem.Env} : ∀ {ps : List Expr}, ps.all nst = true → (assignEach ps env).length = ps.length ∧ (assignEach ps env).findIdx? (·.1) = none
  | [], _ => ⟨rfl, rfl⟩
  | p :: ps, h => by
    rw [List.all_cons, Bool.and_eq_true] at h
    obtain ⟨h1, h2⟩ := asgEach_len (env := env) h.2
    rw [asgEach_cons h.1]
    refine ⟨by rw [List.length_cons, h1, List.length_cons], ?_⟩
    rw [List.findIdx?_cons, h2]; rfl
theorem rg_cons {p : Expr} {ps : List Expr} {t : Tg} {ts : List Tg} (h1 : PG X p (gD S t)) (h2 : PGs X ps (gDs S ts)) (hn : nst p = true) : PGs X (p :: ps) (gDs S (t :: ts)) :=
  PGs.imp (pgs_cons h1 h2 (by rw [asgEach_cons hn]; rfl)) fun vs σ H Q ⟨P, env, O, ds, env', s, r, hl, hb, q⟩ => by
    cases ds with
    | nil => simp at hl
    | cons d ds =>
      obtain ⟨v, vs', rfl, rv, rr⟩ := r
      simp only [bindTs] at hb
      obtain ⟨env1, hb1, hb2⟩ := Option.bind_eq_some_iff.mp hb
      exact ⟨v, vs', rfl, P, env, O, d, env1, s, rv, hb1, fun σ1 s1 a1 => ⟨P, env1, O, ds, env', s1, rr, by simpa using hl, hb2, fun σ2 s2 a2 => q σ2 s2 (a1.trans a2)⟩⟩
theorem rg_tup {ps : List Expr} {ts : List Tg} {k : Nat} (hK : S.K = X.K) (hc : X.calm = true) (h : PGs X ps (gDs S ts)) (hn : ps.all nst = true) (hl : ps.length = ts.length) : PG X (.Tuple ps k pos) (gD S (.tp ts)) :=
  PG.imp (pg_tup (n := ts.length) hc h (by rw [(asgEach_len hn).1, hl]) (asgEach_len hn).2) fun v σ H Q ⟨P, env, O, d, env', s, r, hb, q⟩ => by
    cases d with
    | tup ds =>
      simp only [bindT] at hb
      split at hb
      · rename_i hlen
        obtain ⟨a, vs, rfl, t, rs⟩ := r
        have t' := t.sq
        rw [hK] at t'
        exact ⟨a, vs, rfl, t', by rw [← rs.length, hlen], P, env, O, ds, env', s, rs, hlen.symm, hb, q⟩
      · cases hb
    | _ => simp [bindT] at hb
end
end Rf

/-! Rg, part N: list comprehensions. -/
namespace Rf
open PySem PySem.Spec PyProof.Rows L2
theorem wipeE_len (s : Env) : ∀ l : List Nat, (wipeE s l).length = s.length
  | [] => rfl
  | i :: r => by simp only [wipeE]; rw [List.length_set, wipeE_len s r]
theorem wipeE_out {s : Env} {j : Nat} : ∀ {l : List Nat}, j ∉ l → (wipeE s l)[j]? = s[j]?
  | [], _ => rfl
  | i :: r, h => by
    simp only [List.mem_cons, not_or] at h
    simp only [wipeE]
    rw [List.getElem?_set_ne (Ne.symm h.1), wipeE_out h.2]
theorem wipeE_in {s : Env} {j : Nat} {sl : Sl} : ∀ {l : List Nat}, j ∈ l → (wipeE s l)[j]? = some sl → sl = .no
  | i :: r, h, e => by
    simp only [wipeE] at e
    by_cases hj : i = j
    · subst hj
      have hlt : i < (wipeE s r).length := by
        have := (List.getElem?_eq_some_iff.mp e).1
        simpa using this
      rw [List.getElem?_set_self hlt] at e
      cases e; rfl
    · rw [List.getElem?_set_ne hj] at e
      rcases List.mem_cons.mp h with h | h
      · exact absurd h.symm hj
      · exact wipeE_in h e
theorem backE_len (s0 s : Env) : ∀ l : List Nat, (backE s0 s l).length = s.length
  | [] => rfl
  | i :: r => by simp only [backE]; rw [List.length_set, backE_len s0 s r]
theorem backE_out {s0 s : Env} {j : Nat} : ∀ {l : List Nat}, j ∉ l → (backE s0 s l)[j]? = s[j]?
  | [], _ => rfl
  | i :: r, h => by
    simp only [List.mem_cons, not_or] at h
    simp only [backE]
    rw [List.getElem?_set_ne (Ne.symm h.1), backE_out h.2]
theorem backE_in {s0 s : Env} {j : Nat} {sl : Sl} : ∀ {l : List Nat}, j ∈ l → (backE s0 s l)[j]? = some sl → sl = .no ∨ ∃ d, sl = .sh d ∧ s0[j]? = some (Sl.sh d)
  | i :: r, h, e => by
    simp only [backE] at e
    by_cases hj : i = j
    · subst hj
      have hlt : i < (backE s0 s r).length := by
        have := (List.getElem?_eq_some_iff.mp e).1
        simpa using this
      rw [List.getElem?_set_self hlt] at e
      split at e
      · rename_i d q
        cases e
        exact .inr ⟨d, rfl, q⟩
      · cases e; exact .inl rfl
    · rw [List.getElem?_set_ne hj] at e
      rcases List.mem_cons.mp h with h | h
      · exact absurd h.symm hj
      · exact backE_in h e
theorem wipe_agree {σ σ' : L2.St} : ∀ {l l2 : List Nat}, Agree σ σ' l2 → (∀ i ∈ l2, i ∈ l) → wipe σ' l = wipe σ l := fun {l l2} a h => by
  apply List.ext_getElem?
  intro j
  by_cases hj : j ∈ l
  · have key : ∀ (σ : L2.St), (wipe σ l)[j]? = if j < σ.length then some none else none := fun σ => by
      cases e : (wipe σ l)[j]? with
      | none =>
        have := List.getElem?_eq_none_iff.mp e
        rw [wipe_length] at this
        rw [if_neg (by omega)]
      | some o =>
        have := (List.getElem?_eq_some_iff.mp e).1
        rw [wipe_length] at this
        rw [if_pos this]
        cases o with
        | none => rfl
        | some v => exact absurd hj (wipe_some e).2
    rw [key, key, a.1]
  · rw [wipe_out hj, wipe_out hj, a.2 j fun q => hj (h j q)]
theorem wipe_wipe (σ : L2.St) (l : List Nat) : wipe (wipe σ l) l = wipe σ l :=
  wipe_agree (l2 := l) ⟨wipe_length σ l, fun i hi => wipe_out hi⟩ fun _ h => h
section
variable {S : Sit} {P : Pd} {H : Hp} {O : Addr → Prop} {env : Env} {σ : L2.St}
theorem SR.wipe (s : SR S P H O env σ) {l : List Nat} (hio : ∀ i ∈ l, ioFree S i) : SR S P H O (wipeE env l) (L2.wipe σ l) := by
  have out : ∀ {j : Nat} {d : D}, ((wipeE env l)[j]? = some (Sl.sh d) ∨ (wipeE env l)[j]? = some (Sl.ow d)) → j ∉ l := fun {j d} h hj => by
    rcases h with h | h
    · have := wipeE_in hj h; cases this
    · have := wipeE_in hj h; cases this
  have back : ∀ {y w}, rt (wipeE env l) (L2.wipe σ l) P y = some w → rt env σ P y = some w := fun {y w} h => by
    cases y with
    | inr j => exact h
    | inl j =>
      obtain ⟨d', q1, q2, q3⟩ := rt_inl.mp h
      have hj := out (.inr q1)
      rw [wipeE_out hj] at q1
      rw [wipe_out hj] at q3
      exact rt_inl.mpr ⟨d', q1, q2, q3⟩
  refine ⟨by rw [wipeE_len, wipe_length]; exact s.len, s.own, s.dis, fun j d e => ?_, fun j d e => ?_, s.pd, fun x y w h1 h2 => s.ne x y w (back h1) (back h2), fun p hp => ?_⟩
  · have hj := out (.inl e)
    rw [wipeE_out hj] at e
    rw [wipe_out hj]
    exact s.sh j d e
  · have hj := out (.inr e)
    rw [wipeE_out hj] at e
    rw [wipe_out hj]
    exact s.ow j d e
  · rw [wipe_out fun h => hio _ h p hp rfl]
    exact s.io p hp
/-- one more place is guarded -/
def Sit.guard (S : Sit) (p : Addr) : Sit := { S with G := fun a => S.G a ∨ a = p }
theorem guard_sub {p : Addr} : ∀ a, S.F O a → (S.guard p).F O a := fun a h => h.elim (fun h => .inl (.inl h)) .inr
theorem Top.mono2 {S' : Sit} {H' : Hp} {O' : Addr → Prop} {d : D} {v : V} (hK : S'.K = S.K) (t : Top S H O d v) (m : Mono H (S.F O) H' (S'.F O')) (h : ∀ a o, isC d = true → O a → ¬ S.G a → H a = some o → O' a ∧ ¬ S'.G a ∧ H' a = some o) : Top S' H' O' d v := by
  cases hc : isC d with
  | false => rw [top_notC hc] at t ⊢; rw [hK]; exact t.mono m
  | true =>
    obtain ⟨b, us, rfl, ob, gb, ⟨o, xo, xq⟩, rb⟩ := (top_C hc).mp t
    obtain ⟨h1, h2, h3⟩ := h b o hc ob gb xo
    exact (top_C hc).mpr ⟨b, us, rfl, h1, h2, ⟨o, h3, xq⟩, by rw [hK]; exact rb.mono m⟩
theorem SR.toGuard {p : Addr} {xs : List V} (s : SR S P H O env σ) (hp : H p = none) : SR (S.guard p) P (upd H p (.lst xs)) O env σ := by
  have sm : Same H (upd H p (.lst xs)) := same_upd hp
  have m : Mono H (S.F O) (upd H p (.lst xs)) ((S.guard p).F O) := fun a o e n => ⟨sm a o e, fun h => h.elim (fun h => h.elim (fun h => n (.inl h)) fun h => by rw [h, hp] at e; cases e) fun h => n (.inr h)⟩
  have tm : ∀ {d : D} {v : V}, Top S H O d v → Top (S.guard p) (upd H p (.lst xs)) O d v := fun {d v} t => Top.mono2 (S := S) (S' := S.guard p) rfl t m fun a ds _ ho hg ha => ⟨ho, fun h => h.elim hg (fun h => by rw [h, hp] at ha; cases ha), sm _ _ ha⟩
  refine ⟨s.len, fun a f => ?_, fun a f k => ?_, fun j d e => ?_, fun j d e => ?_, fun q hq => tm (s.pd q hq), s.ne, s.io⟩
  · by_cases ha : a = p
    · rw [ha, upd_same]; simp
    · rw [upd_ne ha]
      exact s.own a (f.elim (fun f => .inl (f.elim id fun f => absurd f ha)) .inr)
  · rcases f with f | f
    · exact s.dis a f k
    · exact s.own a (.inr k) (by rw [f]; exact hp)
  · obtain ⟨w, e1, t⟩ := s.sh j d e
    exact ⟨w, e1, t.mono m⟩
  · obtain ⟨w, e1, t⟩ := s.ow j d e
    exact ⟨w, e1, tm t⟩
theorem mono_guard {p : Addr} {x : HO} : Mono H ((S.guard p).F O) (upd H p x) ((S.guard p).F O) := fun a o e n => ⟨by rw [upd_ne (fun q => n (.inl (.inr q)))]; exact e, n⟩
/-- a guarded place is written -/
theorem SR.guardWrite {p : Addr} {x : HO} (s : SR (S.guard p) P H O env σ) : SR (S.guard p) P (upd H p x) O env σ := by
  have tm : ∀ {d : D} {v : V}, Top (S.guard p) H O d v → Top (S.guard p) (upd H p x) O d v := fun {d v} t => Top.mono2 (S := S.guard p) (S' := S.guard p) rfl t mono_guard fun a ds _ ho hg ha => ⟨ho, hg, by rw [upd_ne (fun q => hg (.inr q))]; exact ha⟩
  refine ⟨s.len, fun a f => ?_, s.dis, fun j d e => ?_, fun j d e => ?_, fun q hq => tm (s.pd q hq), s.ne, s.io⟩
  · by_cases ha : a = p
    · rw [ha, upd_same]; simp
    · rw [upd_ne ha]; exact s.own a f
  · obtain ⟨w, e1, t⟩ := s.sh j d e
    exact ⟨w, e1, t.mono mono_guard⟩
  · obtain ⟨w, e1, t⟩ := s.ow j d e
    exact ⟨w, e1, tm t⟩
end
/-- another picture of the same def -/
structure Sib (S S' : Sit) : Prop where
  K : S'.K = S.K
  cls : S'.cls = S.cls
  io : S'.io = S.io
theorem Sib.refl (S : Sit) : Sib S S := ⟨rfl, rfl, rfl⟩
theorem Sib.guard {S : Sit} {p : Addr} : Sib S (S.guard p) := ⟨rfl, rfl, rfl⟩
def W0 : WX := fun _ _ _ _ => False
def tCo (S : Sit) (C : Calls) (W : WX) (c : Option T) : TT := fun σ H Q => ∃ P env O, SR S P H O env σ ∧ PostT S W P H O σ (evalC C c env) Q
def turnL (C : Calls) (tg : Tg) (cond : Option T) (elt : E) : D → Env → R (Option D) := fun d s => match bindT false tg d s with
  | none => .stuck
  | some s => (evalC C cond s).bind fun k s => if k then (evalE C elt s).bind fun x s => .ok (some x) s else .ok none s
theorem compL_exc {own : List Nat} {f : D → Env → R (Option D)} : ∀ {ds : List D} {s : Env} {x : D} {s' : Env}, compL own f ds s ≠ .exc x s'
  | [], _, _, _ => fun h => nomatch h
  | d :: ds, s, x, s' => fun h => by
    simp only [compL] at h
    split at h
    · rename_i o s1 e
      cases q : compL own f ds (wipeE s1 own) with
      | stuck => rw [q] at h; cases h
      | exc y s2 => exact compL_exc q
      | ok r s2 => rw [q] at h; cases o <;> cases h
    · cases h
section
variable {X : Cx} {S : Sit} {C : Calls} {W : WX} {pos : Pos}
theorem r_lc {elt : E} {tg : Tg} {it : Rf.It} {cond : Option T} {own : List Nat} {pelt ptg pit : Expr} {ifs : List Expr} {scope : Scope} {ownL : List (Str × Nat)} (hc : X.calm = true) (hN : X.N.Nodup) (hi : PI X ptg pit (tIt S C W it)) (ok : BlkOk X.N X.env.scope scope ownL)
    (hg : ∀ S', Sib S S' → ∀ (s : Shared) (H : Hp) (B : Addr) (cl : List (Str × Addr)) (fp : List Addr), PG (X.blk s H scope (compEnvC scope cl B X.env) fp) ptg (gD S' tg))
    (ht : ∀ S', Sib S S' → ∀ (s : Shared) (H : Hp) (B : Addr) (cl : List (Str × Addr)) (fp : List Addr), PTs (X.blk s H scope (compEnvC scope cl B X.env) fp) ifs (tCo S' C W0 cond))
    (he : ∀ S', Sib S S' → ∀ (s : Shared) (H : Hp) (B : Addr) (cl : List (Str × Addr)) (fp : List Addr), PE (X.blk s H scope (compEnvC scope cl B X.env) fp) pelt (tD S' C W0 elt))
    (hown : ∀ i ∈ tgSl tg, i ∈ own) (howns : ownL.map (·.2) = own) (hio : ∀ i ∈ own, ioFree S i) (hs : ∀ x, foldedSetIterable pit X.env x = pure x) (σ : L2.St) (H : Hp) (Q : VK) (h : tDf S C W (.lc elt tg it cond own) σ H Q) :
    tLc (tIt S C W it) (fun v σ H Q => ∃ S', Sib S S' ∧ gD S' tg v σ H Q) (fun σ H Q => ∃ S', Sib S S' ∧ tCo S' C W0 cond σ H Q) (fun σ H Q => ∃ S', Sib S S' ∧ tD S' C W0 elt σ H Q) (ownL.map (·.2)) σ H Q := by
  obtain ⟨P, env, O, s, p⟩ := h
  refine ⟨P, env, O, s, PostG.imp (PostG.bind (show PostG S W P H O σ ((evalI C it env).bind _) _ from p)) fun ds s1 H1 O1 _ _ _ ⟨x1, t1, p1⟩ J jok D hD => ?_⟩
  rw [howns]
  have p1 : PostG S W P H1 O1 σ ((compL own (turnL C tg cond elt) ds (wipeE s1 own)).bind fun r s2 => if r.length ≤ sizeLine then .ok (.lst r) (backE s1 s2 own) else .stuck) (fun d s H' O' => ∀ v, Top S H' O' d v → NewTop s σ P d v → Q v H') := p1
  cases hcl : compL own (turnL C tg cond elt) ds (wipeE s1 own) with
  | stuck => rw [hcl] at p1; exact False.elim p1
  | exc y s2 => exact absurd hcl compL_exc
  | ok r s2 =>
    rw [hcl] at p1
    have p1 : PostG S W P H1 O1 σ (if r.length ≤ sizeLine then .ok (.lst r) (backE s1 s2 own) else .stuck) (fun d s H' O' => ∀ v, Top S H' O' d v → NewTop s σ P d v → Q v H') := p1
    split at p1
    · rename_i hlen
      let S' := S.guard D
      have sb : Sib S S' := Sib.guard
      let St : Nat → Hp → Prop := fun i Hc => ∃ env' O' acc racc rest, compL own (turnL C tg cond elt) (ds.drop i) env' = .ok rest s2 ∧ r = racc ++ rest ∧ Hc D = some (.lst acc) ∧ Reps S'.K Hc (S'.F O') racc acc ∧ Ext H1 O1 Hc O' ∧ SR S' P Hc O' env' (wipe σ own)
      refine ⟨fun i m Hc => m = ds.length - i ∧ i ≤ ds.length ∧ St i Hc, ⟨ds.length, by simp, Nat.zero_le _, wipeE s1 own, O1, [], [], r, by rw [List.drop_zero]; exact hcl, rfl, upd_same, .nil, ⟨fun a o e _ => by rw [upd_ne (ne_of_none e hD)]; exact e, fun a h => .inl h⟩, (t1.wipe hio).toGuard hD⟩, ?_⟩
      rintro i m Hc ⟨rfl, hle, env', O', acc, racc, rest, hrun, hr, hHD, racc_rep, xt, sr⟩
      have hDO : ∀ {O2 : Addr → Prop} {H2 : Hp} {e2 : Env} {σ2 : L2.St}, SR S' P H2 O2 e2 σ2 → ¬ O2 D := fun s2 q => s2.dis D (.inr rfl) q
      have mono1 : Mono H1 (S.F O1) Hc (S'.F O') := fun a o e n => ⟨(xt.mono (S := S) a o e n).1, fun q => by
        rcases q with (q | q) | q
        · exact n (.inl q)
        · rw [q, hD] at e; cases e
        · exact (xt.mono (S := S) a o e n).2 (.inr q)⟩
      have J1 := jok i Hc (S'.F O') mono1 sr.own
      by_cases hlt : i < ds.length
      · have hdrop : ds.drop i = ds[i] :: ds.drop (i + 1) := List.drop_eq_getElem_cons hlt
        rw [hdrop] at hrun
        simp only [compL] at hrun
        obtain ⟨go, yld⟩ := J1.1 ds[i] (by simp [hlt])
        refine .inr ⟨go, St (i + 1), fun H' w => ⟨ds.length - (i + 1), by omega, rfl, hlt, w⟩, fun x H' y => ?_⟩
        obtain ⟨sm, rx⟩ := yld x H' y
        split at hrun
        · rename_i o sa ef
          unfold turnL at ef
          split at ef
          · cases ef
          · rename_i e1 hb
            have sr1 : SR S' P H' O' env' (wipe σ own) := sr.same sm
            refine ⟨S', sb, P, env', O', ds[i], e1, sr1, rx, hb, fun σ2 sr2 ag => ⟨?_, ?_⟩⟩
            · exact (wipe_agree ag hown).trans (wipe_wipe _ _)
            · have wσ2 : wipe σ2 own = wipe σ own := by rw [wipe_agree ag hown, wipe_wipe]
              cases ec : evalC C cond e1 with
              | stuck => rw [ec] at ef; cases ef
              | exc y s3 => rw [ec] at ef; cases ef
              | ok k sk =>
                rw [ec] at ef
                have ef : (if k = true then (evalE C elt sk).bind fun x s => R.ok (some x) s else .ok none sk) = .ok o sa := ef
                refine ⟨S', sb, P, e1, O', sr2, ?_⟩
                unfold PostT
                rw [ec]
                intro H3 O3 x3 sr3
                have ext3 : Ext H1 O1 H3 O3 := (xt.trans (Ext.same sm)).trans x3
                have hD3 : H3 D = some (.lst acc) := x3.keep D _ (sm D _ hHD) (hDO sr1)
                have rep3 : Reps S'.K H3 (S'.F O3) racc acc := (racc_rep.mono (Mono.same sm)).mono x3.mono
                cases k with
                | false =>
                  simp only [Bool.false_eq_true, if_false, R.ok.injEq] at ef ⊢
                  obtain ⟨rfl, rfl⟩ := ef
                  cases q : compL own (turnL C tg cond elt) (ds.drop (i + 1)) (wipeE sk own) with
                  | stuck => rw [q] at hrun; cases hrun
                  | exc y s3 => rw [q] at hrun; cases hrun
                  | ok r2 s3 =>
                    rw [q] at hrun
                    simp only [R.bind, R.ok.injEq] at hrun
                    obtain ⟨rfl, rfl⟩ := hrun
                    exact ⟨wipeE sk own, O3, acc, racc, r2, q, hr, hD3, rep3, ext3, by rw [← wσ2]; exact sr3.wipe hio⟩
                | true =>
                  simp only [if_true] at ef ⊢
                  refine ⟨S', sb, P, sk, O3, sr3, ?_⟩
                  cases ee : evalE C elt sk with
                  | stuck => rw [ee] at ef; cases ef
                  | exc y s3 => rw [ee] at ef; cases ef
                  | ok dx sx =>
                    rw [ee] at ef
                    simp only [R.bind, R.ok.injEq] at ef
                    obtain ⟨rfl, rfl⟩ := ef
                    unfold Post
                    intro H4 O4 x4 sr4 v rv
                    cases q : compL own (turnL C tg cond elt) (ds.drop (i + 1)) (wipeE sx own) with
                    | stuck => rw [q] at hrun; cases hrun
                    | exc y s3 => rw [q] at hrun; cases hrun
                    | ok r2 s3 =>
                      rw [q] at hrun
                      simp only [R.bind, R.ok.injEq] at hrun
                      obtain ⟨rfl, rfl⟩ := hrun
                      have rep4 := rep3.mono x4.mono
                      have l4 := rep4.length
                      refine ⟨acc, x4.keep D _ hD3 (hDO sr3), by rw [hr, List.length_append, List.length_cons] at hlen; omega, wipeE sx own, O4, acc ++ [v], racc ++ [dx], r2, q, by rw [hr, List.append_assoc]; rfl, upd_same, (rep4.append (.one rv)).mono mono_guard, ?_, ?_⟩
                      · have e4 := ext3.trans x4
                        exact ⟨fun a o e n => by rw [upd_ne (ne_of_none e hD)]; exact e4.keep a o e n, e4.new⟩
                      · have := sr4.wipe (l := own) hio
                        rw [wσ2] at this
                        exact this.guardWrite
        · cases hrun
      · have hi2 : i = ds.length := by omega
        subst hi2
        rw [List.drop_length] at hrun
        simp only [compL, R.ok.injEq] at hrun
        obtain ⟨rfl, rfl⟩ := hrun
        rw [List.append_nil] at hr
        subst hr
        refine .inl ⟨J1.2 (Nat.le_refl _), ?_⟩
        have xD : Ext H1 O1 Hc (fun a => O' a ∨ a = D) := ⟨xt.keep, fun a h => h.elim (fun h => xt.new a h) fun h => .inr (by rw [h]; exact hD)⟩
        have fsub : ∀ a, S.F (fun a => O' a ∨ a = D) a → S'.F O' a := fun a h => by
          rcases h with h | h | h
          · exact .inl (.inl h)
          · exact .inr h
          · exact .inl (.inr h)
        have out : ∀ {j : Nat} {d : Rf.D}, (backE s1 env' own)[j]? = some (Sl.ow d) → j ∉ own := fun {j d} e hj => by
          rcases backE_in hj e with q | ⟨_, q, _⟩ <;> cases q
        have tm : ∀ {d v}, Top S' Hc O' d v → Top S Hc (fun a => O' a ∨ a = D) d v := fun {d v} t => Top.mono2 (S := S') (S' := S) rfl t (Mono.sub fsub) fun a ds _ ho hg ha => ⟨.inl ho, fun h => hg (.inl h), ha⟩
        have roots : ∀ {y w}, rt (backE s1 env' own) σ P y = some w → rt env' (wipe σ own) P y = some w := fun {y w} h => by
          cases y with
          | inr j => exact h
          | inl j =>
            obtain ⟨d', q1, q2, q3⟩ := rt_inl.mp h
            have hj := out q1
            rw [backE_out hj] at q1
            exact rt_inl.mpr ⟨d', q1, q2, by rw [wipe_out hj]; exact q3⟩
        refine p1 Hc _ xD ⟨by rw [backE_len]; have := sr.len; rw [wipe_length] at this; exact this, fun a f => ?_, fun a f k => ?_, fun j d e => ?_, fun j d e => ?_, fun q hq => tm (sr.pd q hq), fun x y w h1 h2 => sr.ne x y w (roots h1) (roots h2), t1.io⟩ (.ref D) ⟨D, acc, rfl, .inr rfl, fun h => t1.own D (.inl h) hD, hHD, racc_rep.mono (Mono.sub fsub)⟩ fun _ y hy => ?_
        · rcases f with f | f | f
          · exact sr.own a (.inl (.inl f))
          · exact sr.own a (.inr f)
          · exact sr.own a (.inl (.inr f))
        · rcases k with k | k
          · exact sr.dis a (.inl f) k
          · exact t1.own a (.inl f) (by rw [k]; exact hD)
        · by_cases hj : j ∈ own
          · rcases backE_in hj e with q | ⟨d', q, h1⟩
            · cases q
            · cases q
              obtain ⟨w, e1, t⟩ := t1.sh j d h1
              exact ⟨w, e1, t.mono xD.mono⟩
          · rw [backE_out hj] at e
            obtain ⟨w, e1, t⟩ := sr.sh j d e
            rw [wipe_out hj] at e1
            exact ⟨w, e1, t.mono (Mono.sub fsub)⟩
        · have hj := out e
          rw [backE_out hj] at e
          obtain ⟨w, e1, t⟩ := sr.ow j d e
          rw [wipe_out hj] at e1
          exact ⟨w, e1, tm t⟩
        · obtain ⟨fs, b, us, eb, ob, gb, _⟩ := sr.root (roots hy)
          cases eb
          exact gb (.inr rfl)
    · exact False.elim p1
end
end Rf

/-! Rg, part O: statements. -/
namespace Rf
open PySem PySem.Spec PyProof.Rows L2
def PostS (S : Sit) (W : WX) (H : Hp) (O : Addr → Prop) (r : Rf.S) (D : Ends) : Prop := match r with
  | .stuck => False
  | .nx s => ∀ H' O' σ', Ext H O H' O' → SR S [] H' O' s σ' → D.nx σ' H'
  | .bk s => ∀ H' O' σ', Ext H O H' O' → SR S [] H' O' s σ' → D.bk σ' H'
  | .ct s => ∀ H' O' σ', Ext H O H' O' → SR S [] H' O' s σ' → D.ct σ' H'
  | .ret d s => ∀ H' O' σ' v, Ext H O H' O' → SR S [] H' O' s σ' → FrK S S.fr [] s σ' d v H' O' → D.rt v H'
  | .exc x s => ∀ cls dd H' O' σ', Ext H O H' O' → SR S [] H' O' s σ' → RepX S x cls dd H' → W cls dd σ' H'
def tS (S : Sit) (C : Calls) (W : WX) (st : Rf.St) : TS := fun D σ H => ∃ env O, SR S [] H O env σ ∧ PostS S W H O (execS C st env) D
def tSs (S : Sit) (C : Calls) (W : WX) (st : List Rf.St) : TS := fun D σ H => ∃ env O, SR S [] H O env σ ∧ PostS S W H O (execSs C st env) D
section
variable {S : Sit} {W : WX} {H H1 : Hp} {O O1 : Addr → Prop} {r : Rf.S} {D : Ends} {α : Type}
theorem PostS.later (x : Ext H O H1 O1) (h : PostS S W H O r D) : PostS S W H1 O1 r D := by
  cases r with
  | stuck => exact h
  | nx s => exact fun H' O' σ' e => h H' O' σ' (x.trans e)
  | bk s => exact fun H' O' σ' e => h H' O' σ' (x.trans e)
  | ct s => exact fun H' O' σ' e => h H' O' σ' (x.trans e)
  | ret d s => exact fun H' O' σ' v e => h H' O' σ' v (x.trans e)
  | exc y s => exact fun cls dd H' O' σ' e => h cls dd H' O' σ' (x.trans e)
theorem PostS.thn {ra : R α} {f : α → Env → Rf.S} {σ : L2.St} (h : PostS S W H O (ra.thn f) D) : PostG S W [] H O σ ra fun a s H' O' => Ext H O H' O' ∧ SR S [] H' O' s σ ∧ PostS S W H' O' (f a s) D := by
  cases ra with
  | stuck => exact h
  | ok d s => exact fun H' O' e t => ⟨e, t, PostS.later e h⟩
  | exc y s => exact fun cls dd H' O' e t => h cls dd H' O' σ e t
theorem PostS.opt {o : Option α} {f : α → Rf.S} (h : PostS S W H O (optS o f) D) : ∃ a, o = some a ∧ PostS S W H O (f a) D := by
  cases o with
  | none => exact False.elim h
  | some a => exact ⟨a, rfl, h⟩
end
theorem SR.slotS {S : Sit} {W : WX} {P : Pd} {H : Hp} {O : Addr → Prop} {env : Env} {σ : L2.St} {i : Nat} {f : D → Env → Rf.S} {E : Ends} (s : SR S P H O env σ) (h : PostS S W H O ((slotR env i).thn f) E) :
    ∃ d v, σ[i]? = some (some v) ∧ RepV S.K H (S.F O) d v ∧ PostS S W H O (f d env) E := by
  unfold slotR at h
  split at h
  · rename_i d e
    obtain ⟨v, e1, r⟩ := s.sh i d e
    exact ⟨d, v, e1, r.view, h⟩
  · rename_i d e
    obtain ⟨v, e1, t⟩ := s.ow i d e
    exact ⟨d, v, e1, t.view, h⟩
  · exact False.elim h
theorem SR.ownSC {S : Sit} {W : WX} {P : Pd} {H : Hp} {O : Addr → Prop} {env : Env} {σ : L2.St} {i : Nat} {f : D → Env → Rf.S} {E : Ends} (s : SR S P H O env σ) (h : PostS S W H O ((ownC env i).thn f) E) :
    ∃ c l vs, env[i]? = some (Sl.ow c) ∧ isC c = true ∧ σ[i]? = some (some (.ref l)) ∧ CnAt H c l vs ∧ Reps S.K H (S.F O) (kids c) vs ∧ PostS S W H O (f c env) E := by
  unfold ownC at h
  split at h
  · rename_i c e
    split at h
    · rename_i hc
      obtain ⟨l, vs, e1, x, r, k⟩ := s.writeC e hc
      exact ⟨c, l, vs, e, hc, e1, x, r, h⟩
    · exact h.elim
  · exact h.elim
theorem SR.ownS {S : Sit} {W : WX} {P : Pd} {H : Hp} {O : Addr → Prop} {env : Env} {σ : L2.St} {i : Nat} {f : List D → Env → Rf.S} {E : Ends} (s : SR S P H O env σ) (h : PostS S W H O ((ownR env i).thn f) E) :
    ∃ ds l vs, env[i]? = some (Sl.ow (.lst ds)) ∧ σ[i]? = some (some (.ref l)) ∧ H l = some (.lst vs) ∧ Reps S.K H (S.F O) ds vs ∧ PostS S W H O (f ds env) E := by
  unfold ownR at h
  split at h
  · rename_i ds e
    obtain ⟨l, vs, e1, x, r, k⟩ := s.write (es := []) e
    exact ⟨ds, l, vs, e, e1, x, r, h⟩
  · exact False.elim h
section
variable {X : Cx} {S : Sit} {C : Calls} {W : WX} {pos : Pos} {e e2 : E} {pe pe2 : Expr}
theorem PS.impI {t t' : TS} {ps : Stmt} (h : PS X ps t) (i : ∀ D σ H, σ.length = X.N.length → t' D σ H → t D σ H) : PS X ps t' := ⟨fun pins s σ H D I q => h.run pins s σ H D I (i D σ H I.len q)⟩
theorem tDk_of {b : Bool} (h : PE X pe (tD S C W e)) (hf : b = true → PE X pe (tDf S C W e)) : PE X pe (tDk b S C W e) := by
  cases b with
  | false => exact PE.imp h fun σ H Q ⟨P, env, O, s, q⟩ => ⟨P, env, O, s, q⟩
  | true => exact PE.imp (hf rfl) fun σ H Q ⟨P, env, O, s, q⟩ => ⟨P, env, O, s, PostG.imp q fun d s1 H1 O1 _ _ _ k v t n => k v ⟨t, n⟩⟩
/-- is the name a slot that may be set -/
structure Sto (X : Cx) (S : Sit) (x : Str) (i : Nat) : Prop where
  ix : X.N[i]? = some x
  loc : Loc X.env.scope x
  fn : X.fn x = true ∨ X.env.scope.names.lookup x = some .local
  io : ioFree S i
theorem asg_nm {i : Nat} {D : Ends} {σ : L2.St} {H : Hp} (hi : i < X.N.length) (hio : ioFree S i) (hl : σ.length = X.N.length) (h : tS S C W (.asg (.nm i) e) D σ H) : tAsg (tDk (isFresh C e) S C W e) (gName i) D σ H := by
  obtain ⟨env, O, s, p⟩ := h
  have p : PostS S W H O ((evalE C e env).thn fun d s => optS (bindT (isFresh C e) (.nm i) d s) .nx) D := p
  refine ⟨[], env, O, s, PostG.imp (PostS.thn p) fun d s1 H1 O1 _ _ _ ⟨x1, t1, p1⟩ v r => ?_⟩
  obtain ⟨O2, x2, t2⟩ := t1.setMk hio (by rw [hl]; exact hi) r
  exact p1 H1 O2 _ x2 t2
theorem rs_set {i : Nat} {x : Str} {p : Pos} (hN : X.N.Nodup) (st : Sto X S x i) (he : PE X pe (tDk (isFresh C e) S C W e)) (hs : swapsWith pe (some (.Name x p)) pos.line X.env = pure false) : PS X (.Assign [.Name x p] pe pos) (tS S C W (.asg (.nm i) e)) :=
  PS.impI (ps_set hN st.ix st.loc he hs st.fn) fun D σ H hl h => asg_nm (lt_of_ix st.ix) st.io hl h
theorem rs_tup {tg : Tg} {ptg : Expr} (he : PE X pe (tD S C W e)) (hg : PG X ptg (gD S tg)) (hn : ∀ i, tg ≠ .nm i) (h1 : swapsWithSole [ptg] pe pos.line X.env = pure false) (h2 : swappedStores [ptg] pe X.env = pure none) (h3 : (assignEach [ptg] X.env).map (·.2) = [assign ptg X.env]) : PS X (.Assign [ptg] pe pos) (tS S C W (.asg tg e)) :=
  PS.impI (ps_asg he hg h1 h2 h3) fun D σ H hl ⟨env, O, s, p⟩ => by
    have p : PostS S W H O ((evalE C e env).thn fun d s => optS (bindT (isFresh C e) tg d s) .nx) D := p
    refine ⟨[], env, O, s, PostG.imp (PostS.thn p) fun d s1 H1 O1 _ _ _ ⟨x1, t1, p1⟩ v r => ?_⟩
    obtain ⟨env', hb, p2⟩ := PostS.opt p1
    have hb' : bindT false tg d s1 = some env' := by
      cases tg with
      | nm i => exact absurd rfl (hn i)
      | tp ts => cases d <;> exact hb
    exact ⟨[], s1, O1, d, env', t1, r, hb', fun σ' t' _ => p2 H1 O1 σ' (Ext.refl _ _) t'⟩
/-! ### several names at once -/
/-- fresh values wait for their slots -/
def Vs (S : Sit) (H : Hp) (O : Addr → Prop) (env : Env) (σ : L2.St) : Pd → List Bool → List D → List V → Prop
  | P, f :: fs, d :: ds, v :: vs => if f && isC d then Top S H O d v ∧ NewTop env σ P d v ∧ Vs S H O env σ ((d, v) :: P) fs ds vs else Rep S.K H (S.F O) d v ∧ Vs S H O env σ P fs ds vs
  | _, [], [], [] => True
  | _, _, _, _ => False
def tFs (S : Sit) (C : Calls) (W : WX) (es : List E) : TA := fun σ H Q => ∃ P env O, SR S P H O env σ ∧ PostG S W P H O σ (evalEs C es env) fun ds s H' O' => ∀ vs, Vs S H' O' s σ P (es.map (isFresh C)) ds vs → Q vs H'
def up : Nat ⊕ Nat → Nat ⊕ Nat
  | .inl i => .inl i
  | .inr j => .inr (j + 1)
theorem up_inj {x y : Nat ⊕ Nat} (h : up x = up y) : x = y := by
  cases x <;> cases y <;> simp [up] at h <;> rw [h]
theorem up_ne {x : Nat ⊕ Nat} : up x ≠ .inr 0 := by cases x <;> simp [up]
theorem rt_up {env : Env} {σ : L2.St} {P : Pd} {p : D × V} {x : Nat ⊕ Nat} : rt env σ (p :: P) (up x) = rt env σ P x := by cases x <;> rfl
theorem up_or (x : Nat ⊕ Nat) : x = .inr 0 ∨ ∃ z, x = up z := by
  cases x with
  | inl i => exact .inr ⟨.inl i, rfl⟩
  | inr j => cases j with
    | zero => exact .inl rfl
    | succ j => exact .inr ⟨.inr j, rfl⟩
theorem rt_top {env : Env} {σ : L2.St} {P : Pd} {d : D} {v w : V} : rt env σ ((d, v) :: P) (.inr 0) = some w ↔ w = v ∧ isC d = true := by
  rw [rt_inr]
  constructor
  · rintro ⟨d', e, c⟩
    simp at e
    obtain ⟨rfl, rfl⟩ := e
    exact ⟨rfl, c⟩
  · rintro ⟨rfl, c⟩
    exact ⟨d, rfl, c⟩
section
variable {P : Pd} {H : Hp} {O : Addr → Prop} {env : Env} {σ : L2.St} {d : D} {v : V}
theorem SR.push (s : SR S P H O env σ) (t : Top S H O d v) (n : NewTop env σ P d v) : SR S ((d, v) :: P) H O env σ := by
  refine ⟨s.len, s.own, s.dis, s.sh, s.ow, fun p hp => ?_, fun x y w h1 h2 => ?_, s.io⟩
  · rcases List.mem_cons.mp hp with rfl | hp
    · exact t
    · exact s.pd p hp
  · rcases up_or x with rfl | ⟨z, rfl⟩
    · rcases up_or y with rfl | ⟨z', rfl⟩
      · rfl
      · obtain ⟨rfl, c⟩ := rt_top.mp h1
        rw [rt_up] at h2
        exact absurd h2 (n c z')
    · rw [rt_up] at h1
      rcases up_or y with rfl | ⟨z', rfl⟩
      · obtain ⟨rfl, c⟩ := rt_top.mp h2
        exact absurd h1 (n c z)
      · rw [rt_up] at h2
        rw [s.ne _ _ _ h1 h2]
theorem SR.unpush (t : SR S ((d, v) :: P) H O env σ) : SR S P H O env σ ∧ Top S H O d v ∧ NewTop env σ P d v := by
  refine ⟨⟨t.len, t.own, t.dis, t.sh, t.ow, fun p hp => t.pd p (List.mem_cons_of_mem _ hp), fun x y w h1 h2 => ?_, t.io⟩, t.pd (d, v) List.mem_cons_self, fun c y hy => ?_⟩
  · rw [← rt_up (p := (d, v))] at h1 h2
    exact up_inj (t.ne _ _ _ h1 h2)
  · rw [← rt_up (p := (d, v))] at hy
    exact up_ne (t.ne _ _ _ hy (rt_top.mpr ⟨rfl, c⟩))
theorem fs_lift {e : E} {es : List E} {Q : List V → Hp → Prop} (hc : (isFresh C e && isC d) = true) {r : R (List D)} (p : PostG S W P H O σ (r.bind fun ds s => .ok (d :: ds) s) (fun ds s H' O' => ∀ vs, Vs S H' O' s σ P (isFresh C e :: es.map (isFresh C)) ds vs → Q vs H')) :
    PostG S W ((d, v) :: P) H O σ r fun ds s H' O' => ∀ vs, Vs S H' O' s σ ((d, v) :: P) (es.map (isFresh C)) ds vs → Q (v :: vs) H' := by
  cases r with
  | stuck => exact p
  | exc y s' => exact fun cls dd H' O' x t => p cls dd H' O' x t.unpush.1
  | ok ds s' =>
    intro H' O' x t vs hv
    obtain ⟨t', tp, nt⟩ := t.unpush
    refine p H' O' x t' (v :: vs) ?_
    unfold Vs
    rw [if_pos hc]
    exact ⟨tp, nt, hv⟩
end
theorem r_fs_nil : PA X [] (tFs S C W []) := PA.imp pa_nil fun σ H Q ⟨P, env, O, s, p⟩ => p H O (Ext.refl _ _) s [] trivial
theorem r_fs_cons {es : List E} {ps : List Expr} (ha : PE X pe (tDk (isFresh C e) S C W e)) (hr : PA X ps (tFs S C W es)) (hn : nst pe = true) : PA X (pe :: ps) (tFs S C W (e :: es)) :=
  PA.imp (pa_cons ha hr (star_cons hn)) fun σ H Q ⟨P, env, O, s, p⟩ => ⟨P, env, O, s, PostG.imp (PostG.bind (show PostG S W P H O σ ((evalE C e env).bind _) _ from p)) fun d s1 H1 O1 _ _ _ ⟨x1, t1, p1⟩ v r => by
    have p1 : PostG S W P H1 O1 σ ((evalEs C es s1).bind fun ds s => .ok (d :: ds) s) fun ds s H' O' => ∀ vs, Vs S H' O' s σ P ((e :: es).map (isFresh C)) ds vs → Q vs H' := p1
    by_cases hc : (isFresh C e && isC d) = true
    · have hc2 := hc
      rw [Bool.and_eq_true] at hc2
      unfold FrK at r
      rw [if_pos hc2.1] at r
      have t2 := t1.push r.1 r.2
      refine ⟨(d, v) :: P, s1, O1, t2, ?_⟩
      exact fs_lift hc p1
    · have rp : ∃ O2, Ext H1 O1 H1 O2 ∧ SR S P H1 O2 s1 σ ∧ Rep S.K H1 (S.F O2) d v := by
        unfold FrK at r
        cases hf : isFresh C e with
        | false => rw [hf] at r; exact ⟨O1, Ext.refl _ _, t1, r⟩
        | true =>
          rw [hf] at r hc
          simp only [if_true] at r
          have : isC d = false := by simpa using hc
          have t := r.1
          rw [top_notC this] at t
          exact ⟨O1, Ext.refl _ _, t1, t⟩
      obtain ⟨O2, x2, t2, rp⟩ := rp
      refine ⟨P, s1, O2, t2, PostG.imp (PostG.bind (PostG.later x2 p1)) fun ds s2 H2 O3 _ _ _ ⟨x3, t3, p3⟩ vs hv => p3 H2 O3 (Ext.refl _ _) t3 (v :: vs) ?_⟩
      show Vs S H2 O3 s2 σ P (isFresh C e :: es.map (isFresh C)) (d :: ds) (v :: vs)
      unfold Vs
      rw [if_neg hc]
      exact ⟨rp.mono x3.mono, hv⟩⟩
/-- the values are stored, the last first -/
def setAll : List Nat → List V → L2.St → L2.St
  | i :: is, v :: vs, σ => (setAll is vs σ).set i (some v)
  | _, _, σ => σ
theorem setAll_len : ∀ (is : List Nat) (vs : List V) (σ : L2.St), (setAll is vs σ).length = σ.length
  | i :: is, v :: vs, σ => by simp only [setAll]; rw [List.length_set, setAll_len is vs σ]
  | [], _, _ => by simp only [setAll]
  | _ :: _, [], _ => by simp only [setAll]
theorem store_vs {H : Hp} {O : Addr → Prop} {σ : L2.St} {env : Env} : ∀ {is : List Nat} {es : List E} {ds : List D} {vs : List V} {P : Pd}, SR S P H O env σ → Vs S H O env σ P (es.map (isFresh C)) ds vs → is.length = es.length → (∀ i ∈ is, i < σ.length ∧ ioFree S i) →
    SR S P H O (putP C is es ds env) (setAll is vs σ)
  | [], [], ds, vs, P, s, h, _, _ => by
    cases ds <;> cases vs <;> first | exact s | (simp only [List.map_nil, Vs] at h)
  | [], _ :: _, _, _, _, _, _, hl, _ => by simp at hl
  | _ :: _, [], _, _, _, _, _, hl, _ => by simp at hl
  | i :: is, e :: es, [], vs, P, s, h, hl, hi => by cases vs <;> simp only [List.map_cons, Vs] at h
  | i :: is, e :: es, d :: ds, [], P, s, h, hl, hi => by simp only [List.map_cons, Vs] at h
  | i :: is, e :: es, d :: ds, v :: vs, P, s, h, hl, hi => by
    simp only [List.map_cons] at h
    unfold Vs at h
    have hi' : ∀ j ∈ is, j < σ.length ∧ ioFree S j := fun j hj => hi j (List.mem_cons_of_mem _ hj)
    have hl' : is.length = es.length := by simpa using hl
    obtain ⟨b1, b2⟩ := hi i List.mem_cons_self
    have b1' : i < (setAll is vs σ).length := by rw [setAll_len]; exact b1
    simp only [putP, setAll]
    unfold mkSl
    split at h
    · rename_i hc
      rw [if_pos hc]
      have s2 := store_vs (s.push h.1 h.2.1) h.2.2 hl' hi'
      obtain ⟨s3, t3, n3⟩ := s2.unpush
      exact s3.setOw b2 b1' t3 n3
    · rename_i hc
      rw [if_neg hc]
      have s2 := store_vs s h.2 hl' hi'
      exact s2.setSh b2 b1' h.1
theorem vs_len {H : Hp} {O : Addr → Prop} {σ : L2.St} {env : Env} : ∀ {fs : List Bool} {ds : List D} {vs : List V} {P : Pd}, Vs S H O env σ P fs ds vs → vs.length = fs.length
  | [], [], [], _, _ => rfl
  | [], _ :: _, vs, _, h => by cases vs <;> simp only [Vs] at h
  | [], [], _ :: _, _, h => by simp only [Vs] at h
  | _ :: _, [], vs, _, h => by cases vs <;> simp only [Vs] at h
  | _ :: _, _ :: _, [], _, h => by simp only [Vs] at h
  | f :: fs, d :: ds, v :: vs, P, h => by
    unfold Vs at h
    split at h
    · rw [List.length_cons, List.length_cons, vs_len h.2.2]
    · rw [List.length_cons, List.length_cons, vs_len h.2]
theorem par_core {is : List Nat} {es : List E} {D : Ends} {σ : L2.St} {H : Hp} (hl : σ.length = X.N.length) (hlen : is.length = es.length) (hi : ∀ i ∈ is, i < X.N.length ∧ ioFree S i) (h : tS S C W (.par is es) D σ H) :
    tFs S C W es σ H fun vs H1 => vs.length = es.length ∧ D.nx (setAll is vs σ) H1 := by
  obtain ⟨env, O, s, p⟩ := h
  have p : PostS S W H O ((evalEs C es env).thn fun ds s => .nx (putP C is es ds s)) D := p
  refine ⟨[], env, O, s, PostG.imp (PostS.thn p) fun ds s1 H1 O1 e _ _ ⟨x1, t1, p1⟩ vs hv => ⟨by rw [vs_len hv, List.length_map], ?_⟩⟩
  exact p1 H1 O1 _ (Ext.refl _ _) (store_vs t1 hv hlen fun i h => by rw [hl]; exact hi i h)
theorem rs_par2 {i j : Nat} {x y : Str} {a b : E} {pa pb : Expr} {px py pt : Pos} {kt k2 : Nat} {pt2 : Pos} (hc : X.calm = true) (hN : X.N.Nodup) (s1 : Sto X S x i) (s2 : Sto X S y j) (hij : i ≠ j) (hx : X.env.scope.names.lookup x = some .local) (hy : X.env.scope.names.lookup y = some .local)
    (ha : PA X [pa, pb] (tFs S C W [a, b])) (hw : swappedStores [.Tuple [.Name x px, .Name y py] kt pt] (.Tuple [pa, pb] k2 pt2) X.env = pure (some [x, y])) :
    PS X (.Assign [.Tuple [.Name x px, .Name y py] kt pt] (.Tuple [pa, pb] k2 pt2) pos) (tS S C W (.par [i, j] [a, b])) :=
  PS.impI (ps_par hc hN s1.ix s2.ix hij hx hy ha hw) fun D σ H hl h => by
    have k := par_core (is := [i, j]) hl rfl (fun n hn => by
      rcases List.mem_cons.mp hn with rfl | hn
      · exact ⟨lt_of_ix s1.ix, s1.io⟩
      · obtain rfl := List.mem_singleton.mp hn
        exact ⟨lt_of_ix s2.ix, s2.io⟩) h
    obtain ⟨P, env, O, s, q⟩ := k
    refine ⟨P, env, O, s, PostG.imp q fun ds s1 H1 O1 _ _ _ k vs hv => ?_⟩
    obtain ⟨hlen, k⟩ := k vs hv
    match vs, hlen, k with
    | [v, w], _, k => exact ⟨v, w, rfl, by rw [List.set_comm _ _ hij]; exact k⟩
theorem rs_par3 {i j l : Nat} {x y z : Str} {a b c : E} {pa pb pc : Expr} {px py pz pt : Pos} {kt k2 : Nat} {pt2 : Pos} (hc : X.calm = true) (hN : X.N.Nodup) (s1 : Sto X S x i) (s2 : Sto X S y j) (s3 : Sto X S z l) (hij : i ≠ j) (hil : i ≠ l) (hjl : j ≠ l)
    (hx : X.env.scope.names.lookup x = some .local) (hy : X.env.scope.names.lookup y = some .local) (hz : X.env.scope.names.lookup z = some .local)
    (ha : PA X [pa, pb, pc] (tFs S C W [a, b, c])) (hw : swappedStores [.Tuple [.Name x px, .Name y py, .Name z pz] kt pt] (.Tuple [pa, pb, pc] k2 pt2) X.env = pure (some [x, y, z])) :
    PS X (.Assign [.Tuple [.Name x px, .Name y py, .Name z pz] kt pt] (.Tuple [pa, pb, pc] k2 pt2) pos) (tS S C W (.par [i, j, l] [a, b, c])) :=
  PS.impI (L2.ps_par3 hc hN s1.ix s2.ix s3.ix hij hil hjl hx hy hz ha hw) fun D σ H hl h => by
    have k := par_core (is := [i, j, l]) hl rfl (fun n hn => by
      rcases List.mem_cons.mp hn with rfl | hn
      · exact ⟨lt_of_ix s1.ix, s1.io⟩
      · rcases List.mem_cons.mp hn with rfl | hn
        · exact ⟨lt_of_ix s2.ix, s2.io⟩
        · obtain rfl := List.mem_singleton.mp hn
          exact ⟨lt_of_ix s3.ix, s3.io⟩) h
    obtain ⟨P, env, O, s, q⟩ := k
    refine ⟨P, env, O, s, PostG.imp q fun ds s1 H1 O1 _ _ _ k vs hv => ?_⟩
    obtain ⟨hlen, k⟩ := k vs hv
    match vs, hlen, k with
    | [u, v, w], _, k =>
      refine ⟨u, v, w, rfl, ?_⟩
      have e : ((σ.set i (some u)).set j (some v)).set l (some w) = ((σ.set l (some w)).set j (some v)).set i (some u) := by
        rw [List.set_comm _ _ hij, List.set_comm _ _ hil, List.set_comm _ _ hjl]
      rw [e]; exact k
end
/-! a, b = .., one of the names at least a cell: stored from the left; the tuple is not tracked -/
theorem tup_stands {X : Cx} {pins : List (Addr × Obj)} {σ : L2.St} {H : Hp} {s : Shared} {us : List Value} (I : L2.Inv X pins σ H s) :
    L2.Inv X pins σ H { s with heap := s.heap.push { cls := .type "tuple", data := .seq us.toArray } } := I.kept (t' := s.toks) fun b o e => Heap.get?_push_of_some _ e
theorem ps_parC2 {X : Cx} {pos : Pos} {i j : Nat} {x y : Str} {a b : Expr} {ta : TA} {px py pt : Pos} {kt k2 pt2} (hc : X.calm = true) (hN : X.N.Nodup) (hi : X.N[i]? = some x) (hj : X.N[j]? = some y)
    (hx : Loc X.env.scope x) (hy : Loc X.env.scope y) (fx : X.fn x = true ∨ X.env.scope.names.lookup x = some .local) (fy : X.fn y = true ∨ X.env.scope.names.lookup y = some .local) (ha : PA X [a, b] ta)
    (hw : swappedStores [.Tuple [.Name x px, .Name y py] kt pt] (.Tuple [a, b] k2 pt2) X.env = pure none)
    (hs : swapsWithSole [.Tuple [.Name x px, .Name y py] kt pt] (.Tuple [a, b] k2 pt2) pos.line X.env = pure false := by rfl) :
    PS X (.Assign [.Tuple [.Name x px, .Name y py] kt pt] (.Tuple [a, b] k2 pt2) pos) (tPar i j ta) := by
  refine ⟨fun pins s σ H D I h => ?_⟩
  refine wpAny_Assign_stores (Tuple_ (thn (ha.run _ pins s σ H _ I h) fun us s1 ⟨vs, H1, I1, r1, v, w, e1, q1⟩ => ?_)) hs hw
  subst e1
  obtain ⟨u1, u2, rfl, rv, rw'⟩ : ∃ u1 u2, us = [u1, u2] ∧ RelV v u1 ∧ RelV w u2 := by
    cases r1 with
    | cons p q => cases q with
      | cons p' q' => cases q'; exact ⟨_, _, rfl, p, p'⟩
  refine wpAny_newObj_type ?_ (by show 2 ≤ sizeLine; decide)
  have I2 := tup_stands (us := [u1, u2]) I1
  show wpAny _ _ (assign (.Tuple [.Name x px, .Name y py] kt pt) X.env (.ref s1.heap.objs.size)) _ _ _
  refine assign_Tuple_tuple (I2.ok.hd hc) (IsTup.new s1.heap #[u1, u2]) (by rfl) (by rfl) fun h' hx' => ?_
  have I3 := I2.kept (h' := h') (t' := s1.toks) fun b o e => hx' b o (Nat.ne_of_lt (Heap.lt_size e)) e
  show wpAny _ _ (assignInOrder [assign (.Name x px) X.env, assign (.Name y py) X.env] [u1, u2]) _ _ _
  refine assignInOrder_cons (wpAny_assign_Name (store_ok I3 hN hi hx rv (fun s2 I4 => ?_) fx))
  exact assignInOrder_cons (wpAny_assign_Name (store_ok I4 hN hj hy rw' (fun s3 I5 => assignInOrder_nil ⟨_, H1, I5, q1⟩) fy))
theorem ps_parC3 {X : Cx} {pos : Pos} {i j l : Nat} {x y z : Str} {a b c : Expr} {ta : TA} {px py pz pt : Pos} {kt k2 pt2} (hc : X.calm = true) (hN : X.N.Nodup) (hi : X.N[i]? = some x) (hj : X.N[j]? = some y) (hl : X.N[l]? = some z)
    (hx : Loc X.env.scope x) (hy : Loc X.env.scope y) (hz : Loc X.env.scope z) (fx : X.fn x = true ∨ X.env.scope.names.lookup x = some .local) (fy : X.fn y = true ∨ X.env.scope.names.lookup y = some .local) (fz : X.fn z = true ∨ X.env.scope.names.lookup z = some .local) (ha : PA X [a, b, c] ta)
    (hw : swappedStores [.Tuple [.Name x px, .Name y py, .Name z pz] kt pt] (.Tuple [a, b, c] k2 pt2) X.env = pure none)
    (hs : swapsWithSole [.Tuple [.Name x px, .Name y py, .Name z pz] kt pt] (.Tuple [a, b, c] k2 pt2) pos.line X.env = pure false := by rfl) :
    PS X (.Assign [.Tuple [.Name x px, .Name y py, .Name z pz] kt pt] (.Tuple [a, b, c] k2 pt2) pos) (tPar3 i j l ta) := by
  refine ⟨fun pins s σ H D I h => ?_⟩
  refine wpAny_Assign_stores (Tuple_ (thn (ha.run _ pins s σ H _ I h) fun us s1 ⟨vs, H1, I1, r1, v, w, t, e1, q1⟩ => ?_)) hs hw
  subst e1
  obtain ⟨u1, u2, u3, rfl, rv, rw', rz⟩ : ∃ u1 u2 u3, us = [u1, u2, u3] ∧ RelV v u1 ∧ RelV w u2 ∧ RelV t u3 := by
    cases r1 with
    | cons p q => cases q with
      | cons p' q' => cases q' with
        | cons p'' q'' => cases q''; exact ⟨_, _, _, rfl, p, p', p''⟩
  refine wpAny_newObj_type ?_ (by show 3 ≤ sizeLine; decide)
  have I2 := tup_stands (us := [u1, u2, u3]) I1
  show wpAny _ _ (assign (.Tuple [.Name x px, .Name y py, .Name z pz] kt pt) X.env (.ref s1.heap.objs.size)) _ _ _
  refine assign_Tuple_tuple (I2.ok.hd hc) (IsTup.new s1.heap #[u1, u2, u3]) (by rfl) (by rfl) fun h' hx' => ?_
  have I3 := I2.kept (h' := h') (t' := s1.toks) fun b o e => hx' b o (Nat.ne_of_lt (Heap.lt_size e)) e
  show wpAny _ _ (assignInOrder [assign (.Name x px) X.env, assign (.Name y py) X.env, assign (.Name z pz) X.env] [u1, u2, u3]) _ _ _
  refine assignInOrder_cons (wpAny_assign_Name (store_ok I3 hN hi hx rv (fun s2 I4 => ?_) fx))
  refine assignInOrder_cons (wpAny_assign_Name (store_ok I4 hN hj hy rw' (fun s3 I5 => ?_) fy))
  exact assignInOrder_cons (wpAny_assign_Name (store_ok I5 hN hl hz rz (fun s4 I6 => assignInOrder_nil ⟨_, H1, I6, q1⟩) fz))
section
variable {X : Cx} {S : Sit} {C : Calls} {W : WX} {pos : Pos}
theorem par2_end {i j : Nat} {x y : Str} {a b : E} {D : Ends} {σ : L2.St} {H : Hp} (s1 : Sto X S x i) (s2 : Sto X S y j) (hij : i ≠ j) (hl : σ.length = X.N.length) (h : tS S C W (.par [i, j] [a, b]) D σ H) : tPar i j (tFs S C W [a, b]) D σ H := by
  have k := par_core (is := [i, j]) hl rfl (fun n hn => by
    rcases List.mem_cons.mp hn with rfl | hn
    · exact ⟨lt_of_ix s1.ix, s1.io⟩
    · obtain rfl := List.mem_singleton.mp hn
      exact ⟨lt_of_ix s2.ix, s2.io⟩) h
  obtain ⟨P, env, O, s, q⟩ := k
  refine ⟨P, env, O, s, PostG.imp q fun ds s1 H1 O1 _ _ _ k vs hv => ?_⟩
  obtain ⟨hlen, k⟩ := k vs hv
  match vs, hlen, k with
  | [v, w], _, k => exact ⟨v, w, rfl, by rw [List.set_comm _ _ hij]; exact k⟩
theorem par3_end {i j l : Nat} {x y z : Str} {a b c : E} {D : Ends} {σ : L2.St} {H : Hp} (s1 : Sto X S x i) (s2 : Sto X S y j) (s3 : Sto X S z l) (hij : i ≠ j) (hil : i ≠ l) (hjl : j ≠ l) (hl : σ.length = X.N.length) (h : tS S C W (.par [i, j, l] [a, b, c]) D σ H) : tPar3 i j l (tFs S C W [a, b, c]) D σ H := by
  have k := par_core (is := [i, j, l]) hl rfl (fun n hn => by
    rcases List.mem_cons.mp hn with rfl | hn
    · exact ⟨lt_of_ix s1.ix, s1.io⟩
    · rcases List.mem_cons.mp hn with rfl | hn
      · exact ⟨lt_of_ix s2.ix, s2.io⟩
      · obtain rfl := List.mem_singleton.mp hn
        exact ⟨lt_of_ix s3.ix, s3.io⟩) h
  obtain ⟨P, env, O, s, q⟩ := k
  refine ⟨P, env, O, s, PostG.imp q fun ds s1 H1 O1 _ _ _ k vs hv => ?_⟩
  obtain ⟨hlen, k⟩ := k vs hv
  match vs, hlen, k with
  | [u, v, w], _, k =>
    refine ⟨u, v, w, rfl, ?_⟩
    have e : ((σ.set i (some u)).set j (some v)).set l (some w) = ((σ.set l (some w)).set j (some v)).set i (some u) := by
      rw [List.set_comm _ _ hij, List.set_comm _ _ hil, List.set_comm _ _ hjl]
    rw [e]; exact k
theorem rs_parC2 {i j : Nat} {x y : Str} {a b : E} {pa pb : Expr} {px py pt : Pos} {kt k2 : Nat} {pt2 : Pos} (hc : X.calm = true) (hN : X.N.Nodup) (s1 : Sto X S x i) (s2 : Sto X S y j) (hij : i ≠ j)
    (ha : PA X [pa, pb] (tFs S C W [a, b])) (hw : swappedStores [.Tuple [.Name x px, .Name y py] kt pt] (.Tuple [pa, pb] k2 pt2) X.env = pure none) :
    PS X (.Assign [.Tuple [.Name x px, .Name y py] kt pt] (.Tuple [pa, pb] k2 pt2) pos) (tS S C W (.par [i, j] [a, b])) :=
  PS.impI (ps_parC2 hc hN s1.ix s2.ix s1.loc s2.loc s1.fn s2.fn ha hw) fun D σ H hl h => par2_end s1 s2 hij hl h
theorem rs_parC3 {i j l : Nat} {x y z : Str} {a b c : E} {pa pb pc : Expr} {px py pz pt : Pos} {kt k2 : Nat} {pt2 : Pos} (hc : X.calm = true) (hN : X.N.Nodup) (s1 : Sto X S x i) (s2 : Sto X S y j) (s3 : Sto X S z l) (hij : i ≠ j) (hil : i ≠ l) (hjl : j ≠ l)
    (ha : PA X [pa, pb, pc] (tFs S C W [a, b, c])) (hw : swappedStores [.Tuple [.Name x px, .Name y py, .Name z pz] kt pt] (.Tuple [pa, pb, pc] k2 pt2) X.env = pure none) :
    PS X (.Assign [.Tuple [.Name x px, .Name y py, .Name z pz] kt pt] (.Tuple [pa, pb, pc] k2 pt2) pos) (tS S C W (.par [i, j, l] [a, b, c])) :=
  PS.impI (ps_parC3 hc hN s1.ix s2.ix s3.ix s1.loc s2.loc s3.loc s1.fn s2.fn s3.fn ha hw) fun D σ H hl h => par3_end s1 s2 s3 hij hil hjl hl h
end
end Rf

/-! Rg, part P: .. more statements, loops, blocks, raise. -/
namespace Rf
open PySem PySem.Spec PyProof.Rows L2
def isLC : Expr → Bool
  | .ListComp _ _ _ _ => true
  | .SetComp _ _ _ _ => true
  | .DictComp _ _ _ _ _ => true
  | _ => false
theorem noSwap {pe : Expr} {t : Option Expr} {l : Nat} {env : PySem.Env} (h : isLC pe = false) : swapsWith pe t l env = pure false := by
  cases pe <;> first | rfl | (simp [isLC] at h)
theorem noSwapSole {pe tg : Expr} {l : Nat} {env : PySem.Env} (h : isLC pe = false) : swapsWithSole [tg] pe l env = pure false := noSwap h
section
variable {X : Cx} {S : Sit} {C : Calls} {W : WX} {pos : Pos} {e e2 i : E} {pe pe2 pi : Expr}
def rGetL : V → V → Hp → VK → Prop := fun o i H Q => ∃ p xs k v, o = .ref p ∧ i = .int k ∧ H p = some (.lst xs) ∧ atI xs k = some v ∧ Q v H
theorem get_list : PGet X rGetL := by
  intro pins s σ H o i ov iv Q I ro ri h
  obtain ⟨p, xs, k, v, rfl, rfl, hp, hv, q⟩ := h
  cases ro
  obtain ⟨t, rfl⟩ := ri
  obtain ⟨its, r, pl, hz⟩ := I.list (SqL.of hp)
  obtain ⟨j, h1, h2, h3, h4, h5⟩ := atI_get hv
  obtain ⟨w, ew, rw'⟩ := r.get h2
  have hl := r.length
  have hn := line63
  have fin : EP X pins σ Q w s := ⟨v, H, I, rw', q⟩
  by_cases h0 : 0 ≤ k
  · have hj : k.toNat = j := by
      rw [seqIndex_of h0 h5] at h1
      exact Option.some.inj h1
    exact wpAny_getItem_list pl.isList h0 (by omega) (by rw [hj]; simpa using ew) fin
  · have hj : (k + (its.toArray.size : Int)).toNat = j := by
      rw [seqIndex_neg (by omega) h4] at h1
      rw [List.size_toArray, ← hl]
      exact Option.some.inj h1
    exact wpAny_getItem_list_neg pl.isList (by omega) (by rw [List.size_toArray] <;> omega) (by omega) (by rw [hj]; simpa using ew) fin
/-- op= by data -/
theorem iopD (o : BOp) (op : Operator) (h : op = (match o with | .add => Operator.Add | .sub => .Sub | .mul => .Mult | .fdiv => .FloorDiv | .mod => .Mod | .pow => .Pow)) : PIp X op (fun x y H Q => ∃ d e z F, RepV X.K H F d x ∧ RepV X.K H F e y ∧ iop o d e = some z ∧ ∀ v, (∀ H F, Rep X.K H F z v) → isC z = false → Q v H) := by
  subst h
  intro pins s σ H x y v u Q I rx ry h
  obtain ⟨d, e, z, F, rd, re, hz, k⟩ := h
  cases o <;> cases d <;> cases e <;> try (simp [iop] at hz; done)
  · cases rd; cases re
    simp only [iop, Option.some.injEq] at hz; subst hz
    exact iop_add pins s σ H _ _ v u Q I rx ry ⟨_, _, rfl, rfl, k _ (fun _ _ => rfl) rfl⟩
  · cases rd; cases re
    simp only [iop] at hz
    split at hz
    · rename_i hl
      cases hz
      exact iop_add_str pins s σ H _ _ v u Q I rx ry ⟨_, _, rfl, rfl, hl, k _ (fun _ _ => rfl) rfl⟩
    · cases hz
  · cases rd; cases re
    simp only [iop, Option.some.injEq] at hz; subst hz
    exact iop_sub pins s σ H _ _ v u Q I rx ry ⟨_, _, rfl, rfl, k _ (fun _ _ => rfl) rfl⟩
  · rename_i a b
    cases rd; cases re
    simp only [iop] at hz
    split at hz
    · rename_i hl
      cases hz
      simp only [Bool.or_eq_true, decide_eq_true_eq] at hl
      refine iop_mul pins s σ H _ _ v u Q I rx ry ⟨_, _, rfl, rfl, ?_, k _ (fun _ _ => rfl) rfl⟩
      rcases hl with hl | hl
      · exact .inl ⟨by omega, by omega⟩
      · exact .inr ⟨by omega, by omega⟩
    · cases hz
  · cases rd; cases re
    simp only [iop] at hz
    split at hz
    · rename_i hl
      cases hz
      simp only [Bool.and_eq_true, decide_eq_true_eq] at hl
      exact iop_fdiv pins s σ H _ _ v u Q I rx ry ⟨_, _, rfl, rfl, hl, k _ (fun _ _ => rfl) rfl⟩
    · cases hz
  · cases rd; cases re
    simp only [iop] at hz
    split at hz
    · rename_i hl
      cases hz
      exact iop_mod pins s σ H _ _ v u Q I rx ry ⟨_, _, rfl, rfl, hl, k _ (fun _ _ => rfl) rfl⟩
    · cases hz
def opOf : BOp → Operator
  | .add => .Add | .sub => .Sub | .mul => .Mult | .fdiv => .FloorDiv | .mod => .Mod | .pow => .Pow
theorem iop_stable {o : BOp} {d e z : D} (h : iop o d e = some z) : (∀ K H F v, RepV K H F d v → ∀ H' F', RepV K H' F' d v) := fun K H F v r H' F' => by
  cases o <;> cases d <;> cases e <;> first | exact r | (simp [iop] at h; done)
theorem rs_aug {o : BOp} {j : Nat} {x : Str} {p : Pos} (hK : S.K = X.K) (hN : X.N.Nodup) (st : Sto X S x j) (he : PE X pe (tD S C W e)) : PS X (.AugAssign (.Name x p) (opOf o) pe pos) (tS S C W (.aug j o e)) :=
  PS.impI (ps_aug hN st.ix st.loc he (iopD o _ (by cases o <;> rfl)) st.fn) fun D σ H hl ⟨env, O, s, q⟩ => by
    obtain ⟨d, v, e1, r, q⟩ := s.slotS (show PostS S W H O ((slotR env j).thn fun x s => (evalE C e s).thn fun y s => optS (iop o x y) fun z => .nx (s.set j (.sh z))) D from q)
    refine ⟨v, e1, [], env, O, s, PostG.imp (PostS.thn q) fun d2 s1 H1 O1 _ _ _ ⟨x1, t1, p1⟩ v2 r2 => ?_⟩
    obtain ⟨z, hz, p2⟩ := PostS.opt p1
    have r1 := iop_stable hz _ _ _ _ r H1 (S.F O1)
    rw [hK] at r1 r2
    exact ⟨d, d2, z, S.F O1, r1, r2.view, hz, fun w hw hc => p2 H1 O1 _ (Ext.refl _ _) (t1.setSh st.io (by rw [hl]; exact lt_of_ix st.ix) (by rw [hK]; exact hw _ _))⟩
theorem rs_setI {j : Nat} {px : Expr} {p1 : Pos} (hK : S.K = X.K) (hu : X.A.units + 100 < cLine) (ho : PE X px (tVar j)) (hi : PE X pi (tD S C W i)) (he : PE X pe (tD S C W e)) (hn : nsl pi = true) (hlc : isLC pe = false) (h2 : swappedStores [.Subscript px pi p1] pe X.env = pure none) : PS X (.Assign [.Subscript px pi p1] pe pos) (tS S C W (.setI j i e)) := by
  have hsub : ∀ v, assign (.Subscript px pi p1) X.env v = (do
      let ov ← holding [v] (eval px X.env)
      let iv ← holding [v, ov] (eval pi X.env)
      standAt p1
      holding [v, ov, iv] (setItem ov iv v)
      release [v, ov, iv] []) := fun v => by
    cases pi <;> first | rfl | (simp [nsl] at hn)
  refine PS.impI (ps_asg he (pg_sub ho hi (set_Dc (by omega)) hsub) (noSwapSole hlc) h2) fun D σ H hl ⟨env, O, s, q⟩ => ?_
  have q : PostS S W H O ((evalE C e env).thn fun d s => (ownC s j).thn fun _ s => (evalE C i s).thn fun k s => (ownC s j).thn fun c s => optS (setD c k d) fun c => .nx (s.set j (.ow c))) D := q
  refine ⟨[], env, O, s, PostG.imp (PostS.thn q) fun d s1 H1 O1 _ _ _ ⟨x1, t1, p1⟩ v r => ?_⟩
  obtain ⟨c0, l, vs0, e0, hc0, e1, _, _, p1⟩ := t1.ownSC p1
  refine ⟨.ref l, e1, [], s1, O1, t1, PostG.imp (PostS.thn p1) fun k s2 H2 O2 _ _ _ ⟨x2, t2, p2⟩ v2 r2 => ?_⟩
  obtain ⟨c, l2, vs, e2, hc, e3, xl2, rs, p2⟩ := t2.ownSC p2
  rw [e1] at e3; cases e3
  obtain ⟨c', hs, p3⟩ := PostS.opt p2
  have rv := r.mono x2.mono
  cases c with
  | lst ds =>
    cases k with
    | int k =>
      cases r2
      simp only [setD, Option.map_eq_some_iff] at hs
      obtain ⟨m, hk, rfl⟩ := hs
      obtain ⟨l3, vs3, e3, x3, r3, k3⟩ := t2.write (es := ds.set m d) e2
      rw [e1] at e3; cases e3
      obtain ⟨xt, t3, m3⟩ := k3 (vs3.set m v) (r3.set m rv)
      exact .inl ⟨l, vs3, k, m, rfl, rfl, x3, by rw [← r3.length]; exact hk, p3 _ _ _ xt t3⟩
    | _ => simp [setD] at hs
  | dic ks ds =>
    simp only [setD] at hs
    split at hs
    · rename_i hk
      cases hs
      rw [Bool.and_eq_true, decide_eq_true_eq] at hk
      obtain ⟨l3, vs3, e3, ⟨o, x3, c3⟩, r3, k3⟩ := t2.writeC e2 hc
      rw [e1] at e3; cases e3
      have c3 : DcO o ks vs3 := c3
      rw [hK] at r2
      refine .inr ⟨l, o, ks, vs3, k, S.F O2, rfl, x3, c3, hk.1, hk.2, r2, fun o' ho' => ?_⟩
      obtain ⟨xt, t3, m3⟩ := k3 (.dic (dputK ks k) (dputV ks ds k d)) o' _ rfl ho' (reps_put r3 rv)
      exact p3 _ _ _ xt t3
    · cases hs
  | _ => simp [isC] at hc
theorem rs_augI {o : BOp} {j : Nat} {px : Expr} {p1 : Pos} (hK : S.K = X.K) (ho : PE X px (tVar j)) (hi : PE X pi (tD S C W i)) (he : PE X pe (tD S C W e)) (hn : nsl pi = true) : PS X (.AugAssign (.Subscript px pi p1) (opOf o) pe pos) (tS S C W (.augI j i o e)) := by
  have hst : ∀ ov iv new, augStore pi ov iv new = (do holding [new, ov, iv] (setItem ov iv new); release [new, ov, iv] []; pure .next) := by
    intros
    cases pi <;> first | rfl | (simp [nsl] at hn)
  refine PS.impI (ps_augS ho hi get_list he (iopD o _ (by cases o <;> rfl)) set_list hst) fun D σ H hl ⟨env, O, s, q⟩ => ?_
  have q : PostS S W H O ((ownR env j).thn fun _ s => (evalE C i s).thn fun k s => (ownR s j).thn fun ds s => match k with
    | .int k => match ixN ds.length k with
      | some m => match ds[m]? with
        | some a => (evalE C e s).thn fun b s => optS (iop o a b) fun z => (ownR s j).thn fun ds s => match ixN ds.length k with
          | some m => .nx (s.set j (.ow (.lst (ds.set m z))))
          | none => .stuck
        | none => .stuck
      | none => .stuck
    | _ => .stuck) D := q
  obtain ⟨ds0, l, vs0, e0, e1, xl, rs0, q⟩ := s.ownS q
  refine ⟨.ref l, e1, [], env, O, s, PostG.imp (PostS.thn q) fun k s1 H1 O1 _ _ _ ⟨x1, t1, p1⟩ v1 r1 => ?_⟩
  obtain ⟨ds, l2, vs, e2, e3, xl2, rs, p1⟩ := t1.ownS p1
  rw [e1] at e3; cases e3
  cases k with
  | int k =>
    cases r1
    cases hk : ixN ds.length k with
    | none => simp only [hk] at p1; exact False.elim p1
    | some m =>
      cases ha : ds[m]? with
      | none => simp only [hk, ha] at p1; exact False.elim p1
      | some a =>
        simp only [hk, ha] at p1
        obtain ⟨va, hva, ra⟩ := rs.get ha
        refine ⟨l, vs, k, va, rfl, rfl, xl2, by unfold atI; rw [← rs.length, show L2.ixN ds.length k = some m from hk]; exact hva, ?_⟩
        refine ⟨[], s1, O1, t1, PostG.imp (PostS.thn p1) fun b s2 H2 O2 _ _ _ ⟨x2, t2, p2⟩ v2 r2 => ?_⟩
        obtain ⟨z, hz, p3⟩ := PostS.opt p2
        obtain ⟨ds2, l3, vs2, e4, e5, xl3, rs2, p3⟩ := t2.ownS p3
        rw [e1] at e5; cases e5
        cases hk2 : ixN ds2.length k with
        | none => simp only [hk2] at p3; exact False.elim p3
        | some m2 =>
          simp only [hk2] at p3
          have ra2 := ra.mono x2.mono
          have hK' := hK
          rw [hK] at ra2 r2
          refine ⟨a, b, z, S.F O2, ra2.view, r2.view, hz, fun w hw hc => ?_⟩
          obtain ⟨l4, vs4, e6, x4, r4, k4⟩ := t2.write (es := ds2.set m2 z) e4
          rw [e1] at e6; cases e6
          obtain ⟨xt, t3, m3⟩ := k4 (vs4.set m2 w) (r4.set m2 (by rw [hK]; exact hw _ _))
          exact ⟨l, vs4, k, m2, rfl, rfl, x4, by rw [← r4.length]; exact hk2, p3 _ _ _ xt t3⟩
  | _ => exact False.elim p1
/-! methods of an owned list, as statements -/
theorem rs_app {j : Nat} {x : Str} {p apos cpos : Pos} (ha : PE X (.Name x p) (tVar j)) (he : PE X pe (tD S C W e)) (hl : (apos.endLine == cpos.line) = true) (hn : nst pe = true) : PS X (.Expr (.Call (.Attribute (.Name x p) "append" apos) [pe] [] cpos) pos) (tS S C W (.app j e)) := by
  refine PS.impI (ps_expr (pe_bm PySem.F.plainAttrs_list PySem.F.slot_list_append PySem.F.type_list_append mt_append ha (pa_cons he pa_nil (star_cons hn)) base_name (few1 _ _ hn) hl (star_cons hn) rfl)) fun D σ H hl ⟨env, O, s, q⟩ => ?_
  obtain ⟨ds0, l, vs0, e0, e1, xl, rs0, q⟩ := s.ownS (show PostS S W H O ((ownR env j).thn fun _ s => (evalE C e s).thn fun d s => (ownR s j).thn fun ds s => if ds.length < sizeLine then .nx (s.set j (.ow (.lst (ds ++ [d])))) else .stuck) D from q)
  refine ⟨.ref l, e1, .inl ⟨rfl, vs0, SqL.of xl⟩, [], env, O, s, PostG.imp (PostS.thn q) fun d s1 H1 O1 _ _ _ ⟨x1, t1, p1⟩ v1 r1 => ?_⟩
  obtain ⟨ds, l2, vs, e2, e3, xl2, rs, p1⟩ := t1.ownS p1
  rw [e1] at e3; cases e3
  split at p1
  · rename_i hlt
    obtain ⟨l4, vs4, e6, x4, r4, k4⟩ := t1.write (es := ds ++ [d]) e2
    rw [e1] at e6; cases e6
    obtain ⟨xt, t3, m3⟩ := k4 (vs4 ++ [v1]) (r4.append (.one r1))
    exact ⟨l, vs4, v1, rfl, rfl, x4, by rw [← r4.length]; exact hlt, p1 _ _ _ xt t3⟩
  · exact False.elim p1
theorem rs_ext {j : Nat} {x : Str} {p apos cpos : Pos} (ha : PE X (.Name x p) (tVar j)) (he : PE X pe (tD S C W e)) (hl : (apos.endLine == cpos.line) = true) (hn : nst pe = true) : PS X (.Expr (.Call (.Attribute (.Name x p) "extend" apos) [pe] [] cpos) pos) (tS S C W (.ext j e)) := by
  refine PS.impI (ps_expr (pe_bm PySem.F.plainAttrs_list PySem.F.slot_list_extend PySem.F.type_list_extend mt_extend ha (pa_cons he pa_nil (star_cons hn)) base_name (few1 _ _ hn) hl (star_cons hn) rfl)) fun D σ H hl ⟨env, O, s, q⟩ => ?_
  obtain ⟨ds0, l, vs0, e0, e1, xl, rs0, q⟩ := s.ownS (show PostS S W H O ((ownR env j).thn fun _ s => (evalE C e s).thn fun d s => (ownR s j).thn fun ds s => match d with
    | .lst es => if ds.length + es.length ≤ sizeLine then .nx (s.set j (.ow (.lst (ds ++ es)))) else .stuck
    | _ => .stuck) D from q)
  refine ⟨.ref l, e1, .inl ⟨rfl, vs0, SqL.of xl⟩, [], env, O, s, PostG.imp (PostS.thn q) fun d s1 H1 O1 _ _ _ ⟨x1, t1, p1⟩ v1 r1 => ?_⟩
  obtain ⟨ds, l2, vs, e2, e3, xl2, rs, p1⟩ := t1.ownS p1
  rw [e1] at e3; cases e3
  cases d with
  | lst es =>
    have p1 : PostS S W H1 O1 (if ds.length + es.length ≤ sizeLine then .nx (s1.set j (.ow (.lst (ds ++ es)))) else .stuck) D := p1
    split at p1
    · rename_i hlt
      obtain ⟨b, us, rfl, hb, rb⟩ := r1
      obtain ⟨l4, vs4, e6, x4, r4, k4⟩ := t1.write (es := ds ++ es) e2
      rw [e1] at e6; cases e6
      obtain ⟨xt, t3, m3⟩ := k4 (vs4 ++ us) (r4.append rb)
      exact ⟨l, b, vs4, us, rfl, rfl, x4, hb.1, by rw [← r4.length, ← rb.length]; exact hlt, p1 _ _ _ xt t3⟩
    · exact False.elim p1
  | _ => exact False.elim p1
theorem rs_expr (he : PE X pe (tD S C W e)) (hlc : isLC pe = false) : PS X (.Expr pe pos) (tS S C W (.expr e)) :=
  PS.impI (ps_expr he (noSwap hlc)) fun D σ H hl ⟨env, O, s, q⟩ => ⟨[], env, O, s, PostG.imp (PostS.thn (show PostS S W H O ((evalE C e env).thn fun _ s => .nx s) D from q)) fun d s1 H1 O1 _ _ _ ⟨x1, t1, p1⟩ v r => p1 H1 O1 σ (Ext.refl _ _) t1⟩
theorem rs_ret (he : PE X pe (tDk S.fr S C W e)) : PS X (.Return (some pe) pos) (tS S C W (.ret e)) :=
  PS.impI (ps_ret he) fun D σ H hl ⟨env, O, s, q⟩ => ⟨[], env, O, s, PostG.imp (PostS.thn (show PostS S W H O ((evalE C e env).thn fun d s => .ret d s) D from q)) fun d s1 H1 O1 _ _ _ ⟨x1, t1, p1⟩ v r => p1 H1 O1 σ v (Ext.refl _ _) t1 r⟩
theorem rs_retN : PS X (.Return none pos) (tS S C W .retN) :=
  PS.impI ps_retN fun D σ H hl ⟨env, O, s, q⟩ => by
    refine (show PostS S W H O (.ret .non env) D from q) H O σ .non (Ext.refl _ _) s ?_
    unfold FrK
    split
    · exact ⟨rfl, fun c => by cases c⟩
    · rfl
theorem rs_pass : PS X (.Pass pos) (tS S C W .pass) := PS.impI ps_pass fun D σ H hl ⟨env, O, s, q⟩ => (show PostS S W H O (.nx env) D from q) H O σ (Ext.refl _ _) s
theorem rs_brk : PS X (.Break pos) (tS S C W .brk) := PS.impI ps_break fun D σ H hl ⟨env, O, s, q⟩ => (show PostS S W H O (.bk env) D from q) H O σ (Ext.refl _ _) s
theorem rs_cnt : PS X (.Continue pos) (tS S C W .cnt) := PS.impI ps_continue fun D σ H hl ⟨env, O, s, q⟩ => (show PostS S W H O (.ct env) D from q) H O σ (Ext.refl _ _) s
theorem PSs.impI {t t' : TS} {ps : List Stmt} (h : PSs X ps t) (i : ∀ D σ H, σ.length = X.N.length → t' D σ H → t D σ H) : PSs X ps t' := ⟨fun pins s σ H D I q => h.run pins s σ H D I (i D σ H I.len q)⟩
theorem rss_nil : PSs X [] (tSs S C W []) := PSs.impI pss_nil fun D σ H hl ⟨env, O, s, q⟩ => (show PostS S W H O (.nx env) D from q) H O σ (Ext.refl _ _) s
theorem rss_cons {st : Rf.St} {sts : List Rf.St} {p : Stmt} {ps : List Stmt} (h1 : PS X p (tS S C W st)) (h2 : PSs X ps (tSs S C W sts)) : PSs X (p :: ps) (tSs S C W (st :: sts)) :=
  PSs.impI (pss_cons h1 h2) fun D σ H hl ⟨env, O, s, q⟩ => by
    have q : PostS S W H O (match execS C st env with
      | .nx s1 => execSs C sts s1
      | x => x) D := q
    refine ⟨env, O, s, ?_⟩
    cases hr : execS C st env with
    | stuck => rw [hr] at q; exact False.elim q
    | nx s1 => rw [hr] at q; exact fun H' O' σ' x t => ⟨s1, O', t, PostS.later x q⟩
    | bk s1 => rw [hr] at q; exact q
    | ct s1 => rw [hr] at q; exact q
    | ret d s1 => rw [hr] at q; exact q
    | exc y s1 => rw [hr] at q; exact q
/-- a docstring, a bare name of a thing: nothing -/
theorem rs_if {t : Rf.T} {pt : Expr} {a b : List Rf.St} {pa pb : List Stmt} (ht : PT X pt (tT S C W t)) (ha : PSs X pa (tSs S C W a)) (hb : PSs X pb (tSs S C W b)) : PS X (.If pt pa pb pos) (tS S C W (.ifS t a b)) :=
  PS.impI (ps_if ht ha hb) fun D σ H hl ⟨env, O, s, q⟩ => ⟨[], env, O, s, PostG.imp (PostS.thn (show PostS S W H O ((evalT C t env).thn fun k s => if k then execSs C a s else execSs C b s) D from q)) fun k s1 H1 O1 _ _ _ ⟨x1, t1, p1⟩ => by
    cases k with
    | true => exact ⟨s1, O1, t1, p1⟩
    | false => exact ⟨s1, O1, t1, p1⟩⟩
theorem rs_whl {t : Rf.T} {pt : Expr} {a : List Rf.St} {pa : List Stmt} (hp : PassesOwn (model X.prog X.w) X.A X.env X.xe) (ht : PT X pt (tT S C W t)) (ha : PSs X pa (tSs S C W a)) : PS X (.While pt pa [] pos) (tS S C W (.whl t a)) :=
  PS.impI (ps_while hp ht ha) fun D σ H hl ⟨env, O, s, q⟩ => by
    refine ⟨fun m σ H => ∃ env O, SR S [] H O env σ ∧ PostS S W H O (whileL (fun s => evalT C t s) (fun s => execSs C a s) m env) D, ⟨C.fuel, env, O, s, q⟩, ?_⟩
    rintro m σ H ⟨env, O, s, q⟩
    cases m with
    | zero => exact False.elim q
    | succ m =>
      refine ⟨[], env, O, s, PostG.imp (PostS.thn (show PostS S W H O ((evalT C t env).thn fun b s1 => if b then (match execSs C a s1 with
        | .nx s2 => whileL (fun s => evalT C t s) (fun s => execSs C a s) m s2
        | .ct s2 => whileL (fun s => evalT C t s) (fun s => execSs C a s) m s2
        | .bk s2 => .nx s2
        | r => r) else .nx s1) D from q)) fun k s1 H1 O1 _ _ _ ⟨x1, t1, p1⟩ => ?_⟩
      cases k with
      | false => exact p1 H1 O1 σ (Ext.refl _ _) t1
      | true =>
        simp only [if_true] at p1 ⊢
        refine ⟨fun σ H => ∃ env O, SR S [] H O env σ ∧ PostS S W H O (whileL (fun s => evalT C t s) (fun s => execSs C a s) m env) D, fun σ' H' h => ⟨m, Nat.lt_succ_self _, h⟩, s1, O1, t1, ?_⟩
        cases hr : execSs C a s1 with
        | stuck => rw [hr] at p1; exact False.elim p1
        | nx s2 => rw [hr] at p1; exact fun H' O' σ' x t => ⟨s2, O', t, PostS.later x p1⟩
        | ct s2 => rw [hr] at p1; exact fun H' O' σ' x t => ⟨s2, O', t, PostS.later x p1⟩
        | bk s2 => rw [hr] at p1; exact fun H' O' σ' x t => p1 H' O' σ' x t
        | ret d s2 => rw [hr] at p1; exact p1
        | exc y s2 => rw [hr] at p1; exact p1
theorem rs_for {it : Rf.It} {tg : Tg} {pit ptg : Expr} {a : List Rf.St} {pa : List Stmt} (hp : PassesOwn (model X.prog X.w) X.A X.env X.xe) (hc : X.calm = true) (hi : PI X ptg pit (tIt S C W it)) (hg : PG X ptg (gD S tg)) (ha : PSs X pa (tSs S C W a)) (hs : ∀ x, foldedSetIterable pit X.env x = pure x) :
    PS X (.For ptg pit pa [] pos) (tS S C W (.forS tg it a)) :=
  PS.impI (ps_for hp hc hi hg ha hs) fun D σ H hl ⟨env, O, s, q⟩ => by
    refine ⟨[], env, O, s, PostG.imp (PostS.thn (show PostS S W H O ((evalI C it env).thn fun ds s => forL (fun d s => optS (bindT false tg d s) fun s => execSs C a s) ds s) D from q)) fun ds s1 H1 O1 _ _ _ ⟨x1, t1, p1⟩ J jok => ?_⟩
    refine ⟨fun i m σ H => m = ds.length - i ∧ i ≤ ds.length ∧ ∃ env O, Ext H1 O1 H O ∧ SR S [] H O env σ ∧ PostS S W H O (forL (fun d s => optS (bindT false tg d s) fun s => execSs C a s) (ds.drop i) env) D, ⟨ds.length, by simp, Nat.zero_le _, s1, O1, Ext.refl _ _, t1, by rw [List.drop_zero]; exact p1⟩, ?_⟩
    rintro i m σ H ⟨rfl, hle, env, O, xt, s, q⟩
    have J1 := jok i H (S.F O) xt.mono s.own
    by_cases hlt : i < ds.length
    · rw [List.drop_eq_getElem_cons hlt] at q
      obtain ⟨go, yld⟩ := J1.1 ds[i] (by simp [hlt])
      refine .inr ⟨go, fun σ H => ∃ env O, Ext H1 O1 H O ∧ SR S [] H O env σ ∧ PostS S W H O (forL (fun d s => optS (bindT false tg d s) fun s => execSs C a s) (ds.drop (i + 1)) env) D, fun σ' H' h => ⟨ds.length - (i + 1), by omega, rfl, hlt, h⟩, fun x H' y => ?_⟩
      obtain ⟨sm, rx⟩ := yld x H' y
      have q : PostS S W H O (match optS (bindT false tg ds[i] env) fun s => execSs C a s with
        | .nx s1 => forL (fun d s => optS (bindT false tg d s) fun s => execSs C a s) (ds.drop (i + 1)) s1
        | .ct s1 => forL (fun d s => optS (bindT false tg d s) fun s => execSs C a s) (ds.drop (i + 1)) s1
        | .bk s1 => .nx s1
        | r => r) D := q
      cases hb : bindT false tg ds[i] env with
      | none => rw [hb] at q; exact False.elim q
      | some env1 =>
        rw [hb] at q
        simp only [optS] at q
        refine ⟨[], env, O, ds[i], env1, s.same sm, rx, hb, fun σ2 t2 _ => ⟨env1, O, t2, ?_⟩⟩
        cases hr : execSs C a env1 with
        | stuck => rw [hr] at q; exact False.elim q
        | nx s2 => rw [hr] at q; exact fun H' O' σ' x t => ⟨s2, O', (xt.trans (Ext.same sm)).trans x, t, PostS.later ((Ext.same sm).trans x) q⟩
        | ct s2 => rw [hr] at q; exact fun H' O' σ' x t => ⟨s2, O', (xt.trans (Ext.same sm)).trans x, t, PostS.later ((Ext.same sm).trans x) q⟩
        | bk s2 => rw [hr] at q; exact fun H' O' σ' x t => q H' O' σ' ((Ext.same sm).trans x) t
        | ret d s2 => rw [hr] at q; exact PostS.later (Ext.same sm) q
        | exc y s2 => rw [hr] at q; exact PostS.later (Ext.same sm) q
    · have hi2 : i = ds.length := by omega
      subst hi2
      rw [List.drop_length] at q
      exact .inl ⟨J1.2 (Nat.le_refl _), (show PostS S W H O (.nx env) D from q) H O σ (Ext.refl _ _) s⟩
/-! ### raise C() -/
structure ExcC (X : Cx) (S : Sit) (c : Nat) (x : Str) : Prop where
  ex : ∃ a, X.mg x = some (.ref a) ∧ S.cls c = some (.ref a) ∧ PySem.W.excIn X.K a He.veBase "ValueError.__new__" = true ∧ PySem.W.keepIn X.K (.ref a) = true ∧ Raises X (.ref a)
theorem pmk0 {x : Str} {a : Addr} {p cpos : Pos} (gC : X.mg x = some (.ref a)) (q : PySem.W.excIn X.K a He.veBase "ValueError.__new__" = true) (kC : PySem.W.keepIn X.K (.ref a) = true) (r : Raises X (.ref a)) (hg : Gl X x) (hdb : (x == ("__debug__" : Str)) = false) :
    PMk X (.Call (.Name x p) [] [] cpos) (fun _ H Q => Q (.ref a) none H) := by
  intro pins s σ H Q I h
  refine wpAny_Call_Name_kw (ld_glob I hg gC ?_ hdb)
  refine PySem.W.callWith_K0 I.kIn kC ?_
  obtain ⟨bm, N, nm, qn, bs, hdct, sn, sub, ab, col, dd, k0, k1, k2, k3, k5, mN, hC, hN, hni, T⟩ := exc_obj I.kIn q
  refine wpAny_call_exc_subT (rest := []) PySem.F.excBase_ValueError T hC hN hni (fun h' e hm => ?_) (by show 0 ≤ sizeLine; exact Nat.zero_le _)
  exact mk_of I hm r h (I.hok.gone hm.new)
theorem rs_raise {c : Nat} {x : Str} {p cpos : Pos} (hc : X.calm = true) (tk : Takes X W) (ec : ExcC X S c x) (hg : Gl X x) (hdb : (x == ("__debug__" : Str)) = false) : PS X (.Raise (some (.Call (.Name x p) [] [] cpos)) none pos) (tS S C W (.raise c)) := by
  obtain ⟨a, h1, h2, h3, h4, h5⟩ := ec.ex
  exact PS.impI (ps_raise hc tk (pmk0 h1 h3 h4 h5 hg hdb)) fun D σ H hl ⟨env, O, s, q⟩ => (show PostS S W H O (.exc (.ins c []) env) D from q) _ none H O σ (Ext.refl _ _) s ⟨h2, rfl⟩
end
end Rf

/-! Rg, part Q: is this text that tree? A test that the kernel runs. -/
namespace Rf
open PySem PySem.Spec PyProof.Rows L2
structure Sig where
  name : Str
  n : Nat
  io : List Nat
  fr : Bool
structure Cfg where
  sc : Scope
  raw : Scope
  N : List Str
  io : List Nat
  fr : Bool
  free : List Str
  fns : List Sig
  globs : List (Str × D)
  excs : List Str
def vis (c : Cfg) (x : Str) : Bool := (match c.sc.names.lookup x with
  | some .local => true
  | some .cell => true
  | some .free => true
  | _ => false) && !(x == ("__debug__" : Str)) && !(x == ("__classdict__" : Str))
def gl (c : Cfg) (x : Str) : Bool := decide (c.sc.names.lookup x = some .globalImplicit) && !(x == ("__debug__" : Str)) && !(x == ("__name__" : Str))
def frB (c : Cfg) (x : Str) : Bool := gl c x && c.free.contains x
def stoB (c : Cfg) (x : Str) (i : Nat) : Bool := (match c.raw.names.lookup x with
  | some .local => true
  | some .cell => true
  | _ => false) && decide (c.N[i]? = some x) && !(c.io.contains i)
def cVar (c : Cfg) (i : Nat) : Expr → Bool
  | .Name x _ => vis c x && decide (c.N[i]? = some x)
  | _ => false
def cCst : D → Expr → Bool
  | .non, .Constant .none _ _ => true
  | .bl b, .Constant (.bool a) _ _ => a == b
  | .int i, .Constant (.int j) _ _ => i == j
  | .str x, .Constant (.str y) _ _ => decide (x = y)
  | _, _ => false
def sclEq : D → D → Bool
  | .non, .non => true
  | .bl b, .bl a => a == b
  | .int i, .int j => i == j
  | .str x, .str y => decide (x = y)
  | _, _ => false
def cGlob (c : Cfg) (x : Str) (d : D) : Expr → Bool
  | .Name y _ => (x == y) && gl c y && (match c.globs.lookup y with
    | some e => sclEq d e
    | none => false)
  | _ => false
def nset : Expr → Bool
  | .Set _ _ _ => false
  | _ => true
/-- its truth is its value's truth -/
def plainT : Expr → Bool
  | .UnaryOp .Not _ _ => false
  | .BoolOp _ _ _ => false
  | .IfExp _ _ _ _ => false
  | .Compare _ _ _ _ => false
  | _ => true
def tys (c : Cfg) (ts : List Ty) : Expr → Bool
  | .Tuple ps _ _ => tyC ts ps && decide (ts ≠ []) && decide (ts.length ≤ 1000) && ts.all fun t => match tyName t with
    | some m => frB c (m : Str)
    | none => false
  | .Name x q => (match ts with
    | [t] => tyC [t] [.Name x q] && frB c x
    | _ => false)
  | _ => false
def ownL (c : Cfg) (own : List Nat) : List (Str × Nat) := own.map fun i => ((c.N[i]?).getD "", i)
def blkCfg (c : Cfg) (scope : Scope) : Cfg := { c with sc := relS scope c.sc, raw := scope }
mutual
def chkTg (c : Cfg) : Tg → Expr → Bool
  | .nm i, p => (match p with
    | .Name x _ => stoB c x i
    | _ => false)
  | .tp ts, p => (match p with
    | .Tuple ps _ _ => chkTgs c ts ps
    | _ => false)
def chkTgs (c : Cfg) : List Tg → List Expr → Bool
  | [], ps => ps.isEmpty
  | t :: ts, ps => (match ps with
    | p :: ps => nst p && chkTg c t p && chkTgs c ts ps
    | [] => false)
end
mutual
def chkE : E → Cfg → Expr → Bool
  | .cst d, c, pe => cCst d pe
  | .var i, c, pe => cVar c i pe
  | .mov i, c, pe => cVar c i pe
  | .glob x d, c, pe => cGlob c x d pe
  | .sh a, c, pe => chkE a c pe
  | .tup es, c, pe => (match pe with
    | .Tuple ps _ _ => decide (es.length ≤ 1000) && chkEs es c ps
    | _ => false)
  | .lst es, c, pe => (match pe with
    | .List ps _ => decide (es.length ≤ 1000) && chkEs es c ps
    | _ => false)
  | .bin o a b, c, pe => (match pe with
    | .BinOp p op q _ => decide (op = opOf o) && chkE a c p && chkV b c q
    | _ => false)
  | .binv o i b, c, pe => (match pe with
    | .BinOp p op q _ => decide (op = opOf o) && cVar c i p && chkE b c q
    | _ => false)
  | .neg a, c, pe => (match pe with
    | .UnaryOp .USub p _ => chkE a c p
    | _ => false)
  | .cmp o a b, c, pe => (match pe with
    | .Compare p [op] [q] _ => decide (op = cop o) && !behindInMarks op q && chkE a c p && chkV b c q
    | _ => false)
  | .cmpv o i b, c, pe => (match pe with
    | .Compare p [op] [q] _ => decide (op = cop o) && !behindInMarks op q && cVar c i p && chkE b c q
    | _ => false)
  | .chain o o2 a b d, c, pe => (match pe with
    | .Compare p [op, op2] [q, r] _ => decide (op = cop o) && decide (op2 = cop o2) && !lastMarks [op, op2] [q, r] && chkE a c p && chkE b c q && chkE d c r
    | _ => false)
  | .and a b, c, pe => (match pe with
    | .BoolOp .And [p, q] _ => chkE a c p && chkE b c q
    | .BoolOp .And (p :: q :: r :: rest) pos => chkE a c p && chkE b c (.BoolOp .And (q :: r :: rest) pos)
    | _ => false)
  | .or a b, c, pe => (match pe with
    | .BoolOp .Or [p, q] _ => chkE a c p && chkE b c q
    | .BoolOp .Or (p :: q :: r :: rest) pos => chkE a c p && chkE b c (.BoolOp .Or (q :: r :: rest) pos)
    | _ => false)
  | .not a, c, pe => (match pe with
    | .UnaryOp .Not p _ => chkV a c p
    | _ => false)
  | .ite t a b, c, pe => (match pe with
    | .IfExp pt p q _ => chkT t c pt && chkE a c p && chkE b c q
    | _ => false)
  | .call f as, c, pe => (match pe with
    | .Call (.Name x _) ps [] _ => (match c.fns[f]? with
      | some sg => decide (sg.name = x) && gl c x && decide (sg.n = as.length) && decide (sg.io = ioPos 0 as) && decide ((ioSl as).Nodup) && chkA as c ps
      | none => false)
    | _ => false)
  | .p1 p a, c, pe => if p = .lenset then (match pe with
    | .Call (.Name x _) [.Call (.Name y _) [q] [] _] [] _ => decide (x = "len") && decide (y = "set") && frB c x && frB c y && nst q && chkV a c q
    | _ => false) else (match pe with
    | .Call (.Name x _) [q] [] _ => decide (x = p1Name p) && (p1Val p).isSome && frB c x && nst q && chkV a c q
    | _ => false)
  | .p2 p a b, c, pe => (match pe with
    | .Call (.Name x _) [q, r] [] _ => (decide (p = .min) || decide (p = .max)) && decide (x = p2Name p) && frB c x && nst q && nst r && chkE a c q && chkE b c r
    | _ => false)
  | .isi a ts, c, pe => (match pe with
    | .Call (.Name x _) [q, t] [] _ => decide (x = "isinstance") && frB c x && nst q && tys c ts t && chkV a c q
    | _ => false)
  | .sub a i, c, pe => (match pe with
    | .Subscript p q _ => nsl q && chkE a c p && chkE i c q
    | _ => false)
  | .subv v i, c, pe => (match pe with
    | .Subscript p q _ => nsl q && cVar c v p && chkE i c q
    | _ => false)
  | .slc a lo hi, c, pe => (match pe with
    | .Subscript p (.Slice l h none _) _ => chkE a c p && chkO lo c l && chkO hi c h
    | _ => false)
  | .slcv v lo hi, c, pe => (match pe with
    | .Subscript p (.Slice l h none _) _ => cVar c v p && chkO lo c l && chkO hi c h
    | _ => false)
  | .rev a, c, pe => (match pe with
    | .Subscript p (.Slice none none (some (.UnaryOp .USub (.Constant (.int 1) _ _) _)) _) _ => chkV a c p
    | _ => false)
  | .lc elt tg it cond own, c, pe => (match pe with
    | .ListComp pe [⟨pt, pi, ifs, 0⟩] scope _ => blkC c.N c.sc scope (ownL c own) && (own.all fun i => !(c.io.contains i)) && ((tgSl tg).all fun i => own.contains i) && nset pi && chkI it c pt pi && chkTg (blkCfg c scope) tg pt && chkC cond (blkCfg c scope) ifs && chkE elt (blkCfg c scope) pe
    | _ => false)
  | .pop v, c, pe => (match pe with
    | .Call (.Attribute (.Name x p) m ap) [] [] cp => decide (m = "pop") && cVar c v (.Name x p) && (ap.endLine == cp.line)
    | _ => false)
  | .popAt v i, c, pe => (match pe with
    | .Call (.Attribute (.Name x p) m ap) [q] [] cp => decide (m = "pop") && cVar c v (.Name x p) && (ap.endLine == cp.line) && nst q && chkE i c q
    | _ => false)
  | .dnew, c, pe => (match pe with
    | .Dict [] [] _ => true
    | _ => false)
  | .lrg t (.rng1 a), c, pe => (match pe with
    | .Call (.Name x _) [.Call (.Name y yp) [p] [] yq] [] _ => decide (x = if t then "tuple" else "list") && frB c x && decide (y = "range") && frB c y && nst p && chkE a c p
    | _ => false)
  | .lrg t (.rng2 a b), c, pe => (match pe with
    | .Call (.Name x _) [.Call (.Name y yp) [p, q] [] yq] [] _ => decide (x = if t then "tuple" else "list") && frB c x && decide (y = "range") && frB c y && nst p && nst q && chkE a c p && chkE b c q
    | _ => false)
  | .lrg _ _, c, pe => false
  | .idx a b, c, pe => (match pe with
    | .Call (.Attribute (.Name x p) m ap) [q] [] cp => decide (m = "index") && (ap.endLine == cp.line) && nst q && chkE a c (.Name x p) && chkE b c q
    | _ => false)
def chkV : O → Cfg → Expr → Bool
  | .vw i, c, pe => cVar c i pe
  | .e e, c, pe => chkE e c pe
def chkT : T → Cfg → Expr → Bool
  | .and a b, c, pe => (match pe with
    | .BoolOp .And [p, q] _ => chkT a c p && chkT b c q
    | .BoolOp .And (p :: q :: r :: rest) pos => chkT a c p && chkT b c (.BoolOp .And (q :: r :: rest) pos)
    | _ => false)
  | .or a b, c, pe => (match pe with
    | .BoolOp .Or [p, q] _ => chkT a c p && chkT b c q
    | .BoolOp .Or (p :: q :: r :: rest) pos => chkT a c p && chkT b c (.BoolOp .Or (q :: r :: rest) pos)
    | _ => false)
  | .not a, c, pe => (match pe with
    | .UnaryOp .Not p _ => chkT a c p
    | _ => false)
  | .ite t a b, c, pe => (match pe with
    | .IfExp pt p q _ => chkT t c pt && chkT a c p && chkT b c q
    | _ => false)
  | .o a, c, pe => plainT pe && chkV a c pe
  | .cmp o a b, c, pe => (match pe with
    | .Compare p [op] [q] _ => decide (op = cop o) && !behindInMarks op q && chkE a c p && chkV b c q
    | _ => false)
  | .cmpv o i b, c, pe => (match pe with
    | .Compare p [op] [q] _ => decide (op = cop o) && !behindInMarks op q && cVar c i p && chkE b c q
    | _ => false)
  | .chain o o2 a b d, c, pe => (match pe with
    | .Compare p [op, op2] [q, r] _ => decide (op = cop o) && decide (op2 = cop o2) && !lastMarks [op, op2] [q, r] && chkE a c p && chkE b c q && chkE d c r
    | _ => false)
def chkEs : List E → Cfg → List Expr → Bool
  | [], c, ps => ps.isEmpty
  | e :: es, c, ps => (match ps with
    | p :: ps => nst p && chkE e c p && chkEs es c ps
    | [] => false)
def chkA1 : Arg → Cfg → Expr → Bool
  | .io i, c, p => cVar c i p
  | .e e, c, p => chkE e c p
def chkA : List Arg → Cfg → List Expr → Bool
  | [], c, ps => ps.isEmpty
  | a :: as, c, ps => (match ps with
    | p :: ps => nst p && chkA1 a c p && chkA as c ps
    | [] => false)
def chkO : Option E → Cfg → Option Expr → Bool
  | none, c, p => p.isNone
  | some e, c, p => (match p with
    | some p => chkE e c p
    | none => false)
def chkC : Option T → Cfg → List Expr → Bool
  | none, c, ps => ps.isEmpty
  | some t, c, ps => (match ps with
    | [p] => chkT t c p
    | _ => false)
def chkI : It → Cfg → Expr → Expr → Bool
  | .seq e, c, pt, pi => chkE e c pi
  | .rng1 a, c, pt, pi => (match pi with
    | .Call (.Name x _) [p] [] _ => decide (x = "range") && frB c x && nst p && chkE a c p
    | _ => false)
  | .rng2 a b, c, pt, pi => (match pi with
    | .Call (.Name x _) [p, q] [] _ => decide (x = "range") && frB c x && nst p && nst q && chkE a c p && chkE b c q
    | _ => false)
  | .rng3 _ _ _, _, _, _ => false
  | .zip a b, c, pt, pi => (match pt, pi with
    | .Tuple _ _ _, .Call (.Name x _) [p, q] [] _ => decide (x = "zip") && frB c x && nst p && nst q && chkE a c p && chkE b c q
    | _, _ => false)
  | .enum a, c, pt, pi => (match pt, pi with
    | .Tuple _ _ _, .Call (.Name x _) [p] [] _ => decide (x = "enumerate") && frB c x && nst p && chkE a c p
    | _, _ => false)
end
/-- the names of a pair of targets on one line -/
def noSwapSt (pt pe : Expr) : Bool := match pt, pe with
  | .Tuple _ _ _, .Tuple vs _ _ => !(vs.length == 2 || vs.length == 3) || vs.all (foldedForSure 8)
  | .List _ _, .Tuple _ _ _ => false
  | _, _ => true
def swapC (c : Cfg) (xs : List (Str × Pos)) (vs : List Expr) : Bool :=
  (match xs with
    | (_, p) :: r => r.all fun q => q.2.line == p.line
    | [] => false) && (xs.all fun q => decide (c.sc.names.lookup q.1 = some .local)) && (xs.map (·.1)).eraseDups.length == xs.length && vs.all nst && !(vs.all (foldedForSure 8)) && !(vs.all (constantsAlone 8))
/-- one of the names is a cell: the pair is built and taken apart -/
def cellC (c : Cfg) (xs : List Str) (vs : List Expr) : Bool := (xs.any fun x => decide (c.sc.names.lookup x ≠ some .local)) && vs.all nst
def isLc : E → Bool
  | .lc _ _ _ _ _ => true
  | .sh (.lc _ _ _ _ _) => true
  | _ => false
mutual
def chkS : St → Cfg → Stmt → Bool
  | .asg tg e, c, p => (match p with
    | .Assign [pt] pe pos => chkE e c pe && (match tg, pt with
      | .nm i, .Name x px => stoB c x i && (match pe with
        | .ListComp _ _ scope lp => (isLc e && (px.line == lp.line) && decide (c.sc.names.lookup x = some .local) && !(scope.names.any fun (n, k) => n == x && (k == .local || k == .cell))) || decide (c.sc.names.lookup x ≠ some .local)
        | _ => !isLC pe)
      | .tp _, .Tuple _ _ _ => chkTg c tg pt && !isLC pe && noSwapSt pt pe
      | _, _ => false)
    | _ => false)
  | .par is es, c, p => (match p with
    | .Assign [.Tuple [.Name x px, .Name y py] _ _] (.Tuple [pa, pb] _ _) _ => (match is, es with
      | [i, j], [_, _] => stoB c x i && stoB c y j && decide (i ≠ j) && (swapC c [(x, px), (y, py)] [pa, pb] || cellC c [x, y] [pa, pb]) && chkEs es c [pa, pb]
      | _, _ => false)
    | .Assign [.Tuple [.Name x px, .Name y py, .Name z pz] _ _] (.Tuple [pa, pb, pc] _ _) _ => (match is, es with
      | [i, j, k], [_, _, _] => stoB c x i && stoB c y j && stoB c z k && decide (i ≠ j) && decide (i ≠ k) && decide (j ≠ k) && (swapC c [(x, px), (y, py), (z, pz)] [pa, pb, pc] || cellC c [x, y, z] [pa, pb, pc]) && chkEs es c [pa, pb, pc]
      | _, _ => false)
    | _ => false)
  | .aug i o e, c, p => (match p with
    | .AugAssign (.Name x _) op pe _ => stoB c x i && decide (op = opOf o) && chkE e c pe
    | _ => false)
  | .setI v i e, c, p => (match p with
    | .Assign [.Subscript px pi _] pe _ => cVar c v px && nsl pi && !isLC pe && chkE i c pi && chkE e c pe
    | _ => false)
  | .augI v i o e, c, p => (match p with
    | .AugAssign (.Subscript px pi _) op pe _ => cVar c v px && nsl pi && decide (op = opOf o) && chkE i c pi && chkE e c pe
    | _ => false)
  | .app v e, c, p => (match p with
    | .Expr (.Call (.Attribute (.Name x q) m ap) [pe] [] cp) _ => decide (m = "append") && cVar c v (.Name x q) && (ap.endLine == cp.line) && nst pe && chkE e c pe
    | _ => false)
  | .ext v e, c, p => (match p with
    | .Expr (.Call (.Attribute (.Name x q) m ap) [pe] [] cp) _ => decide (m = "extend") && cVar c v (.Name x q) && (ap.endLine == cp.line) && nst pe && chkE e c pe
    | _ => false)
  | .expr e, c, p => (match p with
    | .Expr pe _ => !isLC pe && chkE e c pe
    | _ => false)
  | .ret e, c, p => (match p with
    | .Return (some pe) _ => chkE e c pe && (!c.fr || isFreshF (fun j => ((c.fns[j]?).map (·.fr)).getD false) e)
    | _ => false)
  | .retN, c, p => (match p with
    | .Return none _ => true
    | _ => false)
  | .pass, c, p => (match p with
    | .Pass _ => true
    | _ => false)
  | .brk, c, p => (match p with
    | .Break _ => true
    | _ => false)
  | .cnt, c, p => (match p with
    | .Continue _ => true
    | _ => false)
  | .ifS t a b, c, p => (match p with
    | .If pt pa pb _ => chkT t c pt && chkSs a c pa && chkSs b c pb
    | _ => false)
  | .forS tg it body, c, p => (match p with
    | .For pt pi pb [] _ => nset pi && chkI it c pt pi && chkTg c tg pt && chkSs body c pb
    | _ => false)
  | .whl t body, c, p => (match p with
    | .While pt pb [] _ => chkT t c pt && chkSs body c pb
    | _ => false)
  | .raise i, c, p => (match p with
    | .Raise (some (.Call (.Name x _) [] [] _)) none _ => decide (c.excs[i]? = some x) && gl c x
    | _ => false)
def chkSs : List St → Cfg → List Stmt → Bool
  | [], c, ps => ps.isEmpty
  | st :: sts, c, ps => (match ps with
    | p :: ps => chkS st c p && chkSs sts c ps
    | [] => false)
end
end Rf

/-! Rg, part R: the test is sound: expressions. -/
namespace Rf
open PySem PySem.Spec PyProof.Rows L2
structure Good (c : Cfg) (X : Cx) (S : Sit) (C : Calls) (W : WX) (k : Nat) : Prop where
  K : S.K = X.K
  calm : X.calm = true
  nd : X.N.Nodup
  N : X.N = c.N
  sc : X.env.scope = c.sc
  st : ∀ x, Loc c.raw x → Loc c.sc x ∧ (X.fn x = true ∨ c.sc.names.lookup x = some .local)
  io : ∀ p ∈ S.io, p.1 ∈ c.io
  room : Room k X.A
  tk : Takes X W
  free : ∀ x, x ∈ c.free → X.mg x = none
  glob : ∀ x d, c.globs.lookup x = some d → ∃ u v, X.mg x = some u ∧ scl d = some v ∧ RelV v u
  fns : ∀ (j : Nat) sg, c.fns[j]? = some sg → Callee X S C k j sg.name sg.n sg.io sg.fr
  frs : ∀ j, C.fr j = ((c.fns[j]?).map (·.fr)).getD false
  excs : ∀ (i : Nat) x, c.excs[i]? = some x → ExcC X S i x
section
variable {c : Cfg} {X : Cx} {S S' : Sit} {C : Calls} {W : WX} {k : Nat}
theorem Good.units (g : Good c X S C W k) : X.A.units + 100 < cLine := by have := g.room.un; omega
theorem Good.sib (g : Good c X S C W k) (s : Sib S S') : Good c X S' C W k where
  K := s.K.trans g.K
  calm := g.calm
  nd := g.nd
  N := g.N
  sc := g.sc
  st := g.st
  io := by rw [s.io]; exact g.io
  room := g.room
  tk := g.tk
  free := g.free
  glob := g.glob
  fns := fun j sg h => ⟨by rw [s.cls]; exact (g.fns j sg h).ex⟩
  frs := g.frs
  excs := fun i x h => ⟨by rw [s.cls]; exact (g.excs i x h).ex⟩
theorem lookup_cell {scope sc : Scope} {x : Str} {kd : NameKind} (h : scope.names.lookup x = some kd) (hk : kd ≠ .free) : (relS scope sc).names.lookup x = some kd := lookup_relS_keep hk h
theorem Good.blk (g : Good c X S C W k) {s : Shared} {H : Hp} {scope : Scope} {B : Addr} {cl : List (Str × Addr)} {fp : List Addr} : Good (blkCfg c scope) (X.blk s H scope (compEnvC scope cl B X.env) fp) S C W0 k where
  K := g.K
  calm := g.calm
  nd := g.nd
  N := g.N
  sc := by show relS scope X.env.scope = relS scope c.sc; rw [g.sc]
  st := fun x h => by
    have h : Loc scope x := h
    rcases h with h | h
    · exact ⟨.inl (lookup_cell h (by decide)), .inr (lookup_cell h (by decide))⟩
    · refine ⟨.inr (lookup_cell h (by decide)), .inl ?_⟩
      show (scope.names.lookup x == some .cell) = true
      rw [h]; rfl
  io := g.io
  room := g.room
  tk := takes0
  free := g.free
  glob := g.glob
  fns := fun j sg h => ⟨(g.fns j sg h).ex⟩
  frs := g.frs
  excs := fun i x h => ⟨(g.excs i x h).ex⟩
theorem notB {b : Bool} (h : (!b) = true) : b = false := by cases b <;> simp_all
theorem vis_ok (g : Good c X S C W k) {x : Str} (h : vis c x = true) : Vis X.env.scope x ∧ (x == ("__debug__" : Str)) = false ∧ (x == ("__classdict__" : Str)) = false := by
  unfold vis at h
  simp only [Bool.and_eq_true] at h
  obtain ⟨⟨h1, h2⟩, h3⟩ := h
  refine ⟨?_, notB h2, notB h3⟩
  rw [g.sc]
  split at h1
  · rename_i e; exact .inl e
  · rename_i e; exact .inr (.inl e)
  · rename_i e; exact .inr (.inr e)
  · cases h1
theorem gl_ok (g : Good c X S C W k) {x : Str} (h : gl c x = true) : Gl X x ∧ (x == ("__debug__" : Str)) = false ∧ x ≠ "__name__" := by
  unfold gl at h
  simp only [Bool.and_eq_true, decide_eq_true_eq] at h
  obtain ⟨⟨h1, h2⟩, h3⟩ := h
  refine ⟨?_, notB h2, fun e => ?_⟩
  · show X.env.scope.names.lookup x = some .globalImplicit
    rw [g.sc]; exact h1
  · rw [e] at h3; exact absurd h3 (by decide)
theorem free_ok (g : Good c X S C W k) {x : Str} (h : frB c x = true) : Gl X x ∧ X.mg x = none ∧ x ≠ "__name__" ∧ (x == ("__debug__" : Str)) = false := by
  unfold frB at h
  rw [Bool.and_eq_true] at h
  obtain ⟨h1, h2, h3⟩ := gl_ok g h.1
  exact ⟨h1, g.free x (List.contains_iff_mem.mp h.2), h3, h2⟩
theorem var_ok (g : Good c X S C W k) {i : Nat} {pe : Expr} (h : cVar c i pe = true) : ∃ x p, pe = .Name x p ∧ X.N[i]? = some x ∧ Vis X.env.scope x ∧ (x == ("__debug__" : Str)) = false ∧ (x == ("__classdict__" : Str)) = false := by
  unfold cVar at h
  split at h
  · rename_i x p
    rw [Bool.and_eq_true, decide_eq_true_eq] at h
    obtain ⟨h1, h2, h3⟩ := vis_ok g h.1
    exact ⟨x, p, rfl, by rw [g.N]; exact h.2, h1, h2, h3⟩
  · cases h
theorem pe_slot (g : Good c X S C W k) {i : Nat} {pe : Expr} (h : cVar c i pe = true) : PE X pe (tVar i) := by
  obtain ⟨x, p, rfl, h1, h2, h3, h4⟩ := var_ok g h
  exact pe_var h1 h2 h3 h4
theorem pe_slotV (g : Good c X S C W k) {i : Nat} {pe : Expr} (h : cVar c i pe = true) : PE X pe (tDv S C W (.vw i)) := by
  obtain ⟨x, p, rfl, h1, h2, h3, h4⟩ := var_ok g h
  exact r_vw h1 h2 h3 h4
theorem sto_ok (g : Good c X S C W k) {x : Str} {i : Nat} (h : stoB c x i = true) : Sto X S x i := by
  unfold stoB at h
  simp only [Bool.and_eq_true, decide_eq_true_eq] at h
  obtain ⟨⟨h1, h2⟩, h3⟩ := h
  have hl : Loc c.raw x := by
    split at h1
    · rename_i e; exact .inl e
    · rename_i e; exact .inr e
    · cases h1
  obtain ⟨h4, h5⟩ := g.st x hl
  refine ⟨by rw [g.N]; exact h2, by rw [g.sc]; exact h4, by rw [g.sc]; exact h5, fun p hp e => ?_⟩
  have := g.io p hp
  rw [e] at this
  rw [List.contains_iff_mem.mpr this] at h3
  cases h3
theorem cst_ok {d : D} {pe : Expr} (h : cCst d pe = true) : ∃ v, scl d = some v ∧ PE X pe (tC v) := by
  unfold cCst at h
  split at h
  · exact ⟨.non, rfl, pe_non⟩
  · rename_i b a _ _
    exact ⟨.bl b, rfl, by rw [← eq_of_beq h]; exact pe_bl⟩
  · rename_i i j _ _
    exact ⟨.int i, rfl, by rw [eq_of_beq h]; exact pe_int⟩
  · rename_i x y _ _
    exact ⟨.str x, rfl, by rw [of_decide_eq_true h]; exact pe_str⟩
  · cases h
theorem sclEq_ok {d e : D} (h : sclEq d e = true) : d = e := by
  unfold sclEq at h
  split at h
  · rfl
  · rw [eq_of_beq h]
  · rw [eq_of_beq h]
  · rw [of_decide_eq_true h]
  · cases h
theorem glob_ok (g : Good c X S C W k) {x : Str} {d : D} {pe : Expr} (h : cGlob c x d pe = true) : ∃ v, scl d = some v ∧ PE X pe (tC v) := by
  unfold cGlob at h
  split at h
  · rename_i y p
    simp only [Bool.and_eq_true] at h
    obtain ⟨⟨_, h1⟩, h2⟩ := h
    obtain ⟨h3, h4, h5⟩ := gl_ok g h1
    split at h2
    · rename_i e he
      obtain ⟨u, v, m, s, r⟩ := g.glob y e he
      rw [sclEq_ok h2]
      exact ⟨v, s, pe_glob h3 m r h4⟩
    · cases h2
  · cases h
theorem ty_pe (g : Good c X S C W k) {t : Ty} {m : String} (e : tyName t = some m) (h : frB c (m : Str) = true) (p : Pos) : PE X (.Name (m : Str) p) (tC (.ty m)) := by
  obtain ⟨h1, h2, h3, h4⟩ := free_ok g h
  exact pe_bltn h1 h2 (ty_boot e) rfl h3 h4
variable {e : E} {pe : Expr}
theorem dk_f (h : PE X pe (tDf S C W e)) : PE X pe (tDk true S C W e) := PE.imp h fun σ H Q ⟨P, env, O, s, q⟩ => ⟨P, env, O, s, PostG.imp q fun d s1 H1 O1 _ _ _ k v t n => k v ⟨t, n⟩⟩
theorem dk_s (h : PE X pe (tD S C W e)) : PE X pe (tDk false S C W e) := PE.imp h fun σ H Q ⟨P, env, O, s, q⟩ => ⟨P, env, O, s, q⟩
theorem dk_uf (h : PE X pe (tDk true S C W e)) : PE X pe (tDf S C W e) := PE.imp h fun σ H Q ⟨P, env, O, s, q⟩ => ⟨P, env, O, s, PostG.imp q fun d s1 H1 O1 _ _ _ k v t => k v t.1 t.2⟩
theorem dk_D {b : Bool} (h : PE X pe (tDk b S C W e)) : PE X pe (tD S C W e) := by
  cases b with
  | false => exact PE.imp h fun σ H Q ⟨P, env, O, s, q⟩ => ⟨P, env, O, s, q⟩
  | true => exact Rf.PE.unfresh (dk_uf h)
theorem dk_any {b : Bool} (h : PE X pe (tD S C W e)) (hf : b = true → PE X pe (tDf S C W e)) : PE X pe (tDk b S C W e) := by
  cases b with
  | false => exact dk_s h
  | true => exact dk_f (hf rfl)
theorem opD_all {o : BOp} : OpD X (binaryOp (opOf o)) (bin o) := by
  cases o
  · exact opD_add
  · exact opD_sub
  · exact opD_mul
  · exact opD_fdiv
  · exact opD_mod
  · exact opD_pow
theorem pw_one_and {p : Expr} {pos : Pos} {t : Rf.T} (h : PT X p (tT S C W t)) : PW X (.BoolOp .And [p] pos) (tT S C W t) := pw_and1 h
theorem nset_ok {p : Expr} {env : PySem.Env} (h : nset p = true) (x : Value) : foldedSetIterable p env x = pure x := by
  cases p <;> first | rfl | (simp [nset] at h)
theorem plain_ok {p : Expr} {env : PySem.Env} (h : plainT p = true) (whole : Sem Value) : isTrue p env whole = (do let v ← whole; standAt p.pos; holding [v] (truthy v)) := by
  cases p with
  | UnaryOp op _ _ => cases op <;> first | rfl | (simp [plainT] at h)
  | _ => first | rfl | (simp [plainT] at h)
variable {pa pb : Expr} {a b : E} {pos : Pos}
theorem rf_and {rest : List Expr} (hK : S.K = X.K) (ha : PE X pa (tDf S C W a)) (hb : PE X (.BoolOp .And (pb :: rest) pos) (tDf S C W b)) : PE X (.BoolOp .And (pa :: pb :: rest) pos) (tDf S C W (.and a b)) :=
  PE.imp (pe_andT ha hb) fun σ H Q ⟨P, env, O, s, q⟩ => ⟨P, env, O, s, PostG.imp (PostG.bind (show PostG S W P H O σ ((evalE C a env).bind _) _ from q)) fun d s1 H1 O1 _ _ _ ⟨x1, t1, p1⟩ v t n => by
    obtain ⟨z, hz, p3⟩ := PostG.optBind p1
    have r' := t.view
    rw [hK] at r'
    refine ⟨z, truD r' hz, ?_⟩
    cases z with
    | true => exact ⟨P, s1, O1, t1, p3⟩
    | false => exact p3 H1 O1 (Ext.refl _ _) t1 v t n⟩
theorem rf_or {rest : List Expr} (hK : S.K = X.K) (ha : PE X pa (tDf S C W a)) (hb : PE X (.BoolOp .Or (pb :: rest) pos) (tDf S C W b)) : PE X (.BoolOp .Or (pa :: pb :: rest) pos) (tDf S C W (.or a b)) :=
  PE.imp (pe_orT ha hb) fun σ H Q ⟨P, env, O, s, q⟩ => ⟨P, env, O, s, PostG.imp (PostG.bind (show PostG S W P H O σ ((evalE C a env).bind _) _ from q)) fun d s1 H1 O1 _ _ _ ⟨x1, t1, p1⟩ v t n => by
    obtain ⟨z, hz, p3⟩ := PostG.optBind p1
    have r' := t.view
    rw [hK] at r'
    refine ⟨z, truD r' hz, ?_⟩
    cases z with
    | false => exact ⟨P, s1, O1, t1, p3⟩
    | true => exact p3 H1 O1 (Ext.refl _ _) t1 v t n⟩
theorem and_all {rest : List Expr} (hK : S.K = X.K) (ha : PE X pa (tDk (isFresh C a) S C W a)) (hb : PE X (.BoolOp .And (pb :: rest) pos) (tDk (isFresh C b) S C W b)) : PE X (.BoolOp .And (pa :: pb :: rest) pos) (tDk (isFresh C (.and a b)) S C W (.and a b)) :=
  dk_any (r_and hK (dk_D ha) (dk_D hb)) fun h => by
    have h : (isFresh C a && isFresh C b) = true := h
    rw [Bool.and_eq_true] at h
    rw [h.1] at ha
    rw [h.2] at hb
    exact rf_and hK (dk_uf ha) (dk_uf hb)
theorem or_all {rest : List Expr} (hK : S.K = X.K) (ha : PE X pa (tDk (isFresh C a) S C W a)) (hb : PE X (.BoolOp .Or (pb :: rest) pos) (tDk (isFresh C b) S C W b)) : PE X (.BoolOp .Or (pa :: pb :: rest) pos) (tDk (isFresh C (.or a b)) S C W (.or a b)) :=
  dk_any (r_or hK (dk_D ha) (dk_D hb)) fun h => by
    have h : (isFresh C a && isFresh C b) = true := h
    rw [Bool.and_eq_true] at h
    rw [h.1] at ha
    rw [h.2] at hb
    exact rf_or hK (dk_uf ha) (dk_uf hb)
end
/-! ### targets -/
mutual
theorem soundTg : ∀ (t : Tg) {c : Cfg} {X : Cx} {S : Sit} {C : Calls} {W : WX} {k : Nat} {p : Expr}, Good c X S C W k → chkTg c t p = true → PG X p (gD S t)
  | .nm i, c, X, S, C, W, k, p, g, h => by
    simp only [chkTg] at h
    split at h
    · have s := sto_ok g h
      exact rg_name g.nd s.ix s.loc s.fn s.io
    · cases h
  | .tp ts, c, X, S, C, W, k, p, g, h => by
    simp only [chkTg] at h
    split at h
    · obtain ⟨h1, h2, h3⟩ := soundTgs ts g h
      exact rg_tup g.K g.calm h1 h2 h3
    · cases h
theorem soundTgs : ∀ (ts : List Tg) {c : Cfg} {X : Cx} {S : Sit} {C : Calls} {W : WX} {k : Nat} {ps : List Expr}, Good c X S C W k → chkTgs c ts ps = true → PGs X ps (gDs S ts) ∧ ps.all nst = true ∧ ps.length = ts.length
  | [], c, X, S, C, W, k, ps, g, h => by
    simp only [chkTgs, List.isEmpty_iff] at h
    subst h
    exact ⟨rg_nil, rfl, rfl⟩
  | t :: ts, c, X, S, C, W, k, ps, g, h => by
    simp only [chkTgs] at h
    split at h
    · rename_i p ps
      simp only [Bool.and_eq_true] at h
      obtain ⟨⟨h1, h2⟩, h3⟩ := h
      obtain ⟨a1, a2, a3⟩ := soundTgs ts g h3
      exact ⟨rg_cons (soundTg t g h2) a1 h1, by rw [List.all_cons, h1, a2]; rfl, by rw [List.length_cons, List.length_cons, a3]⟩
    · cases h
end
end Rf

/-! Rg, part S: the test is sound: expressions. -/
namespace Rf
open PySem PySem.Spec PyProof.Rows L2
theorem pw_of {X : Cx} {S : Sit} {C : Calls} {W : WX} {op : BoolOp} {vs : List Expr} {pos : Pos} {t : Rf.T} (h : PT X (.BoolOp op vs pos) (tT S C W t)) : PW X (.BoolOp op vs pos) (tT S C W t) := Rf.PT.pw h
mutual
theorem soundE : ∀ (e : E) {c : Cfg} {X : Cx} {S : Sit} {C : Calls} {W : WX} {k : Nat} {pe : Expr}, Good c X S C W k → chkE e c pe = true → PE X pe (tDk (isFresh C e) S C W e)
  | .cst d, c, X, S, C, W, k, pe, g, h => by
    simp only [chkE] at h
    obtain ⟨v, h1, h2⟩ := cst_ok h
    exact dk_s (r_cst h1 h2 fun s => rfl)
  | .var i, c, X, S, C, W, k, pe, g, h => by
    simp only [chkE] at h
    obtain ⟨x, p, rfl, h1, h2, h3, h4⟩ := var_ok g h
    exact dk_s (r_var h1 h2 h3 h4)
  | .mov i, c, X, S, C, W, k, pe, g, h => by
    simp only [chkE] at h
    obtain ⟨x, p, rfl, h1, h2, h3, h4⟩ := var_ok g h
    exact dk_f (r_mov h1 h2 h3 h4)
  | .glob x d, c, X, S, C, W, k, pe, g, h => by
    simp only [chkE] at h
    obtain ⟨v, h1, h2⟩ := glob_ok g h
    exact dk_s (r_cst h1 h2 fun s => rfl)
  | .sh a, c, X, S, C, W, k, pe, g, h => by
    simp only [chkE] at h
    exact dk_s (PE.imp (dk_D (soundE a g h)) fun σ H Q q => q)
  | .tup es, c, X, S, C, W, k, pe, g, h => by
    simp only [chkE] at h
    split at h
    · simp only [Bool.and_eq_true, decide_eq_true_eq] at h
      exact dk_f (r_tup (soundEs es g h.2).1 h.1)
    · cases h
  | .lst es, c, X, S, C, W, k, pe, g, h => by
    simp only [chkE] at h
    split at h
    · simp only [Bool.and_eq_true, decide_eq_true_eq] at h
      exact dk_f (r_lst (soundEs es g h.2).1 h.1)
    · cases h
  | .bin o a b, c, X, S, C, W, k, pe, g, h => by
    simp only [chkE] at h
    split at h
    · simp only [Bool.and_eq_true, decide_eq_true_eq] at h
      obtain ⟨⟨rfl, h1⟩, h2⟩ := h
      exact dk_f (r_bin g.K opD_all (dk_D (soundE a g h1)) (soundV b g h2))
    · cases h
  | .binv o i b, c, X, S, C, W, k, pe, g, h => by
    simp only [chkE] at h
    split at h
    · simp only [Bool.and_eq_true, decide_eq_true_eq] at h
      obtain ⟨⟨rfl, h1⟩, h2⟩ := h
      exact dk_f (r_binv g.K opD_all (pe_slot g h1) (dk_D (soundE b g h2)))
    · cases h
  | .neg a, c, X, S, C, W, k, pe, g, h => by
    simp only [chkE] at h
    split at h
    · exact dk_f (r_neg (dk_D (soundE a g h)))
    · cases h
  | .cmp o a b, c, X, S, C, W, k, pe, g, h => by
    simp only [chkE] at h
    split at h
    · simp only [Bool.and_eq_true, decide_eq_true_eq] at h
      obtain ⟨⟨⟨rfl, h1⟩, h2⟩, h3⟩ := h
      exact dk_f (r_cmp g.K g.units (dk_D (soundE a g h2)) (soundV b g h3) (notB h1))
    · cases h
  | .cmpv o i b, c, X, S, C, W, k, pe, g, h => by
    simp only [chkE] at h
    split at h
    · simp only [Bool.and_eq_true, decide_eq_true_eq] at h
      obtain ⟨⟨⟨rfl, h1⟩, h2⟩, h3⟩ := h
      exact dk_f (r_cmpv g.K g.units (pe_slot g h2) (dk_D (soundE b g h3)) (notB h1))
    · cases h
  | .chain o o2 a b d, c, X, S, C, W, k, pe, g, h => by
    simp only [chkE] at h
    split at h
    · simp only [Bool.and_eq_true, decide_eq_true_eq] at h
      obtain ⟨⟨⟨⟨⟨rfl, rfl⟩, h1⟩, h2⟩, h3⟩, h4⟩ := h
      exact dk_f (r_chain g.K g.units (dk_D (soundE a g h2)) (dk_D (soundE b g h3)) (dk_D (soundE d g h4)) (notB h1))
    · cases h
  | .and a b, c, X, S, C, W, k, pe, g, h => by
    simp only [chkE] at h
    split at h
    · simp only [Bool.and_eq_true] at h
      have hb := soundE b g h.2
      exact and_all g.K (soundE a g h.1) (pe_one hb)
    · simp only [Bool.and_eq_true] at h
      exact and_all g.K (soundE a g h.1) (soundE b g h.2)
    · cases h
  | .or a b, c, X, S, C, W, k, pe, g, h => by
    simp only [chkE] at h
    split at h
    · simp only [Bool.and_eq_true] at h
      have hb := soundE b g h.2
      exact or_all g.K (soundE a g h.1) (pe_one hb)
    · simp only [Bool.and_eq_true] at h
      exact or_all g.K (soundE a g h.1) (soundE b g h.2)
    · cases h
  | .not a, c, X, S, C, W, k, pe, g, h => by
    simp only [chkE] at h
    split at h
    · exact dk_f (r_not g.K (soundV a g h))
    · cases h
  | .ite t a b, c, X, S, C, W, k, pe, g, h => by
    simp only [chkE] at h
    split at h
    · simp only [Bool.and_eq_true] at h
      have ht := soundT t g h.1.1
      have ha := soundE a g h.1.2
      have hb := soundE b g h.2
      refine dk_any (r_ite ht (dk_D ha) (dk_D hb)) fun hf => ?_
      have hf : (isFresh C a && isFresh C b) = true := hf
      rw [Bool.and_eq_true] at hf
      rw [hf.1] at ha
      rw [hf.2] at hb
      exact rf_ite ht (dk_uf ha) (dk_uf hb)
    · cases h
  | .call f as, c, X, S, C, W, k, pe, g, h => by
    simp only [chkE] at h
    split at h
    · rename_i x p ps pos
      split at h
      · rename_i sg hsg
        simp only [Bool.and_eq_true, decide_eq_true_eq] at h
        obtain ⟨⟨⟨⟨⟨rfl, h1⟩, h2⟩, h3⟩, h4⟩, h5⟩ := h
        obtain ⟨h6, h7, h8⟩ := soundA as g h5
        obtain ⟨g1, g2, _⟩ := gl_ok g h1
        have fr : isFresh C (.call f as) = sg.fr := by
          show C.fr f = sg.fr
          rw [g.frs f, hsg]; rfl
        rw [fr]
        have F := g.fns f sg hsg
        cases ps with
        | nil =>
          have : as = [] := List.eq_nil_of_length_eq_zero (by simpa using h8.symm)
          subst this
          have h2 : sg.n = 0 := h2
          rw [h2] at F
          exact r_call0 g.K g.tk g.room g1 g2 F h3
        | cons q qs => exact r_call g.K g.tk g.room g1 g2 F h2 h3 h4 h6 h7
      · cases h
    · cases h
  | .p1 p a, c, X, S, C, W, k, pe, g, h => by
    simp only [chkE] at h
    split at h
    · rename_i hp
      subst hp
      split at h
      · simp only [Bool.and_eq_true, decide_eq_true_eq] at h
        obtain ⟨⟨⟨⟨⟨rfl, rfl⟩, h3⟩, h4⟩, h5⟩, h6⟩ := h
        obtain ⟨f1, f2, f3, f4⟩ := free_ok g h3
        obtain ⟨f5, f6, f7, f8⟩ := free_ok g h4
        exact dk_f (r_lenset g.K g.calm f1 f2 f5 f6 (soundV a g h6) h5)
      · cases h
    split at h
    · simp only [Bool.and_eq_true, decide_eq_true_eq] at h
      obtain ⟨⟨⟨⟨h1, h2⟩, h3⟩, h4⟩, h5⟩ := h
      obtain ⟨f, hf⟩ := Option.isSome_iff_exists.mp h2
      obtain ⟨f1, f2, f3, f4⟩ := free_ok g h3
      exact dk_f (r_p1 g.K g.calm hf h1 f1 f2 f3 f4 (soundV a g h5) h4)
    · cases h
  | .p2 p a b, c, X, S, C, W, k, pe, g, h => by
    simp only [chkE] at h
    split at h
    · simp only [Bool.and_eq_true, Bool.or_eq_true, decide_eq_true_eq] at h
      obtain ⟨⟨⟨⟨⟨⟨h0, h1⟩, h2⟩, h3⟩, h4⟩, h5⟩, h6⟩ := h
      obtain ⟨f1, f2, f3, f4⟩ := free_ok g h2
      exact dk_f (r_p2 h0 g.K g.calm h1 f1 f2 f3 f4 (dk_D (soundE a g h5)) (dk_D (soundE b g h6)) h3 h4)
    · cases h
  | .isi a ts, c, X, S, C, W, k, pe, g, h => by
    simp only [chkE] at h
    split at h
    · rename_i x p q t pos
      simp only [Bool.and_eq_true, decide_eq_true_eq] at h
      obtain ⟨⟨⟨⟨rfl, h1⟩, h2⟩, h3⟩, h4⟩ := h
      obtain ⟨f1, f2, f3, f4⟩ := free_ok g h1
      unfold tys at h3
      split at h3
      · rename_i ps k1 q2
        simp only [Bool.and_eq_true, decide_eq_true_eq] at h3
        obtain ⟨⟨⟨t1, t2⟩, t3⟩, t4⟩ := h3
        refine dk_f (r_isiT g.K f1 f2 t2 t1 (fun t ht {m} e p => ty_pe g e ?_ p) t3 (soundV a g h4) h2)
        have := List.all_eq_true.mp t4 t ht
        rw [e] at this
        exact this
      · rename_i y q2
        split at h3
        · rename_i t
          rw [Bool.and_eq_true] at h3
          have h5 := h3.1
          simp only [tyC, Bool.and_eq_true] at h5
          cases e : tyName t with
          | none => rw [e] at h5; cases h5.1
          | some m =>
            rw [e] at h5
            obtain rfl := of_decide_eq_true h5.1
            exact dk_f (r_isi1 g.K f1 f2 e (ty_pe g e h3.2 q2) (soundV a g h4) h2)
        · cases h3
      · cases h3
    · cases h
  | .sub a i, c, X, S, C, W, k, pe, g, h => by
    simp only [chkE] at h
    split at h
    · simp only [Bool.and_eq_true] at h
      exact dk_s (r_sub g.K g.units (dk_D (soundE a g h.1.2)) (dk_D (soundE i g h.2)) h.1.1)
    · cases h
  | .subv v i, c, X, S, C, W, k, pe, g, h => by
    simp only [chkE] at h
    split at h
    · simp only [Bool.and_eq_true] at h
      exact dk_s (r_subv g.K g.units (pe_slot g h.1.2) (dk_D (soundE i g h.2)) h.1.1)
    · cases h
  | .slc a lo hi, c, X, S, C, W, k, pe, g, h => by
    simp only [chkE] at h
    split at h
    · simp only [Bool.and_eq_true] at h
      exact dk_f (r_slc g.K (dk_D (soundE a g h.1.1)) (soundO lo g h.1.2) (soundO hi g h.2))
    · cases h
  | .slcv v lo hi, c, X, S, C, W, k, pe, g, h => by
    simp only [chkE] at h
    split at h
    · simp only [Bool.and_eq_true] at h
      exact dk_f (r_slcv g.K (pe_slot g h.1.1) (soundO lo g h.1.2) (soundO hi g h.2))
    · cases h
  | .rev a, c, X, S, C, W, k, pe, g, h => by
    simp only [chkE] at h
    split at h
    · exact dk_f (r_rev g.K (soundV a g h))
    · cases h
  | .lc elt tg it cond own, c, X, S, C, W, k, pe, g, h => by
    simp only [chkE] at h
    split at h
    · rename_i pel pt pi ifs scope pos
      simp only [Bool.and_eq_true] at h
      obtain ⟨⟨⟨⟨⟨⟨⟨h1, h2⟩, h3⟩, h4⟩, h5⟩, h6⟩, h7⟩, h8⟩ := h
      have ok : BlkOk X.N X.env.scope scope (ownL c own) := by rw [g.N, g.sc]; exact blkOk_by h1
      have ex : ∀ {t : TG} {p : Expr} {Y : Cx}, True := fun {_ _ _} => trivial
      refine dk_f (PE.imp (pe_lc (g := fun v σ H Q => ∃ S', Sib S S' ∧ gD S' tg v σ H Q) (tt := fun σ H Q => ∃ S', Sib S S' ∧ tCo S' C W0 cond σ H Q) (te := fun σ H Q => ∃ S', Sib S S' ∧ tD S' C W0 elt σ H Q) g.calm g.nd (soundI it g h5) ok
        (fun s H B cl fp => ⟨fun pins s σ H v u Q I r ⟨S', hS, q⟩ => (soundTg tg (g.sib hS).blk h6).run pins s σ H v u Q I r q⟩)
        (fun s H B cl fp => ⟨fun pins s σ H Q I ⟨S', hS, q⟩ => (soundC cond (g.sib hS).blk h7).run pins s σ H Q I q⟩)
        (fun s H B cl fp => ⟨fun pins s σ H Q I ⟨S', hS, q⟩ => (dk_D (soundE elt (g.sib hS).blk h8)).run pins s σ H Q I q⟩) (nset_ok h4)) ?_)
      have hown : (ownL c own).map (·.2) = own := by unfold ownL; rw [List.map_map]; exact List.map_id own
      refine fun σ H Q q => r_lc g.calm g.nd (soundI it g h5) ok (fun S' hS s H B cl fp => soundTg tg (g.sib hS).blk h6) (fun S' hS s H B cl fp => soundC cond (g.sib hS).blk h7) (fun S' hS s H B cl fp => dk_D (soundE elt (g.sib hS).blk h8)) (fun i hi => ?_) hown (fun i hi p hp e => ?_) (nset_ok h4) σ H Q q
      · exact List.contains_iff_mem.mp (List.all_eq_true.mp h3 i hi)
      · have := List.all_eq_true.mp h2 i hi
        have h9 := g.io p hp
        rw [e] at h9
        rw [List.contains_iff_mem.mpr h9] at this
        cases this
    · cases h
  | .pop v, c, X, S, C, W, k, pe, g, h => by
    simp only [chkE] at h
    split at h
    · simp only [Bool.and_eq_true, decide_eq_true_eq] at h
      obtain ⟨⟨rfl, h1⟩, h2⟩ := h
      exact dk_s (r_pop (pe_slot g h1) h2)
    · cases h
  | .popAt v i, c, X, S, C, W, k, pe, g, h => by
    simp only [chkE] at h
    split at h
    · simp only [Bool.and_eq_true, decide_eq_true_eq] at h
      obtain ⟨⟨⟨⟨rfl, h1⟩, h2⟩, h3⟩, h4⟩ := h
      exact dk_s (r_popAt (pe_slot g h1) (dk_D (soundE i g h4)) h2 h3)
    · cases h
  | .dnew, c, X, S, C, W, k, pe, g, h => by
    simp only [chkE] at h
    split at h
    · exact dk_f r_dnew
    · cases h
  | .lrg t (.rng1 a), c, X, S, C, W, k, pe, g, h => by
    simp only [chkE] at h
    split at h
    · simp only [Bool.and_eq_true, decide_eq_true_eq] at h
      obtain ⟨⟨⟨⟨⟨h1, h2⟩, rfl⟩, h3⟩, h4⟩, h5⟩ := h
      obtain ⟨f1, f2, f3, f4⟩ := free_ok g h2
      obtain ⟨f5, f6, f7, f8⟩ := free_ok g h3
      cases t with
      | true => cases h1; exact dk_f (r_lrgT g.calm f1 f2 (prg1 f5 f6 (dk_D (soundE a g h5)) h4) rfl)
      | false => cases h1; exact dk_f (r_lrgL g.calm f1 f2 (prg1 f5 f6 (dk_D (soundE a g h5)) h4) rfl)
    · cases h
  | .lrg t (.rng2 a b), c, X, S, C, W, k, pe, g, h => by
    simp only [chkE] at h
    split at h
    · simp only [Bool.and_eq_true, decide_eq_true_eq] at h
      obtain ⟨⟨⟨⟨⟨⟨⟨h1, h2⟩, rfl⟩, h3⟩, h4⟩, h5⟩, h6⟩, h7⟩ := h
      obtain ⟨f1, f2, f3, f4⟩ := free_ok g h2
      obtain ⟨f5, f6, f7, f8⟩ := free_ok g h3
      cases t with
      | true => cases h1; exact dk_f (r_lrgT g.calm f1 f2 (prg2 f5 f6 (dk_D (soundE a g h6)) (dk_D (soundE b g h7)) h4 h5) rfl)
      | false => cases h1; exact dk_f (r_lrgL g.calm f1 f2 (prg2 f5 f6 (dk_D (soundE a g h6)) (dk_D (soundE b g h7)) h4 h5) rfl)
    · cases h
  | .lrg t (.seq _), c, X, S, C, W, k, pe, g, h => by simp only [chkE] at h; cases h
  | .lrg t (.rng3 _ _ _), c, X, S, C, W, k, pe, g, h => by simp only [chkE] at h; cases h
  | .lrg t (.zip _ _), c, X, S, C, W, k, pe, g, h => by simp only [chkE] at h; cases h
  | .lrg t (.enum _), c, X, S, C, W, k, pe, g, h => by simp only [chkE] at h; cases h
  | .idx a b, c, X, S, C, W, k, pe, g, h => by
    simp only [chkE] at h
    split at h
    · simp only [Bool.and_eq_true, decide_eq_true_eq] at h
      obtain ⟨⟨⟨⟨rfl, h1⟩, h2⟩, h3⟩, h4⟩ := h
      exact dk_f (r_idx g.K (dk_D (soundE a g h3)) (dk_D (soundE b g h4)) h1 h2)
    · cases h
theorem soundV : ∀ (a : O) {c : Cfg} {X : Cx} {S : Sit} {C : Calls} {W : WX} {k : Nat} {pe : Expr}, Good c X S C W k → chkV a c pe = true → PE X pe (tDv S C W a)
  | .vw i, c, X, S, C, W, k, pe, g, h => by
    simp only [chkV] at h
    exact pe_slotV g h
  | .e e, c, X, S, C, W, k, pe, g, h => by
    simp only [chkV] at h
    exact r_opd (dk_D (soundE e g h))
theorem soundT : ∀ (t : T) {c : Cfg} {X : Cx} {S : Sit} {C : Calls} {W : WX} {k : Nat} {pe : Expr}, Good c X S C W k → chkT t c pe = true → PT X pe (tT S C W t)
  | .and a b, c, X, S, C, W, k, pe, g, h => by
    simp only [chkT] at h
    split at h
    · simp only [Bool.and_eq_true] at h
      exact (rt_and (soundT a g h.1) (pw_and1 (soundT b g h.2))).pt
    · simp only [Bool.and_eq_true] at h
      exact (rt_and (soundT a g h.1) (pw_of (soundT b g h.2))).pt
    · cases h
  | .or a b, c, X, S, C, W, k, pe, g, h => by
    simp only [chkT] at h
    split at h
    · simp only [Bool.and_eq_true] at h
      exact (rt_or (soundT a g h.1) (pw_or1 (soundT b g h.2))).pt
    · simp only [Bool.and_eq_true] at h
      exact (rt_or (soundT a g h.1) (pw_of (soundT b g h.2))).pt
    · cases h
  | .not a, c, X, S, C, W, k, pe, g, h => by
    simp only [chkT] at h
    split at h
    · exact rt_not (soundT a g h)
    · cases h
  | .ite t a b, c, X, S, C, W, k, pe, g, h => by
    simp only [chkT] at h
    split at h
    · simp only [Bool.and_eq_true] at h
      exact rt_ite (soundT t g h.1.1) (soundT a g h.1.2) (soundT b g h.2)
    · cases h
  | .o a, c, X, S, C, W, k, pe, g, h => by
    simp only [chkT, Bool.and_eq_true] at h
    exact rt_o g.K (soundV a g h.2) (plain_ok h.1)
  | .cmp o a b, c, X, S, C, W, k, pe, g, h => by
    simp only [chkT] at h
    split at h
    · simp only [Bool.and_eq_true, decide_eq_true_eq] at h
      obtain ⟨⟨⟨rfl, h1⟩, h2⟩, h3⟩ := h
      exact rt_cmp g.K g.units (dk_D (soundE a g h2)) (soundV b g h3) (notB h1)
    · cases h
  | .cmpv o i b, c, X, S, C, W, k, pe, g, h => by
    simp only [chkT] at h
    split at h
    · simp only [Bool.and_eq_true, decide_eq_true_eq] at h
      obtain ⟨⟨⟨rfl, h1⟩, h2⟩, h3⟩ := h
      exact rt_cmpv g.K g.units (pe_slot g h2) (dk_D (soundE b g h3)) (notB h1)
    · cases h
  | .chain o o2 a b d, c, X, S, C, W, k, pe, g, h => by
    simp only [chkT] at h
    split at h
    · simp only [Bool.and_eq_true, decide_eq_true_eq] at h
      obtain ⟨⟨⟨⟨⟨rfl, rfl⟩, h1⟩, h2⟩, h3⟩, h4⟩ := h
      exact rt_chain g.K g.units (dk_D (soundE a g h2)) (dk_D (soundE b g h3)) (dk_D (soundE d g h4)) (notB h1)
    · cases h
theorem soundEs : ∀ (es : List E) {c : Cfg} {X : Cx} {S : Sit} {C : Calls} {W : WX} {k : Nat} {ps : List Expr}, Good c X S C W k → chkEs es c ps = true → PA X ps (tDs S C W es) ∧ ps.all nst = true
  | [], c, X, S, C, W, k, ps, g, h => by
    simp only [chkEs, List.isEmpty_iff] at h
    subst h
    exact ⟨r_ds_nil, rfl⟩
  | e :: es, c, X, S, C, W, k, ps, g, h => by
    simp only [chkEs] at h
    split at h
    · simp only [Bool.and_eq_true] at h
      obtain ⟨⟨h1, h2⟩, h3⟩ := h
      obtain ⟨a1, a2⟩ := soundEs es g h3
      exact ⟨r_ds_cons (dk_D (soundE e g h2)) a1 h1, by rw [List.all_cons, h1, a2]; rfl⟩
    · cases h
theorem soundA : ∀ (as : List Arg) {c : Cfg} {X : Cx} {S : Sit} {C : Calls} {W : WX} {k : Nat} {ps : List Expr}, Good c X S C W k → chkA as c ps = true → PA X ps (tAr S C W as) ∧ ps.all nst = true ∧ ps.length = as.length
  | [], c, X, S, C, W, k, ps, g, h => by
    simp only [chkA, List.isEmpty_iff] at h
    subst h
    exact ⟨r_ar_nil, rfl, rfl⟩
  | .io i :: as, c, X, S, C, W, k, ps, g, h => by
    simp only [chkA] at h
    split at h
    · simp only [Bool.and_eq_true, chkA1] at h
      obtain ⟨⟨h1, h2⟩, h3⟩ := h
      obtain ⟨a1, a2, a3⟩ := soundA as g h3
      exact ⟨r_ar_io (pe_slot g h2) a1 h1, by rw [List.all_cons, h1, a2]; rfl, by rw [List.length_cons, List.length_cons, a3]⟩
    · cases h
  | .e e :: as, c, X, S, C, W, k, ps, g, h => by
    simp only [chkA] at h
    split at h
    · simp only [Bool.and_eq_true, chkA1] at h
      obtain ⟨⟨h1, h2⟩, h3⟩ := h
      obtain ⟨a1, a2, a3⟩ := soundA as g h3
      exact ⟨r_ar_e (dk_D (soundE e g h2)) a1 h1, by rw [List.all_cons, h1, a2]; rfl, by rw [List.length_cons, List.length_cons, a3]⟩
    · cases h
theorem soundO : ∀ (o : Option E) {c : Cfg} {X : Cx} {S : Sit} {C : Calls} {W : WX} {k : Nat} {p : Option Expr}, Good c X S C W k → chkO o c p = true → PO X p (tDo S C W o)
  | none, c, X, S, C, W, k, p, g, h => by
    simp only [chkO, Option.isNone_iff_eq_none] at h
    subst h
    exact r_po_none
  | some e, c, X, S, C, W, k, p, g, h => by
    simp only [chkO] at h
    split at h
    · exact r_po_some (dk_D (soundE e g h))
    · cases h
theorem soundC : ∀ (o : Option T) {c : Cfg} {X : Cx} {S : Sit} {C : Calls} {W : WX} {k : Nat} {ps : List Expr}, Good c X S C W k → chkC o c ps = true → PTs X ps (tCo S C W o)
  | none, c, X, S, C, W, k, ps, g, h => by
    simp only [chkC, List.isEmpty_iff] at h
    subst h
    exact ⟨fun pins s σ H Q I ⟨P, env, O, t, q⟩ => pts_nil.run pins s σ H Q I (q H O (Ext.refl _ _) t)⟩
  | some e, c, X, S, C, W, k, ps, g, h => by
    simp only [chkC] at h
    split at h
    · exact ⟨fun pins s σ H Q I q => (pts_one (soundT e g h)).run pins s σ H Q I q⟩
    · cases h
theorem soundI : ∀ (it : It) {c : Cfg} {X : Cx} {S : Sit} {C : Calls} {W : WX} {k : Nat} {pt pi : Expr}, Good c X S C W k → chkI it c pt pi = true → PI X pt pi (tIt S C W it)
  | .seq e, c, X, S, C, W, k, pt, pi, g, h => by
    simp only [chkI] at h
    exact ri_seq g.K (dk_D (soundE e g h))
  | .rng1 a, c, X, S, C, W, k, pt, pi, g, h => by
    simp only [chkI] at h
    split at h
    · simp only [Bool.and_eq_true, decide_eq_true_eq] at h
      obtain ⟨⟨⟨rfl, h1⟩, h2⟩, h3⟩ := h
      obtain ⟨f1, f2, f3, f4⟩ := free_ok g h1
      exact ri_rng1 f1 f2 (dk_D (soundE a g h3)) h2
    · cases h
  | .rng2 a b, c, X, S, C, W, k, pt, pi, g, h => by
    simp only [chkI] at h
    split at h
    · simp only [Bool.and_eq_true, decide_eq_true_eq] at h
      obtain ⟨⟨⟨⟨⟨rfl, h1⟩, h2⟩, h3⟩, h4⟩, h5⟩ := h
      obtain ⟨f1, f2, f3, f4⟩ := free_ok g h1
      exact ri_rng2 f1 f2 (dk_D (soundE a g h4)) (dk_D (soundE b g h5)) h2 h3
    · cases h
  | .rng3 _ _ _, c, X, S, C, W, k, pt, pi, g, h => by
    simp only [chkI] at h
    cases h
  | .zip a b, c, X, S, C, W, k, pt, pi, g, h => by
    simp only [chkI] at h
    split at h
    · simp only [Bool.and_eq_true, decide_eq_true_eq] at h
      obtain ⟨⟨⟨⟨⟨rfl, h1⟩, h2⟩, h3⟩, h4⟩, h5⟩ := h
      obtain ⟨f1, f2, f3, f4⟩ := free_ok g h1
      exact ri_zip g.K f1 f2 (dk_D (soundE a g h4)) (dk_D (soundE b g h5)) h2 h3
    · cases h
  | .enum a, c, X, S, C, W, k, pt, pi, g, h => by
    simp only [chkI] at h
    split at h
    · simp only [Bool.and_eq_true, decide_eq_true_eq] at h
      obtain ⟨⟨⟨rfl, h1⟩, h2⟩, h3⟩ := h
      obtain ⟨f1, f2, f3, f4⟩ := free_ok g h1
      exact ri_enum g.K f1 f2 (dk_D (soundE a g h3)) h2
    · cases h
end
end Rf

/-! Rg, part T: the test is sound: statements. -/
namespace Rf
open PySem PySem.Spec PyProof.Rows L2
theorem soundFs : ∀ (es : List E) {c : Cfg} {X : Cx} {S : Sit} {C : Calls} {W : WX} {k : Nat} {ps : List Expr}, Good c X S C W k → chkEs es c ps = true → PA X ps (tFs S C W es)
  | [], c, X, S, C, W, k, ps, g, h => by
    simp only [chkEs, List.isEmpty_iff] at h
    subst h
    exact r_fs_nil
  | e :: es, c, X, S, C, W, k, ps, g, h => by
    simp only [chkEs] at h
    split at h
    · simp only [Bool.and_eq_true] at h
      obtain ⟨⟨h1, h2⟩, h3⟩ := h
      exact r_fs_cons (soundE e g h2) (soundFs es g h3) h1
    · cases h
structure GoodS (c : Cfg) (X : Cx) (S : Sit) (C : Calls) (W : WX) (k : Nat) : Prop extends Good c X S C W k where
  kind : X.env.scope.kind = .function
  own : PassesOwn (model X.prog X.w) X.A X.env X.xe
  fr : S.fr = c.fr
section
variable {c : Cfg} {X : Cx} {S S' : Sit} {C : Calls} {W : WX} {k : Nat}
theorem blockK (h : X.env.scope.kind = .function) : X.env.blockKind = .function := by unfold Env.blockKind; rw [h]; rfl
theorem noStar {vs : List Expr} (h : vs.all nst = true) : (vs.any fun | .Starred .. => true | _ => false) = false := by
  induction vs with
  | nil => rfl
  | cons v vs ih =>
    rw [List.all_cons, Bool.and_eq_true] at h
    rw [List.any_cons, ih h.2]
    cases v <;> first | rfl | (simp [nst] at h)
theorem swap2 (hk : X.env.scope.kind = .function) (hs : X.env.scope = c.sc) {x y : Str} {px py pt pt2 : Pos} {pa pb : Expr} {kt k2 : Nat} (h : swapC c [(x, px), (y, py)] [pa, pb] = true) :
    swappedStores [.Tuple [.Name x px, .Name y py] kt pt] (.Tuple [pa, pb] k2 pt2) X.env = pure (some [x, y]) ∧ X.env.scope.names.lookup x = some .local ∧ X.env.scope.names.lookup y = some .local := by
  unfold swapC at h
  simp only [Bool.and_eq_true, List.all_cons, List.all_nil, decide_eq_true_eq, and_true, List.map_cons, List.map_nil] at h
  obtain ⟨⟨⟨⟨⟨h1, h2, h3⟩, h4⟩, h5, h5'⟩, h6⟩, h7⟩ := h
  rw [← hs] at h2 h3
  refine ⟨?_, h2, h3⟩
  have kx : X.env.kindOf x = some .local := h2
  have ky : X.env.kindOf y = some .local := h3
  have starF : ∀ {p : Expr}, nst p = true → ∀ {α : Prop}, (match p with | .Starred .. => true | _ => false) = true → α := fun {p} h {α} q => by cases p <;> first | (cases h; done) | (cases q; done)
  unfold swappedStores
  simp only [List.length_cons, List.length_nil, blockK hk, List.head?_cons, Option.map_some, Option.getD_some, Expr.pos, List.filterMap_cons, List.filterMap_nil, kx, ky, h1, List.all_cons, List.all_nil]
  have e4 : [x, y].eraseDups.length = 2 := eq_of_beq h4
  have h6' : (foldedForSure 8 pa && (foldedForSure 8 pb && true)) = false := notB h6
  have h7' : (constantsAlone 8 pa && (constantsAlone 8 pb && true)) = false := notB h7
  simp [h6', h7', e4]
  rw [if_neg (fun q => q.elim (fun q => starF h5 q) (fun q => starF h5' q)), if_neg (fun q => by rw [q.1, q.2] at h6'; simp at h6'), if_neg (fun q => by rw [q.1, q.2] at h7'; simp at h7')]
theorem swap3 (hk : X.env.scope.kind = .function) (hs : X.env.scope = c.sc) {x y z : Str} {px py pz pt pt2 : Pos} {pa pb pc : Expr} {kt k2 : Nat} (h : swapC c [(x, px), (y, py), (z, pz)] [pa, pb, pc] = true) :
    swappedStores [.Tuple [.Name x px, .Name y py, .Name z pz] kt pt] (.Tuple [pa, pb, pc] k2 pt2) X.env = pure (some [x, y, z]) ∧ X.env.scope.names.lookup x = some .local ∧ X.env.scope.names.lookup y = some .local ∧ X.env.scope.names.lookup z = some .local := by
  unfold swapC at h
  simp only [Bool.and_eq_true, List.all_cons, List.all_nil, decide_eq_true_eq, and_true, List.map_cons, List.map_nil] at h
  obtain ⟨⟨⟨⟨⟨⟨h1, h1'⟩, h2, h3, h3'⟩, h4⟩, h5, h5', h5''⟩, h6⟩, h7⟩ := h
  rw [← hs] at h2 h3 h3'
  refine ⟨?_, h2, h3, h3'⟩
  have kx : X.env.kindOf x = some .local := h2
  have ky : X.env.kindOf y = some .local := h3
  have kz : X.env.kindOf z = some .local := h3'
  have starF : ∀ {p : Expr}, nst p = true → ∀ {α : Prop}, (match p with | .Starred .. => true | _ => false) = true → α := fun {p} h {α} q => by cases p <;> first | (cases h; done) | (cases q; done)
  unfold swappedStores
  simp only [List.length_cons, List.length_nil, blockK hk, List.head?_cons, Option.map_some, Option.getD_some, Expr.pos, List.filterMap_cons, List.filterMap_nil, kx, ky, kz, h1, h1', List.all_cons, List.all_nil]
  have e4 : [x, y, z].eraseDups.length = 3 := eq_of_beq h4
  have h6' : (foldedForSure 8 pa && (foldedForSure 8 pb && (foldedForSure 8 pc && true))) = false := notB h6
  have h7' : (constantsAlone 8 pa && (constantsAlone 8 pb && (constantsAlone 8 pc && true))) = false := notB h7
  simp [h6', h7', e4]
  rw [if_neg (fun q => q.elim (fun q => starF h5 q) (fun q => q.elim (fun q => starF h5' q) (fun q => starF h5'' q))), if_neg (fun q => by rw [q.1, q.2.1, q.2.2] at h6'; simp at h6'), if_neg (fun q => by rw [q.1, q.2.1, q.2.2] at h7'; simp at h7')]
theorem cell2 (hs : X.env.scope = c.sc) {x y : Str} {px py pt pt2 : Pos} {pa pb : Expr} {kt k2 : Nat} (h : cellC c [x, y] [pa, pb] = true) :
    swappedStores [.Tuple [.Name x px, .Name y py] kt pt] (.Tuple [pa, pb] k2 pt2) X.env = pure none := by
  unfold cellC at h
  simp only [Bool.and_eq_true, List.any_cons, List.any_nil, Bool.or_false, Bool.or_eq_true, decide_eq_true_eq, List.all_cons, List.all_nil] at h
  obtain ⟨h1, h2, h2', _⟩ := h
  rw [← hs] at h1
  have h1 : ¬ (X.env.kindOf x = some .local ∧ X.env.kindOf y = some .local) := fun q => by rcases h1 with h | h; exact h q.1; exact h q.2
  unfold swappedStores
  by_cases e1 : X.env.kindOf x = some .local <;> by_cases e2 : X.env.kindOf y = some .local <;> by_cases e3 : py.line = px.line <;> simp_all [List.filterMap_cons, Expr.pos]
theorem cell3 (hs : X.env.scope = c.sc) {x y z : Str} {px py pz pt pt2 : Pos} {pa pb pc : Expr} {kt k2 : Nat} (h : cellC c [x, y, z] [pa, pb, pc] = true) :
    swappedStores [.Tuple [.Name x px, .Name y py, .Name z pz] kt pt] (.Tuple [pa, pb, pc] k2 pt2) X.env = pure none := by
  unfold cellC at h
  simp only [Bool.and_eq_true, List.any_cons, List.any_nil, Bool.or_false, Bool.or_eq_true, decide_eq_true_eq, List.all_cons, List.all_nil] at h
  obtain ⟨h1, h2, h2', _⟩ := h
  rw [← hs] at h1
  have h1 : ¬ (X.env.kindOf x = some .local ∧ X.env.kindOf y = some .local ∧ X.env.kindOf z = some .local) := fun q => by rcases h1 with h | h | h; exact h q.1; exact h q.2.1; exact h q.2.2
  unfold swappedStores
  by_cases e1 : X.env.kindOf x = some .local <;> by_cases e2 : X.env.kindOf y = some .local <;> by_cases e4 : X.env.kindOf z = some .local <;> by_cases e3 : py.line = px.line <;> by_cases e5 : pz.line = px.line <;> simp_all [List.filterMap_cons, Expr.pos]
theorem noSwapT {pt pe : Expr} {env : PySem.Env} (h : noSwapSt pt pe = true) : swappedStores [pt] pe env = pure none := by
  have other : ∀ {pt pe : Expr}, (∀ ts k p vs k2 p2, pt = .Tuple ts k p → pe ≠ .Tuple vs k2 p2) → (∀ ts p vs k2 p2, pt = .List ts p → pe ≠ .Tuple vs k2 p2) → swappedStores [pt] pe env = pure none := fun {pt pe} h1 h2 => by
    cases pe <;> first | (unfold swappedStores; cases pt <;> rfl; done) | skip
    rename_i vs k2 p2
    cases pt with
    | Tuple ts k p => exact absurd rfl (h1 ts k p vs k2 p2 rfl)
    | List ts p => exact absurd rfl (h2 ts p vs k2 p2 rfl)
    | _ => rfl
  unfold noSwapSt at h
  split at h
  · rename_i ts k p vs k2 p2
    unfold swappedStores
    simp only [Bool.or_eq_true] at h
    dsimp only
    split
    · rfl
    · rename_i c1
      split
      · rfl
      · split
        · rfl
        · split
          · rfl
          · rename_i c4
            exfalso
            rcases h with h | h
            · simp only [Bool.or_eq_true, not_or, Bool.not_eq_true, bne, Bool.not_eq_false] at c1
              have e : vs.length = ts.length := by simpa using c1.1.2
              rw [e] at h
              have c2 := c1.1.1
              rw [h] at c2
              cases c2
            · exact c4 h
  · cases h
  · rename_i n1 n2
    exact other (fun ts k p vs k2 p2 e e2 => n1 ts k p vs k2 p2 e e2) (fun ts p vs k2 p2 e e2 => n2 ts p vs k2 p2 e e2)
/-- name = [..] -/
theorem rs_setLc {e0 : E} {elt : E} {tg : Tg} {it : Rf.It} {cond : Option T} {own : List Nat} {pelt ptg pit : Expr} {ifs : List Expr} {scope : Scope} {i : Nat} {x : Str} {px lp pos : Pos} (g : GoodS c X S C W k) (hx : stoB c x i = true) (hxl : c.sc.names.lookup x = some .local) (hl : (px.line == lp.line) = true) (ha : (scope.names.any fun (n, k) => n == x && (k == .local || k == .cell)) = false)
    (h : chkE (.lc elt tg it cond own) c (.ListComp pelt [⟨ptg, pit, ifs, 0⟩] scope lp) = true) (he0 : ∀ σ H Q, tDk (isFresh C e0) S C W e0 σ H Q → tDf S C W (.lc elt tg it cond own) σ H Q) : PS X (.Assign [.Name x px] (.ListComp pelt [⟨ptg, pit, ifs, 0⟩] scope lp) pos) (tS S C W (.asg (.nm i) e0)) := by
  simp only [chkE, Bool.and_eq_true] at h
  obtain ⟨⟨⟨⟨⟨⟨⟨h1, h2⟩, h3⟩, h4⟩, h5⟩, h6⟩, h7⟩, h8⟩ := h
  have st := sto_ok g.toGood hx
  have ok : BlkOk X.N X.env.scope scope (ownL c own) := by rw [g.N, g.sc]; exact blkOk_by h1
  have hxl' : X.env.scope.names.lookup x = some .local := by rw [g.sc]; exact hxl
  have hown : (ownL c own).map (·.2) = own := by unfold ownL; rw [List.map_map]; exact List.map_id own
  refine PS.impI (ps_setLc (g := fun v σ H Q => ∃ S', Sib S S' ∧ gD S' tg v σ H Q) (tt := fun σ H Q => ∃ S', Sib S S' ∧ tCo S' C W0 cond σ H Q) (te := fun σ H Q => ∃ S', Sib S S' ∧ tD S' C W0 elt σ H Q) g.calm g.nd st.ix hxl' (sw_true g.kind hxl' hl ha) (soundI it g.toGood h5) ok
    (fun s H B cl fp => ⟨fun pins s σ H v u Q I r ⟨S', hS, q⟩ => (soundTg tg (g.toGood.sib hS).blk h6).run pins s σ H v u Q I r q⟩)
    (fun s H B cl fp => ⟨fun pins s σ H Q I ⟨S', hS, q⟩ => (soundC cond (g.toGood.sib hS).blk h7).run pins s σ H Q I q⟩)
    (fun s H B cl fp => ⟨fun pins s σ H Q I ⟨S', hS, q⟩ => (dk_D (soundE elt (g.toGood.sib hS).blk h8)).run pins s σ H Q I q⟩) (nset_ok h4)) fun D σ H hlen q => ?_
  have q := he0 _ _ _ (asg_nm (lt_of_ix st.ix) st.io hlen q)
  refine r_lc g.calm g.nd (soundI it g.toGood h5) ok (fun S' hS s H B cl fp => soundTg tg (g.toGood.sib hS).blk h6) (fun S' hS s H B cl fp => soundC cond (g.toGood.sib hS).blk h7) (fun S' hS s H B cl fp => dk_D (soundE elt (g.toGood.sib hS).blk h8)) (fun i hi => ?_) hown (fun i hi p hp e => ?_) (nset_ok h4) σ H _ q
  · exact List.contains_iff_mem.mp (List.all_eq_true.mp h3 i hi)
  · have := List.all_eq_true.mp h2 i hi
    have h9 := g.io p hp
    rw [e] at h9
    rw [List.contains_iff_mem.mpr h9] at this
    cases this
theorem isFresh_ok (g : Good c X S C W k) {e : E} (h : isFreshF (fun j => ((c.fns[j]?).map (·.fr)).getD false) e = true) : isFresh C e = true := by
  have e1 : C.fr = fun j => ((c.fns[j]?).map (·.fr)).getD false := funext g.frs
  show isFreshF C.fr e = true
  rw [e1]; exact h
end
mutual
theorem soundS : ∀ (st : Rf.St) {c : Cfg} {X : Cx} {S : Sit} {C : Calls} {W : WX} {k : Nat} {p : Stmt}, GoodS c X S C W k → chkS st c p = true → PS X p (tS S C W st)
  | .asg tg e, c, X, S, C, W, k, p, g, h => by
    simp only [chkS] at h
    split at h
    · rename_i pt pe pos
      rw [Bool.and_eq_true] at h
      obtain ⟨he, h⟩ := h
      split at h
      · rename_i i x px
        rw [Bool.and_eq_true] at h
        obtain ⟨h1, h2⟩ := h
        split at h2
        · rename_i pel gens scope lp
          rcases Bool.or_eq_true _ _ ▸ h2 with h2 | h2
          rotate_left
          · have hne : c.sc.names.lookup x ≠ some .local := of_decide_eq_true h2
            have hne : X.env.kindOf x ≠ some .local := by rw [← g.sc] at hne; exact hne
            refine rs_set g.nd (sto_ok g.toGood h1) (soundE e g.toGood he) ?_
            unfold swapsWith
            show (pure (X.env.blockKind == .function && X.env.kindOf x == some .local && _ && _) : Sem Bool) = pure false
            rw [show (X.env.kindOf x == some .local) = false from beq_eq_false_iff_ne.mpr hne, Bool.and_false, Bool.false_and, Bool.false_and]
          simp only [Bool.and_eq_true, decide_eq_true_eq] at h2
          obtain ⟨⟨⟨h0, h3⟩, h4⟩, h5⟩ := h2
          have key : ∀ (elt tg it cond own) (e0 : E), chkE (.lc elt tg it cond own) c (.ListComp pel gens scope lp) = true → (∀ σ H Q, tDk (isFresh C e0) S C W e0 σ H Q → tDf S C W (.lc elt tg it cond own) σ H Q) → PS X (.Assign [.Name x px] (.ListComp pel gens scope lp) pos) (tS S C W (.asg (.nm i) e0)) := fun elt tg it cond own e0 he h0 => by
            have he2 := he
            simp only [chkE] at he2
            split at he2
            · rename_i heq
              cases heq
              exact rs_setLc g h1 h4 h3 (notB h5) he h0
            · cases he2
          unfold isLc at h0
          split at h0
          · rename_i elt tg it cond own
            exact key elt tg it cond own _ he fun σ H Q ⟨P, env, O, t, q⟩ => ⟨P, env, O, t, PostG.imp q fun d s1 H1 O1 _ _ _ k v t n => k v ⟨t, n⟩⟩
          · rename_i elt tg it cond own
            exact key elt tg it cond own _ (by simpa only [chkE] using he) fun σ H Q ⟨P, env, O, t, q⟩ => ⟨P, env, O, t, post_fresh (show Post S W P H O σ (evalE C (.lc elt tg it cond own) env) Q from q)⟩
          · cases h0
        · exact rs_set g.nd (sto_ok g.toGood h1) (soundE e g.toGood he) (noSwap (notB h2))
      · simp only [Bool.and_eq_true] at h
        obtain ⟨⟨h1, h2⟩, h3⟩ := h
        exact rs_tup (dk_D (soundE e g.toGood he)) (soundTg _ g.toGood h1) (fun i q => by cases q) (noSwapSole (notB h2)) (noSwapT h3) rfl
      · cases h
    · cases h
  | .par is es, c, X, S, C, W, k, p, g, h => by
    simp only [chkS] at h
    split at h
    · split at h
      · simp only [Bool.and_eq_true, decide_eq_true_eq] at h
        obtain ⟨⟨⟨⟨h1, h2⟩, h3⟩, h4⟩, h5⟩ := h
        rcases Bool.or_eq_true _ _ ▸ h4 with h4 | h4
        · obtain ⟨w1, w2, w3⟩ := swap2 g.kind g.sc h4
          exact rs_par2 g.calm g.nd (sto_ok g.toGood h1) (sto_ok g.toGood h2) h3 w2 w3 (soundFs _ g.toGood h5) w1
        · exact rs_parC2 g.calm g.nd (sto_ok g.toGood h1) (sto_ok g.toGood h2) h3 (soundFs _ g.toGood h5) (cell2 g.sc h4)
      · cases h
    · split at h
      · simp only [Bool.and_eq_true, decide_eq_true_eq] at h
        obtain ⟨⟨⟨⟨⟨⟨⟨h1, h2⟩, h2'⟩, h3⟩, h3'⟩, h3''⟩, h4⟩, h5⟩ := h
        rcases Bool.or_eq_true _ _ ▸ h4 with h4 | h4
        · obtain ⟨w1, w2, w3, w4⟩ := swap3 g.kind g.sc h4
          exact rs_par3 g.calm g.nd (sto_ok g.toGood h1) (sto_ok g.toGood h2) (sto_ok g.toGood h2') h3 h3' h3'' w2 w3 w4 (soundFs _ g.toGood h5) w1
        · exact rs_parC3 g.calm g.nd (sto_ok g.toGood h1) (sto_ok g.toGood h2) (sto_ok g.toGood h2') h3 h3' h3'' (soundFs _ g.toGood h5) (cell3 g.sc h4)
      · cases h
    · cases h
  | .aug i o e, c, X, S, C, W, k, p, g, h => by
    simp only [chkS] at h
    split at h
    · simp only [Bool.and_eq_true, decide_eq_true_eq] at h
      obtain ⟨⟨h1, rfl⟩, h2⟩ := h
      exact rs_aug g.K g.nd (sto_ok g.toGood h1) (dk_D (soundE e g.toGood h2))
    · cases h
  | .setI v i e, c, X, S, C, W, k, p, g, h => by
    simp only [chkS] at h
    split at h
    · simp only [Bool.and_eq_true] at h
      obtain ⟨⟨⟨⟨h1, h2⟩, h3⟩, h4⟩, h5⟩ := h
      exact rs_setI g.K g.toGood.units (pe_slot g.toGood h1) (dk_D (soundE i g.toGood h4)) (dk_D (soundE e g.toGood h5)) h2 (notB h3) rfl
    · cases h
  | .augI v i o e, c, X, S, C, W, k, p, g, h => by
    simp only [chkS] at h
    split at h
    · simp only [Bool.and_eq_true, decide_eq_true_eq] at h
      obtain ⟨⟨⟨⟨h1, h2⟩, rfl⟩, h4⟩, h5⟩ := h
      exact rs_augI g.K (pe_slot g.toGood h1) (dk_D (soundE i g.toGood h4)) (dk_D (soundE e g.toGood h5)) h2
    · cases h
  | .app v e, c, X, S, C, W, k, p, g, h => by
    simp only [chkS] at h
    split at h
    · simp only [Bool.and_eq_true, decide_eq_true_eq] at h
      obtain ⟨⟨⟨⟨rfl, h1⟩, h2⟩, h3⟩, h4⟩ := h
      exact rs_app (pe_slot g.toGood h1) (dk_D (soundE e g.toGood h4)) h2 h3
    · cases h
  | .ext v e, c, X, S, C, W, k, p, g, h => by
    simp only [chkS] at h
    split at h
    · simp only [Bool.and_eq_true, decide_eq_true_eq] at h
      obtain ⟨⟨⟨⟨rfl, h1⟩, h2⟩, h3⟩, h4⟩ := h
      exact rs_ext (pe_slot g.toGood h1) (dk_D (soundE e g.toGood h4)) h2 h3
    · cases h
  | .expr e, c, X, S, C, W, k, p, g, h => by
    simp only [chkS] at h
    split at h
    · rw [Bool.and_eq_true] at h
      exact rs_expr (dk_D (soundE e g.toGood h.2)) (notB h.1)
    · cases h
  | .ret e, c, X, S, C, W, k, p, g, h => by
    simp only [chkS] at h
    split at h
    · rw [Bool.and_eq_true, Bool.or_eq_true] at h
      have he := soundE e g.toGood h.1
      refine rs_ret (dk_any (dk_D he) fun hf => ?_)
      rcases h.2 with q | q
      · rw [← g.fr, hf] at q; cases q
      · rw [isFresh_ok g.toGood q] at he
        exact dk_uf he
    · cases h
  | .retN, c, X, S, C, W, k, p, g, h => by
    simp only [chkS] at h
    split at h
    · exact rs_retN
    · cases h
  | .pass, c, X, S, C, W, k, p, g, h => by
    simp only [chkS] at h
    split at h
    · exact rs_pass
    · cases h
  | .brk, c, X, S, C, W, k, p, g, h => by
    simp only [chkS] at h
    split at h
    · exact rs_brk
    · cases h
  | .cnt, c, X, S, C, W, k, p, g, h => by
    simp only [chkS] at h
    split at h
    · exact rs_cnt
    · cases h
  | .ifS t a b, c, X, S, C, W, k, p, g, h => by
    simp only [chkS] at h
    split at h
    · simp only [Bool.and_eq_true] at h
      exact rs_if (soundT t g.toGood h.1.1) (soundSs a g h.1.2) (soundSs b g h.2)
    · cases h
  | .forS tg it body, c, X, S, C, W, k, p, g, h => by
    simp only [chkS] at h
    split at h
    · simp only [Bool.and_eq_true] at h
      obtain ⟨⟨⟨h1, h2⟩, h3⟩, h4⟩ := h
      exact rs_for g.own g.calm (soundI it g.toGood h2) (soundTg tg g.toGood h3) (soundSs body g h4) (nset_ok h1)
    · cases h
  | .whl t body, c, X, S, C, W, k, p, g, h => by
    simp only [chkS] at h
    split at h
    · simp only [Bool.and_eq_true] at h
      exact rs_whl g.own (soundT t g.toGood h.1) (soundSs body g h.2)
    · cases h
  | .raise i, c, X, S, C, W, k, p, g, h => by
    simp only [chkS] at h
    split at h
    · simp only [Bool.and_eq_true, decide_eq_true_eq] at h
      obtain ⟨h1, h2⟩ := h
      obtain ⟨g1, g2, _⟩ := gl_ok g.toGood h2
      exact rs_raise g.calm g.tk (g.excs i _ h1) g1 g2
    · cases h
theorem soundSs : ∀ (sts : List Rf.St) {c : Cfg} {X : Cx} {S : Sit} {C : Calls} {W : WX} {k : Nat} {ps : List Stmt}, GoodS c X S C W k → chkSs sts c ps = true → PSs X ps (tSs S C W sts)
  | [], c, X, S, C, W, k, ps, g, h => by
    simp only [chkSs, List.isEmpty_iff] at h
    subst h
    exact rss_nil
  | st :: sts, c, X, S, C, W, k, ps, g, h => by
    simp only [chkSs] at h
    split at h
    · rw [Bool.and_eq_true] at h
      exact rss_cons (soundS st g h.1) (soundSs sts g h.2)
    · cases h
end
end Rf

/-! Rg, part U: how arguments bind; a def keeps its promise; the table. -/
namespace Rf
open PySem PySem.Spec PyProof.Rows L2
theorem lookup_zip {ns : List Str} {us : List Value} {n : Str} (hl : us.length = ns.length) (h : n ∈ ns) : ((ns.zip us).lookup n).isSome = true := by
  induction ns generalizing us with
  | nil => cases h
  | cons m ns ih =>
    cases us with
    | nil => simp at hl
    | cons u us =>
      rw [List.zip_cons_cons, List.lookup_cons]
      by_cases e : n = m
      · subst e; simp
      · rw [show (n == m) = false from beq_eq_false_iff_ne.mpr e]
        exact ih (by simpa using hl) (by rcases List.mem_cons.mp h with h | h; exact absurd h e; exact h)
theorem filterMap_eq {α β : Type} {f g : α → Option β} : ∀ {l : List α}, (∀ a ∈ l, f a = g a) → l.filterMap f = l.filterMap g
  | [], _ => rfl
  | a :: l, h => by
    rw [List.filterMap_cons, List.filterMap_cons, h a List.mem_cons_self, filterMap_eq fun b hb => h b (List.mem_cons_of_mem _ hb)]
theorem binds_zip {ns : List Str} {us : List Value} (hl : us.length = ns.length) (hn : ns.Nodup) : (ns.filterMap fun n => ((ns.zip us).lookup n).map fun v => (n, v)) = ns.zip us := by
  induction ns generalizing us with
  | nil => rfl
  | cons m ns ih =>
    cases us with
    | nil => simp at hl
    | cons u us =>
      have hn := List.nodup_cons.mp hn
      rw [List.zip_cons_cons, List.filterMap_cons]
      have e0 : (((m, u) :: ns.zip us).lookup m) = some u := by rw [List.lookup_cons]; simp
      rw [e0]
      simp only [Option.map_some]
      congr 1
      rw [← ih (us := us) (by simpa using hl) hn.2]
      refine filterMap_eq fun n h => ?_
      have : n ≠ m := fun e => hn.1 (e ▸ h)
      rw [List.lookup_cons, show (n == m) = false from beq_eq_false_iff_ne.mpr this, ih (us := us) (by simpa using hl) hn.2]
theorem bind_simple (x qual : Str) (as : List PySem.Arg) (body : List Stmt) (scope : Scope) (kV doc pm : Value) (an : Option Addr) (cdv ct : Value) (us : List Value) (hl : us.length = as.length) (hn : (as.map (·.arg)).Nodup) :
    bindArgs (PySem.W.fnOf x qual ⟨[], as, none, [], [], none, []⟩ body scope .none kV doc pm an cdv ct) ⟨us, []⟩ = pure ((as.map (·.arg)).zip us) := by
  have hm : ((List.take as.length (as.map (·.arg))).filter fun n => (((as.map (·.arg)).zip us).lookup n).isNone) = [] := by
    rw [show as.length = (as.map (·.arg)).length by simp, List.take_length, List.filter_eq_nil_iff]
    intro n hn
    have := lookup_zip (us := us) (by rw [List.length_map]; exact hl) hn
    cases e : ((as.map (·.arg)).zip us).lookup n with
    | none => rw [e] at this; cases this
    | some v => simp
  have hs : seqItems? Value.none = pure none := rfl
  have hb := binds_zip (us := us) (ns := as.map (·.arg)) (by rw [List.length_map]; exact hl) hn
  unfold bindArgs
  simp [PySem.W.fnOf, hs, hl]
  rw [if_neg (by simp [hm])]
  congr 1
  rw [List.filterMap_map] at hb
  exact hb
theorem bind_args {x qual : Str} {params : Arguments} {ps : List Str} {body : List Stmt} {scope : Scope} (hp : (match params with
    | ⟨[], as, none, [], [], none, []⟩ => decide (as.map (·.arg) = ps)
    | _ => false) = true) (hn : ps.Nodup) (kV doc pm : Value) (an : Option Addr) (cdv ct : Value) (us : List Value) (hl : us.length = ps.length) :
    bindArgs (PySem.W.fnOf x qual params body scope .none kV doc pm an cdv ct) ⟨us, []⟩ = pure (ps.zip us) := by
  split at hp
  · rename_i as
    obtain rfl := of_decide_eq_true hp
    exact bind_simple x qual as body scope kV doc pm an cdv ct us (by rw [hl, List.length_map]) hn
  · cases hp
/-! ### a def, the table -/
structure TD where
  nm : Str
  st : Stmt
  N : List Str
  ps : List Str
  fd : Fn
def TD.sig (t : TD) : Sig := ⟨t.nm, t.fd.ps, t.fd.io, t.fd.fr⟩
structure Lib where
  tds : List TD
  free : List Str
  globs : List (Str × D)
  excs : List Str
def Lib.tab (L : Lib) : Tab := L.tds.map (·.fd)
def Lib.cfg (L : Lib) (t : TD) : Cfg := ⟨defScope t.st, defScope t.st, t.N, t.fd.io, t.fd.fr, L.free, L.tds.map TD.sig, L.globs, L.excs⟩
/-- is the def's text its tree -/
def Lib.ok (L : Lib) (t : TD) : Bool := chkSs t.fd.body (L.cfg t) (defBody t.st) && (match defArgs t.st with
    | ⟨[], as, none, [], [], none, []⟩ => decide (as.map (·.arg) = t.ps)
    | _ => false) && decide (t.fd.n = t.N.length) && decide (t.fd.ps = t.ps.length) && decide (t.N.take t.ps.length = t.ps) && decide ((defScope t.st).kind = .function) && !(defScope t.st).isCoroutine && !(defScope t.st).isGenerator && decide t.N.Nodup &&
  (t.ps.all fun x => decide ((defScope t.st).names.lookup x = some .local) || decide ((defScope t.st).names.lookup x = some .cell)) && ((defScope t.st).names.all fun y => decide (y.2 ≠ .free)) && (t.fd.io.all fun i => decide (i < t.ps.length))
/-- what the module holds -/
structure Facts (L : Lib) (K : PySem.W.Frag) (mg : Str → Option Value) (cls : Nat → Option Value) : Prop where
  defs : ∀ t ∈ L.tds, ∃ fd, FunD K t.nm t.nm (defArgs t.st) (defBody t.st) (defScope t.st) [] [] (He.ga K t.nm) fd
  glo : ∀ t ∈ L.tds, mg t.nm = some (.ref (He.ga K t.nm))
  free : ∀ x ∈ L.free, mg x = none
  glob : ∀ x d, L.globs.lookup x = some d → ∃ u v, mg x = some u ∧ scl d = some v ∧ RelV v u
  excs : ∀ (i : Nat) x, L.excs[i]? = some x → ∃ a, mg x = some (.ref a) ∧ cls i = some (.ref a) ∧ PySem.W.excIn K a He.veBase "ValueError.__new__" = true ∧ PySem.W.keepIn K (.ref a) = true ∧ PySem.W.subIn K (.ref a) (.type "BaseException") = some true ∧ PySem.W.typeIn K (.ref a) = some (.type "type")
theorem outs_io {io : List Nat} {s : Env} {o : List D} (h : outs io s = some o) : True := trivial
section
variable {L : Lib} {P : Program} {w : World} {K : PySem.W.Frag} {mg : Str → Option Value} {base : Heap} {cls : Nat → Option Value}
theorem td_scope {t : TD} (h : L.ok t = true) : FnScope t.N t.ps (defScope t.st) := by
  unfold Lib.ok at h
  simp only [Bool.and_eq_true, decide_eq_true_eq] at h
  obtain ⟨⟨⟨⟨⟨⟨⟨⟨⟨⟨⟨h1, h2⟩, h3⟩, h4⟩, h5⟩, h6⟩, h7⟩, h8⟩, h9⟩, h10⟩, h11⟩, h12⟩ := h
  refine ⟨h6, notB h7, notB h8, h9, h5, fun x hx => ?_, fun y hy => of_decide_eq_true (List.all_eq_true.mp h11 y hy)⟩
  have := List.all_eq_true.mp h10 x hx
  simp only [Bool.or_eq_true, decide_eq_true_eq] at this
  exact this
/-- what the def of the place j reckons is what it does -/
theorem table_ok (F : Facts L K mg cls) (hL : ∀ t ∈ L.tds, L.ok t = true) (wf : Nat) : ∀ (k : Nat) (j : Nat) (t : TD) (fd : FuncData), L.tds[j]? = some t → FunD K t.nm t.nm (defArgs t.st) (defBody t.st) (defScope t.st) [] [] (He.ga K t.nm) fd → Binds K fd t.ps [] ∧ PySem.W.keepIn K (.ref (He.ga K t.nm)) = true ∧
    FnOk P w K mg base (L2.CX P w) k (He.ga K t.nm) fd t.ps (spOf K cls (run L.tab wf k j) t.fd.io t.fd.fr t.fd.ps t.N)
  | k, j, t, fd, hj, hfd => by
    have ht : t ∈ L.tds := List.mem_of_getElem? hj
    have hok := hL t ht
    have hsc := td_scope hok
    have hok2 := hok
    unfold Lib.ok at hok2
    simp only [Bool.and_eq_true, decide_eq_true_eq] at hok2
    obtain ⟨⟨⟨⟨⟨⟨⟨⟨⟨⟨⟨h1, h2⟩, h3⟩, h4⟩, h5⟩, h6⟩, h7⟩, h8⟩, h9⟩, h10⟩, h11⟩, h12⟩ := hok2
    have hps : t.ps.Nodup := by rw [← h5]; exact h9.sublist (List.take_sublist _ _)
    refine ⟨hfd.bindsN (bind_args h2 hps), hfd.kp, ?_⟩
    cases k with
    | zero =>
      exact ⟨fun vs H Q E h => by rw [h.1, h4], fun A outer s H args us vs Q E hr he hb hv h => by
        obtain ⟨_, G, O, ds, _, _, h⟩ := h
        exact False.elim h⟩
    | succ k =>
      refine hfd.ok hsc (fun vs H Q E h => by rw [h.1, h4]) fun cdv A outer s H vs Q E hr h => ?_
      obtain ⟨hl, G, O, ds, hds, sr, fin⟩ := h
      let S : Sit := ⟨K, cls, G, ioV t.fd.io vs, t.fd.fr⟩
      let C : Calls := ⟨run L.tab wf k, frOf L.tab, wf⟩
      let W : WX := fun c d _ H => E c d H
      refine ⟨tSs S C W t.fd.body, ?_, ?_⟩
      · have tk : Takes (cxOf (L2.CX P w) P w K mg base t.N t.nm (defScope t.st) (He.ga K t.nm) cdv A outer s H E) W := takes_of rfl rfl rfl rfl
        refine soundSs t.fd.body (c := L.cfg t) (k := k) ⟨⟨rfl, rfl, h9, rfl, rfl, fun x h => ⟨h, .inl rfl⟩, fun p hp => ?_, hr, tk, F.free, F.glob, fun i sg hi => ?_, fun i => ?_, fun i x hx => ?_⟩, h6, ?_, rfl⟩ h1
        · obtain ⟨i, hi, e⟩ := List.mem_filterMap.mp hp
          obtain ⟨v, hv, rfl⟩ := Option.map_eq_some_iff.mp e
          exact hi
        · have hi : (L.tds.map TD.sig)[i]? = some sg := hi
          rw [List.getElem?_map] at hi
          obtain ⟨u, hu, rfl⟩ := Option.map_eq_some_iff.mp hi
          obtain ⟨fdu, hfu⟩ := F.defs u (List.mem_of_getElem? hu)
          obtain ⟨b1, b2, b3⟩ := table_ok F hL wf k i u fdu hu hfu
          have hu2 := hL u (List.mem_of_getElem? hu)
          have scu := td_scope hu2
          have hle : u.fd.ps ≤ u.N.length := by
            unfold Lib.ok at hu2
            simp only [Bool.and_eq_true, decide_eq_true_eq] at hu2
            obtain ⟨⟨⟨⟨⟨⟨⟨⟨⟨⟨⟨_, _⟩, _⟩, q4⟩, q5⟩, _⟩, _⟩, _⟩, _⟩, _⟩, _⟩, _⟩ := hu2
            have := congrArg List.length q5
            rw [List.length_take] at this
            omega
          exact ⟨_, fdu, u.ps, u.N, F.glo u (List.mem_of_getElem? hu), b2, b1, hle, b3⟩
        · show frOf L.tab i = (((L.tds.map TD.sig)[i]?).map (·.fr)).getD false
          unfold frOf Lib.tab
          rw [List.getElem?_map, List.getElem?_map]
          cases L.tds[i]? <;> rfl
        · obtain ⟨a, a1, a2, a3, a4, a5, a6⟩ := F.excs i x hx
          exact ⟨a, a1, a2, a3, a4, raises_own a5 a6⟩
        · exact passes_of rfl
      · have hlen : t.N.length - t.fd.ps = t.fd.n - t.fd.ps := by rw [h3]
        rw [hlen] at sr
        refine ⟨_, O, sr, ?_⟩
        have hT : L.tab[j]? = some t.fd := by unfold Lib.tab; rw [List.getElem?_map, hj]; rfl
        have hrun : run L.tab wf (k + 1) j ds = finish t.fd (execSs C t.fd.body (enterE t.fd.io 0 ds ++ List.replicate (t.fd.n - t.fd.ps) Sl.no)) := by
          show (match L.tab[j]? with
            | none => CR.stuck
            | some fd => if ds.length = fd.ps then finish fd (execSs ⟨run L.tab wf k, frOf L.tab, wf⟩ fd.body (enterE fd.io 0 ds ++ List.replicate (fd.n - fd.ps) Sl.no)) else .stuck) = _
          rw [hT]
          simp only [hds, if_true]
          rfl
        rw [hrun] at fin
        generalize execSs C t.fd.body (enterE t.fd.io 0 ds ++ List.replicate (t.fd.n - t.fd.ps) Sl.no) = r at fin
        cases r with
        | stuck => exact False.elim fin
        | bk s => exact False.elim fin
        | ct s => exact False.elim fin
        | nx s' =>
          unfold finish at fin
          cases ho : outs t.fd.io s' with
          | none => simp only [ho] at fin; exact False.elim fin
          | some o =>
            simp only [ho] at fin
            intro H' O' σ' x tt
            refine fin H' O' s' σ' .non x tt ho ?_
            show if t.fd.fr = true then _ else _
            split
            · exact ⟨rfl, fun c => by cases c⟩
            · rfl
        | ret d s' =>
          unfold finish at fin
          cases ho : outs t.fd.io s' with
          | none => simp only [ho] at fin; exact False.elim fin
          | some o =>
            simp only [ho] at fin
            exact fun H' O' σ' v x tt hv => fin H' O' s' σ' v x tt ho hv
        | exc y s' =>
          unfold finish at fin
          cases ho : outs t.fd.io s' with
          | none => simp only [ho] at fin; exact False.elim fin
          | some o =>
            simp only [ho] at fin
            exact fun c dd H' O' σ' x tt hx => fin c dd H' O' s' σ' x tt ho hx
end
end Rf

/-! Rg, part V: a law's end. -/
namespace Rf
open PySem PySem.Spec PyProof.Rows L2
theorem fn_cx0 {P : Program} {w : World} {K : PySem.W.Frag} {mg : Str → Option Value} {base : Heap} {k : Nat} {f : Addr} {fd : FuncData} {ps : List Str} {sp : Sp} (F : FnOk P w K mg base (L2.CX P w) k f fd ps sp) :
    FnOk P w K mg base CX0 k f fd ps (fun vs H Q _ => sp vs H Q E0) :=
  ⟨fun vs H Q E h => F.len vs H Q E0 h, fun A outer s H args us vs Q E hr he hb hv h => codeAny_mono (F.run A outer s H args us vs Q E0 hr he hb hv h) fun r s' q => by
    cases r with
    | error e =>
      obtain ⟨_, _, _, _, _, _, _, _, _, _, _, _, z⟩ := q
      exact False.elim z
    | ok fl => cases fl <;> exact q⟩
/-- the head's facts of a lib -/
def Lib.fn (L : Lib) : List He.DefD := L.tds.map fun t => ⟨(t.nm, none), t.nm, t.nm, defArgs t.st, defBody t.st, defScope t.st, [], []⟩
def gFa : Str × D → List He.Fa
  | (x, .int i) => [.int x i]
  | (x, .str z) => [.str x z]
  | _ => []
def Lib.fa (L : Lib) : List He.Fa := (L.tds.map fun t => He.Fa.glo t.nm) ++ (L.free.map He.Fa.free) ++ L.globs.flatMap gFa ++ L.excs.flatMap fun x => [He.Fa.glo x, He.Fa.exc x]
def Lib.cls (L : Lib) (K : PySem.W.Frag) (i : Nat) : Option Value := (L.excs[i]?).map fun x => .ref (He.ga K x)
def gOk : Str × D → Bool
  | (_, .int _) => true
  | (_, .str _) => true
  | _ => false
theorem lookup_mem {x : Str} {d : D} : ∀ {l : List (Str × D)}, l.lookup x = some d → (x, d) ∈ l
  | [], h => by cases h
  | (y, e) :: l, h => by
    rw [List.lookup_cons] at h
    cases q : (x == y) with
    | true =>
      rw [q] at h
      cases h
      rw [eq_of_beq q]; exact List.mem_cons_self
    | false =>
      rw [q] at h
      exact List.mem_cons_of_mem _ (lookup_mem h)
theorem lib_facts {L : Lib} {K : PySem.W.Frag} {h : Heap} {mg : Str → Option Value} (X : K.In h) (G : h.Ns mainGlobals mg) (c : He.SaysD L.fa L.fn K) (hg : L.globs.all gOk = true) : Facts L K mg (L.cls K) where
  defs := fun t ht => c.defs (d := ⟨(t.nm, none), t.nm, t.nm, defArgs t.st, defBody t.st, defScope t.st, [], []⟩) (List.mem_map.mpr ⟨t, ht, rfl⟩)
  glo := fun t ht => He.glo_ok X G (c.facts (f := .glo t.nm) (List.mem_append_left _ (List.mem_append_left _ (List.mem_append_left _ (List.mem_map.mpr ⟨t, ht, rfl⟩)))))
  free := fun x hx => He.free_ok X G (c.facts (f := .free x) (List.mem_append_left _ (List.mem_append_left _ (List.mem_append_right _ (List.mem_map.mpr ⟨x, hx, rfl⟩)))))
  glob := fun x d hd => by
    have hm := lookup_mem hd
    have ho := List.all_eq_true.mp hg _ hm
    cases d <;> try (cases ho; done)
    · rename_i i
      obtain ⟨t, e⟩ := He.int_ok X G (c.facts (f := .int x i) (List.mem_append_left _ (List.mem_append_right _ (List.mem_flatMap.mpr ⟨_, hm, List.mem_singleton.mpr rfl⟩))))
      exact ⟨_, _, e, rfl, t, rfl⟩
    · rename_i z
      obtain ⟨t, e⟩ := He.str_ok X G (c.facts (f := .str x z) (List.mem_append_left _ (List.mem_append_right _ (List.mem_flatMap.mpr ⟨_, hm, List.mem_singleton.mpr rfl⟩))))
      exact ⟨_, _, e, rfl, t, rfl⟩
  excs := fun i x hx => by
    have hm := List.mem_of_getElem? hx
    have h1 := He.glo_ok X G (c.facts (f := .glo x) (List.mem_append_right _ (List.mem_flatMap.mpr ⟨_, hm, List.mem_cons_self⟩)))
    obtain ⟨h2, h3, h4, h5⟩ := He.exc_ok (c.facts (f := .exc x) (List.mem_append_right _ (List.mem_flatMap.mpr ⟨_, hm, List.mem_cons_of_mem _ List.mem_cons_self⟩)))
    exact ⟨He.ga K x, h1, by unfold Lib.cls; rw [hx]; rfl, h2, h3, h4, h5⟩
/-- the law's def at the place j: told true -/
theorem law_fn {L : Lib} {P : Program} {w : World} {K : PySem.W.Frag} {h : Heap} {mg : Str → Option Value} {f : Addr} {j k wf : Nat} {t : TD} {n : Nat} {x : Str} (X : K.In h) (G : h.Ns mainGlobals mg) (c : He.SaysD L.fa L.fn K) (hg : L.globs.all gOk = true) (hL : (L.tds.all fun t => L.ok t) = true)
    (hj : L.tds[j]? = some t) (hp : t.ps = [x]) (hio : t.fd.io = []) (hfr : t.fd.fr = false) (hn : t.fd.ps = 1) (hmg : mg t.nm = some (.ref f)) (hrun : ∀ ns : List Int, ns.length ≤ n → run L.tab wf k j [.scr ns] = .ok (.bl true) []) :
    ∃ (fd : FuncData) (sp : Sp), (∀ (s : Shared) (u : Value), BindsTo s fd ⟨[u], []⟩ [(x, u)]) ∧
      (∀ (H : Hp) (a : Addr) (ns : List Int), ns.length ≤ n → L2.Only H → SqL K H a (ns.map V.int) → sp [.ref a] H (fun v _ => v = .bl true) fun _ _ _ => False) ∧
      ∀ base : Heap, K.In base → base.Ns mainGlobals mg → FnOk P w K mg base CX0 k f fd [x] sp := by
  have hL' : ∀ t ∈ L.tds, L.ok t = true := fun t ht => List.all_eq_true.mp hL t ht
  have F := lib_facts X G c hg
  have ht : t ∈ L.tds := List.mem_of_getElem? hj
  have e := hmg.symm.trans (F.glo t ht)
  cases e
  obtain ⟨fd, hfd⟩ := F.defs t ht
  have hok := hL' t ht
  have hb : (match defArgs t.st with
    | ⟨[], as, none, [], [], none, []⟩ => decide (as.map (·.arg) = t.ps)
    | _ => false) = true := by
    unfold Lib.ok at hok
    simp only [Bool.and_eq_true] at hok
    exact hok.1.1.1.1.1.1.1.1.1.1.2
  have sc := td_scope hok
  have hps : t.ps.Nodup := by rw [← sc.pre]; exact sc.nd.sublist (List.take_sublist _ _)
  refine ⟨fd, fun vs H Q _ => spOf K (L.cls K) (run L.tab wf k j) [] false 1 t.N vs H Q E0, fun s u => ?_, fun H a ns hlen hO hS => ?_, fun base hKb hGb => ?_⟩
  · have := hfd.bindsA (ps := t.ps) (bind_args hb hps) s [u] (by rw [hp]; rfl)
    rw [hp] at this
    exact this
  · refine ⟨rfl, fun _ => False, fun _ => False, [.scr ns], rfl, ⟨?_, fun a h => by rcases h with h | h <;> exact False.elim h, fun a h => False.elim h, fun i d e => ?_, fun i d e => ?_, fun p hp => (nomatch hp), fun x y v h1 h2 => ?_, fun p hp => (nomatch hp)⟩, ?_⟩
    · have hle : 1 ≤ t.N.length := by
        have := congrArg List.length sc.pre
        rw [List.length_take, hp] at this
        simp at this
        omega
      rw [List.length_append, enterE_len, List.length_replicate, start_len (by simpa using hle)]
      simp; omega
    · rcases enter_sl e with e | ⟨d', hd, e⟩
      · cases e
      · cases i with
        | zero =>
          simp at hd
          subst hd
          cases e
          exact ⟨_, start_at rfl, a, rfl, hS.elim (fun r => .inl ⟨r, fun h => h.elim id id⟩) .inr⟩
        | succ i => simp at hd
    · rcases enter_sl e with e | ⟨d', hd, e⟩
      · cases e
      · cases e
    · cases x with
      | inl i =>
        obtain ⟨d, e, _, _⟩ := rt_inl.mp h1
        rcases enter_sl e with e | ⟨d', hd, e⟩
        · cases e
        · cases e
      | inr i =>
        obtain ⟨d, e, _⟩ := rt_inr.mp h1
        simp at e
    · rw [hrun ns hlen]
      intro H' O' s σ' v xt tt ho hv
      exact hv
  · obtain ⟨b1, b2, FK⟩ := table_ok (P := P) (w := w) (base := base) F hL' wf k j t fd hj hfd
    rw [hp, hio, hfr, hn] at FK
    exact fn_cx0 FK
end Rf

/-! Rg, part W: reckoning runs. -/
namespace Rf
open PySem
/-- ties a part of a term, so that rewriting leaves it as it stands -/
inductive Tag {α : Type} (a : α) : Type where
  | mk
/-- `bind`, its second part tied -/
def R.bnd {α β : Type} (r : R α) (f : α → Env → R β) (_ : Tag f := .mk) : R β := r.bind f
/-- `thn`, its second part tied -/
def R.tho {α : Type} (r : R α) (f : α → Env → Rf.S) (_ : Tag f := .mk) : Rf.S := r.thn f
/-- `finish`, its function tied -/
def finW (fd : Fn) (r : Rf.S) (_ : Tag fd := .mk) : CR := Rf.finish fd r
/-- the calls of a table at a level -/
def cl (T : Tab) (w k : Nat) : Calls := ⟨run T w k, frOf T, w⟩
theorem run_def {T : Tab} {w k f : Nat} {fd : Fn} {ds : List D} (hT : T[f]? = some fd) (hl : ds.length = fd.ps) :
    run T w (k + 1) f ds = Rf.finW fd (execSs (cl T w k) fd.body (enterE fd.io 0 ds ++ List.replicate (fd.n - fd.ps) Sl.no)) := by
  show (match T[f]? with
    | none => CR.stuck
    | some fd => if ds.length = fd.ps then Rf.finish fd (execSs ⟨run T w k, frOf T, w⟩ fd.body (enterE fd.io 0 ds ++ List.replicate (fd.n - fd.ps) Sl.no)) else .stuck) = _
  rw [hT]
  simp only [hl, if_true]
  rfl
@[simp] theorem cl_fn {T : Tab} {w k : Nat} : (cl T w k).fn = run T w k := rfl
@[simp] theorem cl_fr {T : Tab} {w k : Nat} : (cl T w k).fr = frOf T := rfl
@[simp] theorem cl_fuel {T : Tab} {w k : Nat} : (cl T w k).fuel = w := rfl
theorem fr_of {T : Tab} {f : Nat} {fd : Fn} (hT : T[f]? = some fd) : frOf T f = fd.fr := by unfold frOf; rw [hT]
section
variable {α β : Type} {a : α} {s : Env} {x : D} {f : α → Env → R β} {g : α → Env → Rf.S} {h : α → Rf.S}
@[simp] theorem bind_ok : (R.ok a s).bind f = f a s := Eq.trans rfl rfl
@[simp] theorem bind_exc : (R.exc x s : R α).bind f = .exc x s := Eq.trans rfl rfl
@[simp] theorem bind_stuck : (R.stuck : R α).bind f = .stuck := Eq.trans rfl rfl
@[simp] theorem thn_ok : (R.ok a s).thn g = g a s := Eq.trans rfl rfl
@[simp] theorem thn_exc : (R.exc x s : R α).thn g = .exc x s := Eq.trans rfl rfl
@[simp] theorem thn_stuck : (R.stuck : R α).thn g = .stuck := Eq.trans rfl rfl
@[simp] theorem bnd_ok : (R.ok a s).bnd f = f a s := Eq.trans rfl rfl
@[simp] theorem bnd_exc : (R.exc x s : R α).bnd f = .exc x s := Eq.trans rfl rfl
@[simp] theorem bnd_stuck : (R.stuck : R α).bnd f = .stuck := Eq.trans rfl rfl
@[simp] theorem tho_ok : (R.ok a s).tho g = g a s := Eq.trans rfl rfl
@[simp] theorem tho_exc : (R.exc x s : R α).tho g = .exc x s := Eq.trans rfl rfl
@[simp] theorem tho_stuck : (R.stuck : R α).tho g = .stuck := Eq.trans rfl rfl
@[simp] theorem optR_some : optR (some a) s = .ok a s := Eq.trans rfl rfl
@[simp] theorem optR_none : optR (none : Option α) s = .stuck := Eq.trans rfl rfl
@[simp] theorem optS_some : optS (some a) h = h a := Eq.trans rfl rfl
@[simp] theorem optS_none : optS (none : Option α) h = .stuck := Eq.trans rfl rfl
end
section
variable {C : Calls} {s s1 : Env} {st : Rf.St} {r : List Rf.St} {d x : D}
/-- first this, then that -/
def seqS (r : Rf.S) (f : Env → Rf.S) (_ : Tag f := .mk) : Rf.S := match r with
  | .nx s1 => f s1
  | x => x
theorem ss_nil : execSs C [] s = .nx s := Eq.trans rfl rfl
theorem ss_cons : execSs C (st :: r) s = seqS (execS C st s) (execSs C r) := Eq.trans rfl rfl
variable {f : Env → Rf.S} {cls : D}
@[simp] theorem seq_nx : seqS (.nx s) f = f s := Eq.trans rfl rfl
@[simp] theorem seq_bk : seqS (.bk s) f = .bk s := Eq.trans rfl rfl
@[simp] theorem seq_ct : seqS (.ct s) f = .ct s := Eq.trans rfl rfl
@[simp] theorem seq_ret : seqS (.ret d s) f = .ret d s := Eq.trans rfl rfl
@[simp] theorem seq_exc : seqS (.exc d s) f = .exc d s := Eq.trans rfl rfl
@[simp] theorem seq_stuck : seqS .stuck f = .stuck := Eq.trans rfl rfl
end
section
variable {a b : Int} {p q : Bool} {ds es : List D} {x : Str} {d : D}
@[simp] theorem isTy_non_int : isTy .non .int = some false := rfl
@[simp] theorem isTy_non_bool : isTy .non .bool = some false := rfl
@[simp] theorem isTy_non_str : isTy .non .str = some false := rfl
@[simp] theorem isTy_non_tuple : isTy .non .tuple = some false := rfl
@[simp] theorem isTy_non_list : isTy .non .list = some false := rfl
@[simp] theorem isTy_non_dict : isTy .non .dict = some false := rfl
@[simp] theorem isTy_bl_int : isTy (.bl p) .int = some true := rfl
@[simp] theorem isTy_bl_bool : isTy (.bl p) .bool = some true := rfl
@[simp] theorem isTy_bl_str : isTy (.bl p) .str = some false := rfl
@[simp] theorem isTy_bl_tuple : isTy (.bl p) .tuple = some false := rfl
@[simp] theorem isTy_bl_list : isTy (.bl p) .list = some false := rfl
@[simp] theorem isTy_bl_dict : isTy (.bl p) .dict = some false := rfl
@[simp] theorem isTy_int_int : isTy (.int a) .int = some true := rfl
@[simp] theorem isTy_int_bool : isTy (.int a) .bool = some false := rfl
@[simp] theorem isTy_int_str : isTy (.int a) .str = some false := rfl
@[simp] theorem isTy_int_tuple : isTy (.int a) .tuple = some false := rfl
@[simp] theorem isTy_int_list : isTy (.int a) .list = some false := rfl
@[simp] theorem isTy_int_dict : isTy (.int a) .dict = some false := rfl
@[simp] theorem isTy_str_int : isTy (.str x) .int = some false := rfl
@[simp] theorem isTy_str_bool : isTy (.str x) .bool = some false := rfl
@[simp] theorem isTy_str_str : isTy (.str x) .str = some true := rfl
@[simp] theorem isTy_str_tuple : isTy (.str x) .tuple = some false := rfl
@[simp] theorem isTy_str_list : isTy (.str x) .list = some false := rfl
@[simp] theorem isTy_str_dict : isTy (.str x) .dict = some false := rfl
@[simp] theorem isTy_tup_int : isTy (.tup ds) .int = some false := rfl
@[simp] theorem isTy_tup_bool : isTy (.tup ds) .bool = some false := rfl
@[simp] theorem isTy_tup_str : isTy (.tup ds) .str = some false := rfl
@[simp] theorem isTy_tup_tuple : isTy (.tup ds) .tuple = some true := rfl
@[simp] theorem isTy_tup_list : isTy (.tup ds) .list = some false := rfl
@[simp] theorem isTy_tup_dict : isTy (.tup ds) .dict = some false := rfl
@[simp] theorem isTy_lst_int : isTy (.lst ds) .int = some false := rfl
@[simp] theorem isTy_lst_bool : isTy (.lst ds) .bool = some false := rfl
@[simp] theorem isTy_lst_str : isTy (.lst ds) .str = some false := rfl
@[simp] theorem isTy_lst_tuple : isTy (.lst ds) .tuple = some false := rfl
@[simp] theorem isTy_lst_list : isTy (.lst ds) .list = some true := rfl
@[simp] theorem isTy_lst_dict : isTy (.lst ds) .dict = some false := rfl
@[simp] theorem isTys_nil : isTys d [] = some false := Eq.trans rfl rfl
theorem isTys_cons {t : Ty} {r : List Ty} : isTys d (t :: r) = (match isTy d t with
    | some true => some true
    | some false => isTys d r
    | none => none) := rfl
@[simp] theorem truth_non : truth .non = some false := Eq.trans rfl rfl
@[simp] theorem truth_bl : truth (.bl p) = some p := Eq.trans rfl rfl
@[simp] theorem truth_int : truth (.int a) = some (decide (a ≠ 0)) := Eq.trans rfl rfl
@[simp] theorem truth_tup : truth (.tup ds) = some (!ds.isEmpty) := Eq.trans rfl rfl
@[simp] theorem truth_lst : truth (.lst ds) = some (!ds.isEmpty) := Eq.trans rfl rfl
@[simp] theorem bin_add : bin .add (.int a) (.int b) = some (.int (a + b)) := Eq.trans rfl rfl
@[simp] theorem bin_sub : bin .sub (.int a) (.int b) = some (.int (a - b)) := Eq.trans rfl rfl
theorem bin_mul (h : mulOk a b = true) : bin .mul (.int a) (.int b) = some (.int (a * b)) := by simp only [bin, h, if_true]
theorem bin_fdiv (h : divOk b = true) : bin .fdiv (.int a) (.int b) = some (.int (a / b)) := by simp only [bin, h, if_true]
theorem bin_mod (h : 0 < b) : bin .mod (.int a) (.int b) = some (.int (a % b)) := by simp only [bin, h, if_true]
theorem bin_catL (h : ds.length + es.length ≤ sizeLine) : bin .add (.lst ds) (.lst es) = some (.lst (ds ++ es)) := by simp only [bin, h, if_true]
theorem bin_catT (h : ds.length + es.length ≤ sizeLine) : bin .add (.tup ds) (.tup es) = some (.tup (ds ++ es)) := by simp only [bin, h, if_true]
theorem mulOk_r (h : b.natAbs < 2 ^ 64) : mulOk a b = true := by simp [mulOk, h]
theorem mulOk_l (h : a.natAbs < 2 ^ 64) : mulOk a b = true := by simp [mulOk, h]
theorem divOk_s (h : 0 < b) (h2 : b < 1073741824) : divOk b = true := by simp [divOk, h, h2]
@[simp] theorem iop_add' : iop .add (.int a) (.int b) = some (.int (a + b)) := Eq.trans rfl rfl
@[simp] theorem iop_sub' : iop .sub (.int a) (.int b) = some (.int (a - b)) := Eq.trans rfl rfl
@[simp] theorem cmp_lt : cmp .lt (.int a) (.int b) = some (decide (a < b)) := Eq.trans rfl rfl
@[simp] theorem cmp_le : cmp .le (.int a) (.int b) = some (decide (a ≤ b)) := Eq.trans rfl rfl
@[simp] theorem cmp_gt : cmp .gt (.int a) (.int b) = some (decide (b < a)) := Eq.trans rfl rfl
@[simp] theorem cmp_ge : cmp .ge (.int a) (.int b) = some (decide (b ≤ a)) := Eq.trans rfl rfl
theorem dep0 : decide ((0 : Nat) ≤ 60) = true := rfl
@[simp] theorem cmpb_int : cmpb (.int a) = true := rfl
@[simp] theorem cmpb_bl : cmpb (.bl p) = true := rfl
@[simp] theorem cmpb_non : cmpb .non = true := rfl
@[simp] theorem cmp_eq_int : cmp .eq (.int a) (.int b) = some (decide (a = b)) := Eq.trans rfl rfl
@[simp] theorem cmp_ne_int : cmp .ne (.int a) (.int b) = some (!decide (a = b)) := Eq.trans rfl rfl
@[simp] theorem cmp_eq_bl : cmp .eq (.bl p) (.bl q) = some (p == q) := Eq.trans rfl rfl
@[simp] theorem cmp_ne_bl : cmp .ne (.bl p) (.bl q) = some (!(p == q)) := Eq.trans rfl rfl
@[simp] theorem cmp_is_non : cmp .is .non .non = some true := Eq.trans rfl rfl
@[simp] theorem cmp_is_int : cmp .is (.int a) .non = some false := Eq.trans rfl rfl
@[simp] theorem cmp_is_bl : cmp .is (.bl p) .non = some false := Eq.trans rfl rfl
@[simp] theorem cmp_is_str : cmp .is (.str x) .non = some false := Eq.trans rfl rfl
@[simp] theorem cmp_is_tup : cmp .is (.tup ds) .non = some false := Eq.trans rfl rfl
@[simp] theorem cmp_is_lst : cmp .is (.lst ds) .non = some false := Eq.trans rfl rfl
@[simp] theorem p1_len_lst : p1 .len (.lst ds) = some (.int ds.length) := Eq.trans rfl rfl
@[simp] theorem p1_len_tup : p1 .len (.tup ds) = some (.int ds.length) := Eq.trans rfl rfl
@[simp] theorem p1_int_int : p1 .int (.int a) = some (.int a) := Eq.trans rfl rfl
@[simp] theorem p1_abs_int : p1 .abs (.int a) = some (.int (if a < 0 then -a else a)) := Eq.trans rfl rfl
@[simp] theorem p1_tuple_lst : p1 .tuple (.lst ds) = some (.tup ds) := Eq.trans rfl rfl
@[simp] theorem p1_tuple_tup : p1 .tuple (.tup ds) = some (.tup ds) := Eq.trans rfl rfl
@[simp] theorem p1_list_lst : p1 .list (.lst ds) = some (.lst ds) := Eq.trans rfl rfl
@[simp] theorem p1_list_tup : p1 .list (.tup ds) = some (.lst ds) := Eq.trans rfl rfl
@[simp] theorem p2_min_int : p2 .min (.int a) (.int b) = some (.int (if b < a then b else a)) := Eq.trans rfl rfl
@[simp] theorem p2_max_int : p2 .max (.int a) (.int b) = some (.int (if b > a then b else a)) := Eq.trans rfl rfl
@[simp] theorem isC_non : isC .non = false := rfl
@[simp] theorem isC_bl : isC (.bl p) = false := rfl
@[simp] theorem isC_int : isC (.int a) = false := rfl
@[simp] theorem isC_str : isC (.str x) = false := rfl
@[simp] theorem isC_tup : isC (.tup ds) = false := rfl
@[simp] theorem isC_lst' : isC (.lst ds) = true := rfl
@[simp] theorem mkSl_f : mkSl false d = .sh d := Eq.trans rfl rfl
@[simp] theorem mkSl_non {b : Bool} : mkSl b .non = .sh .non := by cases b <;> rfl
@[simp] theorem mkSl_bl {b : Bool} : mkSl b (.bl p) = .sh (.bl p) := by cases b <;> rfl
@[simp] theorem mkSl_int {b : Bool} : mkSl b (.int a) = .sh (.int a) := by cases b <;> rfl
@[simp] theorem mkSl_str {b : Bool} : mkSl b (.str x) = .sh (.str x) := by cases b <;> rfl
@[simp] theorem mkSl_tup {b : Bool} : mkSl b (.tup ds) = .sh (.tup ds) := by cases b <;> rfl
@[simp] theorem mkSl_lst : mkSl true (.lst ds) = .ow (.lst ds) := Eq.trans rfl rfl
@[simp] theorem seqOf_lst : seqOf (.lst ds) = some ds := Eq.trans rfl rfl
@[simp] theorem seqOf_tup : seqOf (.tup ds) = some ds := Eq.trans rfl rfl
@[simp] theorem bindT_nm {fr : Bool} {i : Nat} {s : Env} : bindT fr (.nm i) d s = some (s.set i (mkSl fr d)) := Eq.trans rfl rfl
@[simp] theorem fin_nx {fd : Fn} {s : Env} : Rf.finW fd (.nx s) = (match outs fd.io s with
    | some o => .ok .non o
    | none => .stuck) := Eq.trans rfl rfl
@[simp] theorem fin_ret {fd : Fn} {s : Env} : Rf.finW fd (.ret d s) = (match outs fd.io s with
    | some o => .ok d o
    | none => .stuck) := Eq.trans rfl rfl
@[simp] theorem fin_exc {fd : Fn} {s : Env} : Rf.finW fd (.exc d s) = (match outs fd.io s with
    | some o => .exc d o
    | none => .stuck) := Eq.trans rfl rfl
/-! items -/
@[simp] theorem item_lst_ {i : Int} : item (.lst ds) (.int i) = L2.atI ds i := Eq.trans rfl rfl
@[simp] theorem item_tup_ {i : Int} : item (.tup ds) (.int i) = L2.atI ds i := Eq.trans rfl rfl
theorem ixN_nat {n i : Nat} (h : i < n) : ixN n (i : Int) = some i := by
  show L2.ixN n (i : Int) = some i
  unfold L2.ixN
  rw [if_pos (by omega), if_pos (by omega)]
  simp
theorem item_lst {i : Nat} (h : ds[i]? = some d) : item (.lst ds) (.int (i : Int)) = some d := L2.atI_nat h
theorem item_tup {i : Nat} (h : ds[i]? = some d) : item (.tup ds) (.int (i : Int)) = some d := L2.atI_nat h
end
end Rf

/-! Rg, part X: loops; what all laws share: the hand, draws. -/
namespace Rf
open PySem
/-! ### each step -/
theorem ev_cst {C : Calls} {d : D} {s : Env} : evalE C (.cst d) s = (.ok d s) := Eq.trans rfl rfl
theorem ev_var {C : Calls} {i : Nat} {s : Env} : evalE C (.var i) s = (readR s i) := Eq.trans rfl rfl
theorem ev_mov {C : Calls} {i : Nat} {s : Env} : evalE C (.mov i) s = (moveR s i) := Eq.trans rfl rfl
theorem ev_glob {C : Calls} {z0 : Str} {d : D} {s : Env} : evalE C (.glob z0 d) s = (.ok d s) := Eq.trans rfl rfl
theorem ev_sh {C : Calls} {a : E} {s : Env} : evalE C (.sh a) s = (evalE C a s) := Eq.trans rfl rfl
theorem ev_tup {C : Calls} {es : List E} {s : Env} : evalE C (.tup es) s = ((evalEs C es s).bnd fun ds s => .ok (.tup ds) s) := Eq.trans rfl rfl
theorem ev_lst {C : Calls} {es : List E} {s : Env} : evalE C (.lst es) s = ((evalEs C es s).bnd fun ds s => .ok (.lst ds) s) := Eq.trans rfl rfl
theorem ev_bin {C : Calls} {o : BOp} {a : E} {b : Rf.O} {s : Env} : evalE C (.bin o a b) s = ((evalE C a s).bnd fun x s => (evalV C b s).bnd fun y s => optR (bin o x y) s) := Eq.trans rfl rfl
theorem ev_binv {C : Calls} {o : BOp} {i : Nat} {b : E} {s : Env} : evalE C (.binv o i b) s = ((slotR s i).bnd fun _ s => (evalE C b s).bnd fun y s => (slotR s i).bnd fun x s => optR (bin o x y) s) := Eq.trans rfl rfl
theorem ev_neg {C : Calls} {a : E} {s : Env} : evalE C (.neg a) s = ((evalE C a s).bnd fun x s => match x with
    | .int i => .ok (.int (-i)) s
    | _ => .stuck) := Eq.trans rfl rfl
theorem ev_cmp {C : Calls} {o : COp} {a : E} {b : Rf.O} {s : Env} : evalE C (.cmp o a b) s = ((evalE C a s).bnd fun x s => (evalV C b s).bnd fun y s => (optR (cmp o x y) s).bnd fun k s => .ok (.bl k) s) := Eq.trans rfl rfl
theorem ev_cmpv {C : Calls} {o : COp} {i : Nat} {b : E} {s : Env} : evalE C (.cmpv o i b) s = ((slotR s i).bnd fun _ s => (evalE C b s).bnd fun y s => (slotR s i).bnd fun x s => (optR (cmp o x y) s).bnd fun k s => .ok (.bl k) s) := Eq.trans rfl rfl
theorem ev_chain {C : Calls} {o : COp} {p : COp} {a : E} {b : E} {c : E} {s : Env} : evalE C (.chain o p a b c) s = ((evalE C a s).bnd fun x s => (evalE C b s).bnd fun y s => (optR (cmp o x y) s).bnd fun k s =>
      if k then (evalE C c s).bnd fun z s => (optR (cmp p y z) s).bnd fun k s => .ok (.bl k) s else .ok (.bl false) s) := Eq.trans rfl rfl
theorem ev_and {C : Calls} {a : E} {b : E} {s : Env} : evalE C (.and a b) s = ((evalE C a s).bnd fun x s => (optR (truth x) s).bnd fun k s => if k then evalE C b s else .ok x s) := Eq.trans rfl rfl
theorem ev_or {C : Calls} {a : E} {b : E} {s : Env} : evalE C (.or a b) s = ((evalE C a s).bnd fun x s => (optR (truth x) s).bnd fun k s => if k then .ok x s else evalE C b s) := Eq.trans rfl rfl
theorem ev_not {C : Calls} {a : Rf.O} {s : Env} : evalE C (.not a) s = ((evalV C a s).bnd fun x s => (optR (truth x) s).bnd fun k s => .ok (.bl (!k)) s) := Eq.trans rfl rfl
theorem ev_ite {C : Calls} {t : Rf.T} {a : E} {b : E} {s : Env} : evalE C (.ite t a b) s = ((evalT C t s).bnd fun k s => if k then evalE C a s else evalE C b s) := Eq.trans rfl rfl
theorem ev_call {C : Calls} {f : Nat} {as : List Arg} {s : Env} : evalE C (.call f as) s = ((evalA C as s).bnd fun ds s => (optR (fillA as ds s) s).bnd fun ds s => match C.fn f ds with
    | .ok d outs => .ok d (putA as outs s)
    | .exc x outs => .exc x (putA as outs s)
    | .stuck => .stuck) := Eq.trans rfl rfl
theorem ev_p1 {C : Calls} {p : P1} {a : Rf.O} {s : Env} : evalE C (.p1 p a) s = ((evalV C a s).bnd fun x s => optR (p1 p x) s) := Eq.trans rfl rfl
theorem ev_p2 {C : Calls} {p : P2} {a : E} {b : E} {s : Env} : evalE C (.p2 p a b) s = ((evalE C a s).bnd fun x s => (evalE C b s).bnd fun y s => optR (p2 p x y) s) := Eq.trans rfl rfl
theorem ev_isi {C : Calls} {a : Rf.O} {ts : List Ty} {s : Env} : evalE C (.isi a ts) s = ((evalV C a s).bnd fun x s => (optR (isTys x ts) s).bnd fun k s => .ok (.bl k) s) := Eq.trans rfl rfl
theorem ev_sub {C : Calls} {a : E} {i : E} {s : Env} : evalE C (.sub a i) s = ((evalE C a s).bnd fun x s => (evalE C i s).bnd fun y s => optR (item x y) s) := Eq.trans rfl rfl
theorem ev_subv {C : Calls} {v : Nat} {i : E} {s : Env} : evalE C (.subv v i) s = ((slotR s v).bnd fun _ s => (evalE C i s).bnd fun y s => (slotR s v).bnd fun x s => optR (item x y) s) := Eq.trans rfl rfl
theorem ev_slc {C : Calls} {a : E} {lo : Option E} {hi : Option E} {s : Env} : evalE C (.slc a lo hi) s = ((evalE C a s).bnd fun x s => (evalO C lo s).bnd fun l s => (evalO C hi s).bnd fun h s => optR (slice x l h) s) := Eq.trans rfl rfl
theorem ev_slcv {C : Calls} {v : Nat} {lo : Option E} {hi : Option E} {s : Env} : evalE C (.slcv v lo hi) s = ((slotR s v).bnd fun _ s => (evalO C lo s).bnd fun l s => (evalO C hi s).bnd fun h s => (slotR s v).bnd fun x s => optR (slice x l h) s) := Eq.trans rfl rfl
theorem ev_rev {C : Calls} {a : Rf.O} {s : Env} : evalE C (.rev a) s = ((evalV C a s).bnd fun x s => match x with
    | .lst ds => .ok (.lst ds.reverse) s
    | .tup ds => .ok (.tup ds.reverse) s
    | _ => .stuck) := Eq.trans rfl rfl
theorem ev_pop {C : Calls} {v : Nat} {s : Env} : evalE C (.pop v) s = ((ownR s v).bnd fun ds s => match ds.getLast? with
    | some d => .ok d (s.set v (.ow (.lst ds.dropLast)))
    | none => .stuck) := Eq.trans rfl rfl
theorem ev_popAt {C : Calls} {v : Nat} {i : E} {s : Env} : evalE C (.popAt v i) s = ((ownR s v).bnd fun _ s => (evalE C i s).bnd fun y s => (ownR s v).bnd fun ds s => match y with
    | .int k => if decide (-(2 ^ 62) ≤ k) && decide (k < 2 ^ 62) then (match ixN ds.length k with
      | some k => match ds[k]? with
        | some d => .ok d (s.set v (.ow (.lst (ds.eraseIdx k))))
        | none => .stuck
      | none => .stuck) else .stuck
    | _ => .stuck) := Eq.trans rfl rfl
theorem ex_asg {C : Calls} {tg : Tg} {e : E} {s : Env} : execS C (.asg tg e) s = ((evalE C e s).tho fun d s => optS (bindT (isFresh C e) tg d s) .nx) := Eq.trans rfl rfl
theorem ex_par {C : Calls} {is : List Nat} {es : List E} {s : Env} : execS C (.par is es) s = ((evalEs C es s).tho fun ds s => .nx (putP C is es ds s)) := Eq.trans rfl rfl
theorem ex_aug {C : Calls} {i : Nat} {o : BOp} {e : E} {s : Env} : execS C (.aug i o e) s = ((slotR s i).tho fun x s => (evalE C e s).tho fun y s => optS (iop o x y) fun z => .nx (s.set i (.sh z))) := Eq.trans rfl rfl
theorem ex_setI {C : Calls} {v : Nat} {i : E} {e : E} {s : Env} : execS C (.setI v i e) s = ((evalE C e s).tho fun d s => (ownC s v).tho fun _ s => (evalE C i s).tho fun k s => (ownC s v).tho fun c s => optS (setD c k d) fun c => .nx (s.set v (.ow c))) := Eq.trans rfl rfl
theorem ev_dnew {C : Calls} {s : Env} : evalE C .dnew s = .ok (.dic [] []) s := Eq.trans rfl rfl
theorem ev_lrg {C : Calls} {t : Bool} {it : It} {s : Env} : evalE C (.lrg t it) s = ((evalI C it s).bnd fun ds s => if ds.length ≤ sizeLine then .ok (if t then .tup ds else .lst ds) s else .stuck) := Eq.trans rfl rfl
theorem ev_idx {C : Calls} {a b : E} {s : Env} : evalE C (.idx a b) s = ((evalE C a s).bnd fun x s => match x with
    | .lst ds => (evalE C b s).bnd fun y s => optR (idxD ds y) s
    | _ => .stuck) := Eq.trans rfl rfl
theorem ex_augI {C : Calls} {v : Nat} {i : E} {o : BOp} {e : E} {s : Env} : execS C (.augI v i o e) s = ((ownR s v).tho fun _ s => (evalE C i s).tho fun k s => (ownR s v).tho fun ds s => match k with
    | .int k => match ixN ds.length k with
      | some j => match ds[j]? with
        | some a => (evalE C e s).tho fun b s => optS (iop o a b) fun z => (ownR s v).tho fun ds s => match ixN ds.length k with
          | some j => .nx (s.set v (.ow (.lst (ds.set j z))))
          | none => .stuck
        | none => .stuck
      | none => .stuck
    | _ => .stuck) := Eq.trans rfl rfl
theorem ex_app {C : Calls} {v : Nat} {e : E} {s : Env} : execS C (.app v e) s = ((ownR s v).tho fun _ s => (evalE C e s).tho fun d s => (ownR s v).tho fun ds s => if ds.length < sizeLine then .nx (s.set v (.ow (.lst (ds ++ [d])))) else .stuck) := Eq.trans rfl rfl
theorem ex_ext {C : Calls} {v : Nat} {e : E} {s : Env} : execS C (.ext v e) s = ((ownR s v).tho fun _ s => (evalE C e s).tho fun d s => (ownR s v).tho fun ds s => match d with
    | .lst es => if ds.length + es.length ≤ sizeLine then .nx (s.set v (.ow (.lst (ds ++ es)))) else .stuck
    | _ => .stuck) := Eq.trans rfl rfl
theorem ex_expr {C : Calls} {e : E} {s : Env} : execS C (.expr e) s = ((evalE C e s).tho fun _ s => .nx s) := Eq.trans rfl rfl
theorem ex_ret {C : Calls} {e : E} {s : Env} : execS C (.ret e) s = ((evalE C e s).tho fun d s => .ret d s) := Eq.trans rfl rfl
theorem ex_retN {C : Calls} {s : Env} : execS C (.retN) s = (.ret .non s) := Eq.trans rfl rfl
theorem ex_pass {C : Calls} {s : Env} : execS C (.pass) s = (.nx s) := Eq.trans rfl rfl
theorem ex_brk {C : Calls} {s : Env} : execS C (.brk) s = (.bk s) := Eq.trans rfl rfl
theorem ex_cnt {C : Calls} {s : Env} : execS C (.cnt) s = (.ct s) := Eq.trans rfl rfl
theorem ex_ifS {C : Calls} {t : Rf.T} {a : List Rf.St} {b : List Rf.St} {s : Env} : execS C (.ifS t a b) s = ((evalT C t s).tho fun k s => if k then execSs C a s else execSs C b s) := Eq.trans rfl rfl
theorem ex_raise {C : Calls} {c : Nat} {s : Env} : execS C (.raise c) s = (.exc (.ins c []) s) := Eq.trans rfl rfl
/-- a loop's turn -/
def forB (C : Calls) (tg : Tg) (body : List Rf.St) : D → Env → Rf.S := fun d s => optS (bindT false tg d s) fun s => execSs C body s
def forK (C : Calls) (tg : Tg) (body : List Rf.St) : List D → Env → Rf.S := fun ds s => forL (forB C tg body) ds s
theorem ex_forS {C : Calls} {tg : Tg} {it : Rf.It} {body : List Rf.St} {s : Env} : execS C (.forS tg it body) s = (evalI C it s).tho (forK C tg body) := Eq.trans rfl rfl
@[simp] theorem forK_eq {C : Calls} {tg : Tg} {body : List Rf.St} {ds : List D} {s : Env} : forK C tg body ds s = forL (forB C tg body) ds s := Eq.trans rfl rfl
theorem forB_eq {C : Calls} {tg : Tg} {body : List Rf.St} {d : D} {s s1 : Env} (h : bindT false tg d s = some s1) : forB C tg body d s = execSs C body s1 := by unfold forB; rw [h]; rfl
def whlT (C : Calls) (t : Rf.T) : Env → R Bool := fun s => evalT C t s
def whlB (C : Calls) (body : List Rf.St) : Env → Rf.S := fun s => execSs C body s
theorem whlT_eq {C : Calls} {t : Rf.T} {s : Env} : whlT C t s = evalT C t s := Eq.trans rfl rfl
theorem whlB_eq {C : Calls} {body : List Rf.St} {s : Env} : whlB C body s = execSs C body s := Eq.trans rfl rfl
theorem ex_whl {C : Calls} {t : Rf.T} {body : List Rf.St} {s : Env} : execS C (.whl t body) s = whileL (whlT C t) (whlB C body) C.fuel s := Eq.trans rfl rfl
@[simp] theorem bindT_tp {fr : Bool} {ts : List Tg} {ds : List D} {s : Env} : bindT fr (.tp ts) (.tup ds) s = if ts.length = ds.length then bindTs ts ds s else none := Eq.trans rfl rfl
@[simp] theorem bindTs_nil {ds : List D} {s : Env} : bindTs [] ds s = some s := Eq.trans rfl rfl
@[simp] theorem bindTs_cons {t : Tg} {ts : List Tg} {d : D} {ds : List D} {s : Env} : bindTs (t :: ts) (d :: ds) s = (bindT false t d s).bind fun s1 => bindTs ts ds s1 := Eq.trans rfl rfl
theorem bin_repL {ds : List D} {b : Int} (h1 : -(2 ^ 63) ≤ b) (h2 : b < 2 ^ 63) (h3 : ds.length * b.toNat ≤ sizeLine) : Rf.bin .mul (.lst ds) (.int b) = some (.lst (List.replicate b.toNat ds).flatten) := by
  have e : (decide (-(2 ^ 63) ≤ b) && decide (b < 2 ^ 63) && decide (ds.length * b.toNat ≤ sizeLine)) = true := by
    rw [decide_eq_true h1, decide_eq_true h2, decide_eq_true h3]; rfl
  simp only [Rf.bin, e, if_true]
theorem rng1_ok {C : Calls} {a : E} {s s1 : Env} {n : Nat} (h : evalE C a s = .ok (.int n) s1) (hn : (n : Int) < 2 ^ 62) : evalI C (.rng1 a) s = .ok (rangeD 0 n) s1 := by
  have e : evalI C (.rng1 a) s = (evalE C a s).bnd fun x s => match x with
    | .int i => if decide (-(2 ^ 62) ≤ i) && decide (i < 2 ^ 62) then .ok (rangeD 0 i.toNat) s else .stuck
    | _ => .stuck := Eq.trans rfl rfl
  have b : (decide (-(2 ^ 62) ≤ (n : Int)) && decide ((n : Int) < 2 ^ 62)) = true := by
    rw [decide_eq_true hn, decide_eq_true (show -(2 ^ 62) ≤ (n : Int) by omega)]; rfl
  rw [e, h, bnd_ok]
  generalize hB : (decide (-(2 ^ 62) ≤ (n : Int)) && decide ((n : Int) < 2 ^ 62)) = B at b
  subst b
  simp only [hB, if_true, Int.toNat_natCast]
theorem rng2_ok {C : Calls} {a b : E} {s s1 s2 : Env} {i j : Int} (h : evalE C a s = .ok (.int i) s1) (h2 : evalE C b s1 = .ok (.int j) s2) (b1 : -(2 ^ 62) ≤ i) (b2 : i < 2 ^ 62) (b3 : -(2 ^ 62) ≤ j) (b4 : j < 2 ^ 62) : evalI C (.rng2 a b) s = .ok (rangeD i (j - i).toNat) s2 := by
  have e : evalI C (.rng2 a b) s = (evalE C a s).bnd fun x s => (evalE C b s).bnd fun y s => match x, y with
    | .int i, .int j => if decide (-(2 ^ 62) ≤ i) && decide (i < 2 ^ 62) && decide (-(2 ^ 62) ≤ j) && decide (j < 2 ^ 62) then .ok (rangeD i (j - i).toNat) s else .stuck
    | _, _ => .stuck := Eq.trans rfl rfl
  rw [e, h, bnd_ok, h2, bnd_ok]
  simp only [decide_eq_true b1, decide_eq_true b2, decide_eq_true b3, decide_eq_true b4, Bool.and_self, if_true]
theorem flat_one {α : Type} (a : α) : ∀ n : Nat, (List.replicate n [a]).flatten = List.replicate n a
  | 0 => rfl
  | n + 1 => by rw [List.replicate_succ, List.flatten_cons, flat_one a n]; rfl
/-! ### loops -/
theorem forL_fold {α : Type} {f : D → Env → Rf.S} (enc : α → Sl → Env) (g : α → D → α) : ∀ (ds : List D) (a : α) (sl : Sl), (∀ d ∈ ds, ∀ a sl, f d (enc a sl) = .nx (enc (g a d) (.sh d))) → ∃ sl', forL f ds (enc a sl) = .nx (enc (ds.foldl g a) sl')
  | [], a, sl, _ => ⟨sl, rfl⟩
  | d :: ds, a, sl, h => by
    obtain ⟨sl', e⟩ := forL_fold enc g ds (g a d) (.sh d) fun d hd => h d (List.mem_cons_of_mem _ hd)
    refine ⟨sl', ?_⟩
    simp only [forL, h d List.mem_cons_self a sl]
    exact e
/-- a loop that keeps a property of the slots -/
theorem forL_inv {f : D → Env → Rf.S} (I : Env → Prop) : ∀ (ds : List D) (s : Env), I s → (∀ d ∈ ds, ∀ s, I s → ∃ s', f d s = .nx s' ∧ I s') → ∃ s', forL f ds s = .nx s' ∧ I s'
  | [], s, hs, _ => ⟨s, rfl, hs⟩
  | d :: ds, s, hs, h => by
    obtain ⟨s1, e, h1⟩ := h d List.mem_cons_self s hs
    obtain ⟨s2, e2, h2⟩ := forL_inv I ds s1 h1 fun d hd => h d (List.mem_cons_of_mem _ hd)
    refine ⟨s2, ?_, h2⟩
    simp only [forL, e]
    exact e2
/-- .. by the turn -/
theorem forL_turn {f : D → Env → Rf.S} (I : Nat → Env → Prop) : ∀ (ds : List D) (n : Nat) (s : Env), I n s → (∀ (i : Nat) d, ds[i]? = some d → ∀ s, I (n + i) s → ∃ s', f d s = .nx s' ∧ I (n + i + 1) s') → ∃ s', forL f ds s = .nx s' ∧ I (n + ds.length) s'
  | [], n, s, hs, _ => ⟨s, rfl, hs⟩
  | d :: ds, n, s, hs, h => by
    obtain ⟨s1, e, h1⟩ := h 0 d rfl s hs
    obtain ⟨s2, e2, h2⟩ := forL_turn I ds (n + 1) s1 h1 fun i d hd s hs => by
      have := h (i + 1) d (by simpa using hd) s (by rw [show n + (i + 1) = n + 1 + i by omega]; exact hs)
      rw [show n + (i + 1) + 1 = n + 1 + i + 1 by omega] at this
      exact this
    refine ⟨s2, ?_, by rw [List.length_cons, show n + (ds.length + 1) = n + 1 + ds.length by omega]; exact h2⟩
    simp only [forL, e]
    exact e2
/-- a while by a measure: P holds ahead of each turn, Q behind the loop -/
theorem whileL_inv {t : Env → R Bool} {f : Env → Rf.S} (P Q : Env → Prop) (μ : Env → Nat) (h : ∀ s, P s → (∃ s', t s = .ok false s' ∧ Q s') ∨ ∃ s1 s2, t s = .ok true s1 ∧ f s1 = .nx s2 ∧ P s2 ∧ μ s2 < μ s) : ∀ (n : Nat) (s : Env), P s → μ s < n → ∃ s', whileL t f n s = .nx s' ∧ Q s'
  | 0, s, _, hn => absurd hn (Nat.not_lt_zero _)
  | n + 1, s, hs, hn => by
    rcases h s hs with ⟨s', e, q⟩ | ⟨s1, s2, e1, e2, p, m⟩
    · exact ⟨s', by simp [whileL, e], q⟩
    · obtain ⟨s', e, q⟩ := whileL_inv P Q μ h n s2 p (by omega)
      exact ⟨s', by simp [whileL, e1, e2, e], q⟩
theorem compL_map {own : List Nat} {f : D → Env → R (Option D)} {g : D → D} {s : Env} : ∀ {ds : List D}, (∀ d ∈ ds, ∃ s1, f d s = .ok (some (g d)) s1 ∧ wipeE s1 own = s) → compL own f ds s = .ok (ds.map g) s
  | [], _ => rfl
  | d :: ds, h => by
    obtain ⟨s1, e, w⟩ := h d List.mem_cons_self
    simp only [compL, e, w, compL_map (ds := ds) fun d hd => h d (List.mem_cons_of_mem _ hd)]
    rfl
theorem compL_filter {own : List Nat} {f : D → Env → R (Option D)} {g : D → Option D} {s : Env} : ∀ {ds : List D}, (∀ d ∈ ds, ∃ s1, f d s = .ok (g d) s1 ∧ wipeE s1 own = s) → compL own f ds s = .ok (ds.filterMap g) s
  | [], _ => rfl
  | d :: ds, h => by
    obtain ⟨s1, e, w⟩ := h d List.mem_cons_self
    simp only [compL, e, w, compL_filter (ds := ds) fun d hd => h d (List.mem_cons_of_mem _ hd)]
    rw [List.filterMap_cons]
    cases g d <;> rfl
/-- a comprehension whose turns change the slots -/
theorem compL_inv {own : List Nat} {f : D → Env → R (Option D)} (I : Env → Prop) (P : D → D → Prop) : ∀ {ds : List D} {s : Env}, I s → (∀ d ∈ ds, ∀ s, I s → ∃ x s1, f d s = .ok (some x) s1 ∧ I (wipeE s1 own) ∧ P d x) → ∃ r s', compL own f ds s = .ok r s' ∧ I s' ∧ r.length = ds.length ∧ ∀ (i : Nat) d x, ds[i]? = some d → r[i]? = some x → P d x
  | [], s, hs, _ => ⟨[], s, rfl, hs, rfl, fun i d x h => by simp at h⟩
  | d :: ds, s, hs, h => by
    obtain ⟨x, s1, e, w, p⟩ := h d List.mem_cons_self s hs
    obtain ⟨r, s', e2, h2, l, a⟩ := compL_inv I P (ds := ds) w fun d hd => h d (List.mem_cons_of_mem _ hd)
    refine ⟨x :: r, s', by simp only [compL, e, e2]; rfl, h2, by simp [l], fun i d' x' h1 h2 => ?_⟩
    cases i with
    | zero => simp at h1 h2; subst h1 h2; exact p
    | succ i => exact a i d' x' (by simpa using h1) (by simpa using h2)
theorem ev_lc {C : Calls} {elt : E} {tg : Tg} {it : It} {cond : Option T} {own : List Nat} {s : Env} : evalE C (.lc elt tg it cond own) s = (evalI C it s).bnd fun ds s1 => (compL own (turnL C tg cond elt) ds (wipeE s1 own)).bnd fun r s2 => if r.length ≤ sizeLine then .ok (.lst r) (backE s1 s2 own) else .stuck := rfl
theorem turn_eq {C : Calls} {elt : E} {tg : Tg} {cond : Option T} {d : D} {s s1 : Env} (h : bindT false tg d s = some s1) : turnL C tg cond elt d s = (evalC C cond s1).bnd fun k s => if k then (evalE C elt s).bnd fun x s => .ok (some x) s else .ok none s := by
  unfold turnL
  rw [h]
  rfl
theorem lc_map {C : Calls} {elt : E} {tg : Tg} {it : It} {cond : Option T} {own : List Nat} {s s1 : Env} {ds : List D} (g : D → D) (hi : evalI C it s = .ok ds s1) (h : ∀ d ∈ ds, ∃ s2, turnL C tg cond elt d (wipeE s1 own) = .ok (some (g d)) s2 ∧ wipeE s2 own = wipeE s1 own) (hl : ds.length ≤ sizeLine) :
    evalE C (.lc elt tg it cond own) s = .ok (.lst (ds.map g)) (backE s1 (wipeE s1 own) own) := by
  rw [ev_lc, hi]
  simp only [bnd_ok, bind_ok]
  rw [compL_map h]
  simp only [bnd_ok, bind_ok]
  rw [if_pos (by rw [List.length_map]; exact hl)]
theorem lc_filter {C : Calls} {elt : E} {tg : Tg} {it : It} {cond : Option T} {own : List Nat} {s s1 : Env} {ds : List D} (g : D → Option D) (hi : evalI C it s = .ok ds s1) (h : ∀ d ∈ ds, ∃ s2, turnL C tg cond elt d (wipeE s1 own) = .ok (g d) s2 ∧ wipeE s2 own = wipeE s1 own) (hl : ds.length ≤ sizeLine) :
    evalE C (.lc elt tg it cond own) s = .ok (.lst (ds.filterMap g)) (backE s1 (wipeE s1 own) own) := by
  rw [ev_lc, hi]
  simp only [bnd_ok, bind_ok]
  rw [compL_filter h]
  simp only [bnd_ok, bind_ok]
  rw [if_pos (Nat.le_trans (List.length_filterMap_le _ _) hl)]
theorem lc_inv {C : Calls} {elt : E} {tg : Tg} {it : It} {cond : Option T} {own : List Nat} {s s1 : Env} {ds : List D} (I : Env → Prop) (P : D → D → Prop) (hi : evalI C it s = .ok ds s1) (h0 : I (wipeE s1 own)) (h : ∀ d ∈ ds, ∀ s, I s → ∃ x s2, turnL C tg cond elt d s = .ok (some x) s2 ∧ I (wipeE s2 own) ∧ P d x) (hl : ds.length ≤ sizeLine) :
    ∃ r s2, evalE C (.lc elt tg it cond own) s = .ok (.lst r) (backE s1 s2 own) ∧ I s2 ∧ r.length = ds.length ∧ ∀ (i : Nat) d x, ds[i]? = some d → r[i]? = some x → P d x := by
  obtain ⟨r, s2, e, h2, l, a⟩ := compL_inv (f := turnL C tg cond elt) (own := own) I P h0 h
  refine ⟨r, s2, ?_, h2, l, a⟩
  rw [ev_lc, hi]
  simp only [bnd_ok, bind_ok]
  rw [e]
  simp only [bnd_ok, bind_ok]
  rw [if_pos (by rw [l]; exact hl)]
theorem range_mem {lo : Int} {n : Nat} {d : D} (h : d ∈ rangeD lo n) : ∃ i : Nat, i < n ∧ d = .int (lo + i) := by
  unfold rangeD at h
  obtain ⟨i, hi, rfl⟩ := List.mem_map.mp h
  exact ⟨i, List.mem_range.mp hi, rfl⟩
@[simp] theorem range_len {lo : Int} {n : Nat} : (rangeD lo n).length = n := by simp [rangeD]
theorem range_at {lo : Int} {n i : Nat} {d : D} (h : (rangeD lo n)[i]? = some d) : d = .int (lo + i) ∧ i < n := by
  unfold rangeD at h
  rw [List.getElem?_map] at h
  obtain ⟨j, hj, rfl⟩ := Option.map_eq_some_iff.mp h
  obtain ⟨h1, h2⟩ := List.getElem?_eq_some_iff.mp hj
  rw [List.length_range] at h1
  rw [List.getElem_range] at h2
  subst h2
  exact ⟨rfl, h1⟩
/-! ### the hand -/
namespace Sh
def b_draw : List St := [
  .ifS (.and (.cmp .eq (.subv 0 (.cst (.int 2))) (.e (.cst (.int 0)))) (.cmp .lt (.subv 0 (.cst (.int 1))) (.e (.p1 .len (.e (.subv 0 (.cst (.int 0)))))))) [.asg (.nm 3) (.sub (.subv 0 (.cst (.int 0))) (.subv 0 (.cst (.int 1)))), .setI 0 (.cst (.int 1)) (.bin .add (.subv 0 (.cst (.int 1))) (.e (.cst (.int 1)))), .setI 0 (.cst (.int 3)) (.bin .mod (.p1 .int (.e (.bin .add (.bin .add (.bin .mul (.subv 0 (.cst (.int 3))) (.e (.cst (.int 69621)))) (.e (.bin .mul (.var 3) (.e (.cst (.int 40692)))))) (.e (.cst (.int 31)))))) (.e (.cst (.int 2147483629)))), .ifS (.cmp .ge (.var 3) (.e (.bin .pow (.cst (.int 10)) (.e (.cst (.int 18)))))) [.setI 0 (.cst (.int 2)) (.var 3)] []] [],
  .ifS (.cmp .gt (.subv 0 (.cst (.int 2))) (.e (.cst (.int 0)))) [.asg (.nm 4) (.bin .mod (.p1 .int (.e (.subv 0 (.cst (.int 2))))) (.vw 1)), .setI 0 (.cst (.int 2)) (.bin .fdiv (.subv 0 (.cst (.int 2))) (.vw 1)), .ret (.var 4)] [],
  .setI 0 (.cst (.int 4)) (.bin .add (.subv 0 (.cst (.int 4))) (.e (.cst (.int 1)))),
  .asg (.nm 2) (.bin .mod (.p1 .int (.e (.bin .mul (.p1 .int (.e (.bin .add (.subv 0 (.cst (.int 3))) (.e (.bin .mul (.cst (.int 7919)) (.e (.subv 0 (.cst (.int 4))))))))) (.e (.cst (.int 48271)))))) (.e (.cst (.int 2147483647)))),
  .asg (.nm 2) (.bin .mod (.p1 .int (.e (.bin .mul (.var 2) (.e (.bin .add (.bin .fdiv (.var 2) (.e (.cst (.int 1009)))) (.e (.cst (.int 69621)))))))) (.e (.cst (.int 2147483647)))),
  .asg (.nm 2) (.bin .mod (.p1 .int (.e (.bin .mul (.var 2) (.e (.bin .add (.bin .fdiv (.var 2) (.e (.cst (.int 2003)))) (.e (.cst (.int 40014)))))))) (.e (.cst (.int 2147483563)))),
  .ret (.bin .mod (.p1 .int (.e (.bin .fdiv (.var 2) (.e (.cst (.int 16)))))) (.vw 1))]
def f_draw : Fn := ⟨2, 5, [0], false, b_draw⟩
/-- a hand: cells, a place, what is left, two numbers -/
def hand (cs : List Int) (p : Nat) (l s n : Int) : D := .lst [.lst (cs.map .int), .int p, .int l, .int s, .int n]
structure IsHand (h : D) : Prop where
  ex : ∃ cs p l s n, h = hand cs p l s n ∧ 0 ≤ l ∧ ∀ c ∈ cs, 0 ≤ c
theorem IsHand.isC {h : D} (x : IsHand h) : Rf.isC h = true := by
  obtain ⟨cs, p, l, s, n, rfl, _⟩ := x
  rfl
theorem atI5 {a b c d e : D} : L2.atI [a, b, c, d, e] 0 = some a ∧ L2.atI [a, b, c, d, e] 1 = some b ∧ L2.atI [a, b, c, d, e] 2 = some c ∧ L2.atI [a, b, c, d, e] 3 = some d ∧ L2.atI [a, b, c, d, e] 4 = some e := ⟨rfl, rfl, rfl, rfl, rfl⟩
def num1 (s n : Int) : Int := (s + 7919 * (n + 1)) * 48271 % 2147483647
def num2 (x : Int) : Int := x * (x / 1009 + 69621) % 2147483647
def num3 (x : Int) : Int := x * (x / 2003 + 40014) % 2147483563
def num (s n : Int) : Int := num3 (num2 (num1 s n)) / 16
/-- what is drawn: the number, and the hand behind -/
def drawV (b l s n : Int) : Int × Int × Int := if 0 < l then (l % b, l / b, n) else (num s n % b, l, n + 1)
theorem draw_tail {T : Tab} {w k : Nat} (cs : List Int) (p : Nat) (l s n b : Int) (hb : 0 < b) (db : divOk b = true) (sl : Sl) :
    Rf.finW f_draw (execSs (cl T w k) (b_draw.drop 1) [Sl.ow (hand cs p l s n), .sh (.int b), .no, sl, .no]) = .ok (.int (drawV b l s n).1) [hand cs p (drawV b l s n).2.1 s (drawV b l s n).2.2] := by
  have m1 : ∀ x : Int, mulOk x 48271 = true := fun x => mulOk_r (by decide)
  have m0 : ∀ x : Int, mulOk 7919 x = true := fun x => mulOk_l (by decide)
  have d1 : divOk 1009 = true := by decide
  have d2 : divOk 2003 = true := by decide
  have d3 : divOk 16 = true := by decide
  have small : ∀ x m : Int, 0 < m → m < 2 ^ 64 → ∀ y, mulOk (x % m) y = true := fun x m h1 h2 y => mulOk_l (by have := Int.emod_nonneg x (show m ≠ 0 by omega); have := Int.emod_lt_of_pos x h1; omega)
  have s1 := fun x => small x 2147483647 (by decide) (by decide)
  by_cases h : 0 < l
  · have e : drawV b l s n = (l % b, l / b, n) := if_pos h
    rw [e]
    simp [f_draw, b_draw, hand, ss_nil, ss_cons, ev_cst, ev_var, ev_mov, ev_glob, ev_sh, ev_tup, ev_lst, ev_bin, ev_binv, ev_neg, ev_cmp, ev_cmpv, ev_chain, ev_and, ev_or, ev_not, ev_ite, ev_call, ev_p1, ev_p2, ev_isi, ev_sub, ev_subv, ev_slc, ev_slcv, ev_rev, ev_pop, ev_popAt, ev_dnew, ev_lrg, ev_idx, ex_asg, ex_par, ex_aug, ex_setI, ex_augI, ex_app, ex_ext, ex_expr, ex_ret, ex_retN, ex_pass, ex_brk, ex_cnt, ex_ifS, ex_raise, ex_forS, ex_whl, evalV, evalT, evalEs, evalA, evalA1, evalO, evalC, evalI, enterE, slotR, ownR, ownC, setD, readR, moveR, outs, mapM, isTys_cons, isFreshF, L2.ixN, fillA, putA, putP, atI5, h, bin_mod hb, bin_fdiv db]
  · have e : drawV b l s n = (num s n % b, l, n + 1) := if_neg h
    rw [e]
    simp [f_draw, b_draw, hand, ss_nil, ss_cons, ev_cst, ev_var, ev_mov, ev_glob, ev_sh, ev_tup, ev_lst, ev_bin, ev_binv, ev_neg, ev_cmp, ev_cmpv, ev_chain, ev_and, ev_or, ev_not, ev_ite, ev_call, ev_p1, ev_p2, ev_isi, ev_sub, ev_subv, ev_slc, ev_slcv, ev_rev, ev_pop, ev_popAt, ev_dnew, ev_lrg, ev_idx, ex_asg, ex_par, ex_aug, ex_setI, ex_augI, ex_app, ex_ext, ex_expr, ex_ret, ex_retN, ex_pass, ex_brk, ex_cnt, ex_ifS, ex_raise, ex_forS, ex_whl, evalV, evalT, evalEs, evalA, evalA1, evalO, evalC, evalI, enterE, slotR, ownR, ownC, setD, readR, moveR, outs, mapM, isTys_cons, isFreshF, L2.ixN, fillA, putA, putP, atI5, h, bin_mod hb, bin_mul (m1 _), bin_mul (m0 _), bin_fdiv d1, bin_fdiv d2, bin_fdiv d3, bin_mod (show (0:Int) < 2147483647 by decide), bin_mod (show (0:Int) < 2147483563 by decide), bin_mul (s1 _ _), num, num1, num2, num3]
theorem draw_prop {b l s n : Int} (hb : 0 < b) (hl : 0 ≤ l) : 0 ≤ (drawV b l s n).1 ∧ (drawV b l s n).1 < b ∧ 0 ≤ (drawV b l s n).2.1 := by
  unfold drawV
  split
  · exact ⟨Int.emod_nonneg _ (by omega), Int.emod_lt_of_pos _ hb, Int.ediv_nonneg hl (by omega)⟩
  · exact ⟨Int.emod_nonneg _ (by omega), Int.emod_lt_of_pos _ hb, hl⟩
theorem pow18 : bin .pow (.int 10) (.int 18) = some (.int 1000000000000000000) := rfl
theorem draw_ok {T : Tab} {w k j : Nat} (hj : T[j]? = some f_draw) {h : D} (hh : IsHand h) {b : Int} (hb : 0 < b) (db : divOk b = true) :
    ∃ v h', run T w (k + 1) j [h, .int b] = .ok (.int v) [h'] ∧ 0 ≤ v ∧ v < b ∧ IsHand h' := by
  obtain ⟨cs, p, l, s, n, rfl, hl, hcs⟩ := hh
  rw [run_def hj rfl]
  by_cases h0 : l = 0 ∧ p < cs.length
  · obtain ⟨rfl, hp⟩ := h0
    have hget : L2.atI (cs.map D.int) (p : Int) = some (D.int cs[p]) := L2.atI_nat (by simp [hp])
    have hc : 0 ≤ cs[p] := hcs _ (List.getElem_mem hp)
    have m1 : ∀ x : Int, mulOk x 69621 = true := fun x => mulOk_r (by decide)
    have m2 : ∀ x : Int, mulOk x 40692 = true := fun x => mulOk_r (by decide)
    have key : ∃ l', 0 ≤ l' ∧ execSs (cl T w k) f_draw.body (enterE f_draw.io 0 [hand cs p 0 s n, D.int b] ++ List.replicate (f_draw.n - f_draw.ps) Sl.no) =
        execSs (cl T w k) (b_draw.drop 1) [Sl.ow (hand cs (p + 1) l' ((s * 69621 + cs[p] * 40692 + 31) % 2147483629) n), .sh (.int b), .no, .sh (.int cs[p]), .no] := by
      by_cases hbig : 1000000000000000000 ≤ cs[p]
      · refine ⟨cs[p], hc, ?_⟩
        show seqS (execS (cl T w k) (b_draw.head (by simp [b_draw])) _) (execSs (cl T w k) (b_draw.drop 1)) = _
        simp [b_draw, f_draw, hand, ss_nil, ss_cons, ev_cst, ev_var, ev_mov, ev_glob, ev_sh, ev_tup, ev_lst, ev_bin, ev_binv, ev_neg, ev_cmp, ev_cmpv, ev_chain, ev_and, ev_or, ev_not, ev_ite, ev_call, ev_p1, ev_p2, ev_isi, ev_sub, ev_subv, ev_slc, ev_slcv, ev_rev, ev_pop, ev_popAt, ev_dnew, ev_lrg, ev_idx, ex_asg, ex_par, ex_aug, ex_setI, ex_augI, ex_app, ex_ext, ex_expr, ex_ret, ex_retN, ex_pass, ex_brk, ex_cnt, ex_ifS, ex_raise, ex_forS, ex_whl, evalV, evalT, evalEs, evalA, evalA1, evalO, evalC, evalI, enterE, slotR, ownR, ownC, setD, readR, moveR, outs, mapM, isTys_cons, isFreshF, L2.ixN, fillA, putA, putP, atI5, hp, hget, hbig, pow18, bin_mul (m1 _), bin_mul (m2 _), bin_mod (show (0:Int) < 2147483629 by decide)]
      · refine ⟨0, Int.le_refl _, ?_⟩
        show seqS (execS (cl T w k) (b_draw.head (by simp [b_draw])) _) (execSs (cl T w k) (b_draw.drop 1)) = _
        simp [b_draw, f_draw, hand, ss_nil, ss_cons, ev_cst, ev_var, ev_mov, ev_glob, ev_sh, ev_tup, ev_lst, ev_bin, ev_binv, ev_neg, ev_cmp, ev_cmpv, ev_chain, ev_and, ev_or, ev_not, ev_ite, ev_call, ev_p1, ev_p2, ev_isi, ev_sub, ev_subv, ev_slc, ev_slcv, ev_rev, ev_pop, ev_popAt, ev_dnew, ev_lrg, ev_idx, ex_asg, ex_par, ex_aug, ex_setI, ex_augI, ex_app, ex_ext, ex_expr, ex_ret, ex_retN, ex_pass, ex_brk, ex_cnt, ex_ifS, ex_raise, ex_forS, ex_whl, evalV, evalT, evalEs, evalA, evalA1, evalO, evalC, evalI, enterE, slotR, ownR, ownC, setD, readR, moveR, outs, mapM, isTys_cons, isFreshF, L2.ixN, fillA, putA, putP, atI5, hp, hget, hbig, pow18, bin_mul (m1 _), bin_mul (m2 _), bin_mod (show (0:Int) < 2147483629 by decide)]
    obtain ⟨l', hl', e⟩ := key
    rw [e, draw_tail cs (p + 1) l' _ n b hb db]
    obtain ⟨h1, h2, h3⟩ := draw_prop (b := b) (l := l') (s := (s * 69621 + cs[p] * 40692 + 31) % 2147483629) (n := n) hb hl'
    exact ⟨_, _, rfl, h1, h2, _, _, _, _, _, rfl, h3, hcs⟩
  · have key : execSs (cl T w k) f_draw.body (enterE f_draw.io 0 [hand cs p l s n, D.int b] ++ List.replicate (f_draw.n - f_draw.ps) Sl.no) =
        execSs (cl T w k) (b_draw.drop 1) [Sl.ow (hand cs p l s n), .sh (.int b), .no, .no, .no] := by
      show seqS (execS (cl T w k) (b_draw.head (by simp [b_draw])) _) (execSs (cl T w k) (b_draw.drop 1)) = _
      by_cases hl0 : l = 0
      · have hp : ¬ p < cs.length := fun h => h0 ⟨hl0, h⟩
        simp [b_draw, f_draw, hand, ss_nil, ss_cons, ev_cst, ev_var, ev_mov, ev_glob, ev_sh, ev_tup, ev_lst, ev_bin, ev_binv, ev_neg, ev_cmp, ev_cmpv, ev_chain, ev_and, ev_or, ev_not, ev_ite, ev_call, ev_p1, ev_p2, ev_isi, ev_sub, ev_subv, ev_slc, ev_slcv, ev_rev, ev_pop, ev_popAt, ev_dnew, ev_lrg, ev_idx, ex_asg, ex_par, ex_aug, ex_setI, ex_augI, ex_app, ex_ext, ex_expr, ex_ret, ex_retN, ex_pass, ex_brk, ex_cnt, ex_ifS, ex_raise, ex_forS, ex_whl, evalV, evalT, evalEs, evalA, evalA1, evalO, evalC, evalI, enterE, slotR, ownR, ownC, setD, readR, moveR, outs, mapM, isTys_cons, isFreshF, L2.ixN, fillA, putA, putP, atI5, hl0, hp]
      · simp [b_draw, f_draw, hand, ss_nil, ss_cons, ev_cst, ev_var, ev_mov, ev_glob, ev_sh, ev_tup, ev_lst, ev_bin, ev_binv, ev_neg, ev_cmp, ev_cmpv, ev_chain, ev_and, ev_or, ev_not, ev_ite, ev_call, ev_p1, ev_p2, ev_isi, ev_sub, ev_subv, ev_slc, ev_slcv, ev_rev, ev_pop, ev_popAt, ev_dnew, ev_lrg, ev_idx, ex_asg, ex_par, ex_aug, ex_setI, ex_augI, ex_app, ex_ext, ex_expr, ex_ret, ex_retN, ex_pass, ex_brk, ex_cnt, ex_ifS, ex_raise, ex_forS, ex_whl, evalV, evalT, evalEs, evalA, evalA1, evalO, evalC, evalI, enterE, slotR, ownR, ownC, setD, readR, moveR, outs, mapM, isTys_cons, isFreshF, L2.ixN, fillA, putA, putP, atI5, hl0]
    rw [key, draw_tail cs p l s n b hb db]
    obtain ⟨h1, h2, h3⟩ := draw_prop (b := b) (l := l) (s := s) (n := n) hb hl
    exact ⟨_, _, rfl, h1, h2, _, _, _, _, _, rfl, h3, hcs⟩
/-- the hand of a script -/
def b_hand : List St := [
  .asg (.nm 1) (.sh (.lc (.p1 .abs (.e (.p1 .int (.vw 2)))) (.nm 2) (.seq (.slcv 0 none (some (.cst (.int 63))))) none [2])),
  .ret (.lst [(.var 1), (.cst (.int 0)), (.cst (.int 0)), (.bin .add (.cst (.int 811)) (.e (.bin .mul (.cst (.int 7)) (.e (.p1 .len (.vw 1)))))), (.cst (.int 0))])]
def f_hand : Fn := ⟨1, 3, [], true, b_hand⟩
theorem cut_63 {α : Type} (ds : List α) : cut ds none (some 63) = ds.take 63 := by
  unfold cut
  rw [show HT.sIx ds.length 0 none = 0 from rfl, show (some (63 : Int)) = some ((63 : Nat) : Int) from rfl, HT.sIx_nat]
  simp
def absD : D → D
  | .int i => .int (if i < 0 then -i else i)
  | d => d
theorem hand_ok {T : Tab} {w k j : Nat} (hj : T[j]? = some f_hand) (ns : List Int) : ∃ h, run T w (k + 1) j [.scr ns] = .ok h [] ∧ IsHand h := by
  rw [run_def hj rfl]
  have hm : (cut (ns.map D.int) none (some 63)).map absD = ((ns.take 63).map fun i => if i < 0 then -i else i).map D.int := by
    rw [cut_63, ← List.map_take, List.map_map, List.map_map]
    rfl
  have hl : ((ns.take 63).map fun i => if i < 0 then -i else i).length ≤ 16777216 := by simp; omega
  refine ⟨hand ((ns.take 63).map fun i => if i < 0 then -i else i) 0 0 (811 + 7 * ((ns.take 63).length : Nat)) 0, ?_, _, _, _, _, _, rfl, Int.le_refl _, fun c hc => ?_⟩
  · show Rf.finW f_hand (seqS ((evalE (cl T w k) (.sh (.lc (.p1 .abs (.e (.p1 .int (.vw 2)))) (.nm 2) (.seq (.slcv 0 none (some (.cst (.int 63))))) none [2])) [Sl.sh (.scr ns), .no, .no]).tho fun d s => optS (bindT (isFresh (cl T w k) _) (.nm 1) d s) .nx) (execSs (cl T w k) (b_hand.drop 1))) = _
    have e2 : evalI (cl T w k) (.seq (.slcv 0 none (some (.cst (.int 63))))) [Sl.sh (.scr ns), .no, .no] = .ok (cut (ns.map D.int) none (some 63)) [Sl.sh (.scr ns), .no, .no] := by simp [ss_nil, ss_cons, ev_cst, ev_var, ev_mov, ev_glob, ev_sh, ev_tup, ev_lst, ev_bin, ev_binv, ev_neg, ev_cmp, ev_cmpv, ev_chain, ev_and, ev_or, ev_not, ev_ite, ev_call, ev_p1, ev_p2, ev_isi, ev_sub, ev_subv, ev_slc, ev_slcv, ev_rev, ev_pop, ev_popAt, ev_dnew, ev_lrg, ev_idx, ex_asg, ex_par, ex_aug, ex_setI, ex_augI, ex_app, ex_ext, ex_expr, ex_ret, ex_retN, ex_pass, ex_brk, ex_cnt, ex_ifS, ex_raise, ex_forS, ex_whl, evalV, evalT, evalEs, evalA, evalA1, evalO, evalC, evalI, enterE, slotR, ownR, ownC, setD, readR, moveR, outs, mapM, isTys_cons, isFreshF, L2.ixN, fillA, putA, putP, slice]
    have hle : (cut (ns.map D.int) none (some 63)).length ≤ sizeLine := by rw [cut_63, sizeLine_eq]; simp; omega
    have e1 : evalE (cl T w k) (.lc (.p1 .abs (.e (.p1 .int (.vw 2)))) (.nm 2) (.seq (.slcv 0 none (some (.cst (.int 63))))) none [2]) [Sl.sh (.scr ns), .no, .no] = .ok (.lst (((ns.take 63).map fun i => if i < 0 then -i else i).map D.int)) [Sl.sh (.scr ns), .no, .no] := by
      rw [lc_map absD e2 (fun d hd => ?_) hle, hm]
      · rfl
      · rw [cut_63] at hd
        obtain ⟨i, hi, rfl⟩ := List.mem_map.mp (List.mem_of_mem_take hd)
        exact ⟨[Sl.sh (.scr ns), .no, .sh (.int i)], by rw [turn_eq rfl]; simp [ss_nil, ss_cons, ev_cst, ev_var, ev_mov, ev_glob, ev_sh, ev_tup, ev_lst, ev_bin, ev_binv, ev_neg, ev_cmp, ev_cmpv, ev_chain, ev_and, ev_or, ev_not, ev_ite, ev_call, ev_p1, ev_p2, ev_isi, ev_sub, ev_subv, ev_slc, ev_slcv, ev_rev, ev_pop, ev_popAt, ev_dnew, ev_lrg, ev_idx, ex_asg, ex_par, ex_aug, ex_setI, ex_augI, ex_app, ex_ext, ex_expr, ex_ret, ex_retN, ex_pass, ex_brk, ex_cnt, ex_ifS, ex_raise, ex_forS, ex_whl, evalV, evalT, evalEs, evalA, evalA1, evalO, evalC, evalI, enterE, slotR, ownR, ownC, setD, readR, moveR, outs, mapM, isTys_cons, isFreshF, L2.ixN, fillA, putA, putP, absD, wipeE], by simp [wipeE]⟩
    rw [show evalE (cl T w k) (.sh (.lc (.p1 .abs (.e (.p1 .int (.vw 2)))) (.nm 2) (.seq (.slcv 0 none (some (.cst (.int 63))))) none [2])) [Sl.sh (.scr ns), .no, .no] = _ from e1]
    simp [b_hand, f_hand, ss_nil, ss_cons, ev_cst, ev_var, ev_mov, ev_glob, ev_sh, ev_tup, ev_lst, ev_bin, ev_binv, ev_neg, ev_cmp, ev_cmpv, ev_chain, ev_and, ev_or, ev_not, ev_ite, ev_call, ev_p1, ev_p2, ev_isi, ev_sub, ev_subv, ev_slc, ev_slcv, ev_rev, ev_pop, ev_popAt, ev_dnew, ev_lrg, ev_idx, ex_asg, ex_par, ex_aug, ex_setI, ex_augI, ex_app, ex_ext, ex_expr, ex_ret, ex_retN, ex_pass, ex_brk, ex_cnt, ex_ifS, ex_raise, ex_forS, ex_whl, evalV, evalT, evalEs, evalA, evalA1, evalO, evalC, evalI, enterE, slotR, ownR, ownC, setD, readR, moveR, outs, mapM, isTys_cons, isFreshF, L2.ixN, fillA, putA, putP, hand, bin_mul (mulOk_l (show ((7:Int)).natAbs < 2 ^ 64 by decide))]
  · obtain ⟨i, _, rfl⟩ := List.mem_map.mp hc
    split <;> omega
/-- one of some -/
def b_any (jd : Nat) : List St := [
  .ret (.subv 1 (.call jd [.io 0, .e (.p1 .len (.vw 1))]))]
def f_any (jd : Nat) : Fn := ⟨2, 2, [0], false, b_any jd⟩
theorem any_ok {T : Tab} {w k j jd : Nat} (hj : T[j]? = some (f_any jd)) (hd : T[jd]? = some f_draw) {h : D} (hh : IsHand h) {ds : List D} (hne : ds ≠ []) (hlen : ds.length < 1073741824) {t : D} (ht : t = .lst ds ∨ t = .tup ds) :
    ∃ (d h' : D) (i : Nat), run T w (k + 2) j [h, t] = .ok d [h'] ∧ ds[i]? = some d ∧ IsHand h' := by
  have hpos : 0 < ds.length := List.length_pos_iff.mpr hne
  obtain ⟨v, h', e, v0, v1, hh'⟩ := draw_ok (T := T) (w := w) (k := k) hd hh (b := (ds.length : Nat)) (by omega) (divOk_s (by omega) (by omega))
  obtain ⟨i, rfl⟩ := Int.eq_ofNat_of_zero_le v0
  have hi : i < ds.length := by omega
  refine ⟨ds[i], h', i, ?_, by simp [hi], hh'⟩
  have hat : L2.atI ds (i : Int) = some ds[i] := L2.atI_nat (by simp [hi])
  have c1 := hh.isC
  rw [run_def hj rfl]
  rcases ht with rfl | rfl <;> simp [f_any, b_any, ss_nil, ss_cons, ev_cst, ev_var, ev_mov, ev_glob, ev_sh, ev_tup, ev_lst, ev_bin, ev_binv, ev_neg, ev_cmp, ev_cmpv, ev_chain, ev_and, ev_or, ev_not, ev_ite, ev_call, ev_p1, ev_p2, ev_isi, ev_sub, ev_subv, ev_slc, ev_slcv, ev_rev, ev_pop, ev_popAt, ev_dnew, ev_lrg, ev_idx, ex_asg, ex_par, ex_aug, ex_setI, ex_augI, ex_app, ex_ext, ex_expr, ex_ret, ex_retN, ex_pass, ex_brk, ex_cnt, ex_ifS, ex_raise, ex_forS, ex_whl, evalV, evalT, evalEs, evalA, evalA1, evalO, evalC, evalI, enterE, slotR, ownR, ownC, setD, readR, moveR, outs, mapM, isTys_cons, isFreshF, L2.ixN, fillA, putA, putP, e, hat, hh.isC, hh'.isC]
end Sh
end Rf

/-! Rg, part Y: calls by levels, what is wished of an end, loops and comprehensions as wishes, the hand as a thing. -/
namespace Rf
open PySem
/-- the calls at a level of n at least -/
def AtL (T : Tab) (w : Nat) (C : Calls) (n : Nat) : Prop := ∃ K, n ≤ K ∧ C = cl T w K
theorem AtL.le {T : Tab} {w : Nat} {C : Calls} {n m : Nat} (h : AtL T w C n) (hm : m ≤ n := by decide) : AtL T w C m := let ⟨K, a, b⟩ := h; ⟨K, Nat.le_trans hm a, b⟩
theorem AtL.fr {T : Tab} {w : Nat} {C : Calls} {n : Nat} (h : AtL T w C n) (j : Nat) {fd : Fn} (hT : T[j]? = some fd) : C.fr j = fd.fr := by
  obtain ⟨K, a, rfl⟩ := h
  exact fr_of hT
theorem AtL.fuel {T : Tab} {w : Nat} {C : Calls} {n : Nat} (h : AtL T w C n) : C.fuel = w := by
  obtain ⟨K, a, rfl⟩ := h
  rfl
/-- a call's end: a value, as is wished -/
def CR.is (r : CR) (Q : D → List D → Prop) : Prop := match r with
  | .ok d o => Q d o
  | _ => False
/-- .. an error, as is wished -/
def CR.er (r : CR) (Q : D → List D → Prop) : Prop := match r with
  | .exc d o => Q d o
  | _ => False
section
variable {Q : D → List D → Prop} {d : D} {o : List D} {r : CR}
@[simp] theorem is_ok : (CR.ok d o).is Q = Q d o := Eq.trans rfl rfl
@[simp] theorem is_exc : (CR.exc d o).is Q = False := Eq.trans rfl rfl
@[simp] theorem is_stuck : CR.stuck.is Q = False := Eq.trans rfl rfl
@[simp] theorem er_ok : (CR.ok d o).er Q = False := Eq.trans rfl rfl
@[simp] theorem er_exc : (CR.exc d o).er Q = Q d o := Eq.trans rfl rfl
@[simp] theorem er_stuck : CR.stuck.er Q = False := Eq.trans rfl rfl
theorem CR.is.out (h : r.is Q) : ∃ d o, r = .ok d o ∧ Q d o := by
  cases r with
  | ok d o => exact ⟨d, o, rfl, h⟩
  | _ => exact False.elim h
theorem CR.er.out (h : r.er Q) : ∃ d o, r = .exc d o ∧ Q d o := by
  cases r with
  | exc d o => exact ⟨d, o, rfl, h⟩
  | _ => exact False.elim h
theorem is_eq : (r.is fun a b => a = d ∧ b = o) ↔ r = .ok d o := by
  constructor
  · intro h
    obtain ⟨d', o', e, rfl, rfl⟩ := h.out
    exact e
  · rintro rfl
    exact ⟨rfl, rfl⟩
theorem er_eq : (r.er fun a b => a = d ∧ b = o) ↔ r = .exc d o := by
  constructor
  · intro h
    obtain ⟨d', o', e, rfl, rfl⟩ := h.out
    exact e
  · rintro rfl
    exact ⟨rfl, rfl⟩
end
/-- one level in: what is shown of the body at every level is so of the call -/
theorem step {T : Tab} {w : Nat} {C : Calls} {n j : Nat} {fd : Fn} {ds : List D} {P : CR → Prop} (hT : T[j]? = some fd) (hl : ds.length = fd.ps) (hC : AtL T w C (n + 1))
    (h : ∀ C', AtL T w C' n → P (Rf.finW fd (execSs C' fd.body (enterE fd.io 0 ds ++ List.replicate (fd.n - fd.ps) Sl.no)))) : P (C.fn j ds) := by
  obtain ⟨K, hK, rfl⟩ := hC
  obtain ⟨k, rfl⟩ : ∃ k, K = k + 1 := ⟨K - 1, by omega⟩
  show P (run T w (k + 1) j ds)
  rw [run_def hT hl]
  exact h _ ⟨k, by omega, rfl⟩
theorem stepE {T : Tab} {w : Nat} {C : Calls} {n j : Nat} {fd : Fn} {ds : List D} {d : D} {o : List D} (hT : T[j]? = some fd) (hl : ds.length = fd.ps) (hC : AtL T w C (n + 1))
    (h : ∀ C', AtL T w C' n → (Rf.finW fd (execSs C' fd.body (enterE fd.io 0 ds ++ List.replicate (fd.n - fd.ps) Sl.no))).is fun a b => a = d ∧ b = o) : C.fn j ds = .ok d o :=
  is_eq.mp (step (P := fun r => r.is fun a b => a = d ∧ b = o) hT hl hC h)
theorem stepI {T : Tab} {w : Nat} {C : Calls} {n j : Nat} {fd : Fn} {ds : List D} {Q : D → List D → Prop} (hT : T[j]? = some fd) (hl : ds.length = fd.ps) (hC : AtL T w C (n + 1))
    (h : ∀ C', AtL T w C' n → (Rf.finW fd (execSs C' fd.body (enterE fd.io 0 ds ++ List.replicate (fd.n - fd.ps) Sl.no))).is Q) : (C.fn j ds).is Q :=
  step (P := fun r => r.is Q) hT hl hC h
theorem stepX {T : Tab} {w : Nat} {C : Calls} {n j : Nat} {fd : Fn} {ds : List D} {d : D} {o : List D} (hT : T[j]? = some fd) (hl : ds.length = fd.ps) (hC : AtL T w C (n + 1))
    (h : ∀ C', AtL T w C' n → (Rf.finW fd (execSs C' fd.body (enterE fd.io 0 ds ++ List.replicate (fd.n - fd.ps) Sl.no))).er fun a b => a = d ∧ b = o) : C.fn j ds = .exc d o :=
  er_eq.mp (step (P := fun r => r.er fun a b => a = d ∧ b = o) hT hl hC h)
/-- keeps a goal folded while facts are taken apart -/
structure Hid (P : Prop) : Prop where
  out : P
theorem stepIh {T : Tab} {w : Nat} {C : Calls} {n j : Nat} {fd : Fn} {ds : List D} {Q : D → List D → Prop} (hT : T[j]? = some fd) (hl : ds.length = fd.ps) (hC : AtL T w C (n + 1))
    (h : ∀ C', AtL T w C' n → Hid ((Rf.finW fd (execSs C' fd.body (enterE fd.io 0 ds ++ List.replicate (fd.n - fd.ps) Sl.no))).is Q)) : (C.fn j ds).is Q :=
  stepI hT hl hC fun C' h' => (h C' h').out
theorem stepEh {T : Tab} {w : Nat} {C : Calls} {n j : Nat} {fd : Fn} {ds : List D} {d : D} {o : List D} (hT : T[j]? = some fd) (hl : ds.length = fd.ps) (hC : AtL T w C (n + 1))
    (h : ∀ C', AtL T w C' n → Hid ((Rf.finW fd (execSs C' fd.body (enterE fd.io 0 ds ++ List.replicate (fd.n - fd.ps) Sl.no))).is fun a b => a = d ∧ b = o)) : C.fn j ds = .ok d o :=
  stepE hT hl hC fun C' h' => (h C' h').out
/-! ### what is wished of statements -/
structure Wi where
  nx : Env → Prop
  rt : D → Env → Prop := fun _ _ => False
  bk : Env → Prop := fun _ => False
def S.w (r : Rf.S) (q : Wi) : Prop := match r with
  | .nx s => q.nx s
  | .ct s => q.nx s
  | .bk s => q.bk s
  | .ret d s => q.rt d s
  | _ => False
section
variable {q : Wi} {s : Env} {d : D}
@[simp] theorem w_nx : (Rf.S.nx s).w q = q.nx s := Eq.trans rfl rfl
@[simp] theorem w_ct : (Rf.S.ct s).w q = q.nx s := Eq.trans rfl rfl
@[simp] theorem w_bk : (Rf.S.bk s).w q = q.bk s := Eq.trans rfl rfl
@[simp] theorem w_ret : (Rf.S.ret d s).w q = q.rt d s := Eq.trans rfl rfl
@[simp] theorem w_stuck : Rf.S.stuck.w q = False := Eq.trans rfl rfl
@[simp] theorem w_exc : (Rf.S.exc d s).w q = False := Eq.trans rfl rfl
/-- a wish for all that comes behind: I between the turns, R where it returns, B where it breaks -/
theorem for_run {f : D → Env → Rf.S} {R : D → Env → Prop} {B : Env → Prop} (I : Nat → Env → Prop) : ∀ (ds : List D) (n : Nat) (s : Env), I n s → (∀ (i : Nat) d, ds[i]? = some d → ∀ s, I (n + i) s → (f d s).w ⟨I (n + i + 1), R, B⟩) →
    (∃ s', forL f ds s = .nx s' ∧ (I (n + ds.length) s' ∨ B s')) ∨ ∃ d s', forL f ds s = .ret d s' ∧ R d s'
  | [], n, s, hs, _ => .inl ⟨s, rfl, .inl hs⟩
  | d :: ds, n, s, hs, h => by
    have h1 := h 0 d rfl s hs
    have next : ∀ s1, I (n + 1) s1 → (∃ s', forL f ds s1 = .nx s' ∧ (I (n + (d :: ds).length) s' ∨ B s')) ∨ ∃ d s', forL f ds s1 = .ret d s' ∧ R d s' := fun s1 h2 => by
      have := for_run I ds (n + 1) s1 h2 fun i d hd s hs => by
        have := h (i + 1) d (by simpa using hd) s (by rw [show n + (i + 1) = n + 1 + i by omega]; exact hs)
        rw [show n + (i + 1) + 1 = n + 1 + i + 1 by omega] at this
        exact this
      rw [show n + 1 + ds.length = n + (d :: ds).length by rw [List.length_cons]; omega] at this
      exact this
    cases e : f d s with
    | nx s1 =>
      rw [e] at h1
      simp only [forL, e]
      exact next s1 h1
    | ct s1 =>
      rw [e] at h1
      simp only [forL, e]
      exact next s1 h1
    | bk s1 =>
      rw [e] at h1
      simp only [forL, e]
      exact .inl ⟨s1, rfl, .inr h1⟩
    | ret d1 s1 =>
      rw [e] at h1
      simp only [forL, e]
      exact .inr ⟨d1, s1, rfl, h1⟩
    | exc x s1 => rw [e] at h1; exact False.elim h1
    | stuck => rw [e] at h1; exact False.elim h1
theorem while_run {t : Env → R Bool} {f : Env → Rf.S} {R : D → Env → Prop} (I Z : Env → Prop) (μ : Env → Nat) (h : ∀ s, I s → ∃ b s1, t s = .ok b s1 ∧ if b = true then (f s1).w ⟨fun s2 => I s2 ∧ μ s2 < μ s, R, Z⟩ else Z s1) : ∀ (n : Nat) (s : Env), I s → μ s < n →
    (∃ s', whileL t f n s = .nx s' ∧ Z s') ∨ ∃ d s', whileL t f n s = .ret d s' ∧ R d s'
  | 0, s, _, hn => absurd hn (Nat.not_lt_zero _)
  | n + 1, s, hs, hn => by
    obtain ⟨b, s1, e, hb⟩ := h s hs
    cases b with
    | false => exact .inl ⟨s1, by simp [whileL, e], by simpa using hb⟩
    | true =>
      have hb : (f s1).w ⟨fun s2 => I s2 ∧ μ s2 < μ s, R, Z⟩ := by simpa using hb
      cases e2 : f s1 with
      | nx s2 =>
        rw [e2] at hb
        have hb : I s2 ∧ μ s2 < μ s := hb
        have := while_run I Z μ h n s2 hb.1 (by omega)
        simpa [whileL, e, e2] using this
      | ct s2 =>
        rw [e2] at hb
        have hb : I s2 ∧ μ s2 < μ s := hb
        have := while_run I Z μ h n s2 hb.1 (by omega)
        simpa [whileL, e, e2] using this
      | bk s2 => rw [e2] at hb; exact .inl ⟨s2, by simp [whileL, e, e2], hb⟩
      | ret d s2 => rw [e2] at hb; exact .inr ⟨d, s2, by simp [whileL, e, e2], hb⟩
      | exc x s2 => rw [e2] at hb; exact False.elim hb
      | stuck => rw [e2] at hb; exact False.elim hb
end
section
variable {fd : Fn} {Q : D → List D → Prop} {q : Wi} {f : D → Env → Rf.S} {ds : List D} {s : Env} {k : Env → Rf.S} {tg : Tag k} {tf : Tag fd} {t : Env → R Bool} {g : Env → Rf.S} {n : Nat}
/-- a for in a def's body -/
theorem is_for (I : Nat → Env → Prop) (R : D → Env → Prop) (h0 : I 0 s) (ht : ∀ (i : Nat) d, ds[i]? = some d → ∀ s, I i s → (f d s).w ⟨I (i + 1), R, fun _ => False⟩) (hk : ∀ s, I ds.length s → (Rf.finW fd (k s) tf).is Q) (hr : ∀ d s, R d s → (Rf.finW fd (.ret d s) tf).is Q) :
    (Rf.finW fd (seqS (forL f ds s) k tg) tf).is Q := by
  rcases for_run (R := R) (B := fun _ => False) I ds 0 s h0 (fun i d hd s hs => by rw [Nat.zero_add] at hs ⊢; exact ht i d hd s hs) with ⟨s', e, h | h⟩ | ⟨d, s', e, h⟩
  · rw [e]; rw [Nat.zero_add] at h; exact hk s' h
  · exact False.elim h
  · rw [e]; exact hr d s' h
/-- .. in a loop's body -/
theorem w_for (I : Nat → Env → Prop) (R : D → Env → Prop) (h0 : I 0 s) (ht : ∀ (i : Nat) d, ds[i]? = some d → ∀ s, I i s → (f d s).w ⟨I (i + 1), R, fun _ => False⟩) (hk : ∀ s, I ds.length s → (k s).w q) (hr : ∀ d s, R d s → q.rt d s) : (seqS (forL f ds s) k tg).w q := by
  rcases for_run (R := R) (B := fun _ => False) I ds 0 s h0 (fun i d hd s hs => by rw [Nat.zero_add] at hs ⊢; exact ht i d hd s hs) with ⟨s', e, h | h⟩ | ⟨d, s', e, h⟩
  · rw [e]; rw [Nat.zero_add] at h; exact hk s' h
  · exact False.elim h
  · rw [e]; exact hr d s' h
theorem is_while (I Z : Env → Prop) (R : D → Env → Prop) (μ : Env → Nat) (h0 : I s) (hn : μ s < n) (ht : ∀ s, I s → ∃ b s1, t s = .ok b s1 ∧ if b = true then (g s1).w ⟨fun s2 => I s2 ∧ μ s2 < μ s, R, Z⟩ else Z s1) (hk : ∀ s, Z s → (Rf.finW fd (k s) tf).is Q) (hr : ∀ d s, R d s → (Rf.finW fd (.ret d s) tf).is Q) :
    (Rf.finW fd (seqS (whileL t g n s) k tg) tf).is Q := by
  rcases while_run (R := R) I Z μ ht n s h0 hn with ⟨s', e, h⟩ | ⟨d, s', e, h⟩
  · rw [e]; exact hk s' h
  · rw [e]; exact hr d s' h
theorem w_while (I Z : Env → Prop) (R : D → Env → Prop) (μ : Env → Nat) (h0 : I s) (hn : μ s < n) (ht : ∀ s, I s → ∃ b s1, t s = .ok b s1 ∧ if b = true then (g s1).w ⟨fun s2 => I s2 ∧ μ s2 < μ s, R, Z⟩ else Z s1) (hk : ∀ s, Z s → (k s).w q) (hr : ∀ d s, R d s → q.rt d s) :
    (seqS (whileL t g n s) k tg).w q := by
  rcases while_run (R := R) I Z μ ht n s h0 hn with ⟨s', e, h⟩ | ⟨d, s', e, h⟩
  · rw [e]; exact hk s' h
  · rw [e]; exact hr d s' h
end
/-! ### comprehensions -/
/-- a comprehension's own slot behind it -/
def Sl.keep : Sl → Sl
  | .sh d => .sh d
  | _ => .no
@[simp] theorem keep_no : Sl.no.keep = .no := rfl
@[simp] theorem keep_sh (d : D) : (Sl.sh d).keep = .sh d := rfl
@[simp] theorem keep_ow (d : D) : (Sl.ow d).keep = .no := rfl
/-- a turn's end: this item, the slots but the own ones as they were -/
def R.it {α : Type} (r : R α) (own : List Nat) (s : Env) (a : α) : Prop := match r with
  | .ok b s1 => b = a ∧ wipeE s1 own = wipeE s own
  | _ => False
@[simp] theorem it_ok {α : Type} {b a : α} {s1 s : Env} {own : List Nat} : (R.ok b s1).it own s a = (b = a ∧ wipeE s1 own = wipeE s own) := Eq.trans rfl rfl
@[simp] theorem it_exc {α : Type} {x : D} {a : α} {s1 s : Env} {own : List Nat} : (R.exc x s1 : R α).it own s a = False := Eq.trans rfl rfl
@[simp] theorem it_stuck {α : Type} {a : α} {s : Env} {own : List Nat} : (R.stuck : R α).it own s a = False := Eq.trans rfl rfl
theorem R.it.out {α : Type} {r : R α} {own : List Nat} {s : Env} {a : α} (h : r.it own s a) : ∃ s1, r = .ok a s1 ∧ wipeE s1 own = wipeE s own := by
  cases r with
  | ok b s1 => obtain ⟨rfl, h⟩ := h; exact ⟨s1, rfl, h⟩
  | _ => exact False.elim h
theorem wipe_len (s : Env) : ∀ own : List Nat, (wipeE s own).length = s.length
  | [] => rfl
  | i :: r => by simp [wipeE, wipe_len s r]
theorem wipe_no {s : Env} {i : Nat} : ∀ {own : List Nat}, i ∈ own → (wipeE s own)[i]? = none ∨ (wipeE s own)[i]? = some .no
  | [], h => by cases h
  | j :: r, h => by
    by_cases e : j = i
    · subst e
      by_cases hl : j < (wipeE s r).length
      · right; simp only [wipeE]; rw [List.getElem?_set_self hl]
      · left; simp only [wipeE]; rw [List.getElem?_eq_none]; rw [List.length_set]; omega
    · rcases List.mem_cons.mp h with h | h
      · exact absurd h.symm e
      · simp only [wipeE]; rw [List.getElem?_set_ne e]; exact wipe_no h
theorem set_no {s : Env} {i : Nat} (h : s[i]? = none ∨ s[i]? = some .no) : s.set i .no = s := by
  apply List.ext_getElem?
  intro j
  by_cases e : i = j
  · subst e
    rcases h with h | h
    · rw [h]; exact List.getElem?_eq_none (by rw [List.length_set]; exact (List.getElem?_eq_none_iff.mp h))
    · rw [List.getElem?_set_self (List.getElem?_eq_some_iff.mp h).1, h]
  · rw [List.getElem?_set_ne e]
theorem wipe_twice (s : Env) (own : List Nat) : ∀ l : List Nat, (∀ i ∈ l, i ∈ own) → wipeE (wipeE s own) l = wipeE s own
  | [], _ => rfl
  | i :: r, h => by
    simp only [wipeE]
    rw [wipe_twice s own r fun j hj => h j (List.mem_cons_of_mem _ hj)]
    exact set_no (wipe_no (h i List.mem_cons_self))
theorem lc_it {α : Type} {C : Calls} {elt : E} {tg : Tg} {it : It} {cond : Option T} {own : List Nat} {s s1 : Env} (xs : List α) (enc : α → D) (g : α → D) (hi : evalI C it s = .ok (xs.map enc) s1) (h : ∀ x ∈ xs, (turnL C tg cond elt (enc x) (wipeE s1 own)).it own s1 (some (g x))) (hl : xs.length ≤ sizeLine) :
    evalE C (.lc elt tg it cond own) s = .ok (.lst (xs.map g)) (backE s1 (wipeE s1 own) own) := by
  rw [ev_lc, hi]
  simp only [bnd_ok, bind_ok]
  have e : ∀ (xs : List α), (∀ x ∈ xs, (turnL C tg cond elt (enc x) (wipeE s1 own)).it own s1 (some (g x))) → compL own (turnL C tg cond elt) (xs.map enc) (wipeE s1 own) = .ok (xs.map g) (wipeE s1 own) := by
    intro xs
    induction xs with
    | nil => intro _; rfl
    | cons x xs ih =>
      intro h
      obtain ⟨s2, e, w⟩ := (h x List.mem_cons_self).out
      simp only [List.map_cons, compL, e, w, ih fun y hy => h y (List.mem_cons_of_mem _ hy)]
      rfl
  rw [e xs h]
  simp only [bnd_ok, bind_ok]
  rw [if_pos (by rw [List.length_map]; exact hl)]
theorem lc_if {α : Type} {C : Calls} {elt : E} {tg : Tg} {it : It} {cond : Option T} {own : List Nat} {s s1 : Env} (xs : List α) (enc : α → D) (p : α → Bool) (g : α → D) (hi : evalI C it s = .ok (xs.map enc) s1)
    (h : ∀ x ∈ xs, (turnL C tg cond elt (enc x) (wipeE s1 own)).it own s1 (if p x then some (g x) else none)) (hl : xs.length ≤ sizeLine) :
    evalE C (.lc elt tg it cond own) s = .ok (.lst ((xs.filter p).map g)) (backE s1 (wipeE s1 own) own) := by
  rw [ev_lc, hi]
  simp only [bnd_ok, bind_ok]
  have e : ∀ (xs : List α), (∀ x ∈ xs, (turnL C tg cond elt (enc x) (wipeE s1 own)).it own s1 (if p x then some (g x) else none)) → compL own (turnL C tg cond elt) (xs.map enc) (wipeE s1 own) = .ok ((xs.filter p).map g) (wipeE s1 own) := by
    intro xs
    induction xs with
    | nil => intro _; rfl
    | cons x xs ih =>
      intro h
      obtain ⟨s2, e, w⟩ := (h x List.mem_cons_self).out
      rw [List.filter_cons]
      cases hp : p x with
      | true =>
        rw [hp] at e
        simp only [List.map_cons, compL, e, w, ih fun y hy => h y (List.mem_cons_of_mem _ hy), if_true]
        rfl
      | false =>
        rw [hp] at e
        simp only [List.map_cons, compL, e, w, ih fun y hy => h y (List.mem_cons_of_mem _ hy)]
        rfl
  rw [e xs h]
  simp only [bnd_ok, bind_ok]
  rw [if_pos (by rw [List.length_map]; exact Nat.le_trans (List.length_filter_le _ _) hl)]
theorem turn_w {C : Calls} {elt : E} {tg : Tg} {cond : Option T} {d : D} {s : Env} : turnL C tg cond elt d s = (match bindT false tg d s with
    | none => .stuck
    | some s1 => (evalC C cond s1).bnd fun k s => if k then (evalE C elt s).bnd fun x s => .ok (some x) s else .ok none s) := by
  unfold turnL
  cases bindT false tg d s <;> rfl
/-- an end as is wished -/
def R.wi {α : Type} (r : R α) (Q : α → Env → Prop) : Prop := match r with
  | .ok a s => Q a s
  | _ => False
@[simp] theorem wi_ok {α : Type} {a : α} {s : Env} {Q : α → Env → Prop} : (R.ok a s).wi Q = Q a s := Eq.trans rfl rfl
@[simp] theorem wi_exc {α : Type} {x : D} {s : Env} {Q : α → Env → Prop} : (R.exc x s : R α).wi Q = False := Eq.trans rfl rfl
@[simp] theorem wi_stuck {α : Type} {Q : α → Env → Prop} : (R.stuck : R α).wi Q = False := Eq.trans rfl rfl
theorem R.wi.out {α : Type} {r : R α} {Q : α → Env → Prop} (h : r.wi Q) : ∃ a s, r = .ok a s ∧ Q a s := by
  cases r with
  | ok a s => exact ⟨a, s, rfl, h⟩
  | _ => exact False.elim h
/-- a comprehension whose turns change the slots: I between the turns, P of each item -/
theorem lc_run {C : Calls} {elt : E} {tg : Tg} {it : It} {cond : Option T} {own : List Nat} {s s1 : Env} {ds : List D} (I : Nat → Env → Prop) (P : Nat → D → Prop) (hi : evalI C it s = .ok ds s1) (h0 : I 0 (wipeE s1 own))
    (h : ∀ (i : Nat) d, ds[i]? = some d → ∀ s, I i s → (turnL C tg cond elt d s).wi fun o s2 => (∃ x, o = some x ∧ P i x) ∧ I (i + 1) (wipeE s2 own)) (hl : ds.length ≤ sizeLine) :
    ∃ r s2, evalE C (.lc elt tg it cond own) s = .ok (.lst r) (backE s1 s2 own) ∧ I ds.length s2 ∧ r.length = ds.length ∧ ∀ (i : Nat) x, r[i]? = some x → P i x := by
  have key : ∀ (ds : List D) (k : Nat) (s : Env), I k s → (∀ (i : Nat) d, ds[i]? = some d → ∀ s, I (k + i) s → (turnL C tg cond elt d s).wi fun o s2 => (∃ x, o = some x ∧ P (k + i) x) ∧ I (k + i + 1) (wipeE s2 own)) →
      ∃ r s2, compL own (turnL C tg cond elt) ds s = .ok r s2 ∧ I (k + ds.length) s2 ∧ r.length = ds.length ∧ ∀ (i : Nat) x, r[i]? = some x → P (k + i) x := by
    intro ds
    induction ds with
    | nil => intro k s hs _; exact ⟨[], s, rfl, hs, rfl, fun i x h => by simp at h⟩
    | cons d ds ih =>
      intro k s hs h
      obtain ⟨o, s1, e, ⟨x, rfl, px⟩, hI⟩ := (h 0 d rfl s hs).out
      obtain ⟨r, s2, e2, h2, l2, p2⟩ := ih (k + 1) _ hI fun i d hd s hs => by
        have := h (i + 1) d (by simpa using hd) s (by rw [show k + (i + 1) = k + 1 + i by omega]; exact hs)
        rw [show k + (i + 1) = k + 1 + i by omega] at this
        exact this
      refine ⟨x :: r, s2, by simp only [compL, e, e2]; rfl, by rw [List.length_cons, show k + (ds.length + 1) = k + 1 + ds.length by omega]; exact h2, by simp [l2], fun i y hy => ?_⟩
      cases i with
      | zero => simp at hy; subst hy; exact px
      | succ i => rw [show k + (i + 1) = k + 1 + i by omega]; exact p2 i y (by simpa using hy)
  obtain ⟨r, s2, e, h2, l, p⟩ := key ds 0 _ h0 fun i d hd s hs => by
    rw [Nat.zero_add] at hs ⊢
    exact h i d hd s hs
  rw [Nat.zero_add] at h2
  refine ⟨r, s2, ?_, h2, l, fun i x hx => by have := p i x hx; rwa [Nat.zero_add] at this⟩
  rw [ev_lc, hi]
  simp only [bnd_ok, bind_ok]
  rw [e]
  simp only [bnd_ok, bind_ok]
  rw [if_pos (by rw [l]; exact hl)]
theorem ints_of {q : Int → Prop} : ∀ {r : List D}, (∀ x ∈ r, ∃ v, x = .int v ∧ q v) → ∃ xs : List Int, r = xs.map .int ∧ ∀ x ∈ xs, q x
  | [], _ => ⟨[], rfl, fun x h => by cases h⟩
  | d :: r, h => by
    obtain ⟨v, rfl, hv⟩ := h d List.mem_cons_self
    obtain ⟨xs, rfl, hx⟩ := ints_of (r := r) fun x hx => h x (List.mem_cons_of_mem _ hx)
    refine ⟨v :: xs, rfl, fun x hx' => ?_⟩
    rcases List.mem_cons.mp hx' with rfl | hx'
    · exact hv
    · exact hx x hx'
theorem rng2_s {C : Calls} {a b : E} {s : Env} {i j : Int} (h : evalE C a s = .ok (.int i) s) (h2 : evalE C b s = .ok (.int j) s) (b1 : -(2 ^ 62) ≤ i) (b2 : i < 2 ^ 62) (b3 : -(2 ^ 62) ≤ j) (b4 : j < 2 ^ 62) : evalI C (.rng2 a b) s = .ok (rangeD i (j - i).toNat) s := rng2_ok h h2 b1 b2 b3 b4
theorem rng1_s {C : Calls} {a : E} {s : Env} {n : Nat} (h : evalE C a s = .ok (.int n) s) (hn : (n : Int) < 2 ^ 62) : evalI C (.rng1 a) s = .ok (rangeD 0 n) s := rng1_ok h hn
theorem range_map (lo : Int) (n : Nat) : rangeD lo n = (List.range n).map fun (i : Nat) => D.int (lo + (i : Nat)) := rfl
/-! ### the hand -/
namespace Sh
structure Kd where
  c0 : Int
  c1 : Option Int
  c2 : Option Int
  c3 : Int
  m1 : Int
  a2 : Int
  m3 : Int
structure Kd.Ok (κ : Kd) : Prop where
  m3 : 0 < κ.m3 ∧ κ.m3 < 2 ^ 64
  c1 : ∀ c, κ.c1 = some c → c.natAbs < 2 ^ 64
  c2 : ∀ c, κ.c2 = some c → c.natAbs < 2 ^ 64
  m1 : κ.m1.natAbs < 2 ^ 64
structure Hand where
  cs : List Int
  p : Nat
  l : Int
  s : Int
  n : Int
  hl : 0 ≤ l
  hcs : ∀ c ∈ cs, 0 ≤ c
/-- the hand as data -/
def hd (h : Hand) : D := hand h.cs h.p h.l h.s h.n
@[simp] theorem hd_ex (h : Hand) : ∃ x, hd h = hd x := ⟨h, rfl⟩
@[simp] theorem hd_isC {h : Hand} : Rf.isC (hd h) = true := rfl
def bK_draw (κ : Kd) : List St := [
  .ifS (.and (.cmp .eq (.subv 0 (.cst (.int 2))) (.e (.cst (.int 0)))) (.cmp .lt (.subv 0 (.cst (.int 1))) (.e (.p1 .len (.e (.subv 0 (.cst (.int 0)))))))) [.asg (.nm 3) (.sub (.subv 0 (.cst (.int 0))) (.subv 0 (.cst (.int 1)))), .setI 0 (.cst (.int 1)) (.bin .add (.subv 0 (.cst (.int 1))) (.e (.cst (.int 1)))),
    .setI 0 (.cst (.int 3)) (.bin .mod (.p1 .int (.e (.bin .add (.bin .add (.bin .mul (.subv 0 (.cst (.int 3))) (.e (.cst (.int 69621)))) (match κ.c2 with
      | some c => .e (.bin .mul (.var 3) (.e (.cst (.int c))))
      | none => .vw 3)) (.e (.cst (.int κ.c3)))))) (.e (.cst (.int 2147483629)))),
    .ifS (.cmp .ge (.var 3) (.e (.bin .pow (.cst (.int 10)) (.e (.cst (.int 18)))))) [.setI 0 (.cst (.int 2)) (.var 3)] []] [],
  .ifS (.cmp .gt (.subv 0 (.cst (.int 2))) (.e (.cst (.int 0)))) [.asg (.nm 4) (.bin .mod (.p1 .int (.e (.subv 0 (.cst (.int 2))))) (.vw 1)), .setI 0 (.cst (.int 2)) (.bin .fdiv (.subv 0 (.cst (.int 2))) (.vw 1)), .ret (.var 4)] [],
  .setI 0 (.cst (.int 4)) (.bin .add (.subv 0 (.cst (.int 4))) (.e (.cst (.int 1)))),
  .asg (.nm 2) (.bin .mod (.p1 .int (.e (.bin .mul (.p1 .int (.e (.bin .add (.subv 0 (.cst (.int 3))) (.e (.bin .mul (.cst (.int 7919)) (.e (.subv 0 (.cst (.int 4))))))))) (.e (.cst (.int κ.m1)))))) (.e (.cst (.int 2147483647)))),
  .asg (.nm 2) (.bin .mod (.p1 .int (.e (.bin .mul (.var 2) (.e (.bin .add (.bin .fdiv (.var 2) (.e (.cst (.int 1009)))) (.e (.cst (.int 69621)))))))) (.e (.cst (.int 2147483647)))),
  .asg (.nm 2) (.bin .mod (.p1 .int (.e (.bin .mul (.var 2) (.e (.bin .add (.bin .fdiv (.var 2) (.e (.cst (.int 2003)))) (.e (.cst (.int κ.a2)))))))) (.e (.cst (.int κ.m3)))),
  .ret (.bin .mod (.p1 .int (.e (.bin .fdiv (.var 2) (.e (.cst (.int 16)))))) (.vw 1))]
def fK_draw (κ : Kd) : Fn := ⟨2, 5, [0], false, bK_draw κ⟩
def knum (κ : Kd) (s n : Int) : Int := (num2 ((s + 7919 * (n + 1)) * κ.m1 % 2147483647)) * (num2 ((s + 7919 * (n + 1)) * κ.m1 % 2147483647) / 2003 + κ.a2) % κ.m3 / 16
def kdrawV (κ : Kd) (b l s n : Int) : Int × Int × Int := if 0 < l then (l % b, l / b, n) else (knum κ s n % b, l, n + 1)
/-- the hand once its next cell is taken, where it takes one -/
def Hand.pre (κ : Kd) (h : Hand) : Hand :=
  if hp : h.l = 0 ∧ h.p < h.cs.length then
    ⟨h.cs, h.p + 1, if 1000000000000000000 ≤ h.cs[h.p] then h.cs[h.p] else 0, (h.s * 69621 + (match κ.c2 with
      | some c => h.cs[h.p] * c
      | none => h.cs[h.p]) + κ.c3) % 2147483629, h.n, by have := h.hcs _ (List.getElem_mem hp.2); split <;> omega, h.hcs⟩
  else h
/-- what is drawn below b -/
def Hand.v (κ : Kd) (h : Hand) (b : Int) : Int := (kdrawV κ b (h.pre κ).l (h.pre κ).s (h.pre κ).n).1
/-- the hand behind a draw below b -/
def Hand.nx (κ : Kd) (h : Hand) (b : Int) : Hand := if hb : 0 < b then
  ⟨(h.pre κ).cs, (h.pre κ).p, (kdrawV κ b (h.pre κ).l (h.pre κ).s (h.pre κ).n).2.1, (h.pre κ).s, (kdrawV κ b (h.pre κ).l (h.pre κ).s (h.pre κ).n).2.2, by
    have := (h.pre κ).hl
    unfold kdrawV
    split
    · exact Int.ediv_nonneg (by omega) (by omega)
    · exact this, (h.pre κ).hcs⟩ else h
theorem v_ge (κ : Kd) (h : Hand) {b : Int} (hb : 0 < b) : 0 ≤ h.v κ b := by
  unfold Hand.v kdrawV
  split <;> exact Int.emod_nonneg _ (by omega)
theorem v_lt (κ : Kd) (h : Hand) {b : Int} (hb : 0 < b) : h.v κ b < b := by
  unfold Hand.v kdrawV
  split <;> exact Int.emod_lt_of_pos _ hb
theorem kdraw_tail {C : Calls} {κ : Kd} (ok : κ.Ok) (h : Hand) (b : Int) (hb : 0 < b) (db : divOk b = true) (sl : Sl) :
    Rf.finW (fK_draw κ) (execSs C ((bK_draw κ).drop 1) [Sl.ow (hd h), .sh (.int b), .no, sl, .no]) = .ok (.int (kdrawV κ b h.l h.s h.n).1) [hand h.cs h.p (kdrawV κ b h.l h.s h.n).2.1 h.s (kdrawV κ b h.l h.s h.n).2.2] := by
  obtain ⟨cs, p, l, s, n, hl, hcs⟩ := h
  have m1 : ∀ x : Int, mulOk x κ.m1 = true := fun x => mulOk_r ok.m1
  have m0 : ∀ x : Int, mulOk 7919 x = true := fun x => mulOk_l (by decide)
  have d1 : divOk 1009 = true := by decide
  have d2 : divOk 2003 = true := by decide
  have d3 : divOk 16 = true := by decide
  have small : ∀ x m : Int, 0 < m → m < 2 ^ 64 → ∀ y, mulOk (x % m) y = true := fun x m h1 h2 y => mulOk_l (by have := Int.emod_nonneg x (show m ≠ 0 by omega); have := Int.emod_lt_of_pos x h1; omega)
  have s1 := fun x => small x 2147483647 (by decide) (by decide)
  have hm3 := ok.m3.1
  by_cases h : 0 < l
  · have e : kdrawV κ b l s n = (l % b, l / b, n) := if_pos h
    rw [e]
    simp [fK_draw, bK_draw, hd, hand, ss_nil, ss_cons, ev_cst, ev_var, ev_mov, ev_glob, ev_sh, ev_tup, ev_lst, ev_bin, ev_binv, ev_neg, ev_cmp, ev_cmpv, ev_chain, ev_and, ev_or, ev_not, ev_ite, ev_call, ev_p1, ev_p2, ev_isi, ev_sub, ev_subv, ev_slc, ev_slcv, ev_rev, ev_pop, ev_popAt, ev_dnew, ev_lrg, ev_idx, ex_asg, ex_par, ex_aug, ex_setI, ex_augI, ex_app, ex_ext, ex_expr, ex_ret, ex_retN, ex_pass, ex_brk, ex_cnt, ex_ifS, ex_raise, ex_forS, ex_whl, evalV, evalT, evalEs, evalA, evalA1, evalO, evalC, evalI, enterE, slotR, ownR, ownC, setD, readR, moveR, outs, mapM, isTys_cons, isFreshF, L2.ixN, fillA, putA, putP, atI5, h, bin_mod hb, bin_fdiv db]
  · have e : kdrawV κ b l s n = (knum κ s n % b, l, n + 1) := if_neg h
    rw [e]
    simp [fK_draw, bK_draw, hd, hand, ss_nil, ss_cons, ev_cst, ev_var, ev_mov, ev_glob, ev_sh, ev_tup, ev_lst, ev_bin, ev_binv, ev_neg, ev_cmp, ev_cmpv, ev_chain, ev_and, ev_or, ev_not, ev_ite, ev_call, ev_p1, ev_p2, ev_isi, ev_sub, ev_subv, ev_slc, ev_slcv, ev_rev, ev_pop, ev_popAt, ev_dnew, ev_lrg, ev_idx, ex_asg, ex_par, ex_aug, ex_setI, ex_augI, ex_app, ex_ext, ex_expr, ex_ret, ex_retN, ex_pass, ex_brk, ex_cnt, ex_ifS, ex_raise, ex_forS, ex_whl, evalV, evalT, evalEs, evalA, evalA1, evalO, evalC, evalI, enterE, slotR, ownR, ownC, setD, readR, moveR, outs, mapM, isTys_cons, isFreshF, L2.ixN, fillA, putA, putP, atI5, h, bin_mod hb, bin_mul (m1 _), bin_mul (m0 _), bin_fdiv d1, bin_fdiv d2, bin_fdiv d3, bin_mod (show (0:Int) < 2147483647 by decide), bin_mod hm3, bin_mul (s1 _ _), knum, num2]
theorem kdraw_ok {T : Tab} {w j : Nat} {κ : Kd} (ok : κ.Ok) (hj : T[j]? = some (fK_draw κ)) {C : Calls} (hC : AtL T w C 1) (h : Hand) {b : Int} (hb : 0 < b) (db : divOk b = true) :
    C.fn j [hd h, .int b] = .ok (.int (h.v κ b)) [hd (h.nx κ b)] := by
  refine step (P := fun r => r = .ok (.int (h.v κ b)) [hd (h.nx κ b)]) hj rfl hC fun C _ => ?_
  have fin : ∀ sl, Rf.finW (fK_draw κ) (execSs C ((bK_draw κ).drop 1) [Sl.ow (hd (h.pre κ)), .sh (.int b), .no, sl, .no]) = .ok (.int (h.v κ b)) [hd (h.nx κ b)] := fun sl => by
    rw [kdraw_tail ok (h.pre κ) b hb db sl]
    unfold Hand.nx
    rw [dif_pos hb]
    rfl
  by_cases hp : h.l = 0 ∧ h.p < h.cs.length
  · have epre : h.pre κ = ⟨h.cs, h.p + 1, if 1000000000000000000 ≤ h.cs[h.p] then h.cs[h.p] else 0, (h.s * 69621 + (match κ.c2 with
      | some c => h.cs[h.p] * c
      | none => h.cs[h.p]) + κ.c3) % 2147483629, h.n, by have := h.hcs _ (List.getElem_mem hp.2); split <;> omega, h.hcs⟩ := by unfold Hand.pre; rw [dif_pos hp]
    rw [epre] at fin
    rw [← fin (.sh (.int h.cs[h.p]))]
    congr 1
    clear fin epre
    obtain ⟨cs, p, l, s, n, hl, hcs⟩ := h
    obtain ⟨rfl, hp⟩ : l = 0 ∧ p < cs.length := hp
    have hp : p < cs.length := hp
    have hget : L2.atI (cs.map D.int) (p : Int) = some (D.int cs[p]) := L2.atI_nat (by simp [hp])
    have m1 : ∀ x : Int, mulOk x 69621 = true := fun x => mulOk_r (by decide)
    show seqS (execS C ((bK_draw κ).head (by simp [bK_draw])) _) (execSs C ((bK_draw κ).drop 1)) = _
    obtain ⟨o, hc⟩ : ∃ o, κ.c2 = o := ⟨_, rfl⟩
    cases o with
    | none =>
      by_cases hbig : 1000000000000000000 ≤ cs[p]
      · simp [bK_draw, fK_draw, hd, hand, ss_nil, ss_cons, ev_cst, ev_var, ev_mov, ev_glob, ev_sh, ev_tup, ev_lst, ev_bin, ev_binv, ev_neg, ev_cmp, ev_cmpv, ev_chain, ev_and, ev_or, ev_not, ev_ite, ev_call, ev_p1, ev_p2, ev_isi, ev_sub, ev_subv, ev_slc, ev_slcv, ev_rev, ev_pop, ev_popAt, ev_dnew, ev_lrg, ev_idx, ex_asg, ex_par, ex_aug, ex_setI, ex_augI, ex_app, ex_ext, ex_expr, ex_ret, ex_retN, ex_pass, ex_brk, ex_cnt, ex_ifS, ex_raise, ex_forS, ex_whl, evalV, evalT, evalEs, evalA, evalA1, evalO, evalC, evalI, enterE, slotR, ownR, ownC, setD, readR, moveR, outs, mapM, isTys_cons, isFreshF, L2.ixN, fillA, putA, putP, atI5, hp, hget, hbig, pow18, hc, bin_mul (m1 _), bin_mod (show (0:Int) < 2147483629 by decide)]
      · simp [bK_draw, fK_draw, hd, hand, ss_nil, ss_cons, ev_cst, ev_var, ev_mov, ev_glob, ev_sh, ev_tup, ev_lst, ev_bin, ev_binv, ev_neg, ev_cmp, ev_cmpv, ev_chain, ev_and, ev_or, ev_not, ev_ite, ev_call, ev_p1, ev_p2, ev_isi, ev_sub, ev_subv, ev_slc, ev_slcv, ev_rev, ev_pop, ev_popAt, ev_dnew, ev_lrg, ev_idx, ex_asg, ex_par, ex_aug, ex_setI, ex_augI, ex_app, ex_ext, ex_expr, ex_ret, ex_retN, ex_pass, ex_brk, ex_cnt, ex_ifS, ex_raise, ex_forS, ex_whl, evalV, evalT, evalEs, evalA, evalA1, evalO, evalC, evalI, enterE, slotR, ownR, ownC, setD, readR, moveR, outs, mapM, isTys_cons, isFreshF, L2.ixN, fillA, putA, putP, atI5, hp, hget, hbig, pow18, hc, bin_mul (m1 _), bin_mod (show (0:Int) < 2147483629 by decide)]
    | some c =>
      have m2 : ∀ x : Int, mulOk x c = true := fun x => mulOk_r (ok.c2 c hc)
      by_cases hbig : 1000000000000000000 ≤ cs[p]
      · simp [bK_draw, fK_draw, hd, hand, ss_nil, ss_cons, ev_cst, ev_var, ev_mov, ev_glob, ev_sh, ev_tup, ev_lst, ev_bin, ev_binv, ev_neg, ev_cmp, ev_cmpv, ev_chain, ev_and, ev_or, ev_not, ev_ite, ev_call, ev_p1, ev_p2, ev_isi, ev_sub, ev_subv, ev_slc, ev_slcv, ev_rev, ev_pop, ev_popAt, ev_dnew, ev_lrg, ev_idx, ex_asg, ex_par, ex_aug, ex_setI, ex_augI, ex_app, ex_ext, ex_expr, ex_ret, ex_retN, ex_pass, ex_brk, ex_cnt, ex_ifS, ex_raise, ex_forS, ex_whl, evalV, evalT, evalEs, evalA, evalA1, evalO, evalC, evalI, enterE, slotR, ownR, ownC, setD, readR, moveR, outs, mapM, isTys_cons, isFreshF, L2.ixN, fillA, putA, putP, atI5, hp, hget, hbig, pow18, hc, bin_mul (m1 _), bin_mul (m2 _), bin_mod (show (0:Int) < 2147483629 by decide)]
      · simp [bK_draw, fK_draw, hd, hand, ss_nil, ss_cons, ev_cst, ev_var, ev_mov, ev_glob, ev_sh, ev_tup, ev_lst, ev_bin, ev_binv, ev_neg, ev_cmp, ev_cmpv, ev_chain, ev_and, ev_or, ev_not, ev_ite, ev_call, ev_p1, ev_p2, ev_isi, ev_sub, ev_subv, ev_slc, ev_slcv, ev_rev, ev_pop, ev_popAt, ev_dnew, ev_lrg, ev_idx, ex_asg, ex_par, ex_aug, ex_setI, ex_augI, ex_app, ex_ext, ex_expr, ex_ret, ex_retN, ex_pass, ex_brk, ex_cnt, ex_ifS, ex_raise, ex_forS, ex_whl, evalV, evalT, evalEs, evalA, evalA1, evalO, evalC, evalI, enterE, slotR, ownR, ownC, setD, readR, moveR, outs, mapM, isTys_cons, isFreshF, L2.ixN, fillA, putA, putP, atI5, hp, hget, hbig, pow18, hc, bin_mul (m1 _), bin_mul (m2 _), bin_mod (show (0:Int) < 2147483629 by decide)]
  · have epre : h.pre κ = h := by unfold Hand.pre; rw [dif_neg hp]
    rw [epre] at fin
    rw [← fin .no]
    congr 1
    clear fin epre
    obtain ⟨cs, p, l, s, n, hl, hcs⟩ := h
    have hp : ¬ (l = 0 ∧ p < cs.length) := hp
    show seqS (execS C ((bK_draw κ).head (by simp [bK_draw])) _) (execSs C ((bK_draw κ).drop 1)) = _
    by_cases hl0 : l = 0
    · have hp : ¬ p < cs.length := fun h => hp ⟨hl0, h⟩
      simp [bK_draw, fK_draw, hd, hand, ss_nil, ss_cons, ev_cst, ev_var, ev_mov, ev_glob, ev_sh, ev_tup, ev_lst, ev_bin, ev_binv, ev_neg, ev_cmp, ev_cmpv, ev_chain, ev_and, ev_or, ev_not, ev_ite, ev_call, ev_p1, ev_p2, ev_isi, ev_sub, ev_subv, ev_slc, ev_slcv, ev_rev, ev_pop, ev_popAt, ev_dnew, ev_lrg, ev_idx, ex_asg, ex_par, ex_aug, ex_setI, ex_augI, ex_app, ex_ext, ex_expr, ex_ret, ex_retN, ex_pass, ex_brk, ex_cnt, ex_ifS, ex_raise, ex_forS, ex_whl, evalV, evalT, evalEs, evalA, evalA1, evalO, evalC, evalI, enterE, slotR, ownR, ownC, setD, readR, moveR, outs, mapM, isTys_cons, isFreshF, L2.ixN, fillA, putA, putP, atI5, hl0, hp]
    · simp [bK_draw, fK_draw, hd, hand, ss_nil, ss_cons, ev_cst, ev_var, ev_mov, ev_glob, ev_sh, ev_tup, ev_lst, ev_bin, ev_binv, ev_neg, ev_cmp, ev_cmpv, ev_chain, ev_and, ev_or, ev_not, ev_ite, ev_call, ev_p1, ev_p2, ev_isi, ev_sub, ev_subv, ev_slc, ev_slcv, ev_rev, ev_pop, ev_popAt, ev_dnew, ev_lrg, ev_idx, ex_asg, ex_par, ex_aug, ex_setI, ex_augI, ex_app, ex_ext, ex_expr, ex_ret, ex_retN, ex_pass, ex_brk, ex_cnt, ex_ifS, ex_raise, ex_forS, ex_whl, evalV, evalT, evalEs, evalA, evalA1, evalO, evalC, evalI, enterE, slotR, ownR, ownC, setD, readR, moveR, outs, mapM, isTys_cons, isFreshF, L2.ixN, fillA, putA, putP, atI5, hl0]
/-- the hand of a script -/
def lcK_hand_i : It := (.seq (.slcv 0 none (some (.cst (.int 63)))))
def lcK_hand : E := (.lc (.p1 .abs (.e (.p1 .int (.vw 2)))) (.nm 2) lcK_hand_i none [2])
def bK_hand (κ : Kd) : List St := [
  .asg (.nm 1) (.sh lcK_hand),
  .ret (.lst [(.var 1), (.cst (.int 0)), (.cst (.int 0)), (.bin .add (.cst (.int κ.c0)) (.e (match κ.c1 with
    | some c => .bin .mul (.cst (.int c)) (.e (.p1 .len (.vw 1)))
    | none => .p1 .len (.vw 1)))), (.cst (.int 0))])]
def fK_hand (κ : Kd) : Fn := ⟨1, 3, [], true, bK_hand κ⟩
/-- the script's hand -/
def hand0 (κ : Kd) (ns : List Int) : Hand := ⟨(ns.take 63).map fun i => if i < 0 then -i else i, 0, 0, κ.c0 + (match κ.c1 with
    | some c => c * ((ns.take 63).length : Nat)
    | none => ((ns.take 63).length : Nat)), 0, Int.le_refl _, fun c hc => by
  obtain ⟨i, _, rfl⟩ := List.mem_map.mp hc
  split <;> omega⟩
theorem khand_ok {T : Tab} {w j : Nat} {κ : Kd} (ok : κ.Ok) (hj : T[j]? = some (fK_hand κ)) {C : Calls} (hC : AtL T w C 1) (ns : List Int) : C.fn j [.scr ns] = .ok (hd (hand0 κ ns)) [] := by
  refine step (P := fun r => r = .ok (hd (hand0 κ ns)) []) hj rfl hC fun C _ => ?_
  have hcut : cut (ns.map D.int) none (some 63) = (ns.take 63).map D.int := by rw [cut_63, ← List.map_take]
  have hi : evalI C lcK_hand_i [Sl.sh (.scr ns), .no, .no] = .ok ((ns.take 63).map D.int) [Sl.sh (.scr ns), .no, .no] := by
    rw [← hcut]
    simp [lcK_hand_i, ss_nil, ss_cons, ev_cst, ev_var, ev_mov, ev_glob, ev_sh, ev_tup, ev_lst, ev_bin, ev_binv, ev_neg, ev_cmp, ev_cmpv, ev_chain, ev_and, ev_or, ev_not, ev_ite, ev_call, ev_p1, ev_p2, ev_isi, ev_sub, ev_subv, ev_slc, ev_slcv, ev_rev, ev_pop, ev_popAt, ev_dnew, ev_lrg, ev_idx, ex_asg, ex_par, ex_aug, ex_setI, ex_augI, ex_app, ex_ext, ex_expr, ex_ret, ex_retN, ex_pass, ex_brk, ex_cnt, ex_ifS, ex_raise, ex_forS, ex_whl, evalV, evalT, evalEs, evalA, evalA1, evalO, evalC, evalI, enterE, slotR, ownR, ownC, setD, readR, moveR, outs, mapM, isTys_cons, isFreshF, L2.ixN, fillA, putA, putP, slice]
  have hle : (ns.take 63).length ≤ sizeLine := by rw [sizeLine_eq]; simp; omega
  have e1 : evalE C lcK_hand [Sl.sh (.scr ns), .no, .no] = .ok (.lst (((ns.take 63).map fun i => if i < 0 then -i else i).map D.int)) [Sl.sh (.scr ns), .no, .no] := by
    have := lc_it (C := C) (elt := .p1 .abs (.e (.p1 .int (.vw 2)))) (tg := .nm 2) (cond := none) (own := [2]) (ns.take 63) D.int (fun i => D.int (if i < 0 then -i else i)) hi (fun x _ => by simp [turn_w, ss_nil, ss_cons, ev_cst, ev_var, ev_mov, ev_glob, ev_sh, ev_tup, ev_lst, ev_bin, ev_binv, ev_neg, ev_cmp, ev_cmpv, ev_chain, ev_and, ev_or, ev_not, ev_ite, ev_call, ev_p1, ev_p2, ev_isi, ev_sub, ev_subv, ev_slc, ev_slcv, ev_rev, ev_pop, ev_popAt, ev_dnew, ev_lrg, ev_idx, ex_asg, ex_par, ex_aug, ex_setI, ex_augI, ex_app, ex_ext, ex_expr, ex_ret, ex_retN, ex_pass, ex_brk, ex_cnt, ex_ifS, ex_raise, ex_forS, ex_whl, evalV, evalT, evalEs, evalA, evalA1, evalO, evalC, evalI, enterE, slotR, ownR, ownC, setD, readR, moveR, outs, mapM, isTys_cons, isFreshF, L2.ixN, fillA, putA, putP, wipeE]) hle
    refine this.trans ?_
    rw [List.map_map]
    rfl
  have hf : isFreshF C.fr (.sh lcK_hand) = false := rfl
  show Rf.finW (fK_hand κ) (execSs C (bK_hand κ) [Sl.sh (.scr ns), .no, .no]) = _
  have hmk : ∀ s : Env, execS C (.asg (.nm 1) (.sh lcK_hand)) s = (evalE C lcK_hand s).tho fun d s => .nx (s.set 1 (.sh d)) := fun s => Eq.trans rfl rfl
  obtain ⟨o, hc⟩ : ∃ o, κ.c1 = o := ⟨_, rfl⟩
  cases o with
  | none => simp [bK_hand, fK_hand, ss_nil, ss_cons, hmk, e1, ex_ret, ev_lst, evalEs, ev_var, ev_cst, ev_bin, evalV, ev_p1, slotR, readR, outs, mapM, hc, hd, hand, hand0]
  | some c =>
    have m2 : ∀ x : Int, mulOk c x = true := fun x => mulOk_l (ok.c1 c hc)
    simp [bK_hand, fK_hand, ss_nil, ss_cons, hmk, e1, ex_ret, ev_lst, evalEs, ev_var, ev_cst, ev_bin, evalV, ev_p1, slotR, readR, outs, mapM, hc, hd, hand, hand0, bin_mul (m2 _)]
/-- one of some -/
def pick (κ : Kd) (h : Hand) (ds : List D) : D := ds.getD (h.v κ ds.length).toNat .non
theorem pick_mem (κ : Kd) (h : Hand) {ds : List D} (hne : ds ≠ []) : pick κ h ds ∈ ds := by
  have hpos : 0 < ds.length := List.length_pos_iff.mpr hne
  have h1 := v_ge κ h (b := (ds.length : Nat)) (by omega)
  have h2 := v_lt κ h (b := (ds.length : Nat)) (by omega)
  unfold pick
  rw [List.getD_eq_getElem?_getD, List.getElem?_eq_getElem (by omega : (h.v κ ds.length).toNat < ds.length)]
  exact List.getElem_mem _
theorem kany_ok {T : Tab} {w j jd : Nat} {κ : Kd} (ok : κ.Ok) (hj : T[j]? = some (f_any jd)) (hd' : T[jd]? = some (fK_draw κ)) {C : Calls} (hC : AtL T w C 2) (h : Hand) {ds : List D} (hne : ds ≠ []) (hlen : ds.length < 1073741824) :
    C.fn j [hd h, .lst ds] = .ok (pick κ h ds) [hd (h.nx κ ds.length)] ∧ C.fn j [hd h, .tup ds] = .ok (pick κ h ds) [hd (h.nx κ ds.length)] := by
  have hpos : 0 < ds.length := List.length_pos_iff.mpr hne
  have v0 := v_ge κ h (b := (ds.length : Nat)) (by omega)
  have v1 := v_lt κ h (b := (ds.length : Nat)) (by omega)
  have hat : L2.atI ds (h.v κ ds.length) = some (pick κ h ds) := by
    obtain ⟨i, hi⟩ := Int.eq_ofNat_of_zero_le v0
    rw [hi] at v1
    unfold pick
    rw [hi]
    exact L2.atI_nat (by simp [show i < ds.length by omega])
  constructor
  · refine step (P := fun r => r = _) hj rfl hC fun C hC => ?_
    have e := kdraw_ok ok hd' hC h (b := (ds.length : Nat)) (by omega) (divOk_s (by omega) (by omega))
    simp [f_any, b_any, ss_nil, ss_cons, ev_cst, ev_var, ev_mov, ev_glob, ev_sh, ev_tup, ev_lst, ev_bin, ev_binv, ev_neg, ev_cmp, ev_cmpv, ev_chain, ev_and, ev_or, ev_not, ev_ite, ev_call, ev_p1, ev_p2, ev_isi, ev_sub, ev_subv, ev_slc, ev_slcv, ev_rev, ev_pop, ev_popAt, ev_dnew, ev_lrg, ev_idx, ex_asg, ex_par, ex_aug, ex_setI, ex_augI, ex_app, ex_ext, ex_expr, ex_ret, ex_retN, ex_pass, ex_brk, ex_cnt, ex_ifS, ex_raise, ex_forS, ex_whl, evalV, evalT, evalEs, evalA, evalA1, evalO, evalC, evalI, enterE, slotR, ownR, ownC, setD, readR, moveR, outs, mapM, isTys_cons, isFreshF, L2.ixN, fillA, putA, putP, e, hat]
  · refine step (P := fun r => r = _) hj rfl hC fun C hC => ?_
    have e := kdraw_ok ok hd' hC h (b := (ds.length : Nat)) (by omega) (divOk_s (by omega) (by omega))
    simp [f_any, b_any, ss_nil, ss_cons, ev_cst, ev_var, ev_mov, ev_glob, ev_sh, ev_tup, ev_lst, ev_bin, ev_binv, ev_neg, ev_cmp, ev_cmpv, ev_chain, ev_and, ev_or, ev_not, ev_ite, ev_call, ev_p1, ev_p2, ev_isi, ev_sub, ev_subv, ev_slc, ev_slcv, ev_rev, ev_pop, ev_popAt, ev_dnew, ev_lrg, ev_idx, ex_asg, ex_par, ex_aug, ex_setI, ex_augI, ex_app, ex_ext, ex_expr, ex_ret, ex_retN, ex_pass, ex_brk, ex_cnt, ex_ifS, ex_raise, ex_forS, ex_whl, evalV, evalT, evalEs, evalA, evalA1, evalO, evalC, evalI, enterE, slotR, ownR, ownC, setD, readR, moveR, outs, mapM, isTys_cons, isFreshF, L2.ixN, fillA, putA, putP, e, hat]
end Sh
end Rf

set_option maxHeartbeats 0
namespace Hd
open PySem PySem.Spec PyProof.Rows L2
def top (i : Nat) : Stmt := PySem.Challenge.pw_evenurn_k36_whole_fits_by_all_rows.main.body.getD i (.Pass ⟨0, 0, 0, 0⟩)
end Hd
namespace Hd
open PySem Rf
def i_is_int : Nat := 0
def i_is_within : Nat := 1
def i_is_row : Nat := 2
def i_product_of : Nat := 3
def i_check_prime : Nat := 4
def i_check_threshold : Nat := 5
def i_value_at : Nat := 6
def i_is_ascending : Nat := 7
def i_is_shares : Nat := 8
def i_inverse : Nat := 9
def i_longer : Nat := 10
def i_row_through : Nat := 11
def i_joined : Nat := 12
def i_check_fits : Nat := 13
def i_agreeing : Nat := 14
def i_fits : Nat := 15
def i__law_hand : Nat := 16
def i__law_draw : Nat := 17
def i__law_some : Nat := 18
def i__law_is : Nat := 19
def i__law_value : Nat := 20
def i__law_prime : Nat := 21
def i__law_row : Nat := 22
def i__law_points : Nat := 23
def i__law_dealt : Nat := 24
def i__law_over : Nat := 25
def i__law_through : Nat := 26
def i__law_every_row : Nat := 27
def i__law_some_shares : Nat := 28
def i__law_power : Nat := 29
def i__law_small_right : Nat := 30
def i__law_great_right : Nat := 31
def i__law_is_known : Nat := 32
def i_law : Nat := 33
/-- is_int(thing): thing 0 -/
def b_is_int : List St := [
  .ret (.and (.isi (.vw 0) [.int]) (.not (.e (.isi (.vw 0) [.bool]))))]
def f_is_int : Fn := ⟨1, 1, [], false, b_is_int⟩
def t_is_int : TD := ⟨"is_int", top 1, ["thing"], ["thing"], f_is_int⟩
/-- is_within(thing, low, high): thing 0, low 1, high 2 -/
def b_is_within : List St := [
  .ret (.and (.call i_is_int [.e (.var 0)]) (.chain .le .le (.var 1) (.var 0) (.var 2)))]
def f_is_within : Fn := ⟨3, 3, [], false, b_is_within⟩
def t_is_within : TD := ⟨"is_within", top 2, ["thing", "low", "high"], ["thing", "low", "high"], f_is_within⟩
/-- is_row(thing, many, low, high): thing 0, many 1, low 2, high 3, part 4 -/
def lc_is_row_1_e : E := (.call i_is_within [.e (.var 4), .e (.var 2), .e (.var 3)])
def lc_is_row_1_i : It := (.seq (.var 0))
abbrev lc_is_row_1 : E := .lc lc_is_row_1_e (.nm 4) lc_is_row_1_i none [4]
def b_is_row : List St := [
  .ret (.and (.isi (.vw 0) [.tuple]) (.and (.cmp .eq (.p1 .len (.vw 0)) (.vw 1)) (.p1 .all (.e lc_is_row_1))))]
def f_is_row : Fn := ⟨4, 5, [], false, b_is_row⟩
def t_is_row : TD := ⟨"is_row", top 3, ["thing", "many", "low", "high", "part"], ["thing", "many", "low", "high"], f_is_row⟩
/-- product_of(numbers): numbers 0, found 1, number 2 -/
def lp_product_of_1_b : List St := [.asg (.nm 1) (.sh (.bin .mul (.var 1) (.vw 2)))]
def lp_product_of_1_i : It := (.seq (.var 0))
def b_product_of : List St := [
  .asg (.nm 1) (.cst (.int 1)),
  .forS (.nm 2) lp_product_of_1_i lp_product_of_1_b,
  .ret (.var 1)]
def f_product_of : Fn := ⟨1, 3, [], false, b_product_of⟩
def t_product_of : TD := ⟨"product_of", top 4, ["numbers", "found", "number"], ["numbers"], f_product_of⟩
/-- check_prime(p): p 0, by 1 -/
def lc_check_prime_1_e : E := (.cmp .eq (.bin .mod (.var 0) (.vw 1)) (.e (.cst (.int 0))))
def lc_check_prime_1_i : It := (.rng2 (.cst (.int 2)) (.var 0))
abbrev lc_check_prime_1 : E := .lc lc_check_prime_1_e (.nm 1) lc_check_prime_1_i none [1]
def b_check_prime : List St := [
  .ifS (.or (.not (.o (.e (.call i_is_within [.e (.var 0), .e (.cst (.int 2)), .e (.glob "MOST_PRIME" (.int 101))])))) (.o (.e (.p1 .any (.e lc_check_prime_1))))) [.raise 2] []]
def f_check_prime : Fn := ⟨1, 2, [], false, b_check_prime⟩
def t_check_prime : TD := ⟨"check_prime", top 14, ["p", "by"], ["p"], f_check_prime⟩
/-- check_threshold(k): k 0 -/
def b_check_threshold : List St := [
  .ifS (.not (.o (.e (.call i_is_within [.e (.var 0), .e (.cst (.int 1)), .e (.glob "MOST_ROW" (.int 20))])))) [.raise 4] []]
def f_check_threshold : Fn := ⟨1, 1, [], false, b_check_threshold⟩
def t_check_threshold : TD := ⟨"check_threshold", top 15, ["k"], ["k"], f_check_threshold⟩
/-- value_at(p, row, x): p 0, row 1, x 2, found 3, number 4 -/
def lp_value_at_1_b : List St := [.asg (.nm 3) (.bin .mod (.bin .add (.bin .mul (.var 3) (.vw 2)) (.vw 4)) (.vw 0))]
def lp_value_at_1_i : It := (.seq (.rev (.vw 1)))
def b_value_at : List St := [
  .asg (.nm 3) (.cst (.int 0)),
  .forS (.nm 4) lp_value_at_1_i lp_value_at_1_b,
  .ret (.var 3)]
def f_value_at : Fn := ⟨3, 5, [], false, b_value_at⟩
def t_value_at : TD := ⟨"value_at", top 16, ["p", "row", "x", "found", "number"], ["p", "row", "x"], f_value_at⟩
/-- is_ascending(some): some 0, one 1, other 2 -/
def lc_is_ascending_1_e : E := (.cmp .lt (.var 1) (.vw 2))
def lc_is_ascending_1_i : It := (.zip (.var 0) (.slcv 0 (some (.cst (.int 1))) none))
abbrev lc_is_ascending_1 : E := .lc lc_is_ascending_1_e (.tp [(.nm 1), (.nm 2)]) lc_is_ascending_1_i none [1, 2]
def b_is_ascending : List St := [
  .ret (.p1 .all (.e lc_is_ascending_1))]
def f_is_ascending : Fn := ⟨1, 3, [], false, b_is_ascending⟩
def t_is_ascending : TD := ⟨"is_ascending", top 17, ["some", "one", "other"], ["some"], f_is_ascending⟩
/-- is_shares(p, thing): p 0, thing 1, part 2 -/
def lc_is_shares_1_e : E := (.and (.call i_is_row [.e (.var 2), .e (.cst (.int 2)), .e (.cst (.int 0)), .e (.bin .sub (.var 0) (.e (.cst (.int 1))))]) (.cmp .gt (.subv 2 (.cst (.int 0))) (.e (.cst (.int 0)))))
def lc_is_shares_1_i : It := (.seq (.var 1))
abbrev lc_is_shares_1 : E := .lc lc_is_shares_1_e (.nm 2) lc_is_shares_1_i none [2]
def lc_is_shares_2_e : E := (.subv 2 (.cst (.int 0)))
def lc_is_shares_2_i : It := (.seq (.var 1))
abbrev lc_is_shares_2 : E := .lc lc_is_shares_2_e (.nm 2) lc_is_shares_2_i none [2]
def b_is_shares : List St := [
  .ifS (.or (.not (.o (.e (.isi (.vw 1) [.tuple])))) (.not (.o (.e (.p1 .all (.e lc_is_shares_1)))))) [.ret (.cst (.bl false))] [],
  .ret (.call i_is_ascending [.e lc_is_shares_2])]
def f_is_shares : Fn := ⟨2, 3, [], false, b_is_shares⟩
def t_is_shares : TD := ⟨"is_shares", top 18, ["p", "thing", "part"], ["p", "thing"], f_is_shares⟩
/-- inverse(p, number): p 0, number 1, other 2 -/
def lp_inverse_1_b : List St := [.ifS (.cmp .eq (.bin .mod (.bin .mul (.var 1) (.vw 2)) (.vw 0)) (.e (.cst (.int 1)))) [.ret (.var 2)] []]
def lp_inverse_1_i : It := (.rng2 (.cst (.int 1)) (.var 0))
def b_inverse : List St := [
  .forS (.nm 2) lp_inverse_1_i lp_inverse_1_b,
  .ret (.cst .non)]
def f_inverse : Fn := ⟨2, 3, [], false, b_inverse⟩
def t_inverse : TD := ⟨"inverse", top 19, ["p", "number", "other"], ["p", "number"], f_inverse⟩
/-- longer(p, row, x): p 0, row 1, x 2, found 3, at 4, number 5 -/
def lp_longer_1_b : List St := [.setI 3 (.var 4) (.bin .mod (.bin .sub (.subv 3 (.var 4)) (.e (.bin .mul (.var 5) (.vw 2)))) (.vw 0))]
def lp_longer_1_i : It := (.enum (.var 1))
def b_longer : List St := [
  .asg (.nm 3) (.bin .add (.lst [(.cst (.int 0))]) (.e (.p1 .list (.vw 1)))),
  .forS (.tp [(.nm 4), (.nm 5)]) lp_longer_1_i lp_longer_1_b,
  .ret (.var 3)]
def f_longer : Fn := ⟨3, 6, [], false, b_longer⟩
def t_longer : TD := ⟨"longer", top 20, ["p", "row", "x", "found", "at", "number"], ["p", "row", "x"], f_longer⟩
/-- row_through(p, shares): p 0, shares 1, found 2, whole 3, x 4, y 5, by 6, one 7, other 8 -/
def lc_row_through_1_e : E := (.bin .mod (.bin .add (.var 7) (.e (.bin .mul (.var 6) (.vw 8)))) (.vw 0))
def lc_row_through_1_i : It := (.zip (.bin .add (.var 2) (.e (.lst [(.cst (.int 0))]))) (.var 3))
abbrev lc_row_through_1 : E := .lc lc_row_through_1_e (.tp [(.nm 7), (.nm 8)]) lc_row_through_1_i none [7, 8]
def lp_row_through_1_b : List St := [.asg (.nm 6) (.bin .mod (.bin .mul (.bin .sub (.var 5) (.e (.call i_value_at [.e (.var 0), .e (.var 2), .e (.var 4)]))) (.e (.call i_inverse [.e (.var 0), .e (.call i_value_at [.e (.var 0), .e (.var 3), .e (.var 4)])]))) (.vw 0)), .asg (.nm 2) (.sh lc_row_through_1), .asg (.nm 3) (.call i_longer [.e (.var 0), .e (.var 3), .e (.var 4)])]
def lp_row_through_1_i : It := (.seq (.var 1))
def b_row_through : List St := [
  .par [2, 3] [(.sh (.lst [])), (.sh (.lst [(.cst (.int 1))]))],
  .forS (.tp [(.nm 4), (.nm 5)]) lp_row_through_1_i lp_row_through_1_b,
  .ret (.p1 .tuple (.vw 2))]
def f_row_through : Fn := ⟨2, 9, [], false, b_row_through⟩
def t_row_through : TD := ⟨"row_through", top 21, ["p", "shares", "found", "whole", "x", "y", "by", "one", "other"], ["p", "shares"], f_row_through⟩
/-- joined(p, k, shares): p 0, k 1, shares 2 -/
def b_joined : List St := [
  .expr (.call i_check_prime [.e (.var 0)]),
  .expr (.call i_check_threshold [.e (.var 1)]),
  .ifS (.or (.not (.o (.e (.call i_is_shares [.e (.var 0), .e (.var 2)])))) (.cmp .ne (.p1 .len (.vw 2)) (.vw 1))) [.raise 1] [],
  .ret (.sub (.call i_row_through [.e (.var 0), .e (.var 2)]) (.cst (.int 0)))]
def f_joined : Fn := ⟨3, 3, [], false, b_joined⟩
def t_joined : TD := ⟨"joined", top 22, ["p", "k", "shares"], ["p", "k", "shares"], f_joined⟩
/-- check_fits(p, k, shares): p 0, k 1, shares 2 -/
def b_check_fits : List St := [
  .expr (.call i_check_prime [.e (.var 0)]),
  .expr (.call i_check_threshold [.e (.var 1)]),
  .ifS (.not (.o (.e (.call i_is_shares [.e (.var 0), .e (.var 2)])))) [.raise 1] []]
def f_check_fits : Fn := ⟨3, 3, [], false, b_check_fits⟩
def t_check_fits : TD := ⟨"check_fits", top 23, ["p", "k", "shares"], ["p", "k", "shares"], f_check_fits⟩
/-- agreeing(p, row, shares): p 0, row 1, shares 2, x 3, y 4 -/
def lc_agreeing_1_e : E := (.var 3)
def lc_agreeing_1_c : T := (.cmp .eq (.call i_value_at [.e (.var 0), .e (.var 1), .e (.var 3)]) (.vw 4))
def lc_agreeing_1_i : It := (.seq (.var 2))
abbrev lc_agreeing_1 : E := .lc lc_agreeing_1_e (.tp [(.nm 3), (.nm 4)]) lc_agreeing_1_i (some lc_agreeing_1_c) [3, 4]
def b_agreeing : List St := [
  .ret (.p1 .len (.e lc_agreeing_1))]
def f_agreeing : Fn := ⟨3, 5, [], false, b_agreeing⟩
def t_agreeing : TD := ⟨"agreeing", top 24, ["p", "row", "shares", "x", "y"], ["p", "row", "shares"], f_agreeing⟩
/-- fits(p, k, shares, secret): p 0, k 1, shares 2, secret 3, row 4 -/
def b_fits : List St := [
  .expr (.call i_check_fits [.e (.var 0), .e (.var 1), .e (.var 2)]),
  .ifS (.not (.o (.e (.call i_is_within [.e (.var 3), .e (.cst (.int 0)), .e (.bin .sub (.var 0) (.e (.cst (.int 1))))])))) [.raise 3] [],
  .ifS (.cmp .lt (.p1 .len (.vw 2)) (.vw 1)) [.ret (.call i_product_of [.e (.bin .mul (.lst [(.var 0)]) (.e (.bin .sub (.bin .sub (.var 1) (.e (.cst (.int 1)))) (.e (.p1 .len (.vw 2))))))])] [],
  .asg (.nm 4) (.call i_row_through [.e (.var 0), .e (.slcv 2 none (some (.var 1)))]),
  .ret (.p1 .int (.e (.and (.cmp .eq (.subv 4 (.cst (.int 0))) (.vw 3)) (.cmp .eq (.call i_agreeing [.e (.var 0), .e (.var 4), .e (.var 2)]) (.e (.p1 .len (.vw 2)))))))]
def f_fits : Fn := ⟨4, 5, [], false, b_fits⟩
def t_fits : TD := ⟨"fits", top 25, ["p", "k", "shares", "secret", "row"], ["p", "k", "shares", "secret"], f_fits⟩
/-- _law_hand(script): script 0, cells 1, cell 2 -/
def lc__law_hand_1_e : E := (.p1 .abs (.e (.p1 .int (.vw 2))))
def lc__law_hand_1_i : It := (.seq (.slcv 0 none (some (.cst (.int 63)))))
abbrev lc__law_hand_1 : E := .lc lc__law_hand_1_e (.nm 2) lc__law_hand_1_i none [2]
def b__law_hand : List St := [
  .asg (.nm 1) (.sh lc__law_hand_1),
  .ret (.lst [(.var 1), (.cst (.int 0)), (.cst (.int 0)), (.bin .add (.cst (.int 23)) (.e (.p1 .len (.vw 1)))), (.cst (.int 0))])]
def f__law_hand : Fn := ⟨1, 3, [], true, b__law_hand⟩
def t__law_hand : TD := ⟨"_law_hand", top 27, ["script", "cells", "cell"], ["script"], f__law_hand⟩
/-- _law_draw(hand, limit): hand 0, limit 1, number 2, cell 3, digit 4 -/
def b__law_draw : List St := [
  .ifS (.and (.cmp .eq (.subv 0 (.cst (.int 2))) (.e (.cst (.int 0)))) (.cmp .lt (.subv 0 (.cst (.int 1))) (.e (.p1 .len (.e (.subv 0 (.cst (.int 0)))))))) [.asg (.nm 3) (.sub (.subv 0 (.cst (.int 0))) (.subv 0 (.cst (.int 1)))), .setI 0 (.cst (.int 1)) (.bin .add (.subv 0 (.cst (.int 1))) (.e (.cst (.int 1)))), .setI 0 (.cst (.int 3)) (.bin .mod (.p1 .int (.e (.bin .add (.bin .add (.bin .mul (.subv 0 (.cst (.int 3))) (.e (.cst (.int 69621)))) (.vw 3)) (.e (.cst (.int 71)))))) (.e (.cst (.int 2147483629)))), .ifS (.cmp .ge (.var 3) (.e (.bin .pow (.cst (.int 10)) (.e (.cst (.int 18)))))) [.setI 0 (.cst (.int 2)) (.var 3)] []] [],
  .ifS (.cmp .gt (.subv 0 (.cst (.int 2))) (.e (.cst (.int 0)))) [.asg (.nm 4) (.bin .mod (.p1 .int (.e (.subv 0 (.cst (.int 2))))) (.vw 1)), .setI 0 (.cst (.int 2)) (.bin .fdiv (.subv 0 (.cst (.int 2))) (.vw 1)), .ret (.var 4)] [],
  .setI 0 (.cst (.int 4)) (.bin .add (.subv 0 (.cst (.int 4))) (.e (.cst (.int 1)))),
  .asg (.nm 2) (.bin .mod (.p1 .int (.e (.bin .mul (.p1 .int (.e (.bin .add (.subv 0 (.cst (.int 3))) (.e (.bin .mul (.cst (.int 7919)) (.e (.subv 0 (.cst (.int 4))))))))) (.e (.cst (.int 48271)))))) (.e (.cst (.int 2147483647)))),
  .asg (.nm 2) (.bin .mod (.p1 .int (.e (.bin .mul (.var 2) (.e (.bin .add (.bin .fdiv (.var 2) (.e (.cst (.int 1009)))) (.e (.cst (.int 69621)))))))) (.e (.cst (.int 2147483647)))),
  .asg (.nm 2) (.bin .mod (.p1 .int (.e (.bin .mul (.var 2) (.e (.bin .add (.bin .fdiv (.var 2) (.e (.cst (.int 2003)))) (.e (.cst (.int 40692)))))))) (.e (.cst (.int 2147483399)))),
  .ret (.bin .mod (.p1 .int (.e (.bin .fdiv (.var 2) (.e (.cst (.int 16)))))) (.vw 1))]
def f__law_draw : Fn := ⟨2, 5, [0], false, b__law_draw⟩
def t__law_draw : TD := ⟨"_law_draw", top 28, ["hand", "limit", "number", "cell", "digit"], ["hand", "limit"], f__law_draw⟩
/-- _law_some(hand, items): hand 0, items 1 -/
def b__law_some : List St := [
  .ret (.subv 1 (.call i__law_draw [.io 0, .e (.p1 .len (.vw 1))]))]
def f__law_some : Fn := ⟨2, 2, [0], false, b__law_some⟩
def t__law_some : TD := ⟨"_law_some", top 29, ["hand", "items"], ["hand", "items"], f__law_some⟩
/-- _law_is(thing, due): thing 0, due 1, one 2, other 3 -/
def lc__law_is_1_e : E := (.call i__law_is [.e (.var 2), .e (.var 3)])
def lc__law_is_1_i : It := (.zip (.var 0) (.var 1))
abbrev lc__law_is_1 : E := .lc lc__law_is_1_e (.tp [(.nm 2), (.nm 3)]) lc__law_is_1_i none [2, 3]
def b__law_is : List St := [
  .ifS (.o (.e (.isi (.vw 1) [.tuple, .list]))) [.ifS (.or (.cmp .ne (.isi (.vw 1) [.tuple]) (.e (.isi (.vw 0) [.tuple]))) (.not (.o (.e (.isi (.vw 0) [.tuple, .list]))))) [.ret (.cst (.bl false))] [], .ret (.and (.cmp .eq (.p1 .len (.vw 0)) (.e (.p1 .len (.vw 1)))) (.p1 .all (.e lc__law_is_1)))] [],
  .ifS (.or (.cmp .is (.var 1) (.e (.cst .non))) (.cmp .is (.var 0) (.e (.cst .non)))) [.ret (.and (.cmp .is (.var 1) (.e (.cst .non))) (.cmp .is (.var 0) (.e (.cst .non))))] [],
  .ifS (.or (.o (.e (.isi (.vw 1) [.bool]))) (.o (.e (.isi (.vw 0) [.bool])))) [.ret (.and (.isi (.vw 1) [.bool]) (.and (.isi (.vw 0) [.bool]) (.cmp .eq (.var 0) (.vw 1))))] [],
  .ret (.and (.isi (.vw 0) [.int, .str]) (.and (.cmp .eq (.isi (.vw 0) [.str]) (.e (.isi (.vw 1) [.str]))) (.cmp .eq (.var 0) (.vw 1))))]
def f__law_is : Fn := ⟨2, 4, [], false, b__law_is⟩
def t__law_is : TD := ⟨"_law_is", top 30, ["thing", "due", "one", "other"], ["thing", "due"], f__law_is⟩
/-- _law_value(p, row, x): p 0, row 1, x 2, found 3, number 4 -/
def lp__law_value_1_b : List St := [.asg (.nm 3) (.bin .mod (.p1 .int (.e (.bin .add (.bin .mul (.var 3) (.vw 2)) (.vw 4)))) (.vw 0))]
def lp__law_value_1_i : It := (.seq (.rev (.vw 1)))
def b__law_value : List St := [
  .asg (.nm 3) (.cst (.int 0)),
  .forS (.nm 4) lp__law_value_1_i lp__law_value_1_b,
  .ret (.var 3)]
def f__law_value : Fn := ⟨3, 5, [], false, b__law_value⟩
def t__law_value : TD := ⟨"_law_value", top 31, ["p", "row", "x", "found", "number"], ["p", "row", "x"], f__law_value⟩
/-- _law_prime(hand, least): hand 0, least 1, primes 2, some 3, p 4 -/
def lc__law_prime_1_e : E := (.var 4)
def lc__law_prime_1_c : T := (.cmp .ge (.var 4) (.vw 1))
def lc__law_prime_1_i : It := (.seq (.var 2))
abbrev lc__law_prime_1 : E := .lc lc__law_prime_1_e (.nm 4) lc__law_prime_1_i (some lc__law_prime_1_c) [4]
def b__law_prime : List St := [
  .asg (.nm 2) (.sh (.lst [(.cst (.int 2)), (.cst (.int 3)), (.cst (.int 5)), (.cst (.int 7)), (.cst (.int 11)), (.cst (.int 13)), (.cst (.int 17)), (.cst (.int 19)), (.cst (.int 23)), (.cst (.int 29)), (.cst (.int 31)), (.cst (.int 37)), (.cst (.int 41)), (.cst (.int 43)), (.cst (.int 47)), (.cst (.int 53)), (.cst (.int 59)), (.cst (.int 61)), (.cst (.int 67)), (.cst (.int 71)), (.cst (.int 73)), (.cst (.int 79)), (.cst (.int 83)), (.cst (.int 89)), (.cst (.int 97)), (.cst (.int 101))])),
  .asg (.nm 3) (.sh lc__law_prime_1),
  .ret (.call i__law_some [.io 0, .e (.lst [(.call i__law_some [.io 0, .e (.var 3)]), (.call i__law_some [.io 0, .e (.slcv 3 none (some (.cst (.int 3))))]), (.subv 3 (.cst (.int 0)))])])]
def f__law_prime : Fn := ⟨2, 5, [0], false, b__law_prime⟩
def t__law_prime : TD := ⟨"_law_prime", top 32, ["hand", "least", "primes", "some", "p"], ["hand", "least"], f__law_prime⟩
/-- _law_row(hand, p, k): hand 0, p 1, k 2, turn 3 -/
def lc__law_row_1_e : E := (.call i__law_draw [.io 0, .e (.var 1)])
def lc__law_row_1_i : It := (.rng1 (.var 2))
abbrev lc__law_row_1 : E := .lc lc__law_row_1_e (.nm 3) lc__law_row_1_i none [3]
def b__law_row : List St := [
  .ret (.p1 .tuple (.e lc__law_row_1))]
def f__law_row : Fn := ⟨3, 4, [0], false, b__law_row⟩
def t__law_row : TD := ⟨"_law_row", top 33, ["hand", "p", "k", "turn"], ["hand", "p", "k"], f__law_row⟩
/-- _law_points(hand, p, many): hand 0, p 1, many 2, left 3, found 4, turn 5 -/
def lc__law_points_1_e : E := (.popAt 3 (.call i__law_draw [.io 0, .e (.p1 .len (.vw 3))]))
def lc__law_points_1_i : It := (.rng1 (.var 2))
abbrev lc__law_points_1 : E := .lc lc__law_points_1_e (.nm 5) lc__law_points_1_i none [5]
def b__law_points : List St := [
  .asg (.nm 3) (.lrg false (.rng2 (.cst (.int 1)) (.var 1))),
  .asg (.nm 4) (.sh lc__law_points_1),
  .ret (.p1 .tuple (.e (.p1 .sorted (.vw 4))))]
def f__law_points : Fn := ⟨3, 6, [0], false, b__law_points⟩
def t__law_points : TD := ⟨"_law_points", top 34, ["hand", "p", "many", "left", "found", "turn"], ["hand", "p", "many"], f__law_points⟩
/-- _law_dealt(p, row, points): p 0, row 1, points 2, x 3 -/
def lc__law_dealt_1_e : E := (.tup [(.var 3), (.call i__law_value [.e (.var 0), .e (.var 1), .e (.var 3)])])
def lc__law_dealt_1_i : It := (.seq (.var 2))
abbrev lc__law_dealt_1 : E := .lc lc__law_dealt_1_e (.nm 3) lc__law_dealt_1_i none [3]
def b__law_dealt : List St := [
  .ret (.p1 .tuple (.e lc__law_dealt_1))]
def f__law_dealt : Fn := ⟨3, 4, [], false, b__law_dealt⟩
def t__law_dealt : TD := ⟨"_law_dealt", top 35, ["p", "row", "points", "x"], ["p", "row", "points"], f__law_dealt⟩
/-- _law_over(p, number): p 0, number 1, one 2 -/
def lc__law_over_1_e : E := (.var 2)
def lc__law_over_1_c : T := (.cmp .eq (.bin .mod (.p1 .int (.e (.bin .mul (.var 2) (.vw 1)))) (.vw 0)) (.e (.cst (.int 1))))
def lc__law_over_1_i : It := (.rng1 (.var 0))
abbrev lc__law_over_1 : E := .lc lc__law_over_1_e (.nm 2) lc__law_over_1_i (some lc__law_over_1_c) [2]
def b__law_over : List St := [
  .ret (.sub lc__law_over_1 (.cst (.int 0)))]
def f__law_over : Fn := ⟨2, 3, [], false, b__law_over⟩
def t__law_over : TD := ⟨"_law_over", top 36, ["p", "number", "one"], ["p", "number"], f__law_over⟩
/-- _law_through(p, shares, x): p 0, shares 1, x 2, found 3, at 4, value 5, top 6, bottom 7, other 8, unused 9 -/
def lp__law_through_2_b : List St := [.ifS (.cmp .ne (.var 8) (.vw 4)) [.asg (.nm 6) (.bin .mod (.p1 .int (.e (.bin .mul (.var 6) (.e (.bin .sub (.var 2) (.vw 8)))))) (.vw 0)), .asg (.nm 7) (.bin .mod (.p1 .int (.e (.bin .mul (.var 7) (.e (.bin .sub (.var 4) (.vw 8)))))) (.vw 0))] []]
def lp__law_through_2_i : It := (.seq (.var 1))
def lp__law_through_1_b : List St := [.par [6, 7] [(.var 5), (.cst (.int 1))], .forS (.tp [(.nm 8), (.nm 9)]) lp__law_through_2_i lp__law_through_2_b, .asg (.nm 3) (.bin .mod (.p1 .int (.e (.bin .add (.var 3) (.e (.bin .mul (.var 6) (.e (.call i__law_over [.e (.var 0), .e (.var 7)]))))))) (.vw 0))]
def lp__law_through_1_i : It := (.seq (.var 1))
def b__law_through : List St := [
  .asg (.nm 3) (.cst (.int 0)),
  .forS (.tp [(.nm 4), (.nm 5)]) lp__law_through_1_i lp__law_through_1_b,
  .ret (.var 3)]
def f__law_through : Fn := ⟨3, 10, [], false, b__law_through⟩
def t__law_through : TD := ⟨"_law_through", top 37, ["p", "shares", "x", "found", "at", "value", "top", "bottom", "other", "unused"], ["p", "shares", "x"], f__law_through⟩
/-- _law_every_row(p, k): p 0, k 1, found 2, turn 3, longer_v 4, row 5, number 6 -/
def lc__law_every_row_1_e : E := (.bin .add (.var 5) (.e (.tup [(.var 6)])))
def lc__law_every_row_1_i : It := (.rng1 (.var 0))
abbrev lc__law_every_row_1 : E := .lc lc__law_every_row_1_e (.nm 6) lc__law_every_row_1_i none [6]
def lp__law_every_row_2_b : List St := [.ext 4 lc__law_every_row_1]
def lp__law_every_row_2_i : It := (.seq (.var 2))
def lp__law_every_row_1_b : List St := [.asg (.nm 4) (.lst []), .forS (.nm 5) lp__law_every_row_2_i lp__law_every_row_2_b, .asg (.nm 2) (.var 4)]
def lp__law_every_row_1_i : It := (.rng1 (.var 1))
def b__law_every_row : List St := [
  .asg (.nm 2) (.sh (.lst [(.tup [])])),
  .forS (.nm 3) lp__law_every_row_1_i lp__law_every_row_1_b,
  .ret (.var 2)]
def f__law_every_row : Fn := ⟨2, 7, [], false, b__law_every_row⟩
def t__law_every_row : TD := ⟨"_law_every_row", top 38, ["p", "k", "found", "turn", "longer_v", "row", "number"], ["p", "k"], f__law_every_row⟩
/-- _law_some_shares(hand, p, k): hand 0, p 1, k 2, many 3, row 4, points 5, kind 6, found 7, x 8, value 9 -/
def lp__law_some_shares_1_b : List St := [.app 7 (.tup [(.var 8), (.ite (.or (.cmp .eq (.var 6) (.e (.cst (.int 2)))) (.and (.cmp .eq (.var 6) (.e (.cst (.int 1)))) (.cmp .eq (.call i__law_draw [.io 0, .e (.cst (.int 4))]) (.e (.cst (.int 0)))))) (.call i__law_draw [.io 0, .e (.var 1)]) (.var 9))])]
def lp__law_some_shares_1_i : It := (.seq (.call i__law_dealt [.e (.var 1), .e (.var 4), .e (.var 5)]))
def b__law_some_shares : List St := [
  .asg (.nm 3) (.p2 .min (.bin .sub (.var 1) (.e (.cst (.int 1)))) (.call i__law_draw [.io 0, .e (.p2 .min (.cst (.int 20)) (.bin .add (.var 2) (.e (.cst (.int 3)))))])),
  .par [4, 5] [(.call i__law_row [.io 0, .e (.var 1), .e (.var 2)]), (.call i__law_points [.io 0, .e (.var 1), .e (.var 3)])],
  .par [6, 7] [(.call i__law_draw [.io 0, .e (.cst (.int 3))]), (.lst [])],
  .forS (.tp [(.nm 8), (.nm 9)]) lp__law_some_shares_1_i lp__law_some_shares_1_b,
  .ret (.p1 .tuple (.vw 7))]
def f__law_some_shares : Fn := ⟨3, 10, [0], false, b__law_some_shares⟩
def t__law_some_shares : TD := ⟨"_law_some_shares", top 39, ["hand", "p", "k", "many", "row", "points", "kind", "found", "x", "value"], ["hand", "p", "k"], f__law_some_shares⟩
/-- _law_power(p, times): p 0, times 1, found 2, turn 3 -/
def lp__law_power_1_b : List St := [.asg (.nm 2) (.sh (.bin .mul (.var 2) (.vw 0)))]
def lp__law_power_1_i : It := (.rng1 (.var 1))
def b__law_power : List St := [
  .asg (.nm 2) (.cst (.int 1)),
  .forS (.nm 3) lp__law_power_1_i lp__law_power_1_b,
  .ret (.var 2)]
def f__law_power : Fn := ⟨2, 4, [], false, b__law_power⟩
def t__law_power : TD := ⟨"_law_power", top 40, ["p", "times", "found", "turn"], ["p", "times"], f__law_power⟩
/-- _law_small_right(hand): hand 0, shares 1, rows 2, due 3, found 4, p 5, k 6, row 7, secret 8, x 9, value 10 -/
def lc__law_small_right_1_e : E := (.var 7)
def lc__law_small_right_2_e : E := (.cmp .eq (.call i__law_value [.e (.var 5), .e (.var 7), .e (.var 9)]) (.vw 10))
def lc__law_small_right_2_i : It := (.seq (.var 1))
abbrev lc__law_small_right_2 : E := .lc lc__law_small_right_2_e (.tp [(.nm 9), (.nm 10)]) lc__law_small_right_2_i none [9, 10]
def lc__law_small_right_1_c : T := (.o (.e (.p1 .all (.e lc__law_small_right_2))))
def lc__law_small_right_1_i : It := (.seq (.call i__law_every_row [.e (.var 5), .e (.var 6)]))
abbrev lc__law_small_right_1 : E := .lc lc__law_small_right_1_e (.nm 7) lc__law_small_right_1_i (some lc__law_small_right_1_c) [7]
def lc__law_small_right_4_e : E := (.var 7)
def lc__law_small_right_4_c : T := (.cmp .eq (.subv 7 (.cst (.int 0))) (.vw 8))
def lc__law_small_right_4_i : It := (.seq (.var 2))
abbrev lc__law_small_right_4 : E := .lc lc__law_small_right_4_e (.nm 7) lc__law_small_right_4_i (some lc__law_small_right_4_c) [7]
def lc__law_small_right_3_e : E := (.p1 .len (.e lc__law_small_right_4))
def lc__law_small_right_3_i : It := (.rng1 (.var 5))
abbrev lc__law_small_right_3 : E := .lc lc__law_small_right_3_e (.nm 8) lc__law_small_right_3_i none [8]
def lc__law_small_right_5_e : E := (.call i_fits [.e (.var 5), .e (.var 6), .e (.var 1), .e (.var 8)])
def lc__law_small_right_5_i : It := (.rng1 (.var 5))
abbrev lc__law_small_right_5 : E := .lc lc__law_small_right_5_e (.nm 8) lc__law_small_right_5_i none [8]
def lc__law_small_right_6_e : E := (.call i_fits [.e (.var 5), .e (.var 6), .e (.var 1), .e (.var 8)])
def lc__law_small_right_6_i : It := (.rng1 (.var 5))
abbrev lc__law_small_right_6 : E := .lc lc__law_small_right_6_e (.nm 8) lc__law_small_right_6_i none [8]
def b__law_small_right : List St := [
  .asg (.tp [(.nm 5), (.nm 6)]) (.call i__law_some [.io 0, .e (.lst [(.tup [(.cst (.int 2)), (.cst (.int 1))]), (.tup [(.cst (.int 2)), (.cst (.int 4))]), (.tup [(.cst (.int 3)), (.cst (.int 1))]), (.tup [(.cst (.int 3)), (.cst (.int 3))]), (.tup [(.cst (.int 3)), (.cst (.int 4))]), (.tup [(.cst (.int 5)), (.cst (.int 2))]), (.tup [(.cst (.int 5)), (.cst (.int 3))]), (.tup [(.cst (.int 7)), (.cst (.int 1))]), (.tup [(.cst (.int 7)), (.cst (.int 2))]), (.tup [(.cst (.int 7)), (.cst (.int 3))])])]),
  .asg (.nm 1) (.call i__law_some_shares [.io 0, .e (.var 5), .e (.var 6)]),
  .asg (.nm 2) (.sh lc__law_small_right_1),
  .asg (.nm 3) (.sh lc__law_small_right_3),
  .asg (.nm 4) (.sh lc__law_small_right_5),
  .ifS (.or (.not (.o (.e (.call i__law_is [.e (.var 4), .e (.var 3)])))) (.not (.o (.e (.call i__law_is [.e lc__law_small_right_6, .e (.var 3)]))))) [.ret (.cst (.bl false))] [],
  .ifS (.cmp .lt (.p1 .len (.vw 1)) (.vw 6)) [.ret (.cmp .eq (.var 3) (.e (.bin .mul (.lst [(.subv 3 (.cst (.int 0)))]) (.vw 5))))] [],
  .ifS (.cmp .gt (.p1 .sum (.vw 3)) (.e (.cst (.int 1)))) [.ret (.cst (.bl false))] [],
  .ret (.or (.cmp .eq (.p1 .sum (.vw 3)) (.e (.cst (.int 0)))) (.call i__law_is [.e (.call i_joined [.e (.var 5), .e (.var 6), .e (.slcv 1 none (some (.var 6)))]), .e (.idx (.var 3) (.cst (.int 1)))]))]
def f__law_small_right : Fn := ⟨1, 11, [0], false, b__law_small_right⟩
def t__law_small_right : TD := ⟨"_law_small_right", top 41, ["hand", "shares", "rows", "due", "found", "p", "k", "row", "secret", "x", "value"], ["hand"], f__law_small_right⟩
/-- _law_great_right(hand): hand 0, shares 1, secret 2, p 3, k 4, known 5, due 6, x 7, value 8 -/
def lc__law_great_right_1_e : E := (.cmp .eq (.call i__law_through [.e (.var 3), .e (.slcv 5 none (some (.var 4))), .e (.var 7)]) (.vw 8))
def lc__law_great_right_1_i : It := (.seq (.slcv 5 (some (.var 4)) none))
abbrev lc__law_great_right_1 : E := .lc lc__law_great_right_1_e (.tp [(.nm 7), (.nm 8)]) lc__law_great_right_1_i none [7, 8]
def lp__law_great_right_1_b : List St := [.asg (.nm 5) (.sh (.bin .add (.tup [(.tup [(.cst (.int 0)), (.var 2)])]) (.vw 1))), .asg (.nm 6) (.sh (.ite (.cmp .le (.p1 .len (.vw 5)) (.vw 4)) (.call i__law_power [.e (.var 3), .e (.bin .sub (.var 4) (.e (.p1 .len (.vw 5))))]) (.cst (.int 0)))), .ifS (.cmp .gt (.p1 .len (.vw 5)) (.vw 4)) [.asg (.nm 6) (.p1 .int (.e (.p1 .all (.e lc__law_great_right_1))))] [], .ifS (.not (.o (.e (.call i__law_is [.e (.call i_fits [.e (.var 3), .e (.var 4), .e (.var 1), .e (.var 2)]), .e (.var 6)])))) [.ret (.cst (.bl false))] []]
def lp__law_great_right_1_i : It := (.seq (.lst [(.cst (.int 0)), (.bin .sub (.var 3) (.e (.cst (.int 1)))), (.call i__law_draw [.io 0, .e (.var 3)]), (.ite (.cmp .ge (.p1 .len (.vw 1)) (.vw 4)) (.call i__law_through [.e (.var 3), .e (.slcv 1 none (some (.var 4))), .e (.cst (.int 0))]) (.cst (.int 1)))]))
def b__law_great_right : List St := [
  .par [3, 4] [(.call i__law_prime [.io 0, .e (.cst (.int 11))]), (.sh (.bin .add (.cst (.int 1)) (.e (.call i__law_draw [.io 0, .e (.cst (.int 20))]))))],
  .asg (.nm 1) (.call i__law_some_shares [.io 0, .e (.var 3), .e (.var 4)]),
  .forS (.nm 2) lp__law_great_right_1_i lp__law_great_right_1_b,
  .ret (.cst (.bl true))]
def f__law_great_right : Fn := ⟨1, 9, [0], false, b__law_great_right⟩
def t__law_great_right : TD := ⟨"_law_great_right", top 42, ["hand", "shares", "secret", "p", "k", "known", "due", "x", "value"], ["hand"], f__law_great_right⟩
/-- _law_is_known(): two 0, found 1 -/
def b__law_is_known : List St := [
  .asg (.nm 0) (.tup [(.tup [(.cst (.int 1)), (.cst (.int 5))]), (.tup [(.cst (.int 2)), (.cst (.int 0))])]),
  .asg (.nm 1) (.sh (.lst [(.call i_fits [.e (.cst (.int 7)), .e (.cst (.int 2)), .e (.tup []), .e (.cst (.int 3))]), (.call i_fits [.e (.cst (.int 7)), .e (.cst (.int 2)), .e (.tup [(.tup [(.cst (.int 1)), (.cst (.int 5))])]), .e (.cst (.int 3))]), (.call i_fits [.e (.cst (.int 7)), .e (.cst (.int 2)), .e (.var 0), .e (.cst (.int 3))]), (.call i_fits [.e (.cst (.int 7)), .e (.cst (.int 2)), .e (.var 0), .e (.cst (.int 4))])])),
  .asg (.nm 1) (.sh (.bin .add (.var 1) (.e (.lst [(.call i_fits [.e (.cst (.int 7)), .e (.cst (.int 2)), .e (.bin .add (.var 0) (.e (.tup [(.tup [(.cst (.int 6)), (.cst (.int 1))])]))), .e (.cst (.int 3))]), (.call i_fits [.e (.cst (.int 7)), .e (.cst (.int 2)), .e (.bin .add (.var 0) (.e (.tup [(.tup [(.cst (.int 6)), (.cst (.int 2))])]))), .e (.cst (.int 3))]), (.call i_fits [.e (.cst (.int 2)), .e (.cst (.int 1)), .e (.tup []), .e (.cst (.int 0))])])))),
  .ret (.call i__law_is [.e (.var 1), .e (.lst [(.cst (.int 7)), (.cst (.int 1)), (.cst (.int 1)), (.cst (.int 0)), (.cst (.int 1)), (.cst (.int 0)), (.cst (.int 1))])])]
def f__law_is_known : Fn := ⟨0, 2, [], false, b__law_is_known⟩
def t__law_is_known : TD := ⟨"_law_is_known", top 43, ["two", "found"], [], f__law_is_known⟩
/-- law(script): script 0, hand 1, turn 2 -/
def lp_law_1_b : List St := [.ifS (.not (.o (.e (.call i__law_small_right [.io 1])))) [.ret (.cst (.bl false))] []]
def lp_law_1_i : It := (.rng1 (.cst (.int 3)))
def b_law : List St := [
  .asg (.nm 1) (.call i__law_hand [.e (.var 0)]),
  .forS (.nm 2) lp_law_1_i lp_law_1_b,
  .ret (.and (.call i__law_great_right [.io 1]) (.call i__law_is_known []))]
def f_law : Fn := ⟨1, 3, [], false, b_law⟩
def t_law : TD := ⟨"law", top 44, ["script", "hand", "turn"], ["script"], f_law⟩
def tds0 : List TD := [t_is_int, t_is_within, t_is_row, t_product_of, t_check_prime, t_check_threshold, t_value_at, t_is_ascending, t_is_shares, t_inverse, t_longer, t_row_through, t_joined, t_check_fits, t_agreeing, t_fits, t__law_hand, t__law_draw, t__law_some, t__law_is]
def tds1 : List TD := [t__law_value, t__law_prime, t__law_row, t__law_points, t__law_dealt, t__law_over, t__law_through, t__law_every_row, t__law_some_shares, t__law_power, t__law_small_right, t__law_great_right, t__law_is_known, t_law]
def tds : List TD := tds0 ++ tds1
def lfree0 : List PySem.Str := ["abs", "all", "any", "bool", "enumerate", "int", "isinstance", "len", "list", "min", "range", "sorted", "str", "sum", "tuple", "zip"]
def lfree : List PySem.Str := lfree0
def lglob0 : List (PySem.Str × D) := [("MOST_PRIME", .int 101), ("MOST_ROW", .int 20)]
def lglob : List (PySem.Str × D) := lglob0
def lexc0 : List PySem.Str := ["UrnError", "BadShares", "NoPrime", "NoSecret", "NoThreshold"]
def lexc : List PySem.Str := lexc0
def lib : Lib := ⟨tds, lfree, lglob, lexc⟩
end Hd

namespace Hd
open PySem PySem.Spec PyProof.Rows L2 Rf
def loose0 : List PySem.Str := ["is_int", "is_within", "is_row", "product_of", "UrnError", "BadShares", "NoPrime", "NoSecret", "NoThreshold", "MOST_PRIME", "MOST_ROW", "check_prime", "check_threshold", "value_at", "is_ascending", "is_shares", "inverse", "longer", "row_through", "joined"]
def loose1 : List PySem.Str := ["check_fits", "agreeing", "fits", "_law_hand", "_law_draw", "_law_some", "_law_is", "_law_value", "_law_prime", "_law_row", "_law_points", "_law_dealt", "_law_over", "_law_through", "_law_every_row", "_law_some_shares", "_law_power", "_law_small_right", "_law_great_right", "_law_is_known"]
def loose : List PySem.Str := loose0 ++ loose1
abbrev LRow : PySem.W.OpenRow := PySem.W.OpenLaw.row PySem.Challenge.rw_evenurn_k36_whole_fits_by_all_rows
abbrev hk : PySem.W.Hook := He.hookD 4 lib.fa lib.fn
def ob (s : PySem.W.SharedT) : He.AlD := He.obsDG 4 lib.fa lib.fn (HandSHeadRun.getT s)
theorem ob_eq (s : PySem.W.SharedT) : ob s = hk.obs s.abs := He.obsDG_eq (HandSHeadRun.getT_eq s)
def fuel : Nat := 1000000000000
def tb : Tab := lib.tab
abbrev At (C : Calls) (n : Nat) : Prop := AtL tb fuel C n
theorem At.fuel_eq {C : Calls} {n : Nat} (h : At C n) : C.fuel = 1000000000000 := AtL.fuel h
theorem T_is_int : tb[i_is_int]? = some f_is_int := rfl
theorem fr_is_int {C : Calls} {n : Nat} (h : At C n) : C.fr i_is_int = f_is_int.fr := h.fr _ T_is_int
theorem T_is_within : tb[i_is_within]? = some f_is_within := rfl
theorem fr_is_within {C : Calls} {n : Nat} (h : At C n) : C.fr i_is_within = f_is_within.fr := h.fr _ T_is_within
theorem T_is_row : tb[i_is_row]? = some f_is_row := rfl
theorem fr_is_row {C : Calls} {n : Nat} (h : At C n) : C.fr i_is_row = f_is_row.fr := h.fr _ T_is_row
theorem T_product_of : tb[i_product_of]? = some f_product_of := rfl
theorem fr_product_of {C : Calls} {n : Nat} (h : At C n) : C.fr i_product_of = f_product_of.fr := h.fr _ T_product_of
theorem T_check_prime : tb[i_check_prime]? = some f_check_prime := rfl
theorem fr_check_prime {C : Calls} {n : Nat} (h : At C n) : C.fr i_check_prime = f_check_prime.fr := h.fr _ T_check_prime
theorem T_check_threshold : tb[i_check_threshold]? = some f_check_threshold := rfl
theorem fr_check_threshold {C : Calls} {n : Nat} (h : At C n) : C.fr i_check_threshold = f_check_threshold.fr := h.fr _ T_check_threshold
theorem T_value_at : tb[i_value_at]? = some f_value_at := rfl
theorem fr_value_at {C : Calls} {n : Nat} (h : At C n) : C.fr i_value_at = f_value_at.fr := h.fr _ T_value_at
theorem T_is_ascending : tb[i_is_ascending]? = some f_is_ascending := rfl
theorem fr_is_ascending {C : Calls} {n : Nat} (h : At C n) : C.fr i_is_ascending = f_is_ascending.fr := h.fr _ T_is_ascending
theorem T_is_shares : tb[i_is_shares]? = some f_is_shares := rfl
theorem fr_is_shares {C : Calls} {n : Nat} (h : At C n) : C.fr i_is_shares = f_is_shares.fr := h.fr _ T_is_shares
theorem T_inverse : tb[i_inverse]? = some f_inverse := rfl
theorem fr_inverse {C : Calls} {n : Nat} (h : At C n) : C.fr i_inverse = f_inverse.fr := h.fr _ T_inverse
theorem T_longer : tb[i_longer]? = some f_longer := rfl
theorem fr_longer {C : Calls} {n : Nat} (h : At C n) : C.fr i_longer = f_longer.fr := h.fr _ T_longer
theorem T_row_through : tb[i_row_through]? = some f_row_through := rfl
theorem fr_row_through {C : Calls} {n : Nat} (h : At C n) : C.fr i_row_through = f_row_through.fr := h.fr _ T_row_through
theorem T_joined : tb[i_joined]? = some f_joined := rfl
theorem fr_joined {C : Calls} {n : Nat} (h : At C n) : C.fr i_joined = f_joined.fr := h.fr _ T_joined
theorem T_check_fits : tb[i_check_fits]? = some f_check_fits := rfl
theorem fr_check_fits {C : Calls} {n : Nat} (h : At C n) : C.fr i_check_fits = f_check_fits.fr := h.fr _ T_check_fits
theorem T_agreeing : tb[i_agreeing]? = some f_agreeing := rfl
theorem fr_agreeing {C : Calls} {n : Nat} (h : At C n) : C.fr i_agreeing = f_agreeing.fr := h.fr _ T_agreeing
theorem T_fits : tb[i_fits]? = some f_fits := rfl
theorem fr_fits {C : Calls} {n : Nat} (h : At C n) : C.fr i_fits = f_fits.fr := h.fr _ T_fits
theorem T__law_is : tb[i__law_is]? = some f__law_is := rfl
theorem fr__law_is {C : Calls} {n : Nat} (h : At C n) : C.fr i__law_is = f__law_is.fr := h.fr _ T__law_is
theorem T__law_value : tb[i__law_value]? = some f__law_value := rfl
theorem fr__law_value {C : Calls} {n : Nat} (h : At C n) : C.fr i__law_value = f__law_value.fr := h.fr _ T__law_value
theorem T__law_prime : tb[i__law_prime]? = some f__law_prime := rfl
theorem fr__law_prime {C : Calls} {n : Nat} (h : At C n) : C.fr i__law_prime = f__law_prime.fr := h.fr _ T__law_prime
theorem T__law_row : tb[i__law_row]? = some f__law_row := rfl
theorem fr__law_row {C : Calls} {n : Nat} (h : At C n) : C.fr i__law_row = f__law_row.fr := h.fr _ T__law_row
theorem T__law_points : tb[i__law_points]? = some f__law_points := rfl
theorem fr__law_points {C : Calls} {n : Nat} (h : At C n) : C.fr i__law_points = f__law_points.fr := h.fr _ T__law_points
theorem T__law_dealt : tb[i__law_dealt]? = some f__law_dealt := rfl
theorem fr__law_dealt {C : Calls} {n : Nat} (h : At C n) : C.fr i__law_dealt = f__law_dealt.fr := h.fr _ T__law_dealt
theorem T__law_over : tb[i__law_over]? = some f__law_over := rfl
theorem fr__law_over {C : Calls} {n : Nat} (h : At C n) : C.fr i__law_over = f__law_over.fr := h.fr _ T__law_over
theorem T__law_through : tb[i__law_through]? = some f__law_through := rfl
theorem fr__law_through {C : Calls} {n : Nat} (h : At C n) : C.fr i__law_through = f__law_through.fr := h.fr _ T__law_through
theorem T__law_every_row : tb[i__law_every_row]? = some f__law_every_row := rfl
theorem fr__law_every_row {C : Calls} {n : Nat} (h : At C n) : C.fr i__law_every_row = f__law_every_row.fr := h.fr _ T__law_every_row
theorem T__law_some_shares : tb[i__law_some_shares]? = some f__law_some_shares := rfl
theorem fr__law_some_shares {C : Calls} {n : Nat} (h : At C n) : C.fr i__law_some_shares = f__law_some_shares.fr := h.fr _ T__law_some_shares
theorem T__law_power : tb[i__law_power]? = some f__law_power := rfl
theorem fr__law_power {C : Calls} {n : Nat} (h : At C n) : C.fr i__law_power = f__law_power.fr := h.fr _ T__law_power
theorem T__law_small_right : tb[i__law_small_right]? = some f__law_small_right := rfl
theorem fr__law_small_right {C : Calls} {n : Nat} (h : At C n) : C.fr i__law_small_right = f__law_small_right.fr := h.fr _ T__law_small_right
theorem T__law_great_right : tb[i__law_great_right]? = some f__law_great_right := rfl
theorem fr__law_great_right {C : Calls} {n : Nat} (h : At C n) : C.fr i__law_great_right = f__law_great_right.fr := h.fr _ T__law_great_right
theorem T__law_is_known : tb[i__law_is_known]? = some f__law_is_known := rfl
theorem fr__law_is_known {C : Calls} {n : Nat} (h : At C n) : C.fr i__law_is_known = f__law_is_known.fr := h.fr _ T__law_is_known
theorem T_law : tb[i_law]? = some f_law := rfl
theorem fr_law {C : Calls} {n : Nat} (h : At C n) : C.fr i_law = f_law.fr := h.fr _ T_law
abbrev κ : Sh.Kd := ⟨23, none, none, 71, 48271, 40692, 2147483399⟩
theorem κok : κ.Ok := ⟨by decide, fun c h => by cases h <;> decide, fun c h => by cases h <;> decide, by decide⟩
abbrev Hand := Sh.Hand
abbrev hd := Sh.hd
theorem hand_ok {C : Calls} (hC : At C 1) (ns : List Int) : C.fn i__law_hand [.scr ns] = .ok (hd (Sh.hand0 κ ns)) [] := Sh.khand_ok κok rfl hC ns
theorem hand_fr {C : Calls} {n : Nat} (hC : At C n) : C.fr i__law_hand = true := hC.fr i__law_hand (fd := Sh.fK_hand κ) rfl
abbrev dv (h : Hand) (b : Int) : Int := h.v κ b
abbrev dn (h : Hand) (b : Int) : Hand := h.nx κ b
theorem draw_ok {C : Calls} (hC : At C 1) (h : Hand) {b : Int} (hb : 0 < b) (db : divOk b = true) : C.fn i__law_draw [hd h, .int b] = .ok (.int (dv h b)) [hd (dn h b)] := Sh.kdraw_ok κok rfl hC h hb db
theorem draw_s {C : Calls} (hC : At C 1) (h : Hand) {b : Int} (hb : 0 < b) (db : b < 1073741824) : C.fn i__law_draw [hd h, .int b] = .ok (.int (dv h b)) [hd (dn h b)] := draw_ok hC h hb (divOk_s hb db)
theorem dv_ge (h : Hand) {b : Int} (hb : 0 < b) : 0 ≤ dv h b := Sh.v_ge κ h hb
theorem dv_lt (h : Hand) {b : Int} (hb : 0 < b) : dv h b < b := Sh.v_lt κ h hb
def pick (h : Hand) (ds : List D) : D := Sh.pick κ h ds
theorem pick_mem (h : Hand) {ds : List D} (hne : ds ≠ []) : pick h ds ∈ ds := Sh.pick_mem κ h hne
theorem any_l {C : Calls} (hC : At C 2) (h : Hand) {ds : List D} (hne : ds ≠ []) (hl : ds.length < 1073741824) : C.fn i__law_some [hd h, .lst ds] = .ok (pick h ds) [hd (dn h ds.length)] := (Sh.kany_ok (jd := i__law_draw) κok rfl rfl hC h hne hl).1
theorem any_t {C : Calls} (hC : At C 2) (h : Hand) {ds : List D} (hne : ds ≠ []) (hl : ds.length < 1073741824) : C.fn i__law_some [hd h, .tup ds] = .ok (pick h ds) [hd (dn h ds.length)] := (Sh.kany_ok (jd := i__law_draw) κok rfl rfl hC h hne hl).2
def law (ns : List Int) : CR := run lib.tab fuel 60 i_law [.scr ns]

/-! ### basics -/
theorem fuel_big {C : Calls} {n : Nat} (h : At C n) : 999999999999 < C.fuel := by rw [h.fuel_eq]; decide
theorem len_s {n m : Nat} (h : n ≤ m) (hm : m ≤ 1000000 := by decide) : n ≤ sizeLine := by rw [sizeLine_eq]; omega
theorem len_l {n m : Nat} (h : n ≤ m) (hm : m ≤ 1000000 := by decide) : n < sizeLine := by rw [sizeLine_eq]; omega
theorem ipow_mono {w : Int} (h : 1 ≤ w) {n m : Nat} (hm : n ≤ m) : w ^ n ≤ w ^ m := by
  induction m with
  | zero => obtain rfl : n = 0 := by omega
            exact Int.le_refl _
  | succ m ih =>
    rcases Nat.lt_or_ge m n with q | q
    · obtain rfl : n = m + 1 := by omega
      exact Int.le_refl _
    · rw [Int.pow_succ]
      have p : 0 < w ^ m := Int.pow_pos (by omega)
      have := Int.mul_le_mul_of_nonneg_left h (Int.le_of_lt p)
      have := ih q
      omega
theorem ipow_lt {n m : Nat} (hm : n < m) : (2 : Int) ^ n < 2 ^ m := by
  have h1 : (2 : Int) ^ (n + 1) ≤ 2 ^ m := ipow_mono (by decide) hm
  rw [Int.pow_succ] at h1
  have p : (0 : Int) < 2 ^ n := Int.pow_pos (by decide)
  omega
theorem boolsOf_map {α : Type} (f : α → Bool) : ∀ l : List α, boolsOf (l.map fun x => D.bl (f x)) = some (l.map f)
  | [] => rfl
  | a :: l => by simp [boolsOf, boolsOf_map f l]
theorem p1_all_map {α : Type} (f : α → Bool) (l : List α) : p1 .all (.lst (l.map fun x => D.bl (f x))) = some (.bl (l.all f)) := by
  show ((boolsOf (l.map fun x => D.bl (f x))).map fun l => D.bl (l.all id)) = _
  rw [boolsOf_map]
  simp
theorem p1_any_map {α : Type} (f : α → Bool) (l : List α) : p1 .any (.lst (l.map fun x => D.bl (f x))) = some (.bl (l.any f)) := by
  show ((boolsOf (l.map fun x => D.bl (f x))).map fun l => D.bl (l.any id)) = _
  rw [boolsOf_map]
  simp
theorem is_int_ok {C : Calls} (hC : At C 1) (n : Int) : C.fn i_is_int [.int n] = .ok (.bl true) [] :=
  stepE T_is_int rfl hC fun C hC => by simp [f_is_int, b_is_int, ss_nil, ss_cons, ev_cst, ev_var, ev_mov, ev_glob, ev_sh, ev_tup, ev_lst, ev_bin, ev_binv, ev_neg, ev_cmp, ev_cmpv, ev_chain, ev_and, ev_or, ev_not, ev_ite, ev_call, ev_p1, ev_p2, ev_isi, ev_sub, ev_subv, ev_slc, ev_slcv, ev_rev, ev_pop, ev_popAt, ev_dnew, ev_lrg, ev_idx, ex_asg, ex_par, ex_aug, ex_setI, ex_augI, ex_app, ex_ext, ex_expr, ex_ret, ex_retN, ex_pass, ex_brk, ex_cnt, ex_ifS, ex_raise, ex_forS, ex_whl, evalV, evalT, evalEs, evalA, evalA1, evalO, evalC, evalI, enterE, slotR, ownR, ownC, setD, readR, moveR, outs, mapM, isTys_cons, isFreshF, L2.ixN, fillA, putA, putP]
theorem within_ok {C : Calls} (hC : At C 2) (n a b : Int) : C.fn i_is_within [.int n, .int a, .int b] = .ok (.bl (decide (a ≤ n) && decide (n ≤ b))) [] :=
  stepE T_is_within rfl hC fun C hC => by
    have e := is_int_ok hC.le n
    by_cases h : a ≤ n <;> simp [f_is_within, b_is_within, ss_nil, ss_cons, ev_cst, ev_var, ev_mov, ev_glob, ev_sh, ev_tup, ev_lst, ev_bin, ev_binv, ev_neg, ev_cmp, ev_cmpv, ev_chain, ev_and, ev_or, ev_not, ev_ite, ev_call, ev_p1, ev_p2, ev_isi, ev_sub, ev_subv, ev_slc, ev_slcv, ev_rev, ev_pop, ev_popAt, ev_dnew, ev_lrg, ev_idx, ex_asg, ex_par, ex_aug, ex_setI, ex_augI, ex_app, ex_ext, ex_expr, ex_ret, ex_retN, ex_pass, ex_brk, ex_cnt, ex_ifS, ex_raise, ex_forS, ex_whl, evalV, evalT, evalEs, evalA, evalA1, evalO, evalC, evalI, enterE, slotR, ownR, ownC, setD, readR, moveR, outs, mapM, isTys_cons, isFreshF, L2.ixN, fillA, putA, putP, e, h]
theorem product_ok {C : Calls} (hC : At C 1) (xs : List Int) (hx : ∀ x ∈ xs, x.natAbs < 2 ^ 64) {t : D} (ht : t = .lst (xs.map .int) ∨ t = .tup (xs.map .int)) : C.fn i_product_of [t] = .ok (.int xs.prod) [] := by
  have hs : seqOf t = some (xs.map .int) := by rcases ht with rfl | rfl <;> rfl
  have hpr : ∀ i x, xs[i]? = some x → (xs.take (i + 1)).prod = (xs.take i).prod * x := fun i x h => by
    rw [List.take_add_one, h, List.prod_append]
    simp
  refine stepE T_product_of rfl hC fun C hC => ?_
  simp [f_product_of, b_product_of, lp_product_of_1_i, ss_nil, ss_cons, ev_cst, ev_var, ev_mov, ev_glob, ev_sh, ev_tup, ev_lst, ev_bin, ev_binv, ev_neg, ev_cmp, ev_cmpv, ev_chain, ev_and, ev_or, ev_not, ev_ite, ev_call, ev_p1, ev_p2, ev_isi, ev_sub, ev_subv, ev_slc, ev_slcv, ev_rev, ev_pop, ev_popAt, ev_dnew, ev_lrg, ev_idx, ex_asg, ex_par, ex_aug, ex_setI, ex_augI, ex_app, ex_ext, ex_expr, ex_ret, ex_retN, ex_pass, ex_brk, ex_cnt, ex_ifS, ex_raise, ex_forS, ex_whl, evalV, evalT, evalEs, evalA, evalA1, evalO, evalC, evalI, enterE, slotR, ownR, ownC, setD, readR, moveR, outs, mapM, isTys_cons, isFreshF, L2.ixN, fillA, putA, putP, hs]
  refine is_for (fun i s => ∃ sl, s = [Sl.sh t, .sh (.int (xs.take i).prod), sl]) (fun _ _ => False) ⟨_, by simp; rfl⟩ ?_ ?_ (fun _ _ h => h.elim)
  · rintro i d hd s ⟨sl, rfl⟩
    rw [List.getElem?_map] at hd
    obtain ⟨x, hx', rfl⟩ := Option.map_eq_some_iff.mp hd
    have m : mulOk (xs.take i).prod x = true := mulOk_r (hx x (List.mem_of_getElem? hx'))
    simp [forB_eq, lp_product_of_1_b, ss_nil, ss_cons, ev_cst, ev_var, ev_mov, ev_glob, ev_sh, ev_tup, ev_lst, ev_bin, ev_binv, ev_neg, ev_cmp, ev_cmpv, ev_chain, ev_and, ev_or, ev_not, ev_ite, ev_call, ev_p1, ev_p2, ev_isi, ev_sub, ev_subv, ev_slc, ev_slcv, ev_rev, ev_pop, ev_popAt, ev_dnew, ev_lrg, ev_idx, ex_asg, ex_par, ex_aug, ex_setI, ex_augI, ex_app, ex_ext, ex_expr, ex_ret, ex_retN, ex_pass, ex_brk, ex_cnt, ex_ifS, ex_raise, ex_forS, ex_whl, evalV, evalT, evalEs, evalA, evalA1, evalO, evalC, evalI, enterE, slotR, ownR, ownC, setD, readR, moveR, outs, mapM, isTys_cons, isFreshF, L2.ixN, fillA, putA, putP, bin_mul m, hpr i x hx']
  · rintro s ⟨sl, rfl⟩
    simp [ss_nil, ss_cons, ev_cst, ev_var, ev_mov, ev_glob, ev_sh, ev_tup, ev_lst, ev_bin, ev_binv, ev_neg, ev_cmp, ev_cmpv, ev_chain, ev_and, ev_or, ev_not, ev_ite, ev_call, ev_p1, ev_p2, ev_isi, ev_sub, ev_subv, ev_slc, ev_slcv, ev_rev, ev_pop, ev_popAt, ev_dnew, ev_lrg, ev_idx, ex_asg, ex_par, ex_aug, ex_setI, ex_augI, ex_app, ex_ext, ex_expr, ex_ret, ex_retN, ex_pass, ex_brk, ex_cnt, ex_ifS, ex_raise, ex_forS, ex_whl, evalV, evalT, evalEs, evalA, evalA1, evalO, evalC, evalI, enterE, slotR, ownR, ownC, setD, readR, moveR, outs, mapM, isTys_cons, isFreshF, L2.ixN, fillA, putA, putP]
theorem mulOk_w {a b : Int} (k l : Nat) (ha : a.natAbs < 2 ^ k) (hb : b.natAbs < 2 ^ l) (h : k + l ≤ 1000000 := by decide) (hk : 0 < k := by decide) (hl : 0 < l := by decide) : mulOk a b = true := by
  have lg : ∀ {x k : Nat}, x < 2 ^ k → 0 < k → x.log2 < k := fun {x k} h hk => by
    by_cases hx : x = 0
    · subst hx; exact hk
    · exact (Nat.log2_lt hx).mpr h
  have h1 := lg ha hk
  have h2 := lg hb hl
  unfold mulOk
  rw [Bool.or_eq_true, Bool.or_eq_true, decide_eq_true_eq, decide_eq_true_eq, decide_eq_true_eq]
  right
  omega
theorem nat_lt_pow {a : Int} {k : Nat} (h0 : 0 ≤ a) (h : a < 2 ^ k) : a.natAbs < 2 ^ k := by
  have e : ((2 : Int) ^ k).natAbs = 2 ^ k := by rw [Int.natAbs_pow]; rfl
  rw [← e]
  generalize (2 : Int) ^ k = B at *
  omega
theorem isIn_int (k : Int) (l : List Int) : cmp .inn (.int k) (.lst (l.map .int)) = some (decide (k ∈ l)) := by
  have h1 : (l.map D.int).all cmpb = true := by rw [List.all_eq_true]; intro d hd; obtain ⟨i, _, rfl⟩ := List.mem_map.mp hd; rfl
  show isIn (.int k) (l.map .int) = _
  unfold isIn
  rw [h1]
  simp only [cmpb_int, Bool.and_self, if_true]
  congr 1
  rw [List.any_map, Bool.eq_iff_iff, List.any_eq_true, decide_eq_true_eq]
  constructor
  · rintro ⟨x, hx, h⟩
    have : x = k := by simpa [eqd] using h
    exact this ▸ hx
  · intro h
    exact ⟨k, h, by simp [eqd]⟩
@[simp] theorem p1_int_bl (b : Bool) : p1 .int (.bl b) = some (.int (if b then 1 else 0)) := Eq.trans rfl rfl
theorem bin_repT {ds : List D} {b : Int} (h1 : -(2 ^ 62) ≤ b) (h2 : b < 2 ^ 62) (h3 : ds.length * b.toNat ≤ sizeLine) : Rf.bin .mul (.tup ds) (.int b) = some (.tup (List.replicate b.toNat ds).flatten) := by
  have e : (decide (-(2 ^ 62) ≤ b) && decide (b < 2 ^ 62) && decide (ds.length * b.toNat ≤ sizeLine)) = true := by
    rw [decide_eq_true h1, decide_eq_true h2, decide_eq_true h3]; rfl
  simp only [Rf.bin, e, if_true]
theorem zip_map {α : Type} (f g : α → D) : ∀ xs : List α, List.zipWith (fun x y => D.tup [x, y]) (xs.map f) (xs.map g) = xs.map fun x => .tup [f x, g x]
  | [] => rfl
  | x :: xs => by simp [zip_map f g xs]
theorem set_map (xs : List Int) (j : Nat) (v : Int) : (xs.map D.int).set j (.int v) = (xs.set j v).map D.int := by rw [List.map_set]

/-! ### what the laws share -/
mutual
/-- plain data of which each row has at most a thousand items -/
def sm : D → Bool
  | .non => true
  | .bl _ => true
  | .int _ => true
  | .tup ds => decide (ds.length ≤ 1000000) && sms ds
  | .lst ds => decide (ds.length ≤ 1000000) && sms ds
  | _ => false
def sms : List D → Bool
  | [] => true
  | d :: ds => sm d && sms ds
end
theorem sms_mem : ∀ {ds : List D}, sms ds = true → ∀ d ∈ ds, sm d = true ∧ dep d ≤ deps ds
  | [], _, d, h => by cases h
  | e :: ds, hs, d, h => by
    simp only [sms, Bool.and_eq_true] at hs
    simp only [deps]
    rcases List.mem_cons.mp h with rfl | h
    · exact ⟨hs.1, Nat.le_max_left ..⟩
    · obtain ⟨h1, h2⟩ := sms_mem hs.2 d h
      exact ⟨h1, Nat.le_trans h2 (Nat.le_max_right ..)⟩
theorem sms_of : ∀ {ds : List D}, (∀ d ∈ ds, sm d = true) → sms ds = true
  | [], _ => rfl
  | d :: ds, h => by simp [sms, h d List.mem_cons_self, sms_of fun e he => h e (List.mem_cons_of_mem _ he)]
theorem zip_self : ∀ ds : List D, List.zipWith (fun x y => D.tup [x, y]) ds ds = ds.map fun d => .tup [d, d]
  | [] => rfl
  | d :: ds => by simp [zip_self ds]
theorem all_tt {α : Type} (l : List α) : p1 .all (.lst (l.map fun _ => D.bl true)) = some (.bl true) := by
  rw [p1_all_map]
  simp
theorem is_same : ∀ (n : Nat) {C : Calls} (d : D), At C (n + 1) → dep d ≤ n → sm d = true → C.fn i__law_is [d, d] = .ok (.bl true) []
  | n, C, d, hC, hd, hs => by
    have seq : ∀ ds : List D, (d = .tup ds ∨ d = .lst ds) → deps ds + 1 ≤ n → sms ds = true → ds.length ≤ 1000000 → C.fn i__law_is [d, d] = .ok (.bl true) [] := fun ds ht hn hs hl => by
      cases n with
      | zero => omega
      | succ n =>
        refine stepE T__law_is rfl hC fun C hC => ?_
        have hc : ∀ c ∈ ds, C.fn i__law_is [c, c] = .ok (.bl true) [] := fun c hc => by
          obtain ⟨h1, h2⟩ := sms_mem hs c hc
          exact is_same n c hC (by omega) h1
        have hi : evalI C lc__law_is_1_i [Sl.sh d, .sh d, .no, .no] = .ok (ds.map fun d => .tup [d, d]) [Sl.sh d, .sh d, .no, .no] := by
          rw [← zip_self]
          rcases ht with rfl | rfl <;> simp [lc__law_is_1_i, ss_nil, ss_cons, ev_cst, ev_var, ev_mov, ev_glob, ev_sh, ev_tup, ev_lst, ev_bin, ev_binv, ev_neg, ev_cmp, ev_cmpv, ev_chain, ev_and, ev_or, ev_not, ev_ite, ev_call, ev_p1, ev_p2, ev_isi, ev_sub, ev_subv, ev_slc, ev_slcv, ev_rev, ev_pop, ev_popAt, ev_dnew, ev_lrg, ev_idx, ex_asg, ex_par, ex_aug, ex_setI, ex_augI, ex_app, ex_ext, ex_expr, ex_ret, ex_retN, ex_pass, ex_brk, ex_cnt, ex_ifS, ex_raise, ex_forS, ex_whl, evalV, evalT, evalEs, evalA, evalA1, evalO, evalC, evalI, enterE, slotR, ownR, ownC, setD, readR, moveR, outs, mapM, isTys_cons, isFreshF, L2.ixN, fillA, putA, putP]
        have el := lc_it (C := C) (elt := lc__law_is_1_e) (tg := .tp [.nm 2, .nm 3]) (cond := none) (own := [2, 3]) ds (fun d => .tup [d, d]) (fun _ => D.bl true) hi (fun c hm => by simp [turn_w, lc__law_is_1_e, ss_nil, ss_cons, ev_cst, ev_var, ev_mov, ev_glob, ev_sh, ev_tup, ev_lst, ev_bin, ev_binv, ev_neg, ev_cmp, ev_cmpv, ev_chain, ev_and, ev_or, ev_not, ev_ite, ev_call, ev_p1, ev_p2, ev_isi, ev_sub, ev_subv, ev_slc, ev_slcv, ev_rev, ev_pop, ev_popAt, ev_dnew, ev_lrg, ev_idx, ex_asg, ex_par, ex_aug, ex_setI, ex_augI, ex_app, ex_ext, ex_expr, ex_ret, ex_retN, ex_pass, ex_brk, ex_cnt, ex_ifS, ex_raise, ex_forS, ex_whl, evalV, evalT, evalEs, evalA, evalA1, evalO, evalC, evalI, enterE, slotR, ownR, ownC, setD, readR, moveR, outs, mapM, isTys_cons, isFreshF, L2.ixN, fillA, putA, putP, hc c hm, wipeE]) (len_s hl)
        have el : evalE C lc__law_is_1 [Sl.sh d, .sh d, .no, .no] = _ := el
        have ea := all_tt ds
        rcases ht with rfl | rfl <;> simp [wipeE, backE] at el <;> simp [f__law_is, b__law_is, ss_nil, ss_cons, ev_cst, ev_var, ev_mov, ev_glob, ev_sh, ev_tup, ev_lst, ev_bin, ev_binv, ev_neg, ev_cmp, ev_cmpv, ev_chain, ev_and, ev_or, ev_not, ev_ite, ev_call, ev_p1, ev_p2, ev_isi, ev_sub, ev_subv, ev_slc, ev_slcv, ev_rev, ev_pop, ev_popAt, ev_dnew, ev_lrg, ev_idx, ex_asg, ex_par, ex_aug, ex_setI, ex_augI, ex_app, ex_ext, ex_expr, ex_ret, ex_retN, ex_pass, ex_brk, ex_cnt, ex_ifS, ex_raise, ex_forS, ex_whl, evalV, evalT, evalEs, evalA, evalA1, evalO, evalC, evalI, enterE, slotR, ownR, ownC, setD, readR, moveR, outs, mapM, isTys_cons, isFreshF, L2.ixN, fillA, putA, putP, el, ea]
    cases d with
    | non => exact stepE T__law_is rfl hC fun C hC => by simp [f__law_is, b__law_is, ss_nil, ss_cons, ev_cst, ev_var, ev_mov, ev_glob, ev_sh, ev_tup, ev_lst, ev_bin, ev_binv, ev_neg, ev_cmp, ev_cmpv, ev_chain, ev_and, ev_or, ev_not, ev_ite, ev_call, ev_p1, ev_p2, ev_isi, ev_sub, ev_subv, ev_slc, ev_slcv, ev_rev, ev_pop, ev_popAt, ev_dnew, ev_lrg, ev_idx, ex_asg, ex_par, ex_aug, ex_setI, ex_augI, ex_app, ex_ext, ex_expr, ex_ret, ex_retN, ex_pass, ex_brk, ex_cnt, ex_ifS, ex_raise, ex_forS, ex_whl, evalV, evalT, evalEs, evalA, evalA1, evalO, evalC, evalI, enterE, slotR, ownR, ownC, setD, readR, moveR, outs, mapM, isTys_cons, isFreshF, L2.ixN, fillA, putA, putP]
    | bl b => exact stepE T__law_is rfl hC fun C hC => by simp [f__law_is, b__law_is, ss_nil, ss_cons, ev_cst, ev_var, ev_mov, ev_glob, ev_sh, ev_tup, ev_lst, ev_bin, ev_binv, ev_neg, ev_cmp, ev_cmpv, ev_chain, ev_and, ev_or, ev_not, ev_ite, ev_call, ev_p1, ev_p2, ev_isi, ev_sub, ev_subv, ev_slc, ev_slcv, ev_rev, ev_pop, ev_popAt, ev_dnew, ev_lrg, ev_idx, ex_asg, ex_par, ex_aug, ex_setI, ex_augI, ex_app, ex_ext, ex_expr, ex_ret, ex_retN, ex_pass, ex_brk, ex_cnt, ex_ifS, ex_raise, ex_forS, ex_whl, evalV, evalT, evalEs, evalA, evalA1, evalO, evalC, evalI, enterE, slotR, ownR, ownC, setD, readR, moveR, outs, mapM, isTys_cons, isFreshF, L2.ixN, fillA, putA, putP]
    | int i => exact stepE T__law_is rfl hC fun C hC => by simp [f__law_is, b__law_is, ss_nil, ss_cons, ev_cst, ev_var, ev_mov, ev_glob, ev_sh, ev_tup, ev_lst, ev_bin, ev_binv, ev_neg, ev_cmp, ev_cmpv, ev_chain, ev_and, ev_or, ev_not, ev_ite, ev_call, ev_p1, ev_p2, ev_isi, ev_sub, ev_subv, ev_slc, ev_slcv, ev_rev, ev_pop, ev_popAt, ev_dnew, ev_lrg, ev_idx, ex_asg, ex_par, ex_aug, ex_setI, ex_augI, ex_app, ex_ext, ex_expr, ex_ret, ex_retN, ex_pass, ex_brk, ex_cnt, ex_ifS, ex_raise, ex_forS, ex_whl, evalV, evalT, evalEs, evalA, evalA1, evalO, evalC, evalI, enterE, slotR, ownR, ownC, setD, readR, moveR, outs, mapM, isTys_cons, isFreshF, L2.ixN, fillA, putA, putP]
    | tup ds =>
      simp only [sm, Bool.and_eq_true, decide_eq_true_eq] at hs
      exact seq ds (.inl rfl) hd hs.2 hs.1
    | lst ds =>
      simp only [sm, Bool.and_eq_true, decide_eq_true_eq] at hs
      exact seq ds (.inr rfl) hd hs.2 hs.1
    | _ => cases hs
theorem power_ok {C : Calls} (hC : At C 1) (n : Nat) {w : Int} (hw : w.natAbs < 2 ^ 64) (hn : n ≤ 1000) : C.fn i__law_power [.int w, .int n] = .ok (.int (w ^ n)) [] := by
  refine stepE T__law_power rfl hC fun C hC => ?_
  have hr : ∀ a b : Sl, evalI C lp__law_power_1_i [Sl.sh (.int w), .sh (.int n), a, b] = .ok (rangeD 0 n) [Sl.sh (.int w), .sh (.int n), a, b] := fun a b => rng1_ok (by simp [ss_nil, ss_cons, ev_cst, ev_var, ev_mov, ev_glob, ev_sh, ev_tup, ev_lst, ev_bin, ev_binv, ev_neg, ev_cmp, ev_cmpv, ev_chain, ev_and, ev_or, ev_not, ev_ite, ev_call, ev_p1, ev_p2, ev_isi, ev_sub, ev_subv, ev_slc, ev_slcv, ev_rev, ev_pop, ev_popAt, ev_dnew, ev_lrg, ev_idx, ex_asg, ex_par, ex_aug, ex_setI, ex_augI, ex_app, ex_ext, ex_expr, ex_ret, ex_retN, ex_pass, ex_brk, ex_cnt, ex_ifS, ex_raise, ex_forS, ex_whl, evalV, evalT, evalEs, evalA, evalA1, evalO, evalC, evalI, enterE, slotR, ownR, ownC, setD, readR, moveR, outs, mapM, isTys_cons, isFreshF, L2.ixN, fillA, putA, putP]) (by omega)
  simp [f__law_power, b__law_power, ss_nil, ss_cons, ev_cst, ev_var, ev_mov, ev_glob, ev_sh, ev_tup, ev_lst, ev_bin, ev_binv, ev_neg, ev_cmp, ev_cmpv, ev_chain, ev_and, ev_or, ev_not, ev_ite, ev_call, ev_p1, ev_p2, ev_isi, ev_sub, ev_subv, ev_slc, ev_slcv, ev_rev, ev_pop, ev_popAt, ev_dnew, ev_lrg, ev_idx, ex_asg, ex_par, ex_aug, ex_setI, ex_augI, ex_app, ex_ext, ex_expr, ex_ret, ex_retN, ex_pass, ex_brk, ex_cnt, ex_ifS, ex_raise, ex_forS, ex_whl, evalV, evalT, evalEs, evalA, evalA1, evalO, evalC, evalI, enterE, slotR, ownR, ownC, setD, readR, moveR, outs, mapM, isTys_cons, isFreshF, L2.ixN, fillA, putA, putP, hr]
  refine is_for (fun i s => ∃ sl, s = [Sl.sh (.int w), .sh (.int n), .sh (.int (w ^ i)), sl]) (fun _ _ => False) ⟨_, by simp; rfl⟩ ?_ ?_ (fun _ _ h => h.elim)
  · rintro i d hd s ⟨sl, rfl⟩
    simp [forB_eq, lp__law_power_1_b, ss_nil, ss_cons, ev_cst, ev_var, ev_mov, ev_glob, ev_sh, ev_tup, ev_lst, ev_bin, ev_binv, ev_neg, ev_cmp, ev_cmpv, ev_chain, ev_and, ev_or, ev_not, ev_ite, ev_call, ev_p1, ev_p2, ev_isi, ev_sub, ev_subv, ev_slc, ev_slcv, ev_rev, ev_pop, ev_popAt, ev_dnew, ev_lrg, ev_idx, ex_asg, ex_par, ex_aug, ex_setI, ex_augI, ex_app, ex_ext, ex_expr, ex_ret, ex_retN, ex_pass, ex_brk, ex_cnt, ex_ifS, ex_raise, ex_forS, ex_whl, evalV, evalT, evalEs, evalA, evalA1, evalO, evalC, evalI, enterE, slotR, ownR, ownC, setD, readR, moveR, outs, mapM, isTys_cons, isFreshF, L2.ixN, fillA, putA, putP, bin_mul (mulOk_r (a := w ^ i) hw), Int.pow_succ]
  · rintro s ⟨sl, rfl⟩
    simp [ss_nil, ss_cons, ev_cst, ev_var, ev_mov, ev_glob, ev_sh, ev_tup, ev_lst, ev_bin, ev_binv, ev_neg, ev_cmp, ev_cmpv, ev_chain, ev_and, ev_or, ev_not, ev_ite, ev_call, ev_p1, ev_p2, ev_isi, ev_sub, ev_subv, ev_slc, ev_slcv, ev_rev, ev_pop, ev_popAt, ev_dnew, ev_lrg, ev_idx, ex_asg, ex_par, ex_aug, ex_setI, ex_augI, ex_app, ex_ext, ex_expr, ex_ret, ex_retN, ex_pass, ex_brk, ex_cnt, ex_ifS, ex_raise, ex_forS, ex_whl, evalV, evalT, evalEs, evalA, evalA1, evalO, evalC, evalI, enterE, slotR, ownR, ownC, setD, readR, moveR, outs, mapM, isTys_cons, isFreshF, L2.ixN, fillA, putA, putP]

/-! ### prizes, in plain numbers -/
/-- the ticket that a number tells among those that are left -/
def nxt (gs : List Int) (n : Int) : Int := gs.foldl (fun t g => if g ≤ t then t + 1 else t) n
def below (gs : List Int) (t : Int) : Nat := (gs.filter fun g => decide (g < t)).length
theorem nxt_far : ∀ {gs : List Int} {n : Int}, (∀ g ∈ gs, n < g) → nxt gs n = n
  | [], _, _ => rfl
  | g :: gs, n, h => by
    have h1 := h g List.mem_cons_self
    unfold nxt
    rw [List.foldl_cons, if_neg (by omega)]
    exact nxt_far fun x hx => h x (List.mem_cons_of_mem _ hx)
theorem below_far {gs : List Int} {n : Int} (h : ∀ g ∈ gs, n < g) : below gs n = 0 := by
  unfold below
  rw [List.length_eq_zero_iff, List.filter_eq_nil_iff]
  intro g hg
  have := h g hg
  simp
  omega
theorem nxt_spec : ∀ {gs : List Int} {n : Int}, gs.Pairwise (· < ·) → n ≤ nxt gs n ∧ nxt gs n = n + below gs (nxt gs n) ∧ nxt gs n ∉ gs
  | [], n, _ => by simp [nxt, below]
  | g :: gs, n, h => by
    obtain ⟨h1, h2⟩ := List.pairwise_cons.mp h
    by_cases hg : g ≤ n
    · have e : nxt (g :: gs) n = nxt gs (n + 1) := by unfold nxt; rw [List.foldl_cons, if_pos hg]
      rw [e]
      obtain ⟨a, b, c⟩ := nxt_spec (n := n + 1) h2
      refine ⟨by omega, ?_, ?_⟩
      · unfold below at b ⊢
        rw [List.filter_cons, if_pos (by simp; omega), List.length_cons]
        omega
      · intro hm
        rcases List.mem_cons.mp hm with hm | hm
        · omega
        · exact c hm
    · have far : ∀ x ∈ g :: gs, n < x := fun x hx => by
        rcases List.mem_cons.mp hx with rfl | hx
        · omega
        · have := h1 x hx; omega
      rw [nxt_far far, below_far far]
      refine ⟨Int.le_refl _, by omega, fun hm => ?_⟩
      have := far n hm
      omega
theorem below_le (gs : List Int) (t : Int) : below gs t ≤ gs.length := List.length_filter_le _ _
theorem nxt_inj {gs : List Int} {n m : Int} (h : gs.Pairwise (· < ·)) (e : nxt gs n = nxt gs m) : n = m := by
  have h1 := (nxt_spec (n := n) h).2.1
  have h2 := (nxt_spec (n := m) h).2.1
  rw [e] at h1
  omega
/-- two lists without doubles, one within the other, of one length -/
theorem perm_of {α : Type} [DecidableEq α] : ∀ {a b : List α}, a.Nodup → (∀ x ∈ a, x ∈ b) → b.length ≤ a.length → a.Perm b
  | [], b, _, _, hl => by
    have : b = [] := List.length_eq_zero_iff.mp (by simpa using hl)
    rw [this]
  | x :: a, b, nd, hs, hl => by
    obtain ⟨h1, h2⟩ := List.nodup_cons.mp nd
    have hx := hs x List.mem_cons_self
    have p := List.perm_cons_erase hx
    refine (List.Perm.cons x (perm_of h2 (fun y hy => ?_) ?_)).trans p.symm
    · have hy' := hs y (List.mem_cons_of_mem _ hy)
      rcases List.mem_cons.mp (p.mem_iff.mp hy') with rfl | h
      · exact absurd hy h1
      · exact h
    · have := p.length_eq
      simp at this hl
      omega
/-- the tickets, the first so many -/
def tix (T : Nat) : List Int := (List.range T).map fun (n : Nat) => (n : Int)
theorem mem_tix {T : Nat} {x : Int} : x ∈ tix T ↔ 0 ≤ x ∧ x < T := by
  unfold tix
  rw [List.mem_map]
  constructor
  · rintro ⟨n, hn, rfl⟩
    have := List.mem_range.mp hn
    omega
  · rintro ⟨h1, h2⟩
    exact ⟨x.toNat, List.mem_range.mpr (by omega), by omega⟩
theorem tix_len (T : Nat) : (tix T).length = T := by simp [tix]
theorem tix_nodup (T : Nat) : (tix T).Nodup := by
  unfold tix
  rw [List.Nodup, List.pairwise_map]
  refine List.Pairwise.imp ?_ (List.nodup_range (n := T))
  intro a b h e
  exact h (by omega)
theorem filter_two {α : Type} (p : α → Bool) : ∀ l : List α, (l.filter p).length + (l.filter fun x => !p x).length = l.length
  | [] => rfl
  | a :: l => by
    have := filter_two p l
    cases h : p a <;> simp [h] <;> omega
/-- how many tickets are left where those of F are gone -/
theorem left_len {T : Nat} {F : List Int} (nd : F.Nodup) (hF : ∀ x ∈ F, 0 ≤ x ∧ x < T) : ((tix T).filter fun x => !decide (x ∈ F)).length + F.length = T := by
  have p : F.Perm ((tix T).filter fun x => decide (x ∈ F)) := by
    refine perm_of nd (fun x hx => List.mem_filter.mpr ⟨mem_tix.mpr (hF x hx), by simpa using hx⟩) ?_
    have q : ((tix T).filter fun x => decide (x ∈ F)).Perm (((tix T).filter fun x => decide (x ∈ F))) := .refl _
    have nd2 : ((tix T).filter fun x => decide (x ∈ F)).Nodup := (tix_nodup T).sublist List.filter_sublist
    -- the other way round
    have h : ∀ {a b : List Int}, a.Nodup → (∀ x ∈ a, x ∈ b) → a.length ≤ b.length := by
      intro a
      induction a with
      | nil => intro b _ _; simp
      | cons x a ih =>
        intro b nd hs
        obtain ⟨h1, h2⟩ := List.nodup_cons.mp nd
        have hx := hs x List.mem_cons_self
        have p := List.perm_cons_erase hx
        have := ih (b := b.erase x) h2 fun y hy => by
          rcases List.mem_cons.mp (p.mem_iff.mp (hs y (List.mem_cons_of_mem _ hy))) with rfl | h
          · exact absurd hy h1
          · exact h
        have := p.length_eq
        simp at this ⊢
        omega
    exact h nd2 fun x hx => by simpa using (List.mem_filter.mp hx).2
  have := filter_two (fun x => decide (x ∈ F)) (tix T)
  rw [tix_len, ← p.length_eq] at this
  omega
/-- all that numbers tell are all that are left -/
theorem nxt_perm {T : Nat} {F G : List Int} (nd : F.Nodup) (hF : ∀ x ∈ F, 0 ≤ x ∧ x < T) (hG : G.Perm F) (hs : G.Pairwise (· < ·)) : ((tix (T - F.length)).map (nxt G)).Perm ((tix T).filter fun x => !decide (x ∈ F)) := by
  have hl := left_len nd hF
  refine perm_of ?_ ?_ (by rw [List.length_map, tix_len]; omega)
  · rw [List.Nodup, List.pairwise_map]
    exact List.Pairwise.imp (fun {a b} (h : a ≠ b) e => h (nxt_inj hs e)) (tix_nodup _)
  · intro x hx
    obtain ⟨n, hn, rfl⟩ := List.mem_map.mp hx
    have hn := mem_tix.mp hn
    obtain ⟨a, b, c⟩ := nxt_spec (n := n) hs
    have d := below_le G (nxt G n)
    have e := hG.length_eq
    refine List.mem_filter.mpr ⟨mem_tix.mpr ⟨by omega, by omega⟩, ?_⟩
    simp
    exact fun h => c (hG.mem_iff.mpr h)
theorem sortI_lt {l : List Int} (nd : l.Nodup) : (sortI l).Pairwise (· < ·) := by
  have h1 := sortI_sorted l
  have h2 : (sortI l).Nodup := (sortI_perm l).nodup_iff.mpr nd
  exact List.Pairwise.imp (fun ⟨a, b⟩ => by omega) (List.Pairwise.and h1 h2)
/-- the winners, found ahead and those that numbers tell -/
def winsOf : List Int → List Int → List Int
  | found, [] => found
  | found, n :: ns => winsOf (found ++ [nxt (sortI found) n]) ns
theorem winsOf_append : ∀ (found a b : List Int), winsOf found (a ++ b) = winsOf (winsOf found a) b
  | found, [], b => rfl
  | found, n :: a, b => by simp only [List.cons_append, winsOf]; exact winsOf_append _ a b
/-- so many numbers, each of those that are left -/
def IsNums (T : Nat) (ns : List Int) : Prop := ∀ (i : Nat) n, ns[i]? = some n → 0 ≤ n ∧ n < (T : Int) - i
theorem IsNums.snoc {T : Nat} {ns : List Int} {n : Int} (h : IsNums T ns) (h0 : 0 ≤ n) (h1 : n < (T : Int) - ns.length) : IsNums T (ns ++ [n]) := fun i m hm => by
  rw [List.getElem?_append] at hm
  split at hm
  · exact h i m hm
  · have : i - ns.length = 0 := by
      rcases Nat.eq_zero_or_pos (i - ns.length) with e | e
      · exact e
      · rw [List.getElem?_eq_none (by simp; omega)] at hm; cases hm
    rw [this] at hm
    simp at hm
    subst hm
    omega
theorem IsNums.take {T : Nat} {ns ms : List Int} (h : IsNums T (ns ++ ms)) : IsNums T ns := fun i n hn => h i n (by rw [List.getElem?_append_left (List.getElem?_eq_some_iff.mp hn).1]; exact hn)
/-- winners are unlike tickets -/
structure IsWins (T : Nat) (F : List Int) : Prop where
  nd : F.Nodup
  in_ : ∀ x ∈ F, 0 ≤ x ∧ x < T
theorem IsWins.add {T : Nat} {F : List Int} (w : IsWins T F) {n : Int} (h0 : 0 ≤ n) (h1 : n < (T : Int) - F.length) : IsWins T (F ++ [nxt (sortI F) n]) := by
  obtain ⟨a, b, c⟩ := nxt_spec (n := n) (sortI_lt w.nd)
  have d := below_le (sortI F) (nxt (sortI F) n)
  have e := (sortI_perm F).length_eq
  have c' : nxt (sortI F) n ∉ F := fun h => c ((sortI_perm F).mem_iff.mpr h)
  refine ⟨?_, fun x hx => ?_⟩
  · rw [List.nodup_append]
    exact ⟨w.nd, by simp, fun x hx y hy => by rw [List.mem_singleton.mp hy]; rintro rfl; exact c' hx⟩
  · rcases List.mem_append.mp hx with hx | hx
    · exact w.in_ x hx
    · rw [List.mem_singleton.mp hx]; omega
theorem winsOf_ok {T : Nat} : ∀ {ns F : List Int}, IsWins T F → (∀ (i : Nat) n, ns[i]? = some n → 0 ≤ n ∧ n < (T : Int) - F.length - i) → IsWins T (winsOf F ns) ∧ (winsOf F ns).length = F.length + ns.length
  | [], F, w, _ => ⟨w, rfl⟩
  | n :: ns, F, w, h => by
    have h0 := h 0 n rfl
    have := winsOf_ok (ns := ns) (w.add h0.1 (by omega)) fun i m hm => by
      have := h (i + 1) m (by simpa using hm)
      simp
      omega
    simp only [winsOf]
    refine ⟨this.1, ?_⟩
    rw [this.2]
    simp
    omega
theorem wins_ok {T : Nat} {ns : List Int} (h : IsNums T ns) : IsWins T (winsOf [] ns) ∧ (winsOf [] ns).length = ns.length := by
  have := winsOf_ok (T := T) (ns := ns) (F := []) ⟨by simp, by simp⟩ fun i n hn => by have := h i n hn; simp; omega
  simpa using this

/-! ### numbers modulo p -/
def Cg (p a b : Int) : Prop := ∃ k, a - b = p * k
theorem Cg.refl {p : Int} (a : Int) : Cg p a a := ⟨0, by grind⟩
theorem Cg.of_eq {p a b : Int} (h : a = b) : Cg p a b := h ▸ Cg.refl a
theorem Cg.symm {p a b : Int} (h : Cg p a b) : Cg p b a := let ⟨k, e⟩ := h; ⟨-k, by grind⟩
theorem Cg.trans {p a b c : Int} (h : Cg p a b) (g : Cg p b c) : Cg p a c := let ⟨k, e⟩ := h; let ⟨l, f⟩ := g; ⟨k + l, by grind⟩
theorem Cg.add {p a b c d : Int} (h : Cg p a b) (g : Cg p c d) : Cg p (a + c) (b + d) := let ⟨k, e⟩ := h; let ⟨l, f⟩ := g; ⟨k + l, by grind⟩
theorem Cg.sub {p a b c d : Int} (h : Cg p a b) (g : Cg p c d) : Cg p (a - c) (b - d) := let ⟨k, e⟩ := h; let ⟨l, f⟩ := g; ⟨k - l, by grind⟩
theorem Cg.mul {p a b c d : Int} (h : Cg p a b) (g : Cg p c d) : Cg p (a * c) (b * d) := let ⟨k, e⟩ := h; let ⟨l, f⟩ := g; ⟨k * c + b * l, by grind⟩
theorem Cg.mod {p : Int} (a : Int) : Cg p (a % p) a := ⟨-(a / p), by have := Int.mul_ediv_add_emod a p; grind⟩
theorem Cg.emod {p a b : Int} (h : Cg p a b) : a % p = b % p := by
  obtain ⟨k, e⟩ := h
  have : a = b + p * k := by grind
  rw [this, Int.add_mul_emod_self_left]
theorem Cg.of_emod {p a b : Int} (h : a % p = b % p) : Cg p a b := (Cg.mod a).symm.trans (h ▸ Cg.mod b)
theorem Cg.eq {p a b : Int} (h : Cg p a b) (a0 : 0 ≤ a) (a1 : a < p) (b0 : 0 ≤ b) (b1 : b < p) : a = b := by
  have := h.emod
  rwa [Int.emod_eq_of_lt a0 a1, Int.emod_eq_of_lt b0 b1] at this
theorem mod_in {p : Int} (hp : 0 < p) (a : Int) : 0 ≤ a % p ∧ a % p < p := ⟨Int.emod_nonneg _ (by omega), Int.emod_lt_of_pos _ hp⟩
theorem no_one {p k : Int} (h : 2 ≤ p) (e : p * k = 1) : False := by
  have h1 : (p * k) % p = 0 := Int.mul_emod_right p k
  rw [e, Int.emod_eq_of_lt (by omega) (by omega)] at h1
  omega
def primes : List Int := [2, 3, 5, 7, 11, 13, 17, 19, 23, 29, 31, 37, 41, 43, 47, 53, 59, 61, 67, 71, 73, 79, 83, 89, 97, 101]
theorem primes_in : ∀ p ∈ primes, 2 ≤ p ∧ p ≤ 101 := by decide
theorem inv_all : (primes.all fun p => (List.range p.toNat).all fun n => n == 0 || (List.range p.toNat).any fun m => ((n : Int) * m % p == 1)) = true := by decide +kernel
theorem inv_ex {p : Int} (hp : p ∈ primes) {n : Int} (h0 : 0 < n) (h1 : n < p) : ∃ m : Nat, (m : Int) < p ∧ n * m % p = 1 := by
  have a := List.all_eq_true.mp inv_all p hp
  have b := List.all_eq_true.mp a n.toNat (List.mem_range.mpr (by omega))
  rw [Bool.or_eq_true, beq_iff_eq, List.any_eq_true] at b
  rcases b with b | ⟨m, hm, e⟩
  · omega
  · have := List.mem_range.mp hm
    refine ⟨m, by omega, ?_⟩
    rw [beq_iff_eq] at e
    rwa [show ((n.toNat : Nat) : Int) = n by omega] at e
theorem inv_cg {p : Int} (hp : p ∈ primes) {a : Int} (h : ¬ Cg p a 0) : ∃ m : Int, Cg p (a * m) 1 := by
  obtain ⟨p2, _⟩ := primes_in p hp
  obtain ⟨l, u⟩ := mod_in (p := p) (by omega) a
  have hne : a % p ≠ 0 := fun e => h ((Cg.mod a).symm.trans (Cg.of_eq e))
  obtain ⟨m, _, e⟩ := inv_ex hp (n := a % p) (by omega) u
  refine ⟨m, ((Cg.mod a).symm.mul (Cg.refl _)).trans (Cg.of_emod ?_)⟩
  rw [e, Int.emod_eq_of_lt (by omega) (by omega)]
/-- a product is nought just if a factor is -/
theorem cg_prod {p : Int} (hp : p ∈ primes) {a b : Int} (h : Cg p (a * b) 0) (ha : ¬ Cg p a 0) : Cg p b 0 := by
  obtain ⟨m, e⟩ := inv_cg hp ha
  have h1 : Cg p (m * (a * b)) 0 := ((Cg.refl m).mul h).trans (Cg.of_eq (by grind))
  have h2 : Cg p (m * (a * b)) b := (Cg.of_eq (show m * (a * b) = (a * m) * b by grind)).trans ((e.mul (Cg.refl b)).trans (Cg.of_eq (by grind)))
  exact h2.symm.trans h1
/-! ### rows as polynomials -/
def ev : List Int → Int → Int
  | [], _ => 0
  | c :: r, x => ev r x * x + c
/-- .. reckoned modulo p -/
def vm (p : Int) : List Int → Int → Int
  | [], _ => 0
  | c :: r, x => (vm p r x * x + c) % p
theorem vm_cg (p : Int) : ∀ (f : List Int) (x : Int), Cg p (vm p f x) (ev f x)
  | [], _ => Cg.refl _
  | c :: r, x => (Cg.mod _).trans (((vm_cg p r x).mul (Cg.refl x)).add (Cg.refl c))
theorem vm_in {p : Int} (hp : 0 < p) : ∀ (f : List Int) (x : Int), 0 ≤ vm p f x ∧ vm p f x < p
  | [], _ => ⟨Int.le_refl _, hp⟩
  | _ :: _, _ => mod_in hp _
theorem vm_eq {p : Int} (hp : 0 < p) (f : List Int) (x : Int) : vm p f x = ev f x % p := by
  have h := (vm_cg p f x).emod
  obtain ⟨a, b⟩ := vm_in hp f x
  rwa [Int.emod_eq_of_lt a b] at h
def quo (a : Int) : List Int → List Int
  | [] => []
  | [_] => []
  | _ :: d :: r => ev (d :: r) a :: quo a (d :: r)
theorem quo_len (a : Int) : ∀ f, (quo a f).length = f.length - 1
  | [] => rfl
  | [_] => rfl
  | _ :: d :: r => by rw [quo, List.length_cons, quo_len a (d :: r)]; simp
theorem quo_ev (a x : Int) : ∀ f, ev f x = (x - a) * ev (quo a f) x + ev f a
  | [] => by simp [quo, ev]
  | [c] => by simp [quo, ev]
  | c :: d :: r => by
    have h := quo_ev a x (d :: r)
    rw [quo, ev, h]
    show _ = (x - a) * (ev (quo a (d :: r)) x * x + ev (d :: r) a) + (ev (d :: r) a * a + c)
    generalize ev (quo a (d :: r)) x = q
    generalize ev (d :: r) a = t
    grind
theorem quo_zero {p a : Int} : ∀ f : List Int, (∀ q ∈ quo a f, Cg p q 0) → Cg p (ev f a) 0 → ∀ c ∈ f, Cg p c 0
  | [], _, _, c, h => by cases h
  | [d], _, h, c, hc => by
    obtain rfl := List.mem_singleton.mp hc
    exact (Cg.of_eq (by simp [ev])).trans h
  | d :: e :: r, hq, h, c, hc => by
    have h1 := hq (ev (e :: r) a) List.mem_cons_self
    rcases List.mem_cons.mp hc with rfl | hc
    · have h2 : Cg p (ev (e :: r) a * a) 0 := (h1.mul (Cg.refl a)).trans (Cg.of_eq (by grind))
      have h3 : Cg p ((ev (e :: r) a * a + c) - ev (e :: r) a * a) (0 - 0) := Cg.sub h h2
      exact (Cg.of_eq (by grind)).trans (h3.trans (Cg.of_eq (by grind)))
    · exact quo_zero (e :: r) (fun q hq' => hq q (List.mem_cons_of_mem _ hq')) h1 c hc
/-- points that are unlike modulo p -/
def Apart (p : Int) (xs : List Int) : Prop := xs.Pairwise fun a b => ¬ Cg p b a
theorem zero_of {p : Int} (hp : p ∈ primes) : ∀ (xs f : List Int), f.length ≤ xs.length → Apart p xs → (∀ x ∈ xs, Cg p (ev f x) 0) → ∀ c ∈ f, Cg p c 0
  | [], f, hl, _, _, c, hc => by
    have : f = [] := List.eq_nil_of_length_eq_zero (by simpa using hl)
    subst this
    cases hc
  | a :: xs, f, hl, ha, hx, c, hc => by
    obtain ⟨h1, h2⟩ := List.pairwise_cons.mp ha
    have h0 := hx a List.mem_cons_self
    refine quo_zero (a := a) f (zero_of hp xs (quo a f) (by rw [quo_len]; simp at hl; omega) h2 fun x hxm => ?_) h0 c hc
    have e := quo_ev a x f
    have h3 := hx x (List.mem_cons_of_mem _ hxm)
    have h4 : Cg p ((x - a) * ev (quo a f) x) 0 := (Cg.of_eq (show (x - a) * ev (quo a f) x = ev f x - ev f a by rw [e]; grind)).trans ((h3.sub h0).trans (Cg.of_eq (by grind)))
    exact cg_prod hp h4 fun q => h1 x hxm (by
      obtain ⟨k, e⟩ := q
      exact ⟨k, by grind⟩)
theorem ev_diff : ∀ (f g : List Int) (x : Int), f.length = g.length → ev (List.zipWith (fun a b => a - b) f g) x = ev f x - ev g x
  | [], [], _, _ => rfl
  | [], _ :: _, _, h => by simp at h
  | _ :: _, [], _, h => by simp at h
  | a :: f, b :: g, x, h => by
    rw [List.zipWith_cons_cons, ev, ev, ev, ev_diff f g x (by simpa using h)]
    grind
/-- a row of numbers below p -/
def Row' (p : Int) (f : List Int) : Prop := ∀ c ∈ f, 0 ≤ c ∧ c < p
theorem row_unique {p : Int} (hp : p ∈ primes) {xs f g : List Int} (hl : f.length = g.length) (hx : f.length ≤ xs.length) (ha : Apart p xs) (hf : Row' p f) (hg : Row' p g) (h : ∀ x ∈ xs, Cg p (ev f x) (ev g x)) : f = g := by
  have z := zero_of hp xs (List.zipWith (fun a b => a - b) f g) (by rw [List.length_zipWith]; omega) ha fun x hxm => by
    rw [ev_diff f g x hl]
    exact ((h x hxm).sub (Cg.refl _)).trans (Cg.of_eq (by grind))
  have key : ∀ {f g : List Int}, f.length = g.length → Row' p f → Row' p g → (∀ c ∈ List.zipWith (fun a b => a - b) f g, Cg p c 0) → f = g := by
    intro f
    induction f with
    | nil => intro g hl _ _ _; exact (List.eq_nil_of_length_eq_zero hl.symm).symm
    | cons a f ih =>
      intro g hl hf hg hz
      cases g with
      | nil => simp at hl
      | cons b g =>
        rw [List.zipWith_cons_cons] at hz
        have h1 := hz (a - b) List.mem_cons_self
        have h2 : Cg p a b := by obtain ⟨k, e⟩ := h1; exact ⟨k, by grind⟩
        have a1 := hf a List.mem_cons_self
        have b1 := hg b List.mem_cons_self
        rw [h2.eq a1.1 a1.2 b1.1 b1.2, ih (by simpa using hl) (fun c hc => hf c (List.mem_cons_of_mem _ hc)) (fun c hc => hg c (List.mem_cons_of_mem _ hc)) fun c hc => hz c (List.mem_cons_of_mem _ hc)]
  exact key hl hf hg z
/-! ### a row through given values, one after another -/
def linG (p a : Int) : Int → List Int → List Int
  | c, [] => [c]
  | c, n :: f => ((c - n * a) % p) :: linG p a n f
/-- times X - a -/
def lin (p a : Int) (f : List Int) : List Int := linG p a 0 f
theorem linG_len (p a : Int) : ∀ (f : List Int) (c : Int), (linG p a c f).length = f.length + 1
  | [], _ => rfl
  | n :: f, c => by rw [linG, List.length_cons, linG_len p a f n, List.length_cons]
theorem linG_ev (p a x : Int) : ∀ (f : List Int) (c : Int), Cg p (ev (linG p a c f) x) (c + (x - a) * ev f x)
  | [], c => Cg.of_eq (by simp [linG, ev])
  | n :: f, c => by
    have h := linG_ev p a x f n
    rw [linG, ev]
    refine ((h.mul (Cg.refl x)).add (Cg.mod _)).trans (Cg.of_eq ?_)
    show _ = c + (x - a) * (ev f x * x + n)
    generalize ev f x = q
    grind
theorem lin_ev (p a x : Int) (f : List Int) : Cg p (ev (lin p a f) x) ((x - a) * ev f x) := (linG_ev p a x f 0).trans (Cg.of_eq (by grind))
theorem linG_in {p : Int} (hp : 0 < p) (a : Int) : ∀ {f : List Int} {c : Int}, 0 ≤ c → c < p → Row' p f → Row' p (linG p a c f)
  | [], c, h0, h1, _ => fun d hd => by rw [List.mem_singleton.mp hd]; exact ⟨h0, h1⟩
  | n :: f, c, h0, h1, hf => fun d hd => by
    rcases List.mem_cons.mp hd with rfl | hd
    · exact mod_in hp _
    · have := hf n List.mem_cons_self
      exact linG_in hp a this.1 this.2 (fun e he => hf e (List.mem_cons_of_mem _ he)) d hd
/-- some number that makes 1 with it -/
def inv? (p n : Int) : Int := ((List.range p.toNat).map fun (m : Nat) => (m : Int)).find? (fun m => m != 0 && n * m % p == 1) |>.getD 0
theorem inv_ok {p : Int} (hp : p ∈ primes) {n : Int} (h0 : 0 < n) (h1 : n < p) : n * inv? p n % p = 1 := by
  obtain ⟨p2, _⟩ := primes_in p hp
  obtain ⟨m, hm, e⟩ := inv_ex hp h0 h1
  unfold inv?
  cases f : ((List.range p.toNat).map fun (m : Nat) => (m : Int)).find? (fun m => m != 0 && n * m % p == 1) with
  | none =>
    have := List.find?_eq_none.mp f (m : Int) (List.mem_map.mpr ⟨m, List.mem_range.mpr (by omega), rfl⟩)
    have m0 : m ≠ 0 := by
      rintro rfl
      simp at e
    simp [e] at this
    omega
  | some q =>
    have := List.find?_some f
    simp at this
    exact this.2
/-- the row through s, w being nought at all of them: one more -/
def stepF (p : Int) (fw : List Int × List Int) (s : Int × Int) : List Int × List Int :=
  (List.zipWith (fun one other => (one + (s.2 - vm p fw.1 s.1) * inv? p (vm p fw.2 s.1) % p * other) % p) (fw.1 ++ [0]) fw.2, lin p s.1 fw.2)
def newton (p : Int) (ss : List (Int × Int)) : List Int × List Int := ss.foldl (stepF p) ([], [1])
theorem ev_comb (p b x : Int) : ∀ (f g : List Int), f.length = g.length → Cg p (ev (List.zipWith (fun one other => (one + b * other) % p) f g) x) (ev f x + b * ev g x)
  | [], [], _ => Cg.of_eq (by simp [ev])
  | [], _ :: _, h => by simp at h
  | _ :: _, [], h => by simp at h
  | m :: f, n :: g, h => by
    have q := ev_comb p b x f g (by simpa using h)
    rw [List.zipWith_cons_cons, ev]
    refine ((q.mul (Cg.refl x)).add (Cg.mod _)).trans (Cg.of_eq ?_)
    show _ = (ev f x * x + m) + b * (ev g x * x + n)
    generalize ev f x = u
    generalize ev g x = v
    grind
theorem ev_pad : ∀ (f : List Int) (x : Int), ev (f ++ [0]) x = ev f x
  | [], _ => by simp [ev]
  | c :: f, x => by rw [List.cons_append, ev, ev, ev_pad f x]
structure Newt (p : Int) (ss : List (Int × Int)) (fw : List Int × List Int) : Prop where
  lf : fw.1.length = ss.length
  lw : fw.2.length = ss.length + 1
  rf : Row' p fw.1
  rw' : Row' p fw.2
  at_ : ∀ s ∈ ss, Cg p (ev fw.1 s.1) s.2
  zero : ∀ s ∈ ss, Cg p (ev fw.2 s.1) 0
  apart : ∀ x, (∀ s ∈ ss, ¬ Cg p x s.1) → ¬ Cg p (ev fw.2 x) 0
theorem newt_step {p : Int} (hp : p ∈ primes) {ss : List (Int × Int)} {fw : List Int × List Int} (n : Newt p ss fw) (s : Int × Int) (hs : ∀ t ∈ ss, ¬ Cg p s.1 t.1) : Newt p (ss ++ [s]) (stepF p fw s) := by
  obtain ⟨p2, _⟩ := primes_in p hp
  have p0 : 0 < p := by omega
  have len : (fw.1 ++ [0]).length = fw.2.length := by rw [List.length_append, n.lf, n.lw]; rfl
  obtain ⟨w0, w1⟩ := vm_in p0 fw.2 s.1
  have wne : vm p fw.2 s.1 ≠ 0 := fun e => n.apart s.1 hs ((vm_cg p fw.2 s.1).symm.trans (Cg.of_eq e))
  have hi := inv_ok hp (n := vm p fw.2 s.1) (by omega) w1
  have hc := fun x => (ev_comb p ((s.2 - vm p fw.1 s.1) * inv? p (vm p fw.2 s.1) % p) x (fw.1 ++ [0]) fw.2 len).trans (Cg.of_eq (by rw [ev_pad]))
  refine ⟨?_, ?_, fun c hc => ?_, linG_in p0 _ (Int.le_refl _) p0 n.rw', fun t ht => ?_, fun t ht => ?_, fun x hx => ?_⟩
  · show (List.zipWith _ _ _).length = _
    rw [List.length_zipWith, len, n.lw]; simp
  · show (linG p s.1 0 fw.2).length = _
    rw [linG_len, n.lw]; simp
  · obtain ⟨i, hi⟩ := List.mem_iff_getElem?.mp hc
    have hi : (List.zipWith _ _ _)[i]? = some c := hi
    rw [List.getElem?_zipWith] at hi
    split at hi
    · cases hi; exact mod_in p0 _
    · cases hi
  · rcases List.mem_append.mp ht with ht | ht
    · refine (hc t.1).trans (((n.at_ t ht).add ((Cg.refl _).mul (n.zero t ht))).trans (Cg.of_eq (by grind)))
    · rw [List.mem_singleton.mp ht]
      refine (hc s.1).trans ?_
      have h1 : Cg p (((s.2 - vm p fw.1 s.1) * inv? p (vm p fw.2 s.1) % p) * ev fw.2 s.1) (s.2 - vm p fw.1 s.1) := by
        refine ((Cg.mod _).mul (vm_cg p fw.2 s.1).symm).trans ?_
        refine (Cg.of_eq (show (s.2 - vm p fw.1 s.1) * inv? p (vm p fw.2 s.1) * vm p fw.2 s.1 = (s.2 - vm p fw.1 s.1) * (vm p fw.2 s.1 * inv? p (vm p fw.2 s.1)) by grind)).trans ?_
        refine ((Cg.refl _).mul (Cg.of_emod (b := 1) (by rw [hi, Int.emod_eq_of_lt (by omega) (by omega)]))).trans (Cg.of_eq (by grind))
      exact (((vm_cg p fw.1 s.1).symm.add h1)).trans (Cg.of_eq (by grind))
  · rcases List.mem_append.mp ht with ht | ht
    · exact (lin_ev p s.1 t.1 fw.2).trans (((Cg.refl _).mul (n.zero t ht)).trans (Cg.of_eq (by grind)))
    · rw [List.mem_singleton.mp ht]
      exact (lin_ev p s.1 s.1 fw.2).trans (Cg.of_eq (by grind))
  · intro h
    have h1 := (lin_ev p s.1 x fw.2).symm.trans h
    refine n.apart x (fun t ht => hx t (List.mem_append_left _ ht)) (cg_prod hp h1 fun q => hx s (by simp) ?_)
    obtain ⟨k, e⟩ := q
    exact ⟨k, by grind⟩
theorem newt0 {p : Int} (p2 : 2 ≤ p) : Newt p [] ([], [1]) where
  lf := rfl
  lw := rfl
  rf := fun c h => by cases h
  rw' := fun c h => by
    rw [List.mem_singleton.mp h]
    omega
  at_ := fun s h => by cases h
  zero := fun s h => by cases h
  apart := fun x _ h => by
    obtain ⟨k, e⟩ := h
    have e : (0 * x + 1) - 0 = p * k := e
    have e : p * k = 1 := by grind
    exact no_one p2 e
theorem newt_ok {p : Int} (hp : p ∈ primes) : ∀ {ss : List (Int × Int)}, Apart p (ss.map (·.1)) → Newt p ss (newton p ss) := by
  obtain ⟨p2, _⟩ := primes_in p hp
  have key : ∀ {rest done : List (Int × Int)} {fw : List Int × List Int}, Newt p done fw → Apart p ((done ++ rest).map (·.1)) → Newt p (done ++ rest) (rest.foldl (stepF p) fw) := by
    intro rest
    induction rest with
    | nil => intro done fw n _; simpa using n
    | cons s rest ih =>
      intro done fw n h
      have h2 : done ++ s :: rest = (done ++ [s]) ++ rest := by simp
      rw [h2] at h ⊢
      refine ih (newt_step hp n s fun t ht => ?_) h
      unfold Apart at h
      rw [List.map_append, List.map_append, List.append_assoc, List.pairwise_append] at h
      exact h.2.2 t.1 (List.mem_map.mpr ⟨t, ht, rfl⟩) s.1 (by simp)
  intro ss h
  have := key (done := []) (rest := ss) (fw := ([], [1])) (newt0 p2) (by simpa using h)
  simpa [newton] using this
/-- the row through them -/
def thru (p : Int) (ss : List (Int × Int)) : List Int := (newton p ss).1
/-- it is each such row of its length -/
theorem thru_eq {p : Int} (hp : p ∈ primes) {ss : List (Int × Int)} (h : Apart p (ss.map (·.1))) {f : List Int} (hl : f.length = ss.length) (hf : Row' p f) (hv : ∀ s ∈ ss, Cg p (ev f s.1) s.2) : thru p ss = f := by
  have n := newt_ok hp h
  refine row_unique hp (xs := ss.map (·.1)) (n.lf.trans hl.symm) (by rw [List.length_map]; exact Nat.le_of_eq n.lf) h n.rf hf fun x hx => ?_
  obtain ⟨s, hs, rfl⟩ := List.mem_map.mp hx
  exact (n.at_ s hs).trans (hv s hs).symm
/-! ### a row through given values, all at once -/
def prodx : List Int → Int → Int
  | [], _ => 1
  | a :: o, x => (x - a) * prodx o x
def lins (p : Int) (s : Int) : List Int → List Int
  | [] => [s]
  | a :: o => lin p a (lins p s o)
theorem lins_ev (p s x : Int) : ∀ o, Cg p (ev (lins p s o) x) (s * prodx o x)
  | [] => Cg.of_eq (by simp [lins, ev, prodx])
  | a :: o => by
    refine (lin_ev p a x (lins p s o)).trans (((Cg.refl _).mul (lins_ev p s x o)).trans (Cg.of_eq ?_))
    show _ = s * ((x - a) * prodx o x)
    generalize prodx o x = q
    grind
theorem lins_len (p s : Int) : ∀ o, (lins p s o).length = o.length + 1
  | [] => rfl
  | a :: o => by
    show (linG p a 0 (lins p s o)).length = _
    rw [linG_len, lins_len p s o]; rfl
theorem lins_in {p : Int} (hp : 0 < p) {s : Int} (h0 : 0 ≤ s) (h1 : s < p) : ∀ o, Row' p (lins p s o)
  | [] => fun c hc => by rw [List.mem_singleton.mp hc]; exact ⟨h0, h1⟩
  | a :: o => linG_in hp a (Int.le_refl _) hp (lins_in hp h0 h1 o)
def addL (p : Int) (f g : List Int) : List Int := List.zipWith (fun one other => (one + 1 * other) % p) f g
/-- the summands of the row through ss: s the value, c the other way round of the bottom -/
def lagL (p : Int) (k : Nat) (c : Int → Int) (xs : List Int) : List (Int × Int) → List Int
  | [] => List.replicate k 0
  | (a, y) :: r => addL p (lagL p k c xs r) (lins p (y * c a % p) (xs.filter fun o => decide (o ≠ a)))
theorem ev_rep (x : Int) : ∀ k, ev (List.replicate k 0) x = 0
  | 0 => rfl
  | k + 1 => by rw [List.replicate_succ, ev, ev_rep x k]; simp
def lagV (c : Int → Int) (xs : List Int) (x : Int) : List (Int × Int) → Int
  | [] => 0
  | (a, y) :: r => lagV c xs x r + y * c a * prodx (xs.filter fun o => decide (o ≠ a)) x
theorem lag_ev (p : Int) (k : Nat) (c : Int → Int) (xs : List Int) (x : Int) : ∀ ss : List (Int × Int), (∀ s ∈ ss, (xs.filter fun o => decide (o ≠ s.1)).length + 1 = k) →
    (lagL p k c xs ss).length = k ∧ Cg p (ev (lagL p k c xs ss) x) (lagV c xs x ss)
  | [], _ => ⟨by simp [lagL], Cg.of_eq (ev_rep x k)⟩
  | (a, y) :: r, h => by
    obtain ⟨l, e⟩ := lag_ev p k c xs x r fun s hs => h s (List.mem_cons_of_mem _ hs)
    have hk := h (a, y) List.mem_cons_self
    have l2 : (lins p (y * c a % p) (xs.filter fun o => decide (o ≠ a))).length = k := by rw [lins_len]; exact hk
    refine ⟨by show (List.zipWith _ _ _).length = k; rw [List.length_zipWith, l, l2, Nat.min_self], ?_⟩
    refine (ev_comb p 1 x _ _ (l.trans l2.symm)).trans ((e.add ((Cg.refl 1).mul (lins_ev p (y * c a % p) x _))).trans ?_)
    refine ((Cg.refl _).add ((Cg.refl 1).mul ((Cg.mod (y * c a)).mul (Cg.refl _)))).trans (Cg.of_eq ?_)
    show _ = lagV c xs x r + y * c a * _
    grind
theorem prod_zero : ∀ {o : List Int} {x : Int}, x ∈ o → prodx o x = 0
  | a :: o, x, h => by
    rcases List.mem_cons.mp h with rfl | h
    · simp [prodx]
    · simp [prodx, prod_zero h]
theorem prod_ne {p : Int} (hp : p ∈ primes) {x : Int} : ∀ {o : List Int}, (∀ a ∈ o, ¬ Cg p x a) → ¬ Cg p (prodx o x) 0
  | [], _, h => by
    obtain ⟨p2, _⟩ := primes_in p hp
    obtain ⟨k, e⟩ := h
    have e : p * k = 1 := by simp [prodx] at e; grind
    exact no_one p2 e
  | a :: o, h, hz => prod_ne hp (fun b hb => h b (List.mem_cons_of_mem _ hb)) (cg_prod hp hz fun q => h a List.mem_cons_self (by
    obtain ⟨k, e⟩ := q
    exact ⟨k, by grind⟩))
theorem lag_zero (p : Int) (c : Int → Int) (xs : List Int) (x : Int) (hx : x ∈ xs) : ∀ ss : List (Int × Int), (∀ s ∈ ss, s.1 ≠ x) → lagV c xs x ss = 0
  | [], _ => rfl
  | (a, y) :: r, h => by
    have ha := h (a, y) List.mem_cons_self
    rw [lagV, lag_zero p c xs x hx r fun s hs => h s (List.mem_cons_of_mem _ hs), prod_zero (List.mem_filter.mpr ⟨hx, by simpa using fun e => ha e.symm⟩)]
    simp
theorem lag_at {p : Int} {c : Int → Int} {xs : List Int} : ∀ {ss : List (Int × Int)}, (∀ s ∈ ss, s.1 ∈ xs) → (ss.map (·.1)).Nodup → (∀ s ∈ ss, Cg p (prodx (xs.filter fun o => decide (o ≠ s.1)) s.1 * c s.1) 1) →
    ∀ s ∈ ss, Cg p (lagV c xs s.1 ss) s.2
  | [], _, _, _, s, h => by cases h
  | (a, y) :: r, hx, nd, hc, s, hs => by
    obtain ⟨n1, n2⟩ := List.nodup_cons.mp (show (a :: r.map (·.1)).Nodup from nd)
    rcases List.mem_cons.mp hs with rfl | hs'
    · have z := lag_zero p c xs a (hx (a, y) List.mem_cons_self) r fun t ht e => n1 (List.mem_map.mpr ⟨t, ht, e⟩)
      have h1 := hc (a, y) List.mem_cons_self
      rw [lagV]
      show Cg p (lagV c xs a r + _) y
      rw [z]
      refine (Cg.of_eq (show 0 + y * c a * prodx (xs.filter fun o => decide (o ≠ a)) a = y * (prodx (xs.filter fun o => decide (o ≠ a)) a * c a) by grind)).trans (((Cg.refl y).mul h1).trans (Cg.of_eq (by grind)))
    · have ih := lag_at (p := p) (c := c) (xs := xs) (ss := r) (fun t ht => hx t (List.mem_cons_of_mem _ ht)) n2 (fun t ht => hc t (List.mem_cons_of_mem _ ht)) s hs'
      have hne : s.1 ≠ a := fun e => n1 (List.mem_map.mpr ⟨s, hs', e⟩)
      rw [lagV, prod_zero (List.mem_filter.mpr ⟨hx s hs, by simpa using hne⟩)]
      exact (Cg.of_eq (by grind)).trans ih
theorem apart_of {p : Int} {xs : List Int} (nd : xs.Nodup) (h : ∀ x ∈ xs, 0 ≤ x ∧ x < p) : Apart p xs := by
  refine List.Pairwise.imp_of_mem ?_ nd
  intro a b ha hb hne h2
  exact hne (h2.eq (h b hb).1 (h b hb).2 (h a ha).1 (h a ha).2).symm
theorem filter_ne_len : ∀ {xs : List Int} {a : Int}, xs.Nodup → a ∈ xs → (xs.filter fun o => decide (o ≠ a)).length + 1 = xs.length
  | [], a, _, h => by cases h
  | b :: xs, a, nd, h => by
    obtain ⟨n1, n2⟩ := List.nodup_cons.mp nd
    rcases List.mem_cons.mp h with rfl | h
    · have : xs.filter (fun o => decide (o ≠ a)) = xs := List.filter_eq_self.mpr fun x hx => decide_eq_true fun e => n1 (by rw [← e]; exact hx)
      rw [List.filter_cons, if_neg (by simp), this]; rfl
    · have : b ≠ a := fun e => n1 (e ▸ h)
      rw [List.filter_cons, if_pos (by simpa using this), List.length_cons, filter_ne_len n2 h]; rfl
/-- both ways lead to one value -/
theorem thru_lag {p : Int} (hp : p ∈ primes) {ss : List (Int × Int)} (nd : (ss.map (·.1)).Nodup) (hx : ∀ s ∈ ss, 0 ≤ s.1 ∧ s.1 < p) {c : Int → Int}
    (hc : ∀ s ∈ ss, Cg p (prodx ((ss.map (·.1)).filter fun o => decide (o ≠ s.1)) s.1 * c s.1) 1) (x : Int) : Cg p (ev (thru p ss) x) (lagV c (ss.map (·.1)) x ss) := by
  obtain ⟨p2, _⟩ := primes_in p hp
  have hk : ∀ s ∈ ss, ((ss.map (·.1)).filter fun o => decide (o ≠ s.1)).length + 1 = ss.length := fun s hs => by
    rw [filter_ne_len nd (List.mem_map.mpr ⟨s, hs, rfl⟩), List.length_map]
  have L := fun x => lag_ev p ss.length c (ss.map (·.1)) x ss hk
  have rowL : ∀ ss' : List (Int × Int), Row' p (lagL p ss.length c (ss.map (·.1)) ss') := fun ss' => by
    cases ss' with
    | nil => intro d hd; rw [(List.mem_replicate.mp hd).2]; omega
    | cons s r =>
      intro d hd
      obtain ⟨i, hi⟩ := List.mem_iff_getElem?.mp hd
      have hi : (List.zipWith _ _ _)[i]? = some d := hi
      rw [List.getElem?_zipWith] at hi
      split at hi
      · cases hi; exact mod_in (by omega) _
      · cases hi
  have e := thru_eq hp (ss := ss) (apart_of nd fun x hx' => by
    obtain ⟨s, hs, rfl⟩ := List.mem_map.mp hx'
    exact hx s hs) (f := lagL p ss.length c (ss.map (·.1)) ss) (L 0).1 (rowL ss) fun s hs => (L s.1).2.trans (lag_at (fun t ht => List.mem_map.mpr ⟨t, ht, rfl⟩) nd hc s hs)
  rw [e]
  exact (L x).2

/-! ### how many rows have given values -/
/-- all rows of so many numbers below p -/
def rowsE (p : Nat) : Nat → List (List Int)
  | 0 => [[]]
  | k + 1 => (rowsE p k).flatMap fun r => (List.range p).map fun (n : Nat) => r ++ [(n : Int)]
theorem rowsE_mem {p : Nat} : ∀ {k : Nat} {r : List Int}, r ∈ rowsE p k ↔ r.length = k ∧ Row' p r
  | 0, r => by
    simp only [rowsE, List.mem_singleton]
    constructor
    · rintro rfl; exact ⟨rfl, fun c h => by cases h⟩
    · rintro ⟨h, _⟩; exact List.eq_nil_of_length_eq_zero h
  | k + 1, r => by
    simp only [rowsE, List.mem_flatMap, List.mem_map, List.mem_range]
    constructor
    · rintro ⟨q, hq, n, hn, rfl⟩
      obtain ⟨h1, h2⟩ := rowsE_mem.mp hq
      refine ⟨by simp [h1], fun c hc => ?_⟩
      rcases List.mem_append.mp hc with hc | hc
      · exact h2 c hc
      · rw [List.mem_singleton.mp hc]; omega
    · rintro ⟨h1, h2⟩
      have hne : r ≠ [] := fun e => by rw [e] at h1; simp at h1
      obtain ⟨l0, l1⟩ := h2 _ (List.getLast_mem hne)
      refine ⟨r.dropLast, rowsE_mem.mpr ⟨by rw [List.length_dropLast, h1]; rfl, fun c hc => h2 c ((List.dropLast_sublist r).subset hc)⟩, (r.getLast hne).toNat, by omega, ?_⟩
      rw [show (((r.getLast hne).toNat : Nat) : Int) = r.getLast hne by omega]
      exact List.dropLast_concat_getLast hne
theorem flat_nodup {α β : Type} {f : α → List β} : ∀ {l : List α}, l.Nodup → (∀ a ∈ l, (f a).Nodup) → (∀ a ∈ l, ∀ b ∈ l, ∀ x, x ∈ f a → x ∈ f b → a = b) → (l.flatMap f).Nodup
  | [], _, _, _ => .nil
  | a :: l, nd, h1, h2 => by
    obtain ⟨n1, n2⟩ := List.nodup_cons.mp nd
    rw [List.flatMap_cons, List.nodup_append]
    refine ⟨h1 a List.mem_cons_self, flat_nodup n2 (fun b hb => h1 b (List.mem_cons_of_mem _ hb)) (fun b hb c hc => h2 b (List.mem_cons_of_mem _ hb) c (List.mem_cons_of_mem _ hc)), ?_⟩
    rintro x hx y hy rfl
    obtain ⟨b, hb, hxb⟩ := List.mem_flatMap.mp hy
    have := h2 a List.mem_cons_self b (List.mem_cons_of_mem _ hb) x hx hxb
    subst this
    exact n1 hb
theorem rowsE_nodup (p : Nat) : ∀ k, (rowsE p k).Nodup
  | 0 => by simp [rowsE]
  | k + 1 => by
    refine flat_nodup (rowsE_nodup p k) (fun r _ => ?_) fun r _ q _ x hx hy => ?_
    · rw [List.Nodup, List.pairwise_map]
      refine List.Pairwise.imp ?_ (List.nodup_range (n := p))
      intro a b h e
      have e : r ++ [(a : Int)] = r ++ [(b : Int)] := e
      have e : (a : Int) = b := by simpa using e
      exact h (by omega)
    · obtain ⟨n, _, rfl⟩ := List.mem_map.mp hx
      obtain ⟨m, _, e⟩ := List.mem_map.mp hy
      exact (List.append_inj' e (by simp)).1.symm
theorem rowsE_len (p : Nat) : ∀ k, (rowsE p k).length = p ^ k
  | 0 => rfl
  | k + 1 => by
    have key : ∀ l : List (List Int), (l.flatMap fun r => (List.range p).map fun (n : Nat) => r ++ [(n : Int)]).length = l.length * p := by
      intro l
      induction l with
      | nil => simp
      | cons a l ih => rw [List.flatMap_cons, List.length_append, ih, List.length_map, List.length_range, List.length_cons, Nat.succ_mul]; omega
    rw [rowsE, key, rowsE_len p k, Nat.pow_succ]
/-- a row has these values -/
def hasV (p : Int) (cs : List (Int × Int)) (r : List Int) : Bool := cs.all fun s => vm p r s.1 == s.2
def cnt (p k : Nat) (cs : List (Int × Int)) : Nat := ((rowsE p k).filter (hasV p cs)).length
theorem cnt_nil (p k : Nat) : cnt p k [] = p ^ k := by
  unfold cnt
  have : (rowsE p k).filter (hasV p []) = rowsE p k := List.filter_eq_self.mpr fun _ _ => rfl
  rw [this, rowsE_len]
def quoM (p a : Int) : List Int → List Int
  | [] => []
  | [_] => []
  | _ :: d :: r => vm p (d :: r) a :: quoM p a (d :: r)
theorem quoM_len (p a : Int) : ∀ f, (quoM p a f).length = f.length - 1
  | [] => rfl
  | [_] => rfl
  | _ :: d :: r => by rw [quoM, List.length_cons, quoM_len p a (d :: r)]; simp
theorem quoM_in {p : Int} (hp : 0 < p) (a : Int) : ∀ f, Row' p (quoM p a f)
  | [] => fun c h => by cases h
  | [_] => fun c h => by cases h
  | _ :: d :: r => fun c hc => by
    rcases List.mem_cons.mp hc with rfl | hc
    · exact vm_in hp _ _
    · exact quoM_in hp a (d :: r) c hc
theorem lin_quo {p : Int} (hp : 0 < p) (a : Int) : ∀ f : List Int, f ≠ [] → Row' p f → linG p a (vm p f a) (quoM p a f) = f
  | [], h, _ => absurd rfl h
  | [c], _, hf => by
    have := hf c List.mem_cons_self
    show [(0 * a + c) % p] = [c]
    rw [Int.zero_mul, Int.zero_add, Int.emod_eq_of_lt this.1 this.2]
  | c :: d :: r, _, hf => by
    have hc := hf c List.mem_cons_self
    have ih := lin_quo hp a (d :: r) (by simp) fun e he => hf e (List.mem_cons_of_mem _ he)
    rw [quoM, linG, ih]
    congr 1
    have h1 : Cg p ((vm p (d :: r) a * a + c) % p - vm p (d :: r) a * a) c := ((Cg.mod _).sub (Cg.refl _)).trans (Cg.of_eq (by omega))
    have m := mod_in hp ((vm p (d :: r) a * a + c) % p - vm p (d :: r) a * a)
    exact ((Cg.mod _).trans h1).eq m.1 m.2 hc.1 hc.2
theorem lin_inj {p : Int} (hp : 0 < p) (a : Int) : ∀ {f g : List Int} {c d : Int}, f.length = g.length → Row' p f → Row' p g → 0 ≤ c ∧ c < p → 0 ≤ d ∧ d < p → linG p a c f = linG p a d g → f = g ∧ c = d
  | [], [], c, d, _, _, _, _, _, e => ⟨rfl, by simpa [linG] using e⟩
  | [], _ :: _, _, _, h, _, _, _, _, _ => by simp at h
  | _ :: _, [], _, _, h, _, _, _, _, _ => by simp at h
  | n :: f, m :: g, c, d, hl, hf, hg, hc, hd, e => by
    rw [linG, linG, List.cons.injEq] at e
    obtain ⟨rfl, rfl⟩ := lin_inj hp a (f := f) (g := g) (c := n) (d := m) (by simpa using hl) (fun e he => hf e (List.mem_cons_of_mem _ he)) (fun e he => hg e (List.mem_cons_of_mem _ he)) (hf n List.mem_cons_self) (hg m List.mem_cons_self) e.2
    refine ⟨rfl, ?_⟩
    have h1 : Cg p (c - n * a) (d - n * a) := Cg.of_emod e.1
    have h2 : Cg p c d := by
      obtain ⟨k, e⟩ := h1
      exact ⟨k, by omega⟩
    exact h2.eq hc.1 hc.2 hd.1 hd.2
/-- a value of the row, as one of what is left of it by X - a -/
def shift (p a y : Int) (s : Int × Int) : Int × Int := (s.1, (s.2 - y) * inv? p ((s.1 - a) % p) % p)
theorem lin_val {p : Int} (hp : p ∈ primes) {a y : Int} {g : List Int} {s : Int × Int} (hs : ¬ Cg p s.1 a) (hv : 0 ≤ s.2 ∧ s.2 < p) : vm p (linG p a y g) s.1 = s.2 ↔ vm p g s.1 = (shift p a y s).2 := by
  obtain ⟨p2, _⟩ := primes_in p hp
  have p0 : 0 < p := by omega
  have l := linG_ev p a s.1 g y
  have vl := vm_in p0 (linG p a y g) s.1
  have vg := vm_in p0 g s.1
  have m := mod_in p0 (s.1 - a)
  have mne : (s.1 - a) % p ≠ 0 := fun e => hs (by
    have h := (Cg.mod (p := p) (s.1 - a)).symm.trans (Cg.of_eq e)
    obtain ⟨k, e⟩ := h
    exact ⟨k, by omega⟩)
  have io := inv_ok hp (n := (s.1 - a) % p) (by omega) m.2
  obtain ⟨i, hi⟩ : ∃ i, i = inv? p ((s.1 - a) % p) := ⟨_, rfl⟩
  rw [← hi] at io
  have ic : Cg p ((s.1 - a) * i) 1 := ((Cg.mod _).symm.mul (Cg.refl i)).trans (Cg.of_emod (by rw [io, Int.emod_eq_of_lt (by omega) (by omega)]))
  show _ ↔ vm p g s.1 = (s.2 - y) * inv? p ((s.1 - a) % p) % p
  rw [← hi]
  have mm := mod_in p0 ((s.2 - y) * i)
  constructor
  · intro e
    have h1 : Cg p s.2 (y + (s.1 - a) * ev g s.1) := (Cg.of_eq e.symm).trans ((vm_cg p _ _).trans l)
    have h2 : Cg p ((s.2 - y) * i) (ev g s.1) := by
      refine (((h1.sub (Cg.refl y)).mul (Cg.refl i)).trans (Cg.of_eq ?_)).trans ((ic.mul (Cg.refl (ev g s.1))).trans (Cg.of_eq (by rw [Int.one_mul])))
      generalize ev g s.1 = q
      grind
    exact ((vm_cg p g s.1).trans (h2.symm.trans (Cg.mod _).symm)).eq vg.1 vg.2 mm.1 mm.2
  · intro e
    have h1 : Cg p (ev g s.1) ((s.2 - y) * i) := (vm_cg p g s.1).symm.trans ((Cg.of_eq e).trans (Cg.mod _))
    have h2 : Cg p (y + (s.1 - a) * ev g s.1) s.2 := by
      refine ((Cg.refl y).add ((Cg.refl (s.1 - a)).mul h1)).trans ?_
      refine (Cg.of_eq (show y + (s.1 - a) * ((s.2 - y) * i) = y + (s.2 - y) * ((s.1 - a) * i) by grind)).trans (((Cg.refl y).add ((Cg.refl _).mul ic)).trans (Cg.of_eq (by omega)))
    exact ((vm_cg p _ _).trans (l.trans h2)).eq vl.1 vl.2 hv.1 hv.2
theorem perm_mem {α : Type} {a b : List α} (h1 : a.Nodup) (h2 : b.Nodup) (h : ∀ x, x ∈ a ↔ x ∈ b) : a.Perm b := (List.perm_ext_iff_of_nodup h1 h2).mpr h
theorem cnt_cons {p k : Nat} (hp : (p : Int) ∈ primes) {a y : Int} {cs : List (Int × Int)} (hy : 0 ≤ y ∧ y < p) (ha : ∀ s ∈ cs, ¬ Cg p s.1 a) (hv : ∀ s ∈ cs, 0 ≤ s.2 ∧ s.2 < p) : cnt p (k + 1) ((a, y) :: cs) = cnt p k (cs.map (shift p a y)) := by
  obtain ⟨p2, _⟩ := primes_in _ hp
  have p0 : (0 : Int) < p := by omega
  have P : (((rowsE p k).filter (hasV p (cs.map (shift p a y)))).map (linG p a y)).Perm ((rowsE p (k + 1)).filter (hasV p ((a, y) :: cs))) := by
    refine perm_mem ?_ ((rowsE_nodup p _).sublist List.filter_sublist) fun r => ?_
    · rw [List.Nodup, List.pairwise_map]
      refine List.Pairwise.imp_of_mem (fun {f g} hf hg hne e => hne ?_) ((rowsE_nodup p k).sublist (List.filter_sublist (p := hasV p (cs.map (shift p a y)))))
      obtain ⟨f1, f2⟩ := rowsE_mem.mp (List.mem_filter.mp hf).1
      obtain ⟨g1, g2⟩ := rowsE_mem.mp (List.mem_filter.mp hg).1
      exact (lin_inj p0 a (f1.trans g1.symm) f2 g2 hy hy e).1
    · have vals : ∀ g : List Int, hasV p cs (linG p a y g) = hasV p (cs.map (shift p a y)) g := fun g => by
        have key : ∀ L : List (Int × Int), (∀ s ∈ L, ¬ Cg p s.1 a) → (∀ s ∈ L, 0 ≤ s.2 ∧ s.2 < p) → hasV p L (linG p a y g) = hasV p (L.map (shift p a y)) g := fun L => by
          induction L with
          | nil => intro _ _; rfl
          | cons s L ih =>
            intro h1 h2
            have e := lin_val hp (g := g) (y := y) (h1 s List.mem_cons_self) (h2 s List.mem_cons_self)
            have ih := ih (fun t ht => h1 t (List.mem_cons_of_mem _ ht)) fun t ht => h2 t (List.mem_cons_of_mem _ ht)
            unfold hasV at ih ⊢
            rw [List.map_cons, List.all_cons, List.all_cons, ih]
            congr 1
            rw [Bool.eq_iff_iff, beq_iff_eq, beq_iff_eq]
            exact e
        exact key cs ha hv
      have at_a : ∀ g : List Int, vm p (linG p a y g) a = y := fun g => by
        have v := vm_in p0 (linG p a y g) a
        exact ((vm_cg p _ a).trans ((linG_ev p a a g y).trans (Cg.of_eq (by rw [Int.sub_self, Int.zero_mul, Int.add_zero])))).eq v.1 v.2 hy.1 hy.2
      constructor
      · intro h
        obtain ⟨g, hg, rfl⟩ := List.mem_map.mp h
        obtain ⟨h1, h2⟩ := List.mem_filter.mp hg
        obtain ⟨g1, g2⟩ := rowsE_mem.mp h1
        refine List.mem_filter.mpr ⟨rowsE_mem.mpr ⟨by rw [linG_len, g1], linG_in p0 a hy.1 hy.2 g2⟩, ?_⟩
        have e : hasV p ((a, y) :: cs) (linG p a y g) = ((vm p (linG p a y g) a == y) && hasV p cs (linG p a y g)) := rfl
        rw [e, at_a, vals, h2]
        simp
      · intro h
        obtain ⟨h1, h2⟩ := List.mem_filter.mp h
        obtain ⟨r1, r2⟩ := rowsE_mem.mp h1
        have e : hasV p ((a, y) :: cs) r = ((vm p r a == y) && hasV p cs r) := rfl
        rw [e, Bool.and_eq_true, beq_iff_eq] at h2
        have hne : r ≠ [] := fun e => by rw [e] at r1; simp at r1
        have lq := lin_quo p0 a r hne r2
        rw [h2.1] at lq
        refine List.mem_map.mpr ⟨quoM p a r, List.mem_filter.mpr ⟨rowsE_mem.mpr ⟨by rw [quoM_len, r1]; rfl, quoM_in p0 a r⟩, ?_⟩, lq⟩
        rw [← vals, lq]
        exact h2.2
  have := P.length_eq
  rw [List.length_map] at this
  exact this.symm
/-- so many rows have so many values at unlike points -/
theorem cnt_few {p : Nat} (hp : (p : Int) ∈ primes) : ∀ (cs : List (Int × Int)) (k : Nat), cs.length ≤ k → Apart p (cs.map (·.1)) → (∀ s ∈ cs, 0 ≤ s.2 ∧ s.2 < p) → cnt p k cs = p ^ (k - cs.length)
  | [], k, _, _, _ => cnt_nil p k
  | (a, y) :: cs, 0, h, _, _ => by simp at h
  | (a, y) :: cs, k + 1, h, ap, hv => by
    obtain ⟨p2, _⟩ := primes_in _ hp
    obtain ⟨h1, h2⟩ := List.pairwise_cons.mp (show (a :: cs.map (·.1)).Pairwise _ from ap)
    rw [cnt_cons hp (hv (a, y) List.mem_cons_self) (fun s hs => h1 s.1 (List.mem_map.mpr ⟨s, hs, rfl⟩)) (fun s hs => hv s (List.mem_cons_of_mem _ hs))]
    have ih := cnt_few hp (cs.map (shift p a y)) k (by rw [List.length_map]; simpa using h) (by rw [List.map_map]; exact h2) fun s hs => by
      obtain ⟨t, _, rfl⟩ := List.mem_map.mp hs
      exact mod_in (by omega) _
    rw [ih, List.length_map, List.length_cons]
    congr 1
    omega
  termination_by cs => cs.length
/-- as many values as numbers or more: at most one row -/
theorem cnt_many {p k : Nat} (hp : (p : Int) ∈ primes) {cs : List (Int × Int)} {t : List Int} (ht : t.length = k) (hr : Row' p t) (h : ∀ r ∈ rowsE p k, hasV p cs r = true → r = t) : cnt p k cs = if hasV p cs t then 1 else 0 := by
  unfold cnt
  have mem : t ∈ rowsE p k := rowsE_mem.mpr ⟨ht, hr⟩
  by_cases q : hasV p cs t = true
  · rw [if_pos q]
    have P : ((rowsE p k).filter (hasV p cs)).Perm [t] := perm_mem ((rowsE_nodup p k).sublist List.filter_sublist) (by simp) fun r => by
      rw [List.mem_filter, List.mem_singleton]
      exact ⟨fun ⟨a, b⟩ => h r a b, fun e => e ▸ ⟨mem, q⟩⟩
    exact P.length_eq
  · rw [if_neg q, List.length_eq_zero_iff, List.filter_eq_nil_iff]
    intro r hr' hv
    exact q (h r hr' hv ▸ hv)

theorem intsOf_map (l : List Int) : intsOf (l.map .int) = some l := by
  induction l with
  | nil => rfl
  | cons a l ih => simp [intsOf, ih]
theorem p1_sum_t (l : List Int) : p1 .sum (.tup (l.map .int)) = some (.int l.sum) := by
  show (intsOf (l.map .int)).map _ = _
  rw [intsOf_map]; rfl
theorem p1_sum_l (l : List Int) : p1 .sum (.lst (l.map .int)) = some (.int l.sum) := by
  show (intsOf (l.map .int)).map _ = _
  rw [intsOf_map]; rfl
theorem p1_sorted_t (l : List Int) : p1 .sorted (.tup (l.map .int)) = some (.lst ((sortI l).map .int)) := by
  show (intsOf (l.map .int)).map _ = _
  rw [intsOf_map]; rfl
theorem p1_sorted_l (l : List Int) : p1 .sorted (.lst (l.map .int)) = some (.lst ((sortI l).map .int)) := by
  show (intsOf (l.map .int)).map _ = _
  rw [intsOf_map]; rfl

theorem enum_map (xs : List Int) : enumD 0 (xs.map D.int) = (List.range xs.length).map fun (i : Nat) => D.tup [.int i, .int (xs.getD i 0)] := by
  have key : ∀ (xs : List Int) (k : Nat), enumD k (xs.map D.int) = (List.range xs.length).map fun (i : Nat) => D.tup [.int ((k + i : Nat) : Int), .int (xs.getD i 0)] := by
    intro xs
    induction xs with
    | nil => intro k; rfl
    | cons x xs ih =>
      intro k
      rw [List.map_cons, enumD, ih, List.length_cons, List.range_succ_eq_map, List.map_cons, List.map_map]
      congr 1
      refine List.map_congr_left fun i _ => ?_
      show D.tup [.int ((k + 1 + i : Nat) : Int), _] = D.tup [.int ((k + (i + 1) : Nat) : Int), _]
      rw [show k + 1 + i = k + (i + 1) by omega]
      rfl
  have := key xs 0
  simp only [Nat.zero_add] at this
  exact this

/-! ### secrets: rows, shares -/
abbrev encS (s : Int × Int) : D := .tup [.int s.1, .int s.2]
theorem primes_2 {p : Int} (h : p ∈ primes) : 2 ≤ p ∧ p ≤ 101 := primes_in p h
theorem vm_fold (p x : Int) : ∀ row : List Int, row.reverse.foldl (fun f c => (f * x + c) % p) 0 = vm p row x
  | [] => rfl
  | c :: r => by
    rw [List.reverse_cons, List.foldl_append, vm_fold p x r]
    rfl
theorem mul_small {a b : Int} (h : -1000000 ≤ a ∧ a ≤ 1000000) : Rf.bin .mul (.int a) (.int b) = some (.int (a * b)) := by
  show (if mulOk a b then some (D.int (a * b)) else none) = _
  have : mulOk a b = true := by
    unfold mulOk
    rw [Bool.or_eq_true, Bool.or_eq_true, decide_eq_true_eq]
    exact .inl (.inl (by omega))
  rw [this]
  rfl
theorem mod_pos {a b : Int} (h : 0 < b) : Rf.bin .mod (.int a) (.int b) = some (.int (a % b)) := by
  show (if 0 < b then some (D.int (a % b)) else none) = _
  rw [if_pos h]
theorem hint (b : Int) : Rf.p1 .int (.int b) = some (.int b) := rfl
theorem value_loop {C : Calls} {fd : Fn} {body : List Rf.St} {p x : Int} (hp : 0 < p) (hx : p ≤ 1000000) (row : List Int) (t : D)
    (turn : ∀ (f c : Int) (a : Sl), 0 ≤ f → f < p → (forB C (.nm 4) body (.int c) [Sl.sh (.int p), .sh t, .sh (.int x), .sh (.int f), a]) = .nx [Sl.sh (.int p), .sh t, .sh (.int x), .sh (.int ((f * x + c) % p)), .sh (.int c)]) :
    ∃ a, forL (forB C (.nm 4) body) (row.map .int).reverse [Sl.sh (.int p), .sh t, .sh (.int x), .sh (.int 0), .no] = .nx [Sl.sh (.int p), .sh t, .sh (.int x), .sh (.int (vm p row x)), a] := by
  have key : ∀ (L : List Int) (f : Int) (a : Sl), 0 ≤ f → f < p → ∃ b, forL (forB C (.nm 4) body) (L.map .int) [Sl.sh (.int p), .sh t, .sh (.int x), .sh (.int f), a] = .nx [Sl.sh (.int p), .sh t, .sh (.int x), .sh (.int (L.foldl (fun f c => (f * x + c) % p) f)), b] := by
    intro L
    induction L with
    | nil => intro f a _ _; exact ⟨a, rfl⟩
    | cons c L ih =>
      intro f a h0 h1
      obtain ⟨b, e⟩ := ih ((f * x + c) % p) (.sh (.int c)) (mod_in hp _).1 (mod_in hp _).2
      refine ⟨b, ?_⟩
      rw [List.map_cons, forL, turn f c a h0 h1]
      exact e
  obtain ⟨b, e⟩ := key row.reverse 0 .no (Int.le_refl _) hp
  rw [vm_fold, List.map_reverse] at e
  exact ⟨b, e⟩
theorem value_at_ok {C : Calls} (hC : At C 1) {p : Int} (hp : 0 < p) (h1 : p ≤ 1000000) (row : List Int) (x : Int) {t : D} (ht : t = .tup (row.map .int) ∨ t = .lst (row.map .int)) : C.fn i_value_at [.int p, t, .int x] = .ok (.int (vm p row x)) [] := by
  refine stepE T_value_at rfl hC fun C hC => ?_
  have hi : evalI C lp_value_at_1_i [Sl.sh (.int p), .sh t, .sh (.int x), .sh (.int 0), .no] = .ok (row.map .int).reverse [Sl.sh (.int p), .sh t, .sh (.int x), .sh (.int 0), .no] := by
    rcases ht with rfl | rfl <;> simp [lp_value_at_1_i, ss_nil, ss_cons, ev_cst, ev_var, ev_mov, ev_glob, ev_sh, ev_tup, ev_lst, ev_bin, ev_binv, ev_neg, ev_cmp, ev_cmpv, ev_chain, ev_and, ev_or, ev_not, ev_ite, ev_call, ev_p1, ev_p2, ev_isi, ev_sub, ev_subv, ev_slc, ev_slcv, ev_rev, ev_pop, ev_popAt, ev_dnew, ev_lrg, ev_idx, ex_asg, ex_par, ex_aug, ex_setI, ex_augI, ex_app, ex_ext, ex_expr, ex_ret, ex_retN, ex_pass, ex_brk, ex_cnt, ex_ifS, ex_raise, ex_forS, ex_whl, evalV, evalT, evalEs, evalA, evalA1, evalO, evalC, evalI, enterE, slotR, ownR, ownC, setD, readR, moveR, outs, mapM, isTys_cons, isFreshF, L2.ixN, fillA, putA, putP]
  obtain ⟨a, e⟩ := value_loop (C := C) (fd := f_value_at) (body := lp_value_at_1_b) (x := x) hp h1 row t fun f c a f0 f1 => by
    have m := mul_small (a := f) (b := x) (by omega)
    have d := mod_pos (a := f * x + c) hp
    simp [forB_eq, lp_value_at_1_b, ss_nil, ss_cons, ev_cst, ev_var, ev_mov, ev_glob, ev_sh, ev_tup, ev_lst, ev_bin, ev_binv, ev_neg, ev_cmp, ev_cmpv, ev_chain, ev_and, ev_or, ev_not, ev_ite, ev_call, ev_p1, ev_p2, ev_isi, ev_sub, ev_subv, ev_slc, ev_slcv, ev_rev, ev_pop, ev_popAt, ev_dnew, ev_lrg, ev_idx, ex_asg, ex_par, ex_aug, ex_setI, ex_augI, ex_app, ex_ext, ex_expr, ex_ret, ex_retN, ex_pass, ex_brk, ex_cnt, ex_ifS, ex_raise, ex_forS, ex_whl, evalV, evalT, evalEs, evalA, evalA1, evalO, evalC, evalI, enterE, slotR, ownR, ownC, setD, readR, moveR, outs, mapM, isTys_cons, isFreshF, L2.ixN, fillA, putA, putP, m, d]
  simp [f_value_at, b_value_at, ss_nil, ss_cons, ev_cst, ev_var, ev_mov, ev_glob, ev_sh, ev_tup, ev_lst, ev_bin, ev_binv, ev_neg, ev_cmp, ev_cmpv, ev_chain, ev_and, ev_or, ev_not, ev_ite, ev_call, ev_p1, ev_p2, ev_isi, ev_sub, ev_subv, ev_slc, ev_slcv, ev_rev, ev_pop, ev_popAt, ev_dnew, ev_lrg, ev_idx, ex_asg, ex_par, ex_aug, ex_setI, ex_augI, ex_app, ex_ext, ex_expr, ex_ret, ex_retN, ex_pass, ex_brk, ex_cnt, ex_ifS, ex_raise, ex_forS, ex_whl, evalV, evalT, evalEs, evalA, evalA1, evalO, evalC, evalI, enterE, slotR, ownR, ownC, setD, readR, moveR, outs, mapM, isTys_cons, isFreshF, L2.ixN, fillA, putA, putP, hi, e]
theorem is_row_ok {C : Calls} (hC : At C 3) {row : List Int} {lo hi : Int} (h : ∀ c ∈ row, lo ≤ c ∧ c ≤ hi) (hl : row.length ≤ 1000) {n : Int} (hn : n = row.length) : C.fn i_is_row [.tup (row.map .int), .int n, .int lo, .int hi] = .ok (.bl true) [] := by
  refine stepE T_is_row rfl hC fun C hC => ?_
  subst hn
  have el : evalE C lc_is_row_1 [Sl.sh (.tup (row.map .int)), .sh (.int row.length), .sh (.int lo), .sh (.int hi), .no] = .ok (.lst (row.map fun _ => .bl true)) [Sl.sh (.tup (row.map .int)), .sh (.int row.length), .sh (.int lo), .sh (.int hi), .no] := by
    rw [lc_it (s1 := [Sl.sh (.tup (row.map .int)), .sh (.int row.length), .sh (.int lo), .sh (.int hi), .no]) row D.int (fun _ => .bl true) (by simp [lc_is_row_1_i, ss_nil, ss_cons, ev_cst, ev_var, ev_mov, ev_glob, ev_sh, ev_tup, ev_lst, ev_bin, ev_binv, ev_neg, ev_cmp, ev_cmpv, ev_chain, ev_and, ev_or, ev_not, ev_ite, ev_call, ev_p1, ev_p2, ev_isi, ev_sub, ev_subv, ev_slc, ev_slcv, ev_rev, ev_pop, ev_popAt, ev_dnew, ev_lrg, ev_idx, ex_asg, ex_par, ex_aug, ex_setI, ex_augI, ex_app, ex_ext, ex_expr, ex_ret, ex_retN, ex_pass, ex_brk, ex_cnt, ex_ifS, ex_raise, ex_forS, ex_whl, evalV, evalT, evalEs, evalA, evalA1, evalO, evalC, evalI, enterE, slotR, ownR, ownC, setD, readR, moveR, outs, mapM, isTys_cons, isFreshF, L2.ixN, fillA, putA, putP]) (fun c hc => by
      have e := within_ok hC c lo hi
      have := h c hc
      simp [turn_w, lc_is_row_1_e, ss_nil, ss_cons, ev_cst, ev_var, ev_mov, ev_glob, ev_sh, ev_tup, ev_lst, ev_bin, ev_binv, ev_neg, ev_cmp, ev_cmpv, ev_chain, ev_and, ev_or, ev_not, ev_ite, ev_call, ev_p1, ev_p2, ev_isi, ev_sub, ev_subv, ev_slc, ev_slcv, ev_rev, ev_pop, ev_popAt, ev_dnew, ev_lrg, ev_idx, ex_asg, ex_par, ex_aug, ex_setI, ex_augI, ex_app, ex_ext, ex_expr, ex_ret, ex_retN, ex_pass, ex_brk, ex_cnt, ex_ifS, ex_raise, ex_forS, ex_whl, evalV, evalT, evalEs, evalA, evalA1, evalO, evalC, evalI, enterE, slotR, ownR, ownC, setD, readR, moveR, outs, mapM, isTys_cons, isFreshF, L2.ixN, fillA, putA, putP, wipeE, e, this.1, this.2]) (len_s (m := 1000) hl)]
    rfl
  have ea := p1_all_map (fun _ => true) row
  simp [f_is_row, b_is_row, ss_nil, ss_cons, ev_cst, ev_var, ev_mov, ev_glob, ev_sh, ev_tup, ev_lst, ev_bin, ev_binv, ev_neg, ev_cmp, ev_cmpv, ev_chain, ev_and, ev_or, ev_not, ev_ite, ev_call, ev_p1, ev_p2, ev_isi, ev_sub, ev_subv, ev_slc, ev_slcv, ev_rev, ev_pop, ev_popAt, ev_dnew, ev_lrg, ev_idx, ex_asg, ex_par, ex_aug, ex_setI, ex_augI, ex_app, ex_ext, ex_expr, ex_ret, ex_retN, ex_pass, ex_brk, ex_cnt, ex_ifS, ex_raise, ex_forS, ex_whl, evalV, evalT, evalEs, evalA, evalA1, evalO, evalC, evalI, enterE, slotR, ownR, ownC, setD, readR, moveR, outs, mapM, isTys_cons, isFreshF, L2.ixN, fillA, putA, putP, el, ea]
theorem prime_all : (primes.all fun p => (List.range p.toNat).all fun b => decide (b < 2) || p % (b : Int) != 0) = true := by decide +kernel
theorem prime_mod {p : Int} (hp : p ∈ primes) {b : Int} (h0 : 2 ≤ b) (h1 : b < p) : p % b ≠ 0 := by
  have a := List.all_eq_true.mp (List.all_eq_true.mp prime_all p hp) b.toNat (List.mem_range.mpr (by omega))
  rw [Bool.or_eq_true, decide_eq_true_eq, bne_iff_ne] at a
  rcases a with a | a
  · omega
  · rwa [show ((b.toNat : Nat) : Int) = b by omega] at a
theorem check_prime_ok {C : Calls} (hC : At C 3) {p : Int} (hp : p ∈ primes) : C.fn i_check_prime [.int p] = .ok .non [] := by
  refine stepE T_check_prime rfl hC fun C hC => ?_
  obtain ⟨p2, p3⟩ := primes_2 hp
  have e := within_ok hC p 2 101
  have hi : evalI C lc_check_prime_1_i [Sl.sh (.int p), .no] = .ok ((List.range (p - 2).toNat).map fun (i : Nat) => D.int (2 + (i : Nat))) [Sl.sh (.int p), .no] := by
    rw [← Rf.range_map]
    exact rng2_s (by simp [ss_nil, ss_cons, ev_cst, ev_var, ev_mov, ev_glob, ev_sh, ev_tup, ev_lst, ev_bin, ev_binv, ev_neg, ev_cmp, ev_cmpv, ev_chain, ev_and, ev_or, ev_not, ev_ite, ev_call, ev_p1, ev_p2, ev_isi, ev_sub, ev_subv, ev_slc, ev_slcv, ev_rev, ev_pop, ev_popAt, ev_dnew, ev_lrg, ev_idx, ex_asg, ex_par, ex_aug, ex_setI, ex_augI, ex_app, ex_ext, ex_expr, ex_ret, ex_retN, ex_pass, ex_brk, ex_cnt, ex_ifS, ex_raise, ex_forS, ex_whl, evalV, evalT, evalEs, evalA, evalA1, evalO, evalC, evalI, enterE, slotR, ownR, ownC, setD, readR, moveR, outs, mapM, isTys_cons, isFreshF, L2.ixN, fillA, putA, putP]) (by simp [ss_nil, ss_cons, ev_cst, ev_var, ev_mov, ev_glob, ev_sh, ev_tup, ev_lst, ev_bin, ev_binv, ev_neg, ev_cmp, ev_cmpv, ev_chain, ev_and, ev_or, ev_not, ev_ite, ev_call, ev_p1, ev_p2, ev_isi, ev_sub, ev_subv, ev_slc, ev_slcv, ev_rev, ev_pop, ev_popAt, ev_dnew, ev_lrg, ev_idx, ex_asg, ex_par, ex_aug, ex_setI, ex_augI, ex_app, ex_ext, ex_expr, ex_ret, ex_retN, ex_pass, ex_brk, ex_cnt, ex_ifS, ex_raise, ex_forS, ex_whl, evalV, evalT, evalEs, evalA, evalA1, evalO, evalC, evalI, enterE, slotR, ownR, ownC, setD, readR, moveR, outs, mapM, isTys_cons, isFreshF, L2.ixN, fillA, putA, putP]) (by omega) (by omega) (by omega) (by omega)
  have el : evalE C lc_check_prime_1 [Sl.sh (.int p), .no] = .ok (.lst ((List.range (p - 2).toNat).map fun _ => .bl false)) [Sl.sh (.int p), .no] := by
    rw [lc_it (s1 := [Sl.sh (.int p), .no]) (List.range (p - 2).toNat) (fun (i : Nat) => D.int (2 + (i : Nat))) (fun _ => .bl false) hi (fun i hi => by
      have hi := List.mem_range.mp hi
      have m := prime_mod hp (b := 2 + (i : Int)) (by omega) (by omega)
      have d := mod_pos (a := p) (b := 2 + (i : Int)) (by omega)
      generalize 2 + (i : Int) = b at *
      simp [turn_w, lc_check_prime_1_e, ss_nil, ss_cons, ev_cst, ev_var, ev_mov, ev_glob, ev_sh, ev_tup, ev_lst, ev_bin, ev_binv, ev_neg, ev_cmp, ev_cmpv, ev_chain, ev_and, ev_or, ev_not, ev_ite, ev_call, ev_p1, ev_p2, ev_isi, ev_sub, ev_subv, ev_slc, ev_slcv, ev_rev, ev_pop, ev_popAt, ev_dnew, ev_lrg, ev_idx, ex_asg, ex_par, ex_aug, ex_setI, ex_augI, ex_app, ex_ext, ex_expr, ex_ret, ex_retN, ex_pass, ex_brk, ex_cnt, ex_ifS, ex_raise, ex_forS, ex_whl, evalV, evalT, evalEs, evalA, evalA1, evalO, evalC, evalI, enterE, slotR, ownR, ownC, setD, readR, moveR, outs, mapM, isTys_cons, isFreshF, L2.ixN, fillA, putA, putP, wipeE, d, m]) (by rw [List.length_range]; exact len_s (m := 1000) (by omega))]
    rfl
  have ea := p1_any_map (fun _ => false) (List.range (p - 2).toNat)
  simp [f_check_prime, b_check_prime, ss_nil, ss_cons, ev_cst, ev_var, ev_mov, ev_glob, ev_sh, ev_tup, ev_lst, ev_bin, ev_binv, ev_neg, ev_cmp, ev_cmpv, ev_chain, ev_and, ev_or, ev_not, ev_ite, ev_call, ev_p1, ev_p2, ev_isi, ev_sub, ev_subv, ev_slc, ev_slcv, ev_rev, ev_pop, ev_popAt, ev_dnew, ev_lrg, ev_idx, ex_asg, ex_par, ex_aug, ex_setI, ex_augI, ex_app, ex_ext, ex_expr, ex_ret, ex_retN, ex_pass, ex_brk, ex_cnt, ex_ifS, ex_raise, ex_forS, ex_whl, evalV, evalT, evalEs, evalA, evalA1, evalO, evalC, evalI, enterE, slotR, ownR, ownC, setD, readR, moveR, outs, mapM, isTys_cons, isFreshF, L2.ixN, fillA, putA, putP, e, el, ea, p2, p3]
theorem check_threshold_ok {C : Calls} (hC : At C 3) {k : Int} (h1 : 1 ≤ k) (h2 : k ≤ 20) : C.fn i_check_threshold [.int k] = .ok .non [] := by
  refine stepE T_check_threshold rfl hC fun C hC => ?_
  have e := within_ok hC k 1 20
  simp [f_check_threshold, b_check_threshold, ss_nil, ss_cons, ev_cst, ev_var, ev_mov, ev_glob, ev_sh, ev_tup, ev_lst, ev_bin, ev_binv, ev_neg, ev_cmp, ev_cmpv, ev_chain, ev_and, ev_or, ev_not, ev_ite, ev_call, ev_p1, ev_p2, ev_isi, ev_sub, ev_subv, ev_slc, ev_slcv, ev_rev, ev_pop, ev_popAt, ev_dnew, ev_lrg, ev_idx, ex_asg, ex_par, ex_aug, ex_setI, ex_augI, ex_app, ex_ext, ex_expr, ex_ret, ex_retN, ex_pass, ex_brk, ex_cnt, ex_ifS, ex_raise, ex_forS, ex_whl, evalV, evalT, evalEs, evalA, evalA1, evalO, evalC, evalI, enterE, slotR, ownR, ownC, setD, readR, moveR, outs, mapM, isTys_cons, isFreshF, L2.ixN, fillA, putA, putP, e, h1, h2]
theorem zip_tail : ∀ (xs : List Int), xs.Pairwise (· < ·) → List.zipWith (fun x y => D.tup [x, y]) (xs.map .int) ((xs.map D.int).drop 1) = (xs.zip (xs.drop 1)).map fun q => .tup [.int q.1, .int q.2]
  | [], _ => rfl
  | [_], _ => rfl
  | a :: b :: r, h => by
    have := zip_tail (b :: r) (List.pairwise_cons.mp h).2
    simp at this ⊢
    exact this
theorem zip_lt : ∀ {xs : List Int}, xs.Pairwise (· < ·) → ∀ q ∈ xs.zip (xs.drop 1), q.1 < q.2
  | [], _, q, h => by simp at h
  | [_], _, q, h => by simp at h
  | a :: b :: r, h, q, hq => by
    obtain ⟨h1, h2⟩ := List.pairwise_cons.mp h
    have hq : q ∈ (a, b) :: ((b :: r).zip r) := hq
    rcases List.mem_cons.mp hq with rfl | hq
    · exact h1 b List.mem_cons_self
    · exact zip_lt h2 q hq
theorem cut_1 {α : Type} (ds : List α) : cut ds (some 1) none = ds.drop 1 := by
  unfold cut
  rw [show (some (1 : Int)) = some ((1 : Nat) : Int) from rfl, HT.sIx_nat, HT.sIx_none]
  rcases Nat.eq_zero_or_pos ds.length with h | h
  · rw [List.eq_nil_of_length_eq_zero h]; rfl
  · rw [Nat.min_eq_left (by omega), List.take_of_length_le (by rw [List.length_drop]; omega)]
theorem ascending_ok {C : Calls} (hC : At C 1) {xs : List Int} (h : xs.Pairwise (· < ·)) (hl : xs.length ≤ 1000) {t : D} (ht : t = .tup (xs.map .int) ∨ t = .lst (xs.map .int)) : C.fn i_is_ascending [t] = .ok (.bl true) [] := by
  refine stepE T_is_ascending rfl hC fun C hC => ?_
  have hc := cut_1 (xs.map D.int)
  have hi : evalI C lc_is_ascending_1_i [Sl.sh t, .no, .no] = .ok ((xs.zip (xs.drop 1)).map fun q => .tup [.int q.1, .int q.2]) [Sl.sh t, .no, .no] := by
    rw [← zip_tail xs h]
    rcases ht with rfl | rfl <;> simp [lc_is_ascending_1_i, ss_nil, ss_cons, ev_cst, ev_var, ev_mov, ev_glob, ev_sh, ev_tup, ev_lst, ev_bin, ev_binv, ev_neg, ev_cmp, ev_cmpv, ev_chain, ev_and, ev_or, ev_not, ev_ite, ev_call, ev_p1, ev_p2, ev_isi, ev_sub, ev_subv, ev_slc, ev_slcv, ev_rev, ev_pop, ev_popAt, ev_dnew, ev_lrg, ev_idx, ex_asg, ex_par, ex_aug, ex_setI, ex_augI, ex_app, ex_ext, ex_expr, ex_ret, ex_retN, ex_pass, ex_brk, ex_cnt, ex_ifS, ex_raise, ex_forS, ex_whl, evalV, evalT, evalEs, evalA, evalA1, evalO, evalC, evalI, enterE, slotR, ownR, ownC, setD, readR, moveR, outs, mapM, isTys_cons, isFreshF, L2.ixN, fillA, putA, putP, slice, hc]
  have el : evalE C lc_is_ascending_1 [Sl.sh t, .no, .no] = .ok (.lst ((xs.zip (xs.drop 1)).map fun _ => .bl true)) [Sl.sh t, .no, .no] := by
    rw [lc_it (s1 := [Sl.sh t, .no, .no]) (xs.zip (xs.drop 1)) (fun q => .tup [.int q.1, .int q.2]) (fun _ => .bl true) hi (fun q hq => by
      have := zip_lt h q hq
      simp [turn_w, lc_is_ascending_1_e, ss_nil, ss_cons, ev_cst, ev_var, ev_mov, ev_glob, ev_sh, ev_tup, ev_lst, ev_bin, ev_binv, ev_neg, ev_cmp, ev_cmpv, ev_chain, ev_and, ev_or, ev_not, ev_ite, ev_call, ev_p1, ev_p2, ev_isi, ev_sub, ev_subv, ev_slc, ev_slcv, ev_rev, ev_pop, ev_popAt, ev_dnew, ev_lrg, ev_idx, ex_asg, ex_par, ex_aug, ex_setI, ex_augI, ex_app, ex_ext, ex_expr, ex_ret, ex_retN, ex_pass, ex_brk, ex_cnt, ex_ifS, ex_raise, ex_forS, ex_whl, evalV, evalT, evalEs, evalA, evalA1, evalO, evalC, evalI, enterE, slotR, ownR, ownC, setD, readR, moveR, outs, mapM, isTys_cons, isFreshF, L2.ixN, fillA, putA, putP, wipeE, this]) (by rw [List.length_zip]; exact len_s (m := 1000) (by omega))]
    rfl
  have ea := p1_all_map (fun _ => true) (xs.zip (xs.drop 1))
  generalize xs.zip (xs.drop 1) = Z at el ea
  simp [f_is_ascending, b_is_ascending, ss_nil, ss_cons, ev_cst, ev_var, ev_mov, ev_glob, ev_sh, ev_tup, ev_lst, ev_bin, ev_binv, ev_neg, ev_cmp, ev_cmpv, ev_chain, ev_and, ev_or, ev_not, ev_ite, ev_call, ev_p1, ev_p2, ev_isi, ev_sub, ev_subv, ev_slc, ev_slcv, ev_rev, ev_pop, ev_popAt, ev_dnew, ev_lrg, ev_idx, ex_asg, ex_par, ex_aug, ex_setI, ex_augI, ex_app, ex_ext, ex_expr, ex_ret, ex_retN, ex_pass, ex_brk, ex_cnt, ex_ifS, ex_raise, ex_forS, ex_whl, evalV, evalT, evalEs, evalA, evalA1, evalO, evalC, evalI, enterE, slotR, ownR, ownC, setD, readR, moveR, outs, mapM, isTys_cons, isFreshF, L2.ixN, fillA, putA, putP, el, ea]
/-- points as they are handed in -/
structure Pts (p : Int) (xs : List Int) : Prop where
  up : xs.Pairwise (· < ·)
  in_ : ∀ x ∈ xs, 1 ≤ x ∧ x < p
/-- shares as they are handed in -/
structure Shs (p : Int) (ss : List (Int × Int)) : Prop where
  up : (ss.map (·.1)).Pairwise (· < ·)
  in_ : ∀ s ∈ ss, 1 ≤ s.1 ∧ s.1 < p
  val : ∀ s ∈ ss, 0 ≤ s.2 ∧ s.2 < p
theorem is_shares_ok {C : Calls} (hC : At C 4) {p : Int} {ss : List (Int × Int)} (h : Shs p ss) (l2 : ss.length ≤ 1000) : C.fn i_is_shares [.int p, .tup (ss.map encS)] = .ok (.bl true) [] := by
  refine stepE T_is_shares rfl hC fun C hC => ?_
  have el : evalE C lc_is_shares_1 [Sl.sh (.int p), .sh (.tup (ss.map encS)), .no] = .ok (.lst (ss.map fun _ => .bl true)) [Sl.sh (.int p), .sh (.tup (ss.map encS)), .no] := by
    rw [lc_it (s1 := [Sl.sh (.int p), .sh (.tup (ss.map encS)), .no]) ss encS (fun _ => .bl true) (by simp [lc_is_shares_1_i, ss_nil, ss_cons, ev_cst, ev_var, ev_mov, ev_glob, ev_sh, ev_tup, ev_lst, ev_bin, ev_binv, ev_neg, ev_cmp, ev_cmpv, ev_chain, ev_and, ev_or, ev_not, ev_ite, ev_call, ev_p1, ev_p2, ev_isi, ev_sub, ev_subv, ev_slc, ev_slcv, ev_rev, ev_pop, ev_popAt, ev_dnew, ev_lrg, ev_idx, ex_asg, ex_par, ex_aug, ex_setI, ex_augI, ex_app, ex_ext, ex_expr, ex_ret, ex_retN, ex_pass, ex_brk, ex_cnt, ex_ifS, ex_raise, ex_forS, ex_whl, evalV, evalT, evalEs, evalA, evalA1, evalO, evalC, evalI, enterE, slotR, ownR, ownC, setD, readR, moveR, outs, mapM, isTys_cons, isFreshF, L2.ixN, fillA, putA, putP]) (fun s hs => by
      have a := h.in_ s hs
      have b := h.val s hs
      have e : C.fn i_is_row [.tup [.int s.1, .int s.2], .int 2, .int 0, .int (p - 1)] = .ok (.bl true) [] := is_row_ok hC (row := [s.1, s.2]) (lo := 0) (hi := p - 1) (fun c hc => by
        rcases List.mem_cons.mp hc with rfl | hc
        · omega
        · rw [List.mem_singleton.mp hc]; omega) (by simp) (n := 2) rfl
      have q : L2.atI [D.int s.1, D.int s.2] 0 = some (.int s.1) := rfl
      simp [turn_w, lc_is_shares_1_e, ss_nil, ss_cons, ev_cst, ev_var, ev_mov, ev_glob, ev_sh, ev_tup, ev_lst, ev_bin, ev_binv, ev_neg, ev_cmp, ev_cmpv, ev_chain, ev_and, ev_or, ev_not, ev_ite, ev_call, ev_p1, ev_p2, ev_isi, ev_sub, ev_subv, ev_slc, ev_slcv, ev_rev, ev_pop, ev_popAt, ev_dnew, ev_lrg, ev_idx, ex_asg, ex_par, ex_aug, ex_setI, ex_augI, ex_app, ex_ext, ex_expr, ex_ret, ex_retN, ex_pass, ex_brk, ex_cnt, ex_ifS, ex_raise, ex_forS, ex_whl, evalV, evalT, evalEs, evalA, evalA1, evalO, evalC, evalI, enterE, slotR, ownR, ownC, setD, readR, moveR, outs, mapM, isTys_cons, isFreshF, L2.ixN, fillA, putA, putP, wipeE, encS, e, q]
      omega) (len_s (m := 1000) l2)]
    rfl
  have el2 : evalE C lc_is_shares_2 [Sl.sh (.int p), .sh (.tup (ss.map encS)), .no] = .ok (.lst ((ss.map (·.1)).map .int)) [Sl.sh (.int p), .sh (.tup (ss.map encS)), .no] := by
    rw [lc_it (s1 := [Sl.sh (.int p), .sh (.tup (ss.map encS)), .no]) ss encS (fun s => .int s.1) (by simp [lc_is_shares_2_i, ss_nil, ss_cons, ev_cst, ev_var, ev_mov, ev_glob, ev_sh, ev_tup, ev_lst, ev_bin, ev_binv, ev_neg, ev_cmp, ev_cmpv, ev_chain, ev_and, ev_or, ev_not, ev_ite, ev_call, ev_p1, ev_p2, ev_isi, ev_sub, ev_subv, ev_slc, ev_slcv, ev_rev, ev_pop, ev_popAt, ev_dnew, ev_lrg, ev_idx, ex_asg, ex_par, ex_aug, ex_setI, ex_augI, ex_app, ex_ext, ex_expr, ex_ret, ex_retN, ex_pass, ex_brk, ex_cnt, ex_ifS, ex_raise, ex_forS, ex_whl, evalV, evalT, evalEs, evalA, evalA1, evalO, evalC, evalI, enterE, slotR, ownR, ownC, setD, readR, moveR, outs, mapM, isTys_cons, isFreshF, L2.ixN, fillA, putA, putP]) (fun s hs => by
      have q : L2.atI [D.int s.1, D.int s.2] 0 = some (.int s.1) := rfl
      simp [turn_w, lc_is_shares_2_e, ss_nil, ss_cons, ev_cst, ev_var, ev_mov, ev_glob, ev_sh, ev_tup, ev_lst, ev_bin, ev_binv, ev_neg, ev_cmp, ev_cmpv, ev_chain, ev_and, ev_or, ev_not, ev_ite, ev_call, ev_p1, ev_p2, ev_isi, ev_sub, ev_subv, ev_slc, ev_slcv, ev_rev, ev_pop, ev_popAt, ev_dnew, ev_lrg, ev_idx, ex_asg, ex_par, ex_aug, ex_setI, ex_augI, ex_app, ex_ext, ex_expr, ex_ret, ex_retN, ex_pass, ex_brk, ex_cnt, ex_ifS, ex_raise, ex_forS, ex_whl, evalV, evalT, evalEs, evalA, evalA1, evalO, evalC, evalI, enterE, slotR, ownR, ownC, setD, readR, moveR, outs, mapM, isTys_cons, isFreshF, L2.ixN, fillA, putA, putP, wipeE, encS, q]) (len_s (m := 1000) l2), List.map_map]
    rfl
  have ea := p1_all_map (fun _ => true) ss
  have e2 := ascending_ok hC.le h.up (by rw [List.length_map]; exact l2) (.inr rfl)
  generalize ss.map (·.1) = X at *
  simp [f_is_shares, b_is_shares, ss_nil, ss_cons, ev_cst, ev_var, ev_mov, ev_glob, ev_sh, ev_tup, ev_lst, ev_bin, ev_binv, ev_neg, ev_cmp, ev_cmpv, ev_chain, ev_and, ev_or, ev_not, ev_ite, ev_call, ev_p1, ev_p2, ev_isi, ev_sub, ev_subv, ev_slc, ev_slcv, ev_rev, ev_pop, ev_popAt, ev_dnew, ev_lrg, ev_idx, ex_asg, ex_par, ex_aug, ex_setI, ex_augI, ex_app, ex_ext, ex_expr, ex_ret, ex_retN, ex_pass, ex_brk, ex_cnt, ex_ifS, ex_raise, ex_forS, ex_whl, evalV, evalT, evalEs, evalA, evalA1, evalO, evalC, evalI, enterE, slotR, ownR, ownC, setD, readR, moveR, outs, mapM, isTys_cons, isFreshF, L2.ixN, fillA, putA, putP, el, el2, ea, e2]
/-- the shares of a row -/
def shOf (p : Int) (row xs : List Int) : List (Int × Int) := xs.map fun x => (x, vm p row x)
theorem inv_range (p n : Int) (hp : 1 < p) : ∀ (k : Nat), ((List.range k).map fun (i : Nat) => (1 : Int) + i).find? (fun m => n * m % p == 1) = (((List.range (k + 1)).map fun (m : Nat) => (m : Int)).find? fun m => m != 0 && n * m % p == 1) := fun k => by
  rw [List.range_succ_eq_map, List.map_cons, List.find?_cons]
  simp only [Int.natCast_zero, bne_self_eq_false, Bool.false_and, List.map_map]
  induction List.range k with
  | nil => rfl
  | cons a l ih =>
    rw [List.map_cons, List.map_cons, List.find?_cons, List.find?_cons, ih]
    have e : ((fun (m : Nat) => (m : Int)) ∘ Nat.succ) a = 1 + (a : Int) := by show ((a + 1 : Nat) : Int) = _; omega
    rw [e]
    have : ((1 + (a : Int)) != 0) = true := by rw [bne_iff_ne]; omega
    rw [this, Bool.true_and]
theorem inverse_ok {C : Calls} (hC : At C 1) {p : Int} (hp : p ∈ primes) {n : Int} (h0 : 0 < n) (h1 : n < p) : C.fn i_inverse [.int p, .int n] = .ok (.int (inv? p n)) [] := by
  refine stepE T_inverse rfl hC fun C hC => ?_
  obtain ⟨p2, p3⟩ := primes_2 hp
  have hi : evalI C lp_inverse_1_i [Sl.sh (.int p), .sh (.int n), .no] = .ok (rangeD 1 (p - 1).toNat) [Sl.sh (.int p), .sh (.int n), .no] := rng2_s (by simp [ss_nil, ss_cons, ev_cst, ev_var, ev_mov, ev_glob, ev_sh, ev_tup, ev_lst, ev_bin, ev_binv, ev_neg, ev_cmp, ev_cmpv, ev_chain, ev_and, ev_or, ev_not, ev_ite, ev_call, ev_p1, ev_p2, ev_isi, ev_sub, ev_subv, ev_slc, ev_slcv, ev_rev, ev_pop, ev_popAt, ev_dnew, ev_lrg, ev_idx, ex_asg, ex_par, ex_aug, ex_setI, ex_augI, ex_app, ex_ext, ex_expr, ex_ret, ex_retN, ex_pass, ex_brk, ex_cnt, ex_ifS, ex_raise, ex_forS, ex_whl, evalV, evalT, evalEs, evalA, evalA1, evalO, evalC, evalI, enterE, slotR, ownR, ownC, setD, readR, moveR, outs, mapM, isTys_cons, isFreshF, L2.ixN, fillA, putA, putP]) (by simp [ss_nil, ss_cons, ev_cst, ev_var, ev_mov, ev_glob, ev_sh, ev_tup, ev_lst, ev_bin, ev_binv, ev_neg, ev_cmp, ev_cmpv, ev_chain, ev_and, ev_or, ev_not, ev_ite, ev_call, ev_p1, ev_p2, ev_isi, ev_sub, ev_subv, ev_slc, ev_slcv, ev_rev, ev_pop, ev_popAt, ev_dnew, ev_lrg, ev_idx, ex_asg, ex_par, ex_aug, ex_setI, ex_augI, ex_app, ex_ext, ex_expr, ex_ret, ex_retN, ex_pass, ex_brk, ex_cnt, ex_ifS, ex_raise, ex_forS, ex_whl, evalV, evalT, evalEs, evalA, evalA1, evalO, evalC, evalI, enterE, slotR, ownR, ownC, setD, readR, moveR, outs, mapM, isTys_cons, isFreshF, L2.ixN, fillA, putA, putP]) (by omega) (by omega) (by omega) (by omega)
  have key : ∀ (L : List Int) (a : Sl), (∃ b, forL (forB C (.nm 2) lp_inverse_1_b) (L.map .int) [Sl.sh (.int p), .sh (.int n), a] = match L.find? (fun m => n * m % p == 1) with
      | some m => .ret (.int m) [Sl.sh (.int p), .sh (.int n), b]
      | none => .nx [Sl.sh (.int p), .sh (.int n), b]) := by
    intro L
    induction L with
    | nil => intro a; exact ⟨a, rfl⟩
    | cons m L ih =>
      intro a
      have mm := mul_small (a := n) (b := m) (by omega)
      have md := mod_pos (a := n * m) (b := p) (by omega)
      by_cases hq : n * m % p = 1
      · refine ⟨.sh (.int m), ?_⟩
        have e : forB C (.nm 2) lp_inverse_1_b (.int m) [Sl.sh (.int p), .sh (.int n), a] = .ret (.int m) [Sl.sh (.int p), .sh (.int n), .sh (.int m)] := by simp [forB_eq, lp_inverse_1_b, ss_nil, ss_cons, ev_cst, ev_var, ev_mov, ev_glob, ev_sh, ev_tup, ev_lst, ev_bin, ev_binv, ev_neg, ev_cmp, ev_cmpv, ev_chain, ev_and, ev_or, ev_not, ev_ite, ev_call, ev_p1, ev_p2, ev_isi, ev_sub, ev_subv, ev_slc, ev_slcv, ev_rev, ev_pop, ev_popAt, ev_dnew, ev_lrg, ev_idx, ex_asg, ex_par, ex_aug, ex_setI, ex_augI, ex_app, ex_ext, ex_expr, ex_ret, ex_retN, ex_pass, ex_brk, ex_cnt, ex_ifS, ex_raise, ex_forS, ex_whl, evalV, evalT, evalEs, evalA, evalA1, evalO, evalC, evalI, enterE, slotR, ownR, ownC, setD, readR, moveR, outs, mapM, isTys_cons, isFreshF, L2.ixN, fillA, putA, putP, mm, md, hq]
        rw [List.map_cons, forL, e, List.find?_cons, show (n * m % p == 1) = true by simp [hq]]
      · obtain ⟨b, eb⟩ := ih (.sh (.int m))
        refine ⟨b, ?_⟩
        have e : forB C (.nm 2) lp_inverse_1_b (.int m) [Sl.sh (.int p), .sh (.int n), a] = .nx [Sl.sh (.int p), .sh (.int n), .sh (.int m)] := by simp [forB_eq, lp_inverse_1_b, ss_nil, ss_cons, ev_cst, ev_var, ev_mov, ev_glob, ev_sh, ev_tup, ev_lst, ev_bin, ev_binv, ev_neg, ev_cmp, ev_cmpv, ev_chain, ev_and, ev_or, ev_not, ev_ite, ev_call, ev_p1, ev_p2, ev_isi, ev_sub, ev_subv, ev_slc, ev_slcv, ev_rev, ev_pop, ev_popAt, ev_dnew, ev_lrg, ev_idx, ex_asg, ex_par, ex_aug, ex_setI, ex_augI, ex_app, ex_ext, ex_expr, ex_ret, ex_retN, ex_pass, ex_brk, ex_cnt, ex_ifS, ex_raise, ex_forS, ex_whl, evalV, evalT, evalEs, evalA, evalA1, evalO, evalC, evalI, enterE, slotR, ownR, ownC, setD, readR, moveR, outs, mapM, isTys_cons, isFreshF, L2.ixN, fillA, putA, putP, mm, md, hq]
        rw [List.map_cons, forL, e, List.find?_cons, show (n * m % p == 1) = false by simp [hq]]
        exact eb
  obtain ⟨b, eb⟩ := key ((List.range (p - 1).toNat).map fun (i : Nat) => (1 : Int) + i) .no
  rw [inv_range p n (by omega), show (p - 1).toNat + 1 = p.toNat by omega] at eb
  have hr : (((List.range (p - 1).toNat).map fun (i : Nat) => (1 : Int) + i).map D.int) = rangeD 1 (p - 1).toNat := by rw [Rf.range_map, List.map_map]; rfl
  rw [hr] at eb
  have hv := inv_ok hp h0 h1
  unfold inv? at hv ⊢
  cases f : ((List.range p.toNat).map fun (m : Nat) => (m : Int)).find? (fun m => m != 0 && n * m % p == 1) with
  | none =>
    rw [f] at hv
    simp at hv
  | some m =>
    rw [f] at eb
    generalize rangeD 1 (p - 1).toNat = RG at *
    simp [f_inverse, b_inverse, ss_nil, ss_cons, ev_cst, ev_var, ev_mov, ev_glob, ev_sh, ev_tup, ev_lst, ev_bin, ev_binv, ev_neg, ev_cmp, ev_cmpv, ev_chain, ev_and, ev_or, ev_not, ev_ite, ev_call, ev_p1, ev_p2, ev_isi, ev_sub, ev_subv, ev_slc, ev_slcv, ev_rev, ev_pop, ev_popAt, ev_dnew, ev_lrg, ev_idx, ex_asg, ex_par, ex_aug, ex_setI, ex_augI, ex_app, ex_ext, ex_expr, ex_ret, ex_retN, ex_pass, ex_brk, ex_cnt, ex_ifS, ex_raise, ex_forS, ex_whl, evalV, evalT, evalEs, evalA, evalA1, evalO, evalC, evalI, enterE, slotR, ownR, ownC, setD, readR, moveR, outs, mapM, isTys_cons, isFreshF, L2.ixN, fillA, putA, putP, hi, eb]
/-- times X - x: found at a turn: i numbers taken off, the next ones as they were -/
def longAt (p x : Int) (w : List Int) (i : Nat) : List Int := (linG p x 0 (w.take i)).take i ++ ((0 :: w).drop i)
theorem linG_take (p x : Int) : ∀ (w : List Int) (c : Int) (i : Nat), i < w.length → (linG p x c w)[i]? = some (((c :: w).getD i 0 - w.getD i 0 * x) % p)
  | [], _, i, h => by simp at h
  | n :: w, c, 0, _ => by simp [linG]
  | n :: w, c, i + 1, h => by
    rw [linG, List.getElem?_cons_succ, linG_take p x w n i (by simpa using h)]
    simp
theorem linG_end (p x : Int) : ∀ (w : List Int) (c : Int), (linG p x c w)[w.length]? = (c :: w)[w.length]?
  | [], c => by simp [linG]
  | n :: w, c => by
    rw [linG, List.length_cons, List.getElem?_cons_succ, linG_end p x w n, List.getElem?_cons_succ]
theorem longer_ok {C : Calls} (hC : At C 1) {p : Int} (hp : 0 < p) (hp2 : p ≤ 1000000) {x : Int} (hx : -1000000 ≤ x ∧ x ≤ 1000000) {w : List Int} (hw : Row' p w) (hl : w.length ≤ 1000) : C.fn i_longer [.int p, .lst (w.map .int), .int x] = .ok (.lst ((lin p x w).map .int)) [] := by
  refine stepE T_longer rfl hC fun C hC => ?_
  have hcat : Rf.bin .add (.lst [.int 0]) (.lst (w.map .int)) = some (.lst ((0 :: w).map .int)) := by
    show (if [D.int 0].length + (w.map D.int).length ≤ sizeLine then some (D.lst ([D.int 0] ++ w.map D.int)) else none) = _
    rw [if_pos (by rw [List.length_map, List.length_singleton]; exact len_s (m := 1001) (by omega))]
    rfl
  obtain ⟨DS, hDS⟩ : ∃ DS, DS = (List.range w.length).map fun (i : Nat) => D.tup [.int i, .int (w.getD i 0)] := ⟨_, rfl⟩
  have hi : ∀ a b c : Sl, evalI C lp_longer_1_i [Sl.sh (.int p), .sh (.lst (w.map .int)), .sh (.int x), a, b, c] = .ok DS [Sl.sh (.int p), .sh (.lst (w.map .int)), .sh (.int x), a, b, c] := fun a b c => by
    rw [hDS, ← enum_map]
    simp [lp_longer_1_i, ss_nil, ss_cons, ev_cst, ev_var, ev_mov, ev_glob, ev_sh, ev_tup, ev_lst, ev_bin, ev_binv, ev_neg, ev_cmp, ev_cmpv, ev_chain, ev_and, ev_or, ev_not, ev_ite, ev_call, ev_p1, ev_p2, ev_isi, ev_sub, ev_subv, ev_slc, ev_slcv, ev_rev, ev_pop, ev_popAt, ev_dnew, ev_lrg, ev_idx, ex_asg, ex_par, ex_aug, ex_setI, ex_augI, ex_app, ex_ext, ex_expr, ex_ret, ex_retN, ex_pass, ex_brk, ex_cnt, ex_ifS, ex_raise, ex_forS, ex_whl, evalV, evalT, evalEs, evalA, evalA1, evalO, evalC, evalI, enterE, slotR, ownR, ownC, setD, readR, moveR, outs, mapM, isTys_cons, isFreshF, L2.ixN, fillA, putA, putP]
  -- i numbers done
  let F : Nat → List Int := fun i => (lin p x w).take i ++ (0 :: w).drop i
  have F0 : F 0 = 0 :: w := by simp [F]
  have len0 : (lin p x w).length = w.length + 1 := linG_len p x w 0
  have step : ∀ i, i < w.length → (F i).length = w.length + 1 ∧ (F i)[i]? = (0 :: w)[i]? ∧ (F i).set i (((0 :: w).getD i 0 - w.getD i 0 * x) % p) = F (i + 1) := fun i h => by
    have l1 : ((lin p x w).take i).length = i := by rw [List.length_take, len0]; omega
    refine ⟨by show ((lin p x w).take i ++ (0 :: w).drop i).length = _; rw [List.length_append, l1, List.length_drop]; simp; omega, ?_, ?_⟩
    · show ((lin p x w).take i ++ (0 :: w).drop i)[i]? = _
      rw [List.getElem?_append_right (by omega), l1, Nat.sub_self, List.getElem?_drop, Nat.add_zero]
    · show ((lin p x w).take i ++ (0 :: w).drop i).set i _ = (lin p x w).take (i + 1) ++ (0 :: w).drop (i + 1)
      rw [List.set_append_right _ _ (by omega), l1, Nat.sub_self, List.take_add_one, show (lin p x w)[i]? = _ from linG_take p x w 0 i h, List.append_assoc]
      congr 1
      have : i < (0 :: w).length := by simp; omega
      rw [List.drop_eq_getElem_cons this]
      rfl
  have Fn : F w.length = lin p x w := by
    show (lin p x w).take w.length ++ (0 :: w).drop w.length = _
    have h1 : (0 :: w).drop w.length = (lin p x w).drop w.length := by
      refine List.ext_getElem? fun j => ?_
      rw [List.getElem?_drop, List.getElem?_drop]
      cases j with
      | zero => rw [Nat.add_zero]; exact (linG_end p x w 0).symm
      | succ j => rw [List.getElem?_eq_none (by rw [List.length_cons]; omega), List.getElem?_eq_none (by rw [len0]; omega)]
    rw [h1, List.take_append_drop]
  have mkl : mkSl true (.lst ((0 :: w).map .int)) = .ow (.lst ((0 :: w).map .int)) := rfl
  rw [← F0] at hcat mkl
  rw [← Fn]
  simp [f_longer, b_longer, ss_nil, ss_cons, ev_cst, ev_var, ev_mov, ev_glob, ev_sh, ev_tup, ev_lst, ev_bin, ev_binv, ev_neg, ev_cmp, ev_cmpv, ev_chain, ev_and, ev_or, ev_not, ev_ite, ev_call, ev_p1, ev_p2, ev_isi, ev_sub, ev_subv, ev_slc, ev_slcv, ev_rev, ev_pop, ev_popAt, ev_dnew, ev_lrg, ev_idx, ex_asg, ex_par, ex_aug, ex_setI, ex_augI, ex_app, ex_ext, ex_expr, ex_ret, ex_retN, ex_pass, ex_brk, ex_cnt, ex_ifS, ex_raise, ex_forS, ex_whl, evalV, evalT, evalEs, evalA, evalA1, evalO, evalC, evalI, enterE, slotR, ownR, ownC, setD, readR, moveR, outs, mapM, isTys_cons, isFreshF, L2.ixN, fillA, putA, putP, hcat, mkl, hi]
  refine is_for (fun i s => ∃ a b, s = [Sl.sh (.int p), .sh (.lst (w.map .int)), .sh (.int x), .ow (.lst ((F i).map .int)), a, b]) (fun _ _ => False) ⟨.no, .no, rfl⟩ ?_ ?_ (fun _ _ h => h.elim)
  · rintro i d hd s ⟨a, b, rfl⟩
    rw [hDS, List.getElem?_map] at hd
    obtain ⟨j, hj, rfl⟩ := Option.map_eq_some_iff.mp hd
    obtain ⟨hji, rfl⟩ := List.getElem?_eq_some_iff.mp hj
    rw [List.length_range] at hji
    rw [List.getElem_range] at *
    obtain ⟨s1, s2, s3⟩ := step i hji
    have wi : w.getD i 0 ∈ w := by rw [List.getD_eq_getElem?_getD, List.getElem?_eq_getElem hji]; exact List.getElem_mem hji
    have wb := hw _ wi
    have m := mul_small (a := w.getD i 0) (b := x) (by omega)
    have d := mod_pos (a := (0 :: w).getD i 0 - w.getD i 0 * x) hp
    have hlt : i < (0 :: w).length := by simp; omega
    have hget : L2.atI ((F i).map D.int) (i : Int) = some (.int ((0 :: w).getD i 0)) := L2.atI_nat (by rw [List.getElem?_map, s2, List.getD_eq_getElem?_getD, List.getElem?_eq_getElem hlt]; rfl)
    have hix : L2.ixN ((F i).map D.int).length (i : Int) = some i := ixN_nat (by rw [List.length_map, s1]; omega)
    have hset := set_map (F i) i (((0 :: w).getD i 0 - w.getD i 0 * x) % p)
    rw [s3] at hset
    have hsd : setD (.lst ((F i).map D.int)) (.int i) (.int (((0 :: w).getD i 0 - w.getD i 0 * x) % p)) = some (.lst ((F (i + 1)).map .int)) := by
      show (L2.ixN ((F i).map D.int).length (i : Int)).map _ = _
      rw [hix]
      show some (D.lst _) = _
      rw [hset]
    generalize (F i).map D.int = FI at *
    generalize (0 :: w).getD i 0 = u at *
    generalize w.getD i 0 = v at *
    simp [forB_eq, lp_longer_1_b, ss_nil, ss_cons, ex_setI, ev_bin, ev_subv, ev_var, evalV, slotR, readR, ownC, isC, hget, m, d, hsd]
  · rw [hDS, List.length_map, List.length_range]
    rintro s ⟨a, b, rfl⟩
    simp [ss_nil, ss_cons, ev_cst, ev_var, ev_mov, ev_glob, ev_sh, ev_tup, ev_lst, ev_bin, ev_binv, ev_neg, ev_cmp, ev_cmpv, ev_chain, ev_and, ev_or, ev_not, ev_ite, ev_call, ev_p1, ev_p2, ev_isi, ev_sub, ev_subv, ev_slc, ev_slcv, ev_rev, ev_pop, ev_popAt, ev_dnew, ev_lrg, ev_idx, ex_asg, ex_par, ex_aug, ex_setI, ex_augI, ex_app, ex_ext, ex_expr, ex_ret, ex_retN, ex_pass, ex_brk, ex_cnt, ex_ifS, ex_raise, ex_forS, ex_whl, evalV, evalT, evalEs, evalA, evalA1, evalO, evalC, evalI, enterE, slotR, ownR, ownC, setD, readR, moveR, outs, mapM, isTys_cons, isFreshF, L2.ixN, fillA, putA, putP]
theorem zipW_map {α : Type} (f : Int → Int → α) : ∀ a b : List Int, List.zipWith f a b = (a.zip b).map fun q => f q.1 q.2
  | [], _ => by simp
  | _ :: _, [] => by simp
  | x :: a, y :: b => by simp [zipW_map f a b]
theorem zipD_map : ∀ a b : List Int, List.zipWith (fun x y => D.tup [x, y]) (a.map .int) (b.map .int) = (a.zip b).map fun q => .tup [.int q.1, .int q.2]
  | [], _ => by simp
  | _ :: _, [] => by simp
  | x :: a, y :: b => by simp [zipD_map a b]
theorem row_through_ok {C : Calls} (hC : At C 4) {p : Int} (hp : p ∈ primes) {ss : List (Int × Int)} (ha : Apart p (ss.map (·.1))) (h1 : ∀ s ∈ ss, 0 ≤ s.1 ∧ s.1 < p) (h2 : ∀ s ∈ ss, 0 ≤ s.2 ∧ s.2 < p) (hl : ss.length ≤ 100) :
    C.fn i_row_through [.int p, .tup (ss.map encS)] = .ok (.tup ((thru p ss).map .int)) [] := by
  refine stepE T_row_through rfl hC fun C hC => ?_
  obtain ⟨p2, p3⟩ := primes_2 hp
  have m1 : mkSl false (.lst []) = .sh (.lst []) := rfl
  have m2 : mkSl false (.lst [.int 1]) = .sh (.lst [.int 1]) := rfl
  simp [f_row_through, b_row_through, lp_row_through_1_i, ss_nil, ss_cons, ev_cst, ev_var, ev_mov, ev_glob, ev_sh, ev_tup, ev_lst, ev_bin, ev_binv, ev_neg, ev_cmp, ev_cmpv, ev_chain, ev_and, ev_or, ev_not, ev_ite, ev_call, ev_p1, ev_p2, ev_isi, ev_sub, ev_subv, ev_slc, ev_slcv, ev_rev, ev_pop, ev_popAt, ev_dnew, ev_lrg, ev_idx, ex_asg, ex_par, ex_aug, ex_setI, ex_augI, ex_app, ex_ext, ex_expr, ex_ret, ex_retN, ex_pass, ex_brk, ex_cnt, ex_ifS, ex_raise, ex_forS, ex_whl, evalV, evalT, evalEs, evalA, evalA1, evalO, evalC, evalI, enterE, slotR, ownR, ownC, setD, readR, moveR, outs, mapM, isTys_cons, isFreshF, L2.ixN, fillA, putA, putP, m1, m2]
  refine is_for (fun i s => ∃ a b c, s = [Sl.sh (.int p), .sh (.tup (ss.map encS)), .sh (.lst ((newton p (ss.take i)).1.map .int)), .sh (.lst ((newton p (ss.take i)).2.map .int)), a, b, c, .no, .no]) (fun _ _ => False) ⟨.no, .no, .no, rfl⟩ ?_ ?_ (fun _ _ h => h.elim)
  · rintro i d hd s ⟨a, b, c, rfl⟩
    rw [List.getElem?_map] at hd
    obtain ⟨⟨x, y⟩, hs, rfl⟩ := Option.map_eq_some_iff.mp hd
    have hm := List.mem_of_getElem? hs
    have hx := h1 _ hm
    have hy := h2 _ hm
    have ht : ss.take (i + 1) = ss.take i ++ [(x, y)] := by rw [List.take_add_one, hs]; rfl
    have ap : Apart p ((ss.take i ++ [(x, y)]).map (·.1)) := by
      rw [← ht]
      unfold Apart at *
      exact List.Pairwise.sublist ((List.take_sublist _ _).map _) ha
    have hn : newton p (ss.take (i + 1)) = stepF p (newton p (ss.take i)) (x, y) := by
      rw [ht]
      unfold newton
      rw [List.foldl_append]
      rfl
    have nt := newt_ok hp (ss := ss.take i) (by
      unfold Apart at *
      rw [List.map_append] at ap
      exact (List.pairwise_append.mp ap).1)
    have far : ∀ t ∈ ss.take i, ¬ Cg p x t.1 := fun t ht => by
      unfold Apart at ap
      rw [List.map_append, List.pairwise_append] at ap
      exact ap.2.2 t.1 (List.mem_map.mpr ⟨t, ht, rfl⟩) x (by simp)
    rw [hn]
    have lF := nt.lf
    have lW := nt.lw
    have rW := nt.rw'
    have w0 := nt.apart x far
    have tl : (ss.take i).length ≤ 100 := by rw [List.length_take]; omega
    generalize newton p (ss.take i) = FW at *
    obtain ⟨F, W⟩ := FW
    simp only at lF lW rW w0 ⊢
    have wv := vm_in (p := p) (by omega) W x
    have wne : vm p W x ≠ 0 := fun e => w0 ((vm_cg p W x).symm.trans (Cg.of_eq e))
    have fv := vm_in (p := p) (by omega) F x
    have e1 := value_at_ok (C := C) hC.le (p := p) (by omega) (by omega) F x (.inr rfl)
    have e2 := value_at_ok (C := C) hC.le (p := p) (by omega) (by omega) W x (.inr rfl)
    have e3 := inverse_ok (C := C) hC.le hp (n := vm p W x) (by omega) (by omega)
    have e4 := longer_ok (C := C) hC.le (p := p) (by omega) (by omega) (x := x) (by omega) rW (by omega)
    have mm := mul_small (a := y - vm p F x) (b := inv? p (vm p W x)) (by omega)
    have md := mod_pos (a := (y - vm p F x) * inv? p (vm p W x)) (b := p) (by omega)
    have hstep : stepF p (F, W) (x, y) = (List.zipWith (fun one other => (one + (y - vm p F x) * inv? p (vm p W x) % p * other) % p) (F ++ [0]) W, lin p x W) := rfl
    rw [hstep]
    have bi := mod_in (p := p) (by omega) ((y - vm p F x) * inv? p (vm p W x))
    generalize (y - vm p F x) * inv? p (vm p W x) % p = q at *
    have hcat : Rf.bin .add (.lst (F.map .int)) (.lst [.int 0]) = some (.lst ((F ++ [0]).map .int)) := by
      show (if (F.map D.int).length + [D.int 0].length ≤ sizeLine then some (D.lst (F.map D.int ++ [D.int 0])) else none) = _
      rw [if_pos (by rw [List.length_map, List.length_singleton]; exact len_s (m := 1001) (by omega)), List.map_append]
      rfl
    have el : evalE C lc_row_through_1 [Sl.sh (.int p), .sh (.tup (ss.map encS)), .sh (.lst (F.map .int)), .sh (.lst (W.map .int)), .sh (.int x), .sh (.int y), .sh (.int q), .no, .no] = .ok (.lst ((List.zipWith (fun one other => (one + q * other) % p) (F ++ [0]) W).map .int)) [Sl.sh (.int p), .sh (.tup (ss.map encS)), .sh (.lst (F.map .int)), .sh (.lst (W.map .int)), .sh (.int x), .sh (.int y), .sh (.int q), .no, .no] := by
      rw [lc_it (s1 := [Sl.sh (.int p), .sh (.tup (ss.map encS)), .sh (.lst (F.map .int)), .sh (.lst (W.map .int)), .sh (.int x), .sh (.int y), .sh (.int q), .no, .no]) ((F ++ [0]).zip W) (fun q => .tup [.int q.1, .int q.2]) (fun r => .int ((r.1 + q * r.2) % p)) (by
        rw [← zipD_map]
        generalize (F ++ [0]).map D.int = F1 at *
        simp [lc_row_through_1_i, ss_nil, ss_cons, ev_cst, ev_var, ev_mov, ev_glob, ev_sh, ev_tup, ev_lst, ev_bin, ev_binv, ev_neg, ev_cmp, ev_cmpv, ev_chain, ev_and, ev_or, ev_not, ev_ite, ev_call, ev_p1, ev_p2, ev_isi, ev_sub, ev_subv, ev_slc, ev_slcv, ev_rev, ev_pop, ev_popAt, ev_dnew, ev_lrg, ev_idx, ex_asg, ex_par, ex_aug, ex_setI, ex_augI, ex_app, ex_ext, ex_expr, ex_ret, ex_retN, ex_pass, ex_brk, ex_cnt, ex_ifS, ex_raise, ex_forS, ex_whl, evalV, evalT, evalEs, evalA, evalA1, evalO, evalC, evalI, enterE, slotR, ownR, ownC, setD, readR, moveR, outs, mapM, isTys_cons, isFreshF, L2.ixN, fillA, putA, putP, hcat]) (fun r hr => by
        have m := mul_small (a := q) (b := r.2) (by omega)
        have d := mod_pos (a := r.1 + q * r.2) (b := p) (by omega)
        simp [turn_w, lc_row_through_1_e, ss_nil, ss_cons, ev_cst, ev_var, ev_mov, ev_glob, ev_sh, ev_tup, ev_lst, ev_bin, ev_binv, ev_neg, ev_cmp, ev_cmpv, ev_chain, ev_and, ev_or, ev_not, ev_ite, ev_call, ev_p1, ev_p2, ev_isi, ev_sub, ev_subv, ev_slc, ev_slcv, ev_rev, ev_pop, ev_popAt, ev_dnew, ev_lrg, ev_idx, ex_asg, ex_par, ex_aug, ex_setI, ex_augI, ex_app, ex_ext, ex_expr, ex_ret, ex_retN, ex_pass, ex_brk, ex_cnt, ex_ifS, ex_raise, ex_forS, ex_whl, evalV, evalT, evalEs, evalA, evalA1, evalO, evalC, evalI, enterE, slotR, ownR, ownC, setD, readR, moveR, outs, mapM, isTys_cons, isFreshF, L2.ixN, fillA, putA, putP, wipeE, m, d]) (by rw [List.length_zip]; exact len_s (m := 1000) (by omega)), zipW_map, List.map_map]
      rfl
    have k1 : mkSl false (.lst ((List.zipWith (fun one other => (one + q * other) % p) (F ++ [0]) W).map .int)) = .sh (.lst ((List.zipWith (fun one other => (one + q * other) % p) (F ++ [0]) W).map .int)) := rfl
    have k2 : mkSl false (.lst ((lin p x W).map .int)) = .sh (.lst ((lin p x W).map .int)) := rfl
    have fr : C.fr i_longer = false := fr_longer hC
    generalize List.zipWith (fun one other => (one + q * other) % p) (F ++ [0]) W = F2 at *
    generalize lin p x W = W2 at *
    simp [forB_eq, lp_row_through_1_b, ss_nil, ss_cons, ev_cst, ev_var, ev_mov, ev_glob, ev_sh, ev_tup, ev_lst, ev_bin, ev_binv, ev_neg, ev_cmp, ev_cmpv, ev_chain, ev_and, ev_or, ev_not, ev_ite, ev_call, ev_p1, ev_p2, ev_isi, ev_sub, ev_subv, ev_slc, ev_slcv, ev_rev, ev_pop, ev_popAt, ev_dnew, ev_lrg, ev_idx, ex_asg, ex_par, ex_aug, ex_setI, ex_augI, ex_app, ex_ext, ex_expr, ex_ret, ex_retN, ex_pass, ex_brk, ex_cnt, ex_ifS, ex_raise, ex_forS, ex_whl, evalV, evalT, evalEs, evalA, evalA1, evalO, evalC, evalI, enterE, slotR, ownR, ownC, setD, readR, moveR, outs, mapM, isTys_cons, isFreshF, L2.ixN, fillA, putA, putP, encS, e1, e2, e3, e4, mm, md, el, k1, k2, fr]
  · rw [List.length_map, List.take_length]
    rintro s ⟨a, b, c, rfl⟩
    simp [ss_nil, ss_cons, ev_cst, ev_var, ev_mov, ev_glob, ev_sh, ev_tup, ev_lst, ev_bin, ev_binv, ev_neg, ev_cmp, ev_cmpv, ev_chain, ev_and, ev_or, ev_not, ev_ite, ev_call, ev_p1, ev_p2, ev_isi, ev_sub, ev_subv, ev_slc, ev_slcv, ev_rev, ev_pop, ev_popAt, ev_dnew, ev_lrg, ev_idx, ex_asg, ex_par, ex_aug, ex_setI, ex_augI, ex_app, ex_ext, ex_expr, ex_ret, ex_retN, ex_pass, ex_brk, ex_cnt, ex_ifS, ex_raise, ex_forS, ex_whl, evalV, evalT, evalEs, evalA, evalA1, evalO, evalC, evalI, enterE, slotR, ownR, ownC, setD, readR, moveR, outs, mapM, isTys_cons, isFreshF, L2.ixN, fillA, putA, putP, thru]
theorem joined_ok {C : Calls} (hC : At C 5) {p : Int} (hp : p ∈ primes) {ss : List (Int × Int)} (h : Shs p ss) (l1 : 1 ≤ ss.length) (l2 : ss.length ≤ 20) {k : Int} (hk : k = ss.length) :
    C.fn i_joined [.int p, .int k, .tup (ss.map encS)] = .ok (.int (ev (thru p ss) 0)) [] := by
  refine stepE T_joined rfl hC fun C hC => ?_
  have ap : Apart p (ss.map (·.1)) := apart_of (List.Pairwise.imp (fun {a b} h => by omega) h.up) fun x hx => by
    obtain ⟨s, hs, rfl⟩ := List.mem_map.mp hx
    have := h.in_ s hs
    omega
  have e1 := check_prime_ok (C := C) hC.le hp
  have e2 := check_threshold_ok (C := C) hC.le (k := k) (by omega) (by omega)
  have e3 := is_shares_ok (C := C) hC.le h (by omega)
  have e4 := row_through_ok (C := C) hC.le hp ap (fun s hs => by have := h.in_ s hs; omega) h.val (by omega)
  have n := newt_ok hp ap
  have hlen : (thru p ss).length = ss.length := n.lf
  have hd0 : L2.atI ((thru p ss).map D.int) 0 = some (.int (ev (thru p ss) 0)) := by
    cases ht : thru p ss with
    | nil => rw [ht] at hlen; simp at hlen; omega
    | cons c r =>
      show L2.atI ((c :: r).map D.int) ((0 : Nat) : Int) = _
      rw [L2.atI_nat (show ((c :: r).map D.int)[0]? = some (.int c) from rfl)]
      simp [ev]
  subst hk
  simp [f_joined, b_joined, ss_nil, ss_cons, ev_cst, ev_var, ev_mov, ev_glob, ev_sh, ev_tup, ev_lst, ev_bin, ev_binv, ev_neg, ev_cmp, ev_cmpv, ev_chain, ev_and, ev_or, ev_not, ev_ite, ev_call, ev_p1, ev_p2, ev_isi, ev_sub, ev_subv, ev_slc, ev_slcv, ev_rev, ev_pop, ev_popAt, ev_dnew, ev_lrg, ev_idx, ex_asg, ex_par, ex_aug, ex_setI, ex_augI, ex_app, ex_ext, ex_expr, ex_ret, ex_retN, ex_pass, ex_brk, ex_cnt, ex_ifS, ex_raise, ex_forS, ex_whl, evalV, evalT, evalEs, evalA, evalA1, evalO, evalC, evalI, enterE, slotR, ownR, ownC, setD, readR, moveR, outs, mapM, isTys_cons, isFreshF, L2.ixN, fillA, putA, putP, e1, e2, e3, e4, hd0]

/-! ### the law's own rows and shares -/
theorem law_value_ok {C : Calls} (hC : At C 1) {p : Int} (hp : 0 < p) (h1 : p ≤ 1000000) (row : List Int) (x : Int) {t : D} (ht : t = .tup (row.map .int) ∨ t = .lst (row.map .int)) : C.fn i__law_value [.int p, t, .int x] = .ok (.int (vm p row x)) [] := by
  refine stepE T__law_value rfl hC fun C hC => ?_
  have hi : evalI C lp__law_value_1_i [Sl.sh (.int p), .sh t, .sh (.int x), .sh (.int 0), .no] = .ok (row.map .int).reverse [Sl.sh (.int p), .sh t, .sh (.int x), .sh (.int 0), .no] := by
    rcases ht with rfl | rfl <;> simp [lp__law_value_1_i, ss_nil, ss_cons, ev_cst, ev_var, ev_mov, ev_glob, ev_sh, ev_tup, ev_lst, ev_bin, ev_binv, ev_neg, ev_cmp, ev_cmpv, ev_chain, ev_and, ev_or, ev_not, ev_ite, ev_call, ev_p1, ev_p2, ev_isi, ev_sub, ev_subv, ev_slc, ev_slcv, ev_rev, ev_pop, ev_popAt, ev_dnew, ev_lrg, ev_idx, ex_asg, ex_par, ex_aug, ex_setI, ex_augI, ex_app, ex_ext, ex_expr, ex_ret, ex_retN, ex_pass, ex_brk, ex_cnt, ex_ifS, ex_raise, ex_forS, ex_whl, evalV, evalT, evalEs, evalA, evalA1, evalO, evalC, evalI, enterE, slotR, ownR, ownC, setD, readR, moveR, outs, mapM, isTys_cons, isFreshF, L2.ixN, fillA, putA, putP]
  obtain ⟨a, e⟩ := value_loop (C := C) (fd := f__law_value) (body := lp__law_value_1_b) (x := x) hp h1 row t fun f c a f0 f1 => by
    have m := mul_small (a := f) (b := x) (by omega)
    have d := mod_pos (a := f * x + c) hp
    simp [forB_eq, lp__law_value_1_b, ss_nil, ss_cons, ev_cst, ev_var, ev_mov, ev_glob, ev_sh, ev_tup, ev_lst, ev_bin, ev_binv, ev_neg, ev_cmp, ev_cmpv, ev_chain, ev_and, ev_or, ev_not, ev_ite, ev_call, ev_p1, ev_p2, ev_isi, ev_sub, ev_subv, ev_slc, ev_slcv, ev_rev, ev_pop, ev_popAt, ev_dnew, ev_lrg, ev_idx, ex_asg, ex_par, ex_aug, ex_setI, ex_augI, ex_app, ex_ext, ex_expr, ex_ret, ex_retN, ex_pass, ex_brk, ex_cnt, ex_ifS, ex_raise, ex_forS, ex_whl, evalV, evalT, evalEs, evalA, evalA1, evalO, evalC, evalI, enterE, slotR, ownR, ownC, setD, readR, moveR, outs, mapM, isTys_cons, isFreshF, L2.ixN, fillA, putA, putP, m, d]
  simp [f__law_value, b__law_value, ss_nil, ss_cons, ev_cst, ev_var, ev_mov, ev_glob, ev_sh, ev_tup, ev_lst, ev_bin, ev_binv, ev_neg, ev_cmp, ev_cmpv, ev_chain, ev_and, ev_or, ev_not, ev_ite, ev_call, ev_p1, ev_p2, ev_isi, ev_sub, ev_subv, ev_slc, ev_slcv, ev_rev, ev_pop, ev_popAt, ev_dnew, ev_lrg, ev_idx, ex_asg, ex_par, ex_aug, ex_setI, ex_augI, ex_app, ex_ext, ex_expr, ex_ret, ex_retN, ex_pass, ex_brk, ex_cnt, ex_ifS, ex_raise, ex_forS, ex_whl, evalV, evalT, evalEs, evalA, evalA1, evalO, evalC, evalI, enterE, slotR, ownR, ownC, setD, readR, moveR, outs, mapM, isTys_cons, isFreshF, L2.ixN, fillA, putA, putP, hi, e]
theorem law_dealt_ok {C : Calls} (hC : At C 5) {p : Int} (hp : 0 < p) (hp2 : p ≤ 1000000) (row xs : List Int) (l2 : xs.length ≤ 1000) :
    C.fn i__law_dealt [.int p, .tup (row.map .int), .tup (xs.map .int)] = .ok (.tup ((shOf p row xs).map encS)) [] := by
  refine stepE T__law_dealt rfl hC fun C hC => ?_
  have el : evalE C lc__law_dealt_1 [Sl.sh (.int p), .sh (.tup (row.map .int)), .sh (.tup (xs.map .int)), .no] = .ok (.lst ((shOf p row xs).map encS)) [Sl.sh (.int p), .sh (.tup (row.map .int)), .sh (.tup (xs.map .int)), .no] := by
    rw [lc_it (s1 := [Sl.sh (.int p), .sh (.tup (row.map .int)), .sh (.tup (xs.map .int)), .no]) xs D.int (fun x => encS (x, vm p row x)) (by simp [lc__law_dealt_1_i, ss_nil, ss_cons, ev_cst, ev_var, ev_mov, ev_glob, ev_sh, ev_tup, ev_lst, ev_bin, ev_binv, ev_neg, ev_cmp, ev_cmpv, ev_chain, ev_and, ev_or, ev_not, ev_ite, ev_call, ev_p1, ev_p2, ev_isi, ev_sub, ev_subv, ev_slc, ev_slcv, ev_rev, ev_pop, ev_popAt, ev_dnew, ev_lrg, ev_idx, ex_asg, ex_par, ex_aug, ex_setI, ex_augI, ex_app, ex_ext, ex_expr, ex_ret, ex_retN, ex_pass, ex_brk, ex_cnt, ex_ifS, ex_raise, ex_forS, ex_whl, evalV, evalT, evalEs, evalA, evalA1, evalO, evalC, evalI, enterE, slotR, ownR, ownC, setD, readR, moveR, outs, mapM, isTys_cons, isFreshF, L2.ixN, fillA, putA, putP]) (fun x hx => by
      have e := law_value_ok (C := C) hC.le (p := p) hp hp2 row x (.inl rfl)
      simp [turn_w, lc__law_dealt_1_e, ss_nil, ss_cons, ev_cst, ev_var, ev_mov, ev_glob, ev_sh, ev_tup, ev_lst, ev_bin, ev_binv, ev_neg, ev_cmp, ev_cmpv, ev_chain, ev_and, ev_or, ev_not, ev_ite, ev_call, ev_p1, ev_p2, ev_isi, ev_sub, ev_subv, ev_slc, ev_slcv, ev_rev, ev_pop, ev_popAt, ev_dnew, ev_lrg, ev_idx, ex_asg, ex_par, ex_aug, ex_setI, ex_augI, ex_app, ex_ext, ex_expr, ex_ret, ex_retN, ex_pass, ex_brk, ex_cnt, ex_ifS, ex_raise, ex_forS, ex_whl, evalV, evalT, evalEs, evalA, evalA1, evalO, evalC, evalI, enterE, slotR, ownR, ownC, setD, readR, moveR, outs, mapM, isTys_cons, isFreshF, L2.ixN, fillA, putA, putP, wipeE, e, encS]) (len_s (m := 1000) (by omega))]
    unfold shOf
    rw [List.map_map]
    rfl
  generalize (shOf p row xs).map encS = SH at *
  simp [f__law_dealt, b__law_dealt, ss_nil, ss_cons, ev_cst, ev_var, ev_mov, ev_glob, ev_sh, ev_tup, ev_lst, ev_bin, ev_binv, ev_neg, ev_cmp, ev_cmpv, ev_chain, ev_and, ev_or, ev_not, ev_ite, ev_call, ev_p1, ev_p2, ev_isi, ev_sub, ev_subv, ev_slc, ev_slcv, ev_rev, ev_pop, ev_popAt, ev_dnew, ev_lrg, ev_idx, ex_asg, ex_par, ex_aug, ex_setI, ex_augI, ex_app, ex_ext, ex_expr, ex_ret, ex_retN, ex_pass, ex_brk, ex_cnt, ex_ifS, ex_raise, ex_forS, ex_whl, evalV, evalT, evalEs, evalA, evalA1, evalO, evalC, evalI, enterE, slotR, ownR, ownC, setD, readR, moveR, outs, mapM, isTys_cons, isFreshF, L2.ixN, fillA, putA, putP, el]
/-- the first number that makes 1 with it -/
def over (p n : Int) : Int := (((List.range p.toNat).map fun (m : Nat) => (m : Int)).filter fun m => decide (m * n % p = 1)).headD 0
theorem over_ok {p : Int} (hp : p ∈ primes) {n : Int} (h0 : 0 < n) (h1 : n < p) : ∃ r, (((List.range p.toNat).map fun (m : Nat) => (m : Int)).filter fun m => decide (m * n % p = 1)) = over p n :: r ∧ over p n * n % p = 1 ∧ 0 ≤ over p n ∧ over p n < p := by
  obtain ⟨p2, _⟩ := primes_in p hp
  obtain ⟨m, hm, e⟩ := inv_ex hp h0 h1
  have mem : (m : Int) ∈ (((List.range p.toNat).map fun (m : Nat) => (m : Int)).filter fun m => decide (m * n % p = 1)) :=
    List.mem_filter.mpr ⟨List.mem_map.mpr ⟨m, List.mem_range.mpr (by omega), rfl⟩, by rw [Int.mul_comm]; simpa using e⟩
  unfold over
  cases f : (((List.range p.toNat).map fun (m : Nat) => (m : Int)).filter fun m => decide (m * n % p = 1)) with
  | nil => rw [f] at mem; cases mem
  | cons a r =>
    have ha : a ∈ (((List.range p.toNat).map fun (m : Nat) => (m : Int)).filter fun m => decide (m * n % p = 1)) := by rw [f]; exact List.mem_cons_self
    obtain ⟨h1, h2⟩ := List.mem_filter.mp ha
    obtain ⟨q, hq, rfl⟩ := List.mem_map.mp h1
    have := List.mem_range.mp hq
    exact ⟨r, rfl, by simpa using h2, by simp, by simp; omega⟩
theorem law_over_ok {C : Calls} (hC : At C 1) {p : Int} (hp : p ∈ primes) {n : Int} (h0 : 0 < n) (h1 : n < p) : C.fn i__law_over [.int p, .int n] = .ok (.int (over p n)) [] := by
  refine stepE T__law_over rfl hC fun C hC => ?_
  obtain ⟨p2, p3⟩ := primes_2 hp
  obtain ⟨r, hr, _⟩ := over_ok hp h0 h1
  have hi : evalI C lc__law_over_1_i [Sl.sh (.int p), .sh (.int n), .no] = .ok (((List.range p.toNat).map fun (m : Nat) => (m : Int)).map .int) [Sl.sh (.int p), .sh (.int n), .no] := by
    have := Rf.range_map 0 p.toNat
    simp only [Int.zero_add] at this
    rw [List.map_map]
    show _ = R.ok ((List.range p.toNat).map fun (m : Nat) => D.int m) _
    rw [← this]
    obtain ⟨q, rfl⟩ := Int.eq_ofNat_of_zero_le (show 0 ≤ p by omega)
    exact rng1_s (by simp [ss_nil, ss_cons, ev_cst, ev_var, ev_mov, ev_glob, ev_sh, ev_tup, ev_lst, ev_bin, ev_binv, ev_neg, ev_cmp, ev_cmpv, ev_chain, ev_and, ev_or, ev_not, ev_ite, ev_call, ev_p1, ev_p2, ev_isi, ev_sub, ev_subv, ev_slc, ev_slcv, ev_rev, ev_pop, ev_popAt, ev_dnew, ev_lrg, ev_idx, ex_asg, ex_par, ex_aug, ex_setI, ex_augI, ex_app, ex_ext, ex_expr, ex_ret, ex_retN, ex_pass, ex_brk, ex_cnt, ex_ifS, ex_raise, ex_forS, ex_whl, evalV, evalT, evalEs, evalA, evalA1, evalO, evalC, evalI, enterE, slotR, ownR, ownC, setD, readR, moveR, outs, mapM, isTys_cons, isFreshF, L2.ixN, fillA, putA, putP]) (by omega)
  have el : evalE C lc__law_over_1 [Sl.sh (.int p), .sh (.int n), .no] = .ok (.lst ((over p n :: r).map .int)) [Sl.sh (.int p), .sh (.int n), .no] := by
    rw [lc_if (s1 := [Sl.sh (.int p), .sh (.int n), .no]) ((List.range p.toNat).map fun (m : Nat) => (m : Int)) D.int (fun m => decide (m * n % p = 1)) D.int hi (fun m hm => by
      obtain ⟨q, hq, rfl⟩ := List.mem_map.mp hm
      have hq := List.mem_range.mp hq
      have mm := mul_small (a := (q : Int)) (b := n) (by omega)
      have md := mod_pos (a := (q : Int) * n) (b := p) (by omega)
      by_cases h : (q : Int) * n % p = 1 <;> simp [turn_w, lc__law_over_1_e, lc__law_over_1_c, ss_nil, ss_cons, ev_cst, ev_var, ev_mov, ev_glob, ev_sh, ev_tup, ev_lst, ev_bin, ev_binv, ev_neg, ev_cmp, ev_cmpv, ev_chain, ev_and, ev_or, ev_not, ev_ite, ev_call, ev_p1, ev_p2, ev_isi, ev_sub, ev_subv, ev_slc, ev_slcv, ev_rev, ev_pop, ev_popAt, ev_dnew, ev_lrg, ev_idx, ex_asg, ex_par, ex_aug, ex_setI, ex_augI, ex_app, ex_ext, ex_expr, ex_ret, ex_retN, ex_pass, ex_brk, ex_cnt, ex_ifS, ex_raise, ex_forS, ex_whl, evalV, evalT, evalEs, evalA, evalA1, evalO, evalC, evalI, enterE, slotR, ownR, ownC, setD, readR, moveR, outs, mapM, isTys_cons, isFreshF, L2.ixN, fillA, putA, putP, wipeE, mm, md, h]) (by rw [List.length_map, List.length_range]; exact len_s (m := 1000) (by omega)), hr]
    rfl
  have h00 : L2.atI ((over p n :: r).map D.int) 0 = some (.int (over p n)) := by
    show L2.atI ((over p n :: r).map D.int) ((0 : Nat) : Int) = _
    exact L2.atI_nat rfl
  generalize (over p n :: r).map D.int = L at *
  simp [f__law_over, b__law_over, ss_nil, ss_cons, ev_cst, ev_var, ev_mov, ev_glob, ev_sh, ev_tup, ev_lst, ev_bin, ev_binv, ev_neg, ev_cmp, ev_cmpv, ev_chain, ev_and, ev_or, ev_not, ev_ite, ev_call, ev_p1, ev_p2, ev_isi, ev_sub, ev_subv, ev_slc, ev_slcv, ev_rev, ev_pop, ev_popAt, ev_dnew, ev_lrg, ev_idx, ex_asg, ex_par, ex_aug, ex_setI, ex_augI, ex_app, ex_ext, ex_expr, ex_ret, ex_retN, ex_pass, ex_brk, ex_cnt, ex_ifS, ex_raise, ex_forS, ex_whl, evalV, evalT, evalEs, evalA, evalA1, evalO, evalC, evalI, enterE, slotR, ownR, ownC, setD, readR, moveR, outs, mapM, isTys_cons, isFreshF, L2.ixN, fillA, putA, putP, el, h00]
/-- top and bottom of one summand -/
def topBot (p x a : Int) (tb : Int × Int) (o : Int) : Int × Int := if o ≠ a then (tb.1 * (x - o) % p, tb.2 * (a - o) % p) else tb
theorem topBot_ok {p : Int} (hp : 0 < p) (x a : Int) : ∀ (xs : List Int) (t b : Int), 0 ≤ t → t < p → 0 ≤ b → b < p →
    (0 ≤ (xs.foldl (topBot p x a) (t, b)).1 ∧ (xs.foldl (topBot p x a) (t, b)).1 < p) ∧ (0 ≤ (xs.foldl (topBot p x a) (t, b)).2 ∧ (xs.foldl (topBot p x a) (t, b)).2 < p) ∧
    Cg p (xs.foldl (topBot p x a) (t, b)).1 (t * prodx (xs.filter fun o => decide (o ≠ a)) x) ∧ Cg p (xs.foldl (topBot p x a) (t, b)).2 (b * prodx (xs.filter fun o => decide (o ≠ a)) a)
  | [], t, b, t0, t1, b0, b1 => ⟨⟨t0, t1⟩, ⟨b0, b1⟩, Cg.of_eq (by simp [prodx]), Cg.of_eq (by simp [prodx])⟩
  | o :: xs, t, b, t0, t1, b0, b1 => by
    rw [List.foldl_cons]
    by_cases h : o ≠ a
    · have e : topBot p x a (t, b) o = (t * (x - o) % p, b * (a - o) % p) := by unfold topBot; rw [if_pos h]
      have m1 := mod_in hp (t * (x - o))
      have m2 := mod_in hp (b * (a - o))
      obtain ⟨a1, a2, a3, a4⟩ := topBot_ok hp x a xs _ _ m1.1 m1.2 m2.1 m2.2
      rw [e, List.filter_cons, if_pos (decide_eq_true h)]
      refine ⟨a1, a2, a3.trans (((Cg.mod _).mul (Cg.refl _)).trans (Cg.of_eq ?_)), a4.trans (((Cg.mod _).mul (Cg.refl _)).trans (Cg.of_eq ?_))⟩
      · rw [prodx, Int.mul_assoc]
      · rw [prodx, Int.mul_assoc]
    · have e : topBot p x a (t, b) o = (t, b) := by unfold topBot; rw [if_neg h]
      rw [e, List.filter_cons, if_neg (by simpa using h)]
      exact topBot_ok hp x a xs t b t0 t1 b0 b1
/-- the bottom's other way round -/
def cOf (p : Int) (xs : List Int) (x a : Int) : Int := over p (xs.foldl (topBot p x a) (1, 1)).2
def topOf (p : Int) (xs : List Int) (x a y : Int) : Int := (xs.foldl (topBot p x a) (y, 1)).1
theorem bot_same (p x a : Int) : ∀ (xs : List Int) (t u b : Int), (xs.foldl (topBot p x a) (t, b)).2 = (xs.foldl (topBot p x a) (u, b)).2
  | [], _, _, _ => rfl
  | o :: xs, t, u, b => by
    rw [List.foldl_cons, List.foldl_cons]
    by_cases h : o ≠ a
    · have e : ∀ t, topBot p x a (t, b) o = (t * (x - o) % p, b * (a - o) % p) := fun t => by unfold topBot; rw [if_pos h]
      rw [e, e]
      exact bot_same p x a xs _ _ _
    · have e : ∀ t, topBot p x a (t, b) o = (t, b) := fun t => by unfold topBot; rw [if_neg h]
      rw [e, e]
      exact bot_same p x a xs _ _ _
def throughS (p : Int) (xs : List Int) (x f : Int) (s : Int × Int) : Int := (f + topOf p xs x s.1 s.2 * cOf p xs x s.1) % p
def through (p : Int) (ss : List (Int × Int)) (x : Int) : Int := ss.foldl (throughS p (ss.map (·.1)) x) 0
theorem through_in {p : Int} (hp : 0 < p) (ss : List (Int × Int)) (x : Int) : 0 ≤ through p ss x ∧ through p ss x < p := by
  have key : ∀ (xs : List Int) (L : List (Int × Int)) (f : Int), 0 ≤ f → f < p → 0 ≤ L.foldl (throughS p xs x) f ∧ L.foldl (throughS p xs x) f < p := fun xs L => by
    induction L with
    | nil => intro f a b; exact ⟨a, b⟩
    | cons s L ih => intro f _ _; exact ih _ (mod_in hp _).1 (mod_in hp _).2
  exact key _ ss 0 (Int.le_refl _) hp
theorem foldl_cg {p : Int} {c : Int → Int} {xs : List Int} {x : Int} : ∀ (L : List (Int × Int)) (f : Int), (∀ s ∈ L, Cg p (topOf p xs x s.1 s.2 * cOf p xs x s.1) (s.2 * c s.1 * prodx (xs.filter fun o => decide (o ≠ s.1)) x)) →
    Cg p (L.foldl (throughS p xs x) f) (f + lagV c xs x L)
  | [], f, _ => Cg.of_eq (by simp [lagV])
  | (a, y) :: L, f, h => by
    have h1 := h (a, y) List.mem_cons_self
    rw [List.foldl_cons, lagV]
    refine (foldl_cg (c := c) L _ fun s hs => h s (List.mem_cons_of_mem _ hs)).trans ?_
    refine (((Cg.mod _).trans ((Cg.refl f).add h1)).add (Cg.refl _)).trans (Cg.of_eq ?_)
    dsimp only
    omega
theorem bot_in {p : Int} (hp : p ∈ primes) {xs : List Int} (nd : xs.Nodup) (h : ∀ x ∈ xs, 0 ≤ x ∧ x < p) {a : Int} (ha : a ∈ xs) (x t : Int) (t0 : 0 ≤ t) (t1 : t < p) : 0 < (xs.foldl (topBot p x a) (t, 1)).2 ∧ (xs.foldl (topBot p x a) (t, 1)).2 < p := by
  obtain ⟨p2, _⟩ := primes_in p hp
  obtain ⟨_, ⟨b0, b1⟩, _, b3⟩ := topBot_ok (by omega) x a xs t 1 t0 t1 (by omega) (by omega)
  have ne := prod_ne hp (x := a) (o := xs.filter fun o => decide (o ≠ a)) fun o ho q => by
    obtain ⟨h1, h2⟩ := List.mem_filter.mp ho
    have h2 : o ≠ a := by simpa using h2
    exact h2 (q.eq (h a ha).1 (h a ha).2 (h o h1).1 (h o h1).2).symm
  refine ⟨?_, b1⟩
  rcases Int.lt_or_eq_of_le b0 with q | q
  · exact q
  · refine absurd ?_ ne
    rw [← q] at b3
    exact (Cg.of_eq (by grind)).trans b3.symm
/-- both ways tell one value -/
theorem through_thru {p : Int} (hp : p ∈ primes) {ss : List (Int × Int)} (nd : (ss.map (·.1)).Nodup) (h : ∀ s ∈ ss, 0 ≤ s.1 ∧ s.1 < p) (hv : ∀ s ∈ ss, 0 ≤ s.2 ∧ s.2 < p) (x : Int) : Cg p (through p ss x) (ev (thru p ss) x) := by
  obtain ⟨p2, _⟩ := primes_in p hp
  have hx : ∀ x ∈ ss.map (·.1), 0 ≤ x ∧ x < p := fun x hx => by
    obtain ⟨s, hs, rfl⟩ := List.mem_map.mp hx
    exact h s hs
  have L := thru_lag hp nd h (c := cOf p (ss.map (·.1)) x) (fun s hs => by
    have hm : s.1 ∈ ss.map (·.1) := List.mem_map.mpr ⟨s, hs, rfl⟩
    obtain ⟨b0, b1⟩ := bot_in hp nd hx hm x 1 (by omega) (by omega)
    obtain ⟨_, _, _, b3⟩ := topBot_ok (show 0 < p by omega) x s.1 (ss.map (·.1)) 1 1 (by omega) (by omega) (by omega) (by omega)
    obtain ⟨_, _, ho, _⟩ := over_ok hp b0 b1
    have h1 : Cg p (over p ((ss.map (·.1)).foldl (topBot p x s.1) (1, 1)).2 * ((ss.map (·.1)).foldl (topBot p x s.1) (1, 1)).2) 1 := Cg.of_emod (by rw [ho, Int.emod_eq_of_lt (by omega) (by omega)])
    have hb := (b3.trans (Cg.of_eq (Int.one_mul _))).symm
    have hcO : cOf p (ss.map (·.1)) x s.1 = over p ((ss.map (·.1)).foldl (topBot p x s.1) (1, 1)).2 := rfl
    rw [hcO]
    exact (hb.mul (Cg.refl _)).trans ((Cg.of_eq (Int.mul_comm _ _)).trans h1)) x
  refine Cg.trans ?_ L.symm
  have f := foldl_cg (p := p) (c := cOf p (ss.map (·.1)) x) (xs := ss.map (·.1)) (x := x) ss 0 fun s hs => by
    have v := hv s hs
    obtain ⟨_, _, t3, _⟩ := topBot_ok (show 0 < p by omega) x s.1 (ss.map (·.1)) s.2 1 v.1 v.2 (by omega) (by omega)
    refine (t3.mul (Cg.refl _)).trans (Cg.of_eq ?_)
    generalize prodx ((ss.map (·.1)).filter fun o => decide (o ≠ s.1)) x = P
    grind
  exact f.trans (Cg.of_eq (by omega))
theorem law_through_ok {C : Calls} (hC : At C 3) {p : Int} (hp : p ∈ primes) {ss : List (Int × Int)} (nd : (ss.map (·.1)).Nodup) (h : ∀ s ∈ ss, 0 ≤ s.1 ∧ s.1 < p) (hv : ∀ s ∈ ss, 0 ≤ s.2 ∧ s.2 < p) {x : Int} (hx : 0 ≤ x ∧ x < 1000) :
    C.fn i__law_through [.int p, .tup (ss.map encS), .int x] = .ok (.int (through p ss x)) [] := by
  refine stepE T__law_through rfl hC fun C hC => ?_
  obtain ⟨p2, p3⟩ := primes_2 hp
  have hxs : ∀ x ∈ ss.map (·.1), 0 ≤ x ∧ x < p := fun x hx => by
    obtain ⟨s, hs, rfl⟩ := List.mem_map.mp hx
    exact h s hs
  have sum : ∀ i, (ss.take i).foldl (throughS p (ss.map (·.1)) x) 0 = (ss.take i).foldl (throughS p (ss.map (·.1)) x) 0 := fun _ => rfl
  have nx : ∀ i s, ss[i]? = some s → (ss.take (i + 1)).foldl (throughS p (ss.map (·.1)) x) 0 = throughS p (ss.map (·.1)) x ((ss.take i).foldl (throughS p (ss.map (·.1)) x) 0) s := fun i s hs => by
    rw [List.take_add_one, hs, List.foldl_append]
    rfl
  simp [f__law_through, b__law_through, lp__law_through_1_i, ss_nil, ss_cons, ev_cst, ev_var, ev_mov, ev_glob, ev_sh, ev_tup, ev_lst, ev_bin, ev_binv, ev_neg, ev_cmp, ev_cmpv, ev_chain, ev_and, ev_or, ev_not, ev_ite, ev_call, ev_p1, ev_p2, ev_isi, ev_sub, ev_subv, ev_slc, ev_slcv, ev_rev, ev_pop, ev_popAt, ev_dnew, ev_lrg, ev_idx, ex_asg, ex_par, ex_aug, ex_setI, ex_augI, ex_app, ex_ext, ex_expr, ex_ret, ex_retN, ex_pass, ex_brk, ex_cnt, ex_ifS, ex_raise, ex_forS, ex_whl, evalV, evalT, evalEs, evalA, evalA1, evalO, evalC, evalI, enterE, slotR, ownR, ownC, setD, readR, moveR, outs, mapM, isTys_cons, isFreshF, L2.ixN, fillA, putA, putP]
  refine is_for (fun i s => ∃ a b c d e g, s = [Sl.sh (.int p), .sh (.tup (ss.map encS)), .sh (.int x), .sh (.int ((ss.take i).foldl (throughS p (ss.map (·.1)) x) 0)), a, b, c, d, e, g]) (fun _ _ => False) ⟨.no, .no, .no, .no, .no, .no, rfl⟩ ?_ ?_ (fun _ _ h => h.elim)
  · rintro i d hd s ⟨a, b, c, d', e, g, rfl⟩
    rw [List.getElem?_map] at hd
    obtain ⟨⟨u, y⟩, hs, rfl⟩ := Option.map_eq_some_iff.mp hd
    have hm := List.mem_of_getElem? hs
    have hu := h _ hm
    have hy := hv _ hm
    have hum : u ∈ ss.map (·.1) := List.mem_map.mpr ⟨(u, y), hm, rfl⟩
    rw [nx i _ hs]
    generalize (ss.take i).foldl (throughS p (ss.map (·.1)) x) 0 = f at *
    simp [forB_eq, lp__law_through_1_b, lp__law_through_2_i, ss_nil, ss_cons, ev_cst, ev_var, ev_mov, ev_glob, ev_sh, ev_tup, ev_lst, ev_bin, ev_binv, ev_neg, ev_cmp, ev_cmpv, ev_chain, ev_and, ev_or, ev_not, ev_ite, ev_call, ev_p1, ev_p2, ev_isi, ev_sub, ev_subv, ev_slc, ev_slcv, ev_rev, ev_pop, ev_popAt, ev_dnew, ev_lrg, ev_idx, ex_asg, ex_par, ex_aug, ex_setI, ex_augI, ex_app, ex_ext, ex_expr, ex_ret, ex_retN, ex_pass, ex_brk, ex_cnt, ex_ifS, ex_raise, ex_forS, ex_whl, evalV, evalT, evalEs, evalA, evalA1, evalO, evalC, evalI, enterE, slotR, ownR, ownC, setD, readR, moveR, outs, mapM, isTys_cons, isFreshF, L2.ixN, fillA, putA, putP, encS]
    have nx2 : ∀ (j : Nat) (t : Int × Int), ss[j]? = some t → ((ss.take (j + 1)).map (·.1)).foldl (topBot p x u) (y, 1) = topBot p x u (((ss.take j).map (·.1)).foldl (topBot p x u) (y, 1)) t.1 := fun j t ht => by
      rw [List.take_add_one, ht, List.map_append, List.foldl_append]
      rfl
    refine w_for (fun j s => ∃ e g, s = [Sl.sh (.int p), .sh (.tup (ss.map encS)), .sh (.int x), .sh (.int f), .sh (.int u), .sh (.int y), .sh (.int (((ss.take j).map (·.1)).foldl (topBot p x u) (y, 1)).1), .sh (.int (((ss.take j).map (·.1)).foldl (topBot p x u) (y, 1)).2), e, g]) (fun _ _ => False) ⟨e, g, rfl⟩ ?_ ?_ (fun _ _ h => h)
    · rintro j d hd2 s ⟨e, g, rfl⟩
      rw [List.getElem?_map] at hd2
      obtain ⟨⟨o, z⟩, ht, rfl⟩ := Option.map_eq_some_iff.mp hd2
      have ho := h _ (List.mem_of_getElem? ht)
      obtain ⟨a0, b0, _, _⟩ := topBot_ok (show 0 < p by omega) x u ((ss.take j).map (·.1)) y 1 hy.1 hy.2 (by omega) (by omega)
      rw [nx2 j _ ht]
      generalize ((ss.take j).map (·.1)).foldl (topBot p x u) (y, 1) = tb at *
      obtain ⟨t, b⟩ := tb
      have m1 := mul_small (a := t) (b := x - o) (by simp only at a0; omega)
      have m2 := mul_small (a := b) (b := u - o) (by simp only at b0; omega)
      have d1 := mod_pos (a := t * (x - o)) (b := p) (by omega)
      have d2 := mod_pos (a := b * (u - o)) (b := p) (by omega)
      by_cases hq : o = u
      · simp [forB_eq, lp__law_through_2_b, ss_nil, ss_cons, ev_cst, ev_var, ev_mov, ev_glob, ev_sh, ev_tup, ev_lst, ev_bin, ev_binv, ev_neg, ev_cmp, ev_cmpv, ev_chain, ev_and, ev_or, ev_not, ev_ite, ev_call, ev_p1, ev_p2, ev_isi, ev_sub, ev_subv, ev_slc, ev_slcv, ev_rev, ev_pop, ev_popAt, ev_dnew, ev_lrg, ev_idx, ex_asg, ex_par, ex_aug, ex_setI, ex_augI, ex_app, ex_ext, ex_expr, ex_ret, ex_retN, ex_pass, ex_brk, ex_cnt, ex_ifS, ex_raise, ex_forS, ex_whl, evalV, evalT, evalEs, evalA, evalA1, evalO, evalC, evalI, enterE, slotR, ownR, ownC, setD, readR, moveR, outs, mapM, isTys_cons, isFreshF, L2.ixN, fillA, putA, putP, encS, m1, m2, d1, d2, hq, topBot]
      · simp [forB_eq, lp__law_through_2_b, ss_nil, ss_cons, ev_cst, ev_var, ev_mov, ev_glob, ev_sh, ev_tup, ev_lst, ev_bin, ev_binv, ev_neg, ev_cmp, ev_cmpv, ev_chain, ev_and, ev_or, ev_not, ev_ite, ev_call, ev_p1, ev_p2, ev_isi, ev_sub, ev_subv, ev_slc, ev_slcv, ev_rev, ev_pop, ev_popAt, ev_dnew, ev_lrg, ev_idx, ex_asg, ex_par, ex_aug, ex_setI, ex_augI, ex_app, ex_ext, ex_expr, ex_ret, ex_retN, ex_pass, ex_brk, ex_cnt, ex_ifS, ex_raise, ex_forS, ex_whl, evalV, evalT, evalEs, evalA, evalA1, evalO, evalC, evalI, enterE, slotR, ownR, ownC, setD, readR, moveR, outs, mapM, isTys_cons, isFreshF, L2.ixN, fillA, putA, putP, encS, m1, m2, d1, d2, hq, topBot]
    · rw [List.length_map, List.take_length]
      rintro s ⟨e, g, rfl⟩
      have e0 : (ss.map (·.1)).foldl (topBot p x u) (y, 1) = (topOf p (ss.map (·.1)) x u y, (((ss.map (·.1)).foldl (topBot p x u) (1, 1)).2)) := by
        rw [← bot_same p x u (ss.map (·.1)) y 1 1]
        rfl
      obtain ⟨b0, b1⟩ := bot_in hp nd hxs hum x 1 (by omega) (by omega)
      obtain ⟨a0, _, _, _⟩ := topBot_ok (show 0 < p by omega) x u (ss.map (·.1)) y 1 hy.1 hy.2 (by omega) (by omega)
      have a0 : 0 ≤ topOf p (ss.map (·.1)) x u y ∧ topOf p (ss.map (·.1)) x u y < p := a0
      have eo := law_over_ok (C := C) hC.le hp b0 b1
      have hco : cOf p (ss.map (·.1)) x u = over p ((ss.map (·.1)).foldl (topBot p x u) (1, 1)).2 := rfl
      rw [← hco] at eo
      have hth : throughS p (ss.map (·.1)) x f (u, y) = (f + topOf p (ss.map (·.1)) x u y * cOf p (ss.map (·.1)) x u) % p := rfl
      rw [hth, e0]
      generalize topOf p (ss.map (·.1)) x u y = tp at *
      generalize cOf p (ss.map (·.1)) x u = cc at *
      generalize ((ss.map (·.1)).foldl (topBot p x u) (1, 1)).2 = bb at *
      have m := mul_small (a := tp) (b := cc) (by omega)
      have d := mod_pos (a := f + tp * cc) (b := p) (by omega)
      simp [ss_nil, ss_cons, ev_cst, ev_var, ev_mov, ev_glob, ev_sh, ev_tup, ev_lst, ev_bin, ev_binv, ev_neg, ev_cmp, ev_cmpv, ev_chain, ev_and, ev_or, ev_not, ev_ite, ev_call, ev_p1, ev_p2, ev_isi, ev_sub, ev_subv, ev_slc, ev_slcv, ev_rev, ev_pop, ev_popAt, ev_dnew, ev_lrg, ev_idx, ex_asg, ex_par, ex_aug, ex_setI, ex_augI, ex_app, ex_ext, ex_expr, ex_ret, ex_retN, ex_pass, ex_brk, ex_cnt, ex_ifS, ex_raise, ex_forS, ex_whl, evalV, evalT, evalEs, evalA, evalA1, evalO, evalC, evalI, enterE, slotR, ownR, ownC, setD, readR, moveR, outs, mapM, isTys_cons, isFreshF, L2.ixN, fillA, putA, putP, eo, m, d]
  · rw [List.length_map, List.take_length]
    rintro s ⟨a, b, c, d, e, g, rfl⟩
    have : ss.foldl (throughS p (ss.map (·.1)) x) 0 = through p ss x := rfl
    rw [this]
    simp [ss_nil, ss_cons, ev_cst, ev_var, ev_mov, ev_glob, ev_sh, ev_tup, ev_lst, ev_bin, ev_binv, ev_neg, ev_cmp, ev_cmpv, ev_chain, ev_and, ev_or, ev_not, ev_ite, ev_call, ev_p1, ev_p2, ev_isi, ev_sub, ev_subv, ev_slc, ev_slcv, ev_rev, ev_pop, ev_popAt, ev_dnew, ev_lrg, ev_idx, ex_asg, ex_par, ex_aug, ex_setI, ex_augI, ex_app, ex_ext, ex_expr, ex_ret, ex_retN, ex_pass, ex_brk, ex_cnt, ex_ifS, ex_raise, ex_forS, ex_whl, evalV, evalT, evalEs, evalA, evalA1, evalO, evalC, evalI, enterE, slotR, ownR, ownC, setD, readR, moveR, outs, mapM, isTys_cons, isFreshF, L2.ixN, fillA, putA, putP]
/-! ### drawn ones -/
theorem some_ok {C : Calls} (hC : At C 2) (h : Hand) {xs : List Int} (hne : xs ≠ []) (hl : xs.length ≤ 1000) : ∃ b, b ∈ xs ∧ C.fn i__law_some [hd h, .lst (xs.map .int)] = .ok (.int b) [hd (dn h xs.length)] := by
  have e := any_l hC h (ds := xs.map D.int) (by simpa using hne) (by rw [List.length_map]; omega)
  have pm := pick_mem h (ds := xs.map D.int) (by simpa using hne)
  obtain ⟨b, hb, eb⟩ := List.mem_map.mp pm
  rw [← eb, List.length_map] at e
  exact ⟨b, hb, e⟩
theorem ints_at {r : List D} {q : Nat → Int → Prop} (h : ∀ (i : Nat) x, r[i]? = some x → ∃ v, x = .int v ∧ q i v) : ∃ xs : List Int, r = xs.map .int ∧ ∀ (i : Nat) v, xs[i]? = some v → q i v := by
  refine ⟨r.map fun d => match d with | .int v => v | _ => 0, ?_, fun i v hv => ?_⟩
  · rw [List.map_map]
    refine (List.ext_getElem? fun i => ?_)
    rw [List.getElem?_map]
    cases e : r[i]? with
    | none => rfl
    | some x =>
      obtain ⟨v, rfl, _⟩ := h i x e
      rfl
  · rw [List.getElem?_map] at hv
    obtain ⟨x, hx, rfl⟩ := Option.map_eq_some_iff.mp hv
    obtain ⟨v, rfl, hq⟩ := h i x hx
    exact hq
theorem law_row_ok {C : Calls} (hC : At C 3) (h : Hand) {p : Int} (hp : 0 < p) (hp2 : p ≤ 1000) {k : Nat} (hk : k ≤ 1000) : ∃ row h', C.fn i__law_row [hd h, .int p, .int k] = .ok (.tup (row.map .int)) [hd h'] ∧ Row' p row ∧ row.length = k := by
  have key : (C.fn i__law_row [hd h, .int p, .int k]).is fun d o => (∃ h', o = [hd h']) ∧ ∃ row : List Int, d = .tup (row.map .int) ∧ Row' p row ∧ row.length = k := by
    refine stepIh T__law_row rfl hC fun C hC => ?_
    obtain ⟨r, s2, el, hI, hl, hpp⟩ := lc_run (C := C) (elt := lc__law_row_1_e) (tg := .nm 3) (it := lc__law_row_1_i) (cond := none) (own := [3]) (s := [Sl.ow (hd h), .sh (.int p), .sh (.int k), .no]) (s1 := [Sl.ow (hd h), .sh (.int p), .sh (.int k), .no]) (ds := rangeD 0 k)
      (fun _ s => ∃ h, s = [Sl.ow (hd h), .sh (.int p), .sh (.int k), .no]) (fun _ d => ∃ v, d = .int v ∧ 0 ≤ v ∧ v < p) (rng1_s (by simp [ss_nil, ss_cons, ev_cst, ev_var, ev_mov, ev_glob, ev_sh, ev_tup, ev_lst, ev_bin, ev_binv, ev_neg, ev_cmp, ev_cmpv, ev_chain, ev_and, ev_or, ev_not, ev_ite, ev_call, ev_p1, ev_p2, ev_isi, ev_sub, ev_subv, ev_slc, ev_slcv, ev_rev, ev_pop, ev_popAt, ev_dnew, ev_lrg, ev_idx, ex_asg, ex_par, ex_aug, ex_setI, ex_augI, ex_app, ex_ext, ex_expr, ex_ret, ex_retN, ex_pass, ex_brk, ex_cnt, ex_ifS, ex_raise, ex_forS, ex_whl, evalV, evalT, evalEs, evalA, evalA1, evalO, evalC, evalI, enterE, slotR, ownR, ownC, setD, readR, moveR, outs, mapM, isTys_cons, isFreshF, L2.ixN, fillA, putA, putP]) (by omega)) ⟨_, rfl⟩ (fun i d hdd s hs => by
        obtain ⟨h, rfl⟩ := hs
        have dd := draw_s hC.le h (b := p) (by omega) (by omega)
        have v1 := dv_ge h (b := p) (by omega)
        have v2 := dv_lt h (b := p) (by omega)
        simp [turn_w, lc__law_row_1_e, ss_nil, ss_cons, ev_cst, ev_var, ev_mov, ev_glob, ev_sh, ev_tup, ev_lst, ev_bin, ev_binv, ev_neg, ev_cmp, ev_cmpv, ev_chain, ev_and, ev_or, ev_not, ev_ite, ev_call, ev_p1, ev_p2, ev_isi, ev_sub, ev_subv, ev_slc, ev_slcv, ev_rev, ev_pop, ev_popAt, ev_dnew, ev_lrg, ev_idx, ex_asg, ex_par, ex_aug, ex_setI, ex_augI, ex_app, ex_ext, ex_expr, ex_ret, ex_retN, ex_pass, ex_brk, ex_cnt, ex_ifS, ex_raise, ex_forS, ex_whl, evalV, evalT, evalEs, evalA, evalA1, evalO, evalC, evalI, enterE, slotR, ownR, ownC, setD, readR, moveR, outs, mapM, isTys_cons, isFreshF, L2.ixN, fillA, putA, putP, wipeE, dd]
        omega) (by rw [range_len]; exact len_s (m := 1000) (by omega))
    have el : evalE C lc__law_row_1 _ = _ := el
    obtain ⟨h', rfl⟩ := hI
    obtain ⟨xs, rfl, hx⟩ := ints_at hpp
    rw [range_len, List.length_map] at hl
    simp [backE] at el
    refine ⟨?_⟩
    simp [f__law_row, b__law_row, ss_nil, ss_cons, ev_cst, ev_var, ev_mov, ev_glob, ev_sh, ev_tup, ev_lst, ev_bin, ev_binv, ev_neg, ev_cmp, ev_cmpv, ev_chain, ev_and, ev_or, ev_not, ev_ite, ev_call, ev_p1, ev_p2, ev_isi, ev_sub, ev_subv, ev_slc, ev_slcv, ev_rev, ev_pop, ev_popAt, ev_dnew, ev_lrg, ev_idx, ex_asg, ex_par, ex_aug, ex_setI, ex_augI, ex_app, ex_ext, ex_expr, ex_ret, ex_retN, ex_pass, ex_brk, ex_cnt, ex_ifS, ex_raise, ex_forS, ex_whl, evalV, evalT, evalEs, evalA, evalA1, evalO, evalC, evalI, enterE, slotR, ownR, ownC, setD, readR, moveR, outs, mapM, isTys_cons, isFreshF, L2.ixN, fillA, putA, putP, el]
    refine ⟨xs, rfl, fun c hc => ?_, hl⟩
    obtain ⟨i, hi⟩ := List.mem_iff_getElem?.mp hc
    exact hx i c hi
  obtain ⟨d, o, e, ⟨h', rfl⟩, row, rfl, h1, h2⟩ := key.out
  exact ⟨row, h', e, h1, h2⟩
theorem pick_sub {α : Type} : ∀ {l : List α} {i : Nat}, (l.eraseIdx i).Sublist l := fun {l i} => List.eraseIdx_sublist l i
/-- the points drawn out of those that are left, the hand and those that are left behind -/
def popped : Nat → Hand × List Int → List Int
  | 0, _ => []
  | n + 1, (h, L) => L.getD (dv h L.length).toNat 0 :: popped n (dn h L.length, L.eraseIdx (dv h L.length).toNat)
def popSt : Nat → Hand × List Int → Hand × List Int
  | 0, s => s
  | n + 1, s => (dn (popSt n s).1 (popSt n s).2.length, (popSt n s).2.eraseIdx (dv (popSt n s).1 (popSt n s).2.length).toNat)
theorem popSt_succ : ∀ (n : Nat) (h : Hand) (L : List Int), popSt (n + 1) (h, L) = popSt n (dn h L.length, L.eraseIdx (dv h L.length).toNat)
  | 0, _, _ => rfl
  | n + 1, h, L => by
    have ih := popSt_succ n h L
    rw [popSt, ih]
    rfl
theorem popped_at : ∀ (n : Nat) (h : Hand) (L : List Int) (i : Nat), i < n → (popped n (h, L))[i]? = some ((popSt i (h, L)).2.getD (dv (popSt i (h, L)).1 (popSt i (h, L)).2.length).toNat 0)
  | 0, _, _, _, hi => by omega
  | n + 1, h, L, 0, _ => rfl
  | n + 1, h, L, i + 1, hi => by
    rw [popped, List.getElem?_cons_succ, popped_at n _ _ i (by omega), popSt_succ]
theorem popped_len : ∀ (n : Nat) (s : Hand × List Int), (popped n s).length = n
  | 0, _ => rfl
  | n + 1, (h, L) => by rw [popped, List.length_cons, popped_len n]
theorem popSt_len : ∀ (n : Nat) (h : Hand) (L : List Int), n ≤ L.length → (popSt n (h, L)).2.length = L.length - n
  | 0, _, _, _ => rfl
  | n + 1, h, L, hn => by
    have ih := popSt_len n h L (by omega)
    rw [popSt]
    have v1 := dv_ge (popSt n (h, L)).1 (b := (popSt n (h, L)).2.length) (by omega)
    have v2 := dv_lt (popSt n (h, L)).1 (b := (popSt n (h, L)).2.length) (by omega)
    show (List.eraseIdx _ _).length = _
    rw [List.length_eraseIdx, if_pos (by omega), ih]
    omega
theorem popped_ok : ∀ (n : Nat) (h : Hand) (L : List Int), n ≤ L.length → L.Nodup → (popped n (h, L)).Nodup ∧ ∀ x ∈ popped n (h, L), x ∈ L
  | 0, _, _, _, _ => ⟨.nil, fun x h => by cases h⟩
  | n + 1, h, L, hn, nd => by
    have v1 := dv_ge h (b := L.length) (by omega)
    have v2 := dv_lt h (b := L.length) (by omega)
    obtain ⟨i, hi⟩ : ∃ i, i = (dv h L.length).toNat := ⟨_, rfl⟩
    have hlt : i < L.length := by omega
    have hx : L.getD i 0 = L[i] := by rw [List.getD_eq_getElem?_getD, List.getElem?_eq_getElem hlt]; rfl
    obtain ⟨a, b⟩ := popped_ok n (dn h L.length) (L.eraseIdx i) (by rw [List.length_eraseIdx, if_pos hlt]; omega) (nd.sublist (List.eraseIdx_sublist L i))
    have hnm : L[i] ∉ L.eraseIdx i := fun q => by
      obtain ⟨j, hj⟩ := List.mem_iff_getElem?.mp q
      rw [List.getElem?_eraseIdx] at hj
      split at hj
      · rename_i h1
        have := (List.getElem?_inj (by omega) nd).mp (hj.trans (List.getElem?_eq_getElem hlt).symm)
        omega
      · rename_i h1
        have := (List.getElem?_inj (List.getElem?_eq_some_iff.mp hj).1 nd).mp (hj.trans (List.getElem?_eq_getElem hlt).symm)
        omega
    rw [popped, ← hi, hx]
    refine ⟨List.nodup_cons.mpr ⟨fun q => hnm (b _ q), a⟩, fun x hxm => ?_⟩
    rcases List.mem_cons.mp hxm with rfl | hxm
    · exact List.getElem_mem hlt
    · exact List.mem_of_mem_eraseIdx (b x hxm)
theorem pop_nat {C : Calls} {v : Nat} {i : E} {s s2 : Rf.Env} {ds : List D} {m : Nat} {d : D} (hv : s[v]? = some (.ow (.lst ds))) (hi : evalE C i s = .ok (.int m) s2) (hv2 : s2[v]? = some (.ow (.lst ds))) (hm : m < 2 ^ 62) (hd : ds[m]? = some d) :
    evalE C (.popAt v i) s = .ok d (s2.set v (.ow (.lst (ds.eraseIdx m)))) := by
  have ho : ownR s v = .ok ds s := by simp [ownR, hv]
  have ho2 : ownR s2 v = .ok ds s2 := by simp [ownR, hv2]
  have hx : L2.ixN ds.length (m : Int) = some m := ixN_nat (List.getElem?_eq_some_iff.mp hd).1
  have hb : (decide (-(2 ^ 62) ≤ (m : Int)) && decide ((m : Int) < 2 ^ 62)) = true := by
    rw [Bool.and_eq_true, decide_eq_true_eq, decide_eq_true_eq]
    omega
  rw [ev_popAt, ho]
  simp only [bnd_ok, bind_ok, hi, ho2]
  rw [if_pos hb]
  show (match L2.ixN ds.length (m : Int) with | some k => _ | none => _) = _
  rw [hx]
  show (match ds[m]? with | some d => _ | none => _) = _
  rw [hd]
theorem erase_map {α β : Type} (f : α → β) : ∀ (l : List α) (i : Nat), (l.map f).eraseIdx i = (l.eraseIdx i).map f
  | [], _ => rfl
  | _ :: _, 0 => rfl
  | a :: l, i + 1 => by simp [erase_map f l i]
theorem law_points_ok {C : Calls} (hC : At C 3) (h : Hand) {p : Int} (hp : 2 ≤ p) (hp2 : p ≤ 1000) {m : Nat} (hm : (m : Int) ≤ p - 1) : ∃ xs h', C.fn i__law_points [hd h, .int p, .int m] = .ok (.tup (xs.map .int)) [hd h'] ∧ Pts p xs ∧ xs.length = m := by
  obtain ⟨L, hL⟩ : ∃ L : List Int, L = (List.range (p - 1).toNat).map fun (i : Nat) => (1 : Int) + i := ⟨_, rfl⟩
  have lL : L.length = (p - 1).toNat := by rw [hL]; simp
  have nL : L.Nodup := by
    rw [hL, List.Nodup, List.pairwise_map]
    exact List.Pairwise.imp (fun {a b} h e => h (by omega)) (List.nodup_range (n := (p - 1).toNat))
  have mL : ∀ x ∈ L, 1 ≤ x ∧ x < p := fun x hx => by
    rw [hL] at hx
    obtain ⟨i, hi, rfl⟩ := List.mem_map.mp hx
    have := List.mem_range.mp hi
    omega
  have hml : m ≤ L.length := by omega
  obtain ⟨nd, sub⟩ := popped_ok m h L hml nL
  have fin : C.fn i__law_points [hd h, .int p, .int m] = .ok (.tup ((sortI (popped m (h, L))).map .int)) [hd (popSt m (h, L)).1] := by
    refine stepEh T__law_points rfl hC fun C hC => ?_
    have hr : evalI C (.rng2 (.cst (.int 1)) (.var 1)) [Sl.ow (hd h), .sh (.int p), .sh (.int m), .no, .no, .no] = .ok (L.map .int) [Sl.ow (hd h), .sh (.int p), .sh (.int m), .no, .no, .no] := by
      have : L.map D.int = rangeD 1 (p - 1).toNat := by rw [hL, Rf.range_map, List.map_map]; rfl
      rw [this]
      exact rng2_s (by simp [ss_nil, ss_cons, ev_cst, ev_var, ev_mov, ev_glob, ev_sh, ev_tup, ev_lst, ev_bin, ev_binv, ev_neg, ev_cmp, ev_cmpv, ev_chain, ev_and, ev_or, ev_not, ev_ite, ev_call, ev_p1, ev_p2, ev_isi, ev_sub, ev_subv, ev_slc, ev_slcv, ev_rev, ev_pop, ev_popAt, ev_dnew, ev_lrg, ev_idx, ex_asg, ex_par, ex_aug, ex_setI, ex_augI, ex_app, ex_ext, ex_expr, ex_ret, ex_retN, ex_pass, ex_brk, ex_cnt, ex_ifS, ex_raise, ex_forS, ex_whl, evalV, evalT, evalEs, evalA, evalA1, evalO, evalC, evalI, enterE, slotR, ownR, ownC, setD, readR, moveR, outs, mapM, isTys_cons, isFreshF, L2.ixN, fillA, putA, putP]) (by simp [ss_nil, ss_cons, ev_cst, ev_var, ev_mov, ev_glob, ev_sh, ev_tup, ev_lst, ev_bin, ev_binv, ev_neg, ev_cmp, ev_cmpv, ev_chain, ev_and, ev_or, ev_not, ev_ite, ev_call, ev_p1, ev_p2, ev_isi, ev_sub, ev_subv, ev_slc, ev_slcv, ev_rev, ev_pop, ev_popAt, ev_dnew, ev_lrg, ev_idx, ex_asg, ex_par, ex_aug, ex_setI, ex_augI, ex_app, ex_ext, ex_expr, ex_ret, ex_retN, ex_pass, ex_brk, ex_cnt, ex_ifS, ex_raise, ex_forS, ex_whl, evalV, evalT, evalEs, evalA, evalA1, evalO, evalC, evalI, enterE, slotR, ownR, ownC, setD, readR, moveR, outs, mapM, isTys_cons, isFreshF, L2.ixN, fillA, putA, putP]) (by omega) (by omega) (by omega) (by omega)
    have er : evalE C (.lrg false (.rng2 (.cst (.int 1)) (.var 1))) [Sl.ow (hd h), .sh (.int p), .sh (.int m), .no, .no, .no] = .ok (.lst (L.map .int)) [Sl.ow (hd h), .sh (.int p), .sh (.int m), .no, .no, .no] := by
      rw [ev_lrg, hr]
      simp [show L.length ≤ sizeLine from len_s (m := 1000) (by omega)]
    obtain ⟨r, s2, el, hI, hl, hpp⟩ := lc_run (C := C) (elt := lc__law_points_1_e) (tg := .nm 5) (it := lc__law_points_1_i) (cond := none) (own := [5]) (s := [Sl.ow (hd h), .sh (.int p), .sh (.int m), .ow (.lst (L.map .int)), .no, .no]) (s1 := [Sl.ow (hd h), .sh (.int p), .sh (.int m), .ow (.lst (L.map .int)), .no, .no]) (ds := rangeD 0 m)
      (fun i s => s = [Sl.ow (hd (popSt i (h, L)).1), .sh (.int p), .sh (.int m), .ow (.lst ((popSt i (h, L)).2.map .int)), .no, .no]) (fun i d => d = .int ((popSt i (h, L)).2.getD (dv (popSt i (h, L)).1 (popSt i (h, L)).2.length).toNat 0)) (rng1_s (by simp [ss_nil, ss_cons, ev_cst, ev_var, ev_mov, ev_glob, ev_sh, ev_tup, ev_lst, ev_bin, ev_binv, ev_neg, ev_cmp, ev_cmpv, ev_chain, ev_and, ev_or, ev_not, ev_ite, ev_call, ev_p1, ev_p2, ev_isi, ev_sub, ev_subv, ev_slc, ev_slcv, ev_rev, ev_pop, ev_popAt, ev_dnew, ev_lrg, ev_idx, ex_asg, ex_par, ex_aug, ex_setI, ex_augI, ex_app, ex_ext, ex_expr, ex_ret, ex_retN, ex_pass, ex_brk, ex_cnt, ex_ifS, ex_raise, ex_forS, ex_whl, evalV, evalT, evalEs, evalA, evalA1, evalO, evalC, evalI, enterE, slotR, ownR, ownC, setD, readR, moveR, outs, mapM, isTys_cons, isFreshF, L2.ixN, fillA, putA, putP]) (by omega)) rfl (fun i d hdd s hs => by
        obtain ⟨rfl, hi⟩ := range_at hdd
        have pl := popSt_len i h L (by omega)
        have hst : popSt (i + 1) (h, L) = (dn (popSt i (h, L)).1 (popSt i (h, L)).2.length, (popSt i (h, L)).2.eraseIdx (dv (popSt i (h, L)).1 (popSt i (h, L)).2.length).toNat) := rfl
        rw [hst, hs]
        generalize popSt i (h, L) = st at *
        obtain ⟨h1, L1⟩ := st
        simp only at pl ⊢
        have dd := draw_s hC.le h1 (b := L1.length) (by omega) (by omega)
        have v1 := dv_ge h1 (b := L1.length) (by omega)
        have v2 := dv_lt h1 (b := L1.length) (by omega)
        obtain ⟨j, hj⟩ := Int.eq_ofNat_of_zero_le v1
        rw [hj] at dd v2 ⊢
        rw [Int.toNat_natCast]
        have hget : (L1.map D.int)[j]? = some (.int (L1.getD j 0)) := by
          rw [List.getElem?_map, List.getElem?_eq_getElem (by omega), List.getD_eq_getElem?_getD, List.getElem?_eq_getElem (by omega)]; rfl
        have ep := pop_nat (C := C) (v := 3) (i := .call i__law_draw [.io 0, .e (.p1 .len (.vw 3))]) (s := [Sl.ow (hd h1), .sh (.int p), .sh (.int m), .ow (.lst (L1.map .int)), .no, .sh (.int (0 + i))]) (s2 := [Sl.ow (hd (dn h1 L1.length)), .sh (.int p), .sh (.int m), .ow (.lst (L1.map .int)), .no, .sh (.int (0 + i))]) rfl (by simp [ss_nil, ss_cons, ev_cst, ev_var, ev_mov, ev_glob, ev_sh, ev_tup, ev_lst, ev_bin, ev_binv, ev_neg, ev_cmp, ev_cmpv, ev_chain, ev_and, ev_or, ev_not, ev_ite, ev_call, ev_p1, ev_p2, ev_isi, ev_sub, ev_subv, ev_slc, ev_slcv, ev_rev, ev_pop, ev_popAt, ev_dnew, ev_lrg, ev_idx, ex_asg, ex_par, ex_aug, ex_setI, ex_augI, ex_app, ex_ext, ex_expr, ex_ret, ex_retN, ex_pass, ex_brk, ex_cnt, ex_ifS, ex_raise, ex_forS, ex_whl, evalV, evalT, evalEs, evalA, evalA1, evalO, evalC, evalI, enterE, slotR, ownR, ownC, setD, readR, moveR, outs, mapM, isTys_cons, isFreshF, L2.ixN, fillA, putA, putP, dd]) rfl (by omega) hget
        rw [erase_map] at ep
        generalize (L1.eraseIdx j).map D.int = L2 at *
        generalize L1.getD j 0 = g at *
        simp at ep
        simp [turn_w, lc__law_points_1_e, ss_nil, ss_cons, wipeE, evalC, ep]) (by rw [range_len]; exact len_s (m := 1000) (by omega))
    have el : evalE C lc__law_points_1 _ = _ := el
    rw [range_len] at hl hI
    have hr2 : r = (popped m (h, L)).map .int := by
      refine List.ext_getElem? fun i => ?_
      rw [List.getElem?_map]
      by_cases hi : i < m
      · rw [popped_at m h L i hi]
        cases e : r[i]? with
        | none => rw [List.getElem?_eq_none_iff] at e; omega
        | some x => rw [hpp i x e]; rfl
      · rw [List.getElem?_eq_none (by omega), List.getElem?_eq_none (by rw [popped_len]; omega)]; rfl
    rw [hr2, hI] at el
    have es := p1_sorted_l (popped m (h, L))
    have mk : mkSl true (.lst (L.map .int)) = .ow (.lst (L.map .int)) := rfl
    simp [backE] at el
    refine ⟨?_⟩
    simp [f__law_points, b__law_points, ss_nil, ss_cons, ev_cst, ev_var, ev_mov, ev_glob, ev_sh, ev_tup, ev_lst, ev_bin, ev_binv, ev_neg, ev_cmp, ev_cmpv, ev_chain, ev_and, ev_or, ev_not, ev_ite, ev_call, ev_p1, ev_p2, ev_isi, ev_sub, ev_subv, ev_slc, ev_slcv, ev_rev, ev_pop, ev_popAt, ev_dnew, ev_lrg, ev_idx, ex_asg, ex_par, ex_aug, ex_setI, ex_augI, ex_app, ex_ext, ex_expr, ex_ret, ex_retN, ex_pass, ex_brk, ex_cnt, ex_ifS, ex_raise, ex_forS, ex_whl, evalV, evalT, evalEs, evalA, evalA1, evalO, evalC, evalI, enterE, slotR, ownR, ownC, setD, readR, moveR, outs, mapM, isTys_cons, isFreshF, L2.ixN, fillA, putA, putP, er, -ev_lrg, mk, el, es]
  refine ⟨_, _, fin, ⟨sortI_lt nd, fun x hx => mL x (sub x ((sortI_perm _).mem_iff.mp hx))⟩, ?_⟩
  rw [(sortI_perm _).length_eq, popped_len]
theorem cut_n {α : Type} (ds : List α) (n : Nat) : cut ds none (some (n : Int)) = ds.take n := by
  unfold cut
  rw [show HT.sIx ds.length 0 none = 0 from rfl, HT.sIx_nat]
  simp
def primesE : E := .lst (primes.map fun p => E.cst (.int p))
theorem primesE_ok {C : Calls} (s : Rf.Env) : evalE C primesE s = .ok (.lst (primes.map .int)) s := rfl
def b_prime : List Rf.St := [.asg (.nm 2) (.sh primesE), .asg (.nm 3) (.sh lc__law_prime_1),
  .ret (.call i__law_some [.io 0, .e (.lst [(.call i__law_some [.io 0, .e (.var 3)]), (.call i__law_some [.io 0, .e (.slcv 3 none (some (.cst (.int 3))))]), (.subv 3 (.cst (.int 0)))])])]
theorem b_prime_eq : b__law_prime = b_prime := rfl
theorem law_prime_ok {C : Calls} (hC : At C 4) (h : Hand) {least : Int} (hle : least ≤ 101) : ∃ p h', C.fn i__law_prime [hd h, .int least] = .ok (.int p) [hd h'] ∧ p ∈ primes ∧ least ≤ p := by
  have key : (C.fn i__law_prime [hd h, .int least]).is fun d o => (∃ h', o = [hd h']) ∧ ∃ p, d = .int p ∧ p ∈ primes ∧ least ≤ p := by
    refine stepI T__law_prime rfl hC fun C hC => ?_
    obtain ⟨PL, hPL⟩ : ∃ PL, PL = primes.map D.int := ⟨_, rfl⟩
    have ePL : ∀ s, evalE C primesE s = .ok (.lst PL) s := fun s => by rw [hPL]; exact primesE_ok s
    obtain ⟨xs, hxs⟩ : ∃ xs, xs = primes.filter fun p => decide (least ≤ p) := ⟨_, rfl⟩
    have xm : ∀ x ∈ xs, x ∈ primes ∧ least ≤ x := fun x hx => by
      rw [hxs] at hx
      obtain ⟨a, b⟩ := List.mem_filter.mp hx
      exact ⟨a, by simpa using b⟩
    have xne : xs ≠ [] := fun e => by
      have : (101 : Int) ∈ xs := by rw [hxs]; exact List.mem_filter.mpr ⟨by decide, by simpa using hle⟩
      rw [e] at this
      cases this
    have xl : xs.length ≤ 1000 := by
      rw [hxs]
      exact Nat.le_trans (List.length_filter_le _ _) (by decide)
    have el : evalE C lc__law_prime_1 [Sl.ow (hd h), .sh (.int least), .sh (.lst PL), .no, .no] = .ok (.lst (xs.map .int)) [Sl.ow (hd h), .sh (.int least), .sh (.lst PL), .no, .no] := by
      rw [hPL, lc_if (s1 := [Sl.ow (hd h), .sh (.int least), .sh (.lst (primes.map .int)), .no, .no]) primes D.int (fun p => decide (least ≤ p)) D.int (by simp [lc__law_prime_1_i, ss_nil, ss_cons, ev_cst, ev_var, ev_mov, ev_glob, ev_sh, ev_tup, ev_lst, ev_bin, ev_binv, ev_neg, ev_cmp, ev_cmpv, ev_chain, ev_and, ev_or, ev_not, ev_ite, ev_call, ev_p1, ev_p2, ev_isi, ev_sub, ev_subv, ev_slc, ev_slcv, ev_rev, ev_pop, ev_popAt, ev_dnew, ev_lrg, ev_idx, ex_asg, ex_par, ex_aug, ex_setI, ex_augI, ex_app, ex_ext, ex_expr, ex_ret, ex_retN, ex_pass, ex_brk, ex_cnt, ex_ifS, ex_raise, ex_forS, ex_whl, evalV, evalT, evalEs, evalA, evalA1, evalO, evalC, evalI, enterE, slotR, ownR, ownC, setD, readR, moveR, outs, mapM, isTys_cons, isFreshF, L2.ixN, fillA, putA, putP]) (fun p _ => by
        by_cases hg : least ≤ p <;> simp [turn_w, lc__law_prime_1_e, lc__law_prime_1_c, ss_nil, ss_cons, ev_cst, ev_var, ev_mov, ev_glob, ev_sh, ev_tup, ev_lst, ev_bin, ev_binv, ev_neg, ev_cmp, ev_cmpv, ev_chain, ev_and, ev_or, ev_not, ev_ite, ev_call, ev_p1, ev_p2, ev_isi, ev_sub, ev_subv, ev_slc, ev_slcv, ev_rev, ev_pop, ev_popAt, ev_dnew, ev_lrg, ev_idx, ex_asg, ex_par, ex_aug, ex_setI, ex_augI, ex_app, ex_ext, ex_expr, ex_ret, ex_retN, ex_pass, ex_brk, ex_cnt, ex_ifS, ex_raise, ex_forS, ex_whl, evalV, evalT, evalEs, evalA, evalA1, evalO, evalC, evalI, enterE, slotR, ownR, ownC, setD, readR, moveR, outs, mapM, isTys_cons, isFreshF, L2.ixN, fillA, putA, putP, wipeE, hg]) (len_s (m := 1000) (by decide)), hxs]
      rfl
    have mk : mkSl false (.lst PL) = .sh (.lst PL) := rfl
    obtain ⟨a, ha, ea⟩ := some_ok hC.le h xne xl
    obtain ⟨x0, xr, hx0⟩ : ∃ x0 xr, xs = x0 :: xr := by
      cases xs with
      | nil => exact absurd rfl xne
      | cons a r => exact ⟨a, r, rfl⟩
    have xt : xs.take 3 ≠ [] := by rw [hx0]; simp
    obtain ⟨b, hb, eb⟩ := some_ok hC.le (dn h xs.length) xt (by rw [List.length_take]; omega)
    have hb : b ∈ xs := List.mem_of_mem_take hb
    have h0 : L2.atI (xs.map D.int) 0 = some (.int x0) := by
      show L2.atI (xs.map D.int) ((0 : Nat) : Int) = _
      rw [hx0]
      exact L2.atI_nat rfl
    have hc := cut_n (xs.map D.int) 3
    rw [← List.map_take] at hc
    generalize dn (dn h xs.length) (xs.take 3).length = h2 at *
    generalize dn h xs.length = h1 at *
    obtain ⟨c, hc2, ec⟩ := some_ok hC.le h2 (xs := [a, b, x0]) (by simp) (by simp)
    have hcx : c ∈ xs := by
      simp at hc2
      rcases hc2 with rfl | rfl | rfl
      · exact ha
      · exact hb
      · rw [hx0]; exact List.mem_cons_self
    have mx : mkSl false (.lst (xs.map .int)) = .sh (.lst (xs.map .int)) := rfl
    simp only [List.map_cons, List.map_nil] at ec
    have xm := xm c hcx
    generalize (xs.take 3).map D.int = X3 at *
    generalize xs.map D.int = X at *
    have s3 : slice (.lst X) none (some 3) = some (.lst X3) := by show some (D.lst (cut X none (some ((3 : Nat) : Int)))) = _; rw [hc]
    rw [show f__law_prime = ⟨2, 5, [0], false, b_prime⟩ from rfl]
    simp [b_prime, ss_nil, ss_cons, ev_cst, ev_var, ev_mov, ev_glob, ev_sh, ev_tup, ev_lst, ev_bin, ev_binv, ev_neg, ev_cmp, ev_cmpv, ev_chain, ev_and, ev_or, ev_not, ev_ite, ev_call, ev_p1, ev_p2, ev_isi, ev_sub, ev_subv, ev_slc, ev_slcv, ev_rev, ev_pop, ev_popAt, ev_dnew, ev_lrg, ev_idx, ex_asg, ex_par, ex_aug, ex_setI, ex_augI, ex_app, ex_ext, ex_expr, ex_ret, ex_retN, ex_pass, ex_brk, ex_cnt, ex_ifS, ex_raise, ex_forS, ex_whl, evalV, evalT, evalEs, evalA, evalA1, evalO, evalC, evalI, enterE, slotR, ownR, ownC, setD, readR, moveR, outs, mapM, isTys_cons, isFreshF, L2.ixN, fillA, putA, putP, ePL, mk, el, mx, ea, s3, eb, h0, ec]
    exact xm
  obtain ⟨d, o, e, ⟨h', rfl⟩, p, rfl, h1, h2⟩ := key.out
  exact ⟨p, h', e, h1, h2⟩

theorem check_fits_ok {C : Calls} (hC : At C 6) {p k : Int} (hp : p ∈ primes) (k1 : 1 ≤ k) (k2 : k ≤ 20) {ss : List (Int × Int)} (h : Shs p ss) (l2 : ss.length ≤ 1000) : C.fn i_check_fits [.int p, .int k, .tup (ss.map encS)] = .ok .non [] := by
  refine stepE T_check_fits rfl hC fun C hC => ?_
  have e1 := check_prime_ok (C := C) hC.le hp
  have e2 := check_threshold_ok (C := C) hC.le k1 k2
  have e3 := is_shares_ok (C := C) hC.le h l2
  simp [f_check_fits, b_check_fits, ss_nil, ss_cons, ev_cst, ev_var, ev_mov, ev_glob, ev_sh, ev_tup, ev_lst, ev_bin, ev_binv, ev_neg, ev_cmp, ev_cmpv, ev_chain, ev_and, ev_or, ev_not, ev_ite, ev_call, ev_p1, ev_p2, ev_isi, ev_sub, ev_subv, ev_slc, ev_slcv, ev_rev, ev_pop, ev_popAt, ev_dnew, ev_lrg, ev_idx, ex_asg, ex_par, ex_aug, ex_setI, ex_augI, ex_app, ex_ext, ex_expr, ex_ret, ex_retN, ex_pass, ex_brk, ex_cnt, ex_ifS, ex_raise, ex_forS, ex_whl, evalV, evalT, evalEs, evalA, evalA1, evalO, evalC, evalI, enterE, slotR, ownR, ownC, setD, readR, moveR, outs, mapM, isTys_cons, isFreshF, L2.ixN, fillA, putA, putP, e1, e2, e3]
theorem agreeing_ok {C : Calls} (hC : At C 3) {p : Int} (hp : 0 < p) (hp2 : p ≤ 1000) (row : List Int) {ss : List (Int × Int)} (l2 : ss.length ≤ 1000) :
    C.fn i_agreeing [.int p, .tup (row.map .int), .tup (ss.map encS)] = .ok (.int ((ss.filter fun s => vm p row s.1 == s.2).length : Nat)) [] := by
  refine stepE T_agreeing rfl hC fun C hC => ?_
  have el : evalE C lc_agreeing_1 [Sl.sh (.int p), .sh (.tup (row.map .int)), .sh (.tup (ss.map encS)), .no, .no] = .ok (.lst ((ss.filter fun s => vm p row s.1 == s.2).map fun s => .int s.1)) [Sl.sh (.int p), .sh (.tup (row.map .int)), .sh (.tup (ss.map encS)), .no, .no] := by
    rw [lc_if (s1 := [Sl.sh (.int p), .sh (.tup (row.map .int)), .sh (.tup (ss.map encS)), .no, .no]) ss encS (fun s => vm p row s.1 == s.2) (fun s => .int s.1) (by simp [lc_agreeing_1_i, ss_nil, ss_cons, ev_cst, ev_var, ev_mov, ev_glob, ev_sh, ev_tup, ev_lst, ev_bin, ev_binv, ev_neg, ev_cmp, ev_cmpv, ev_chain, ev_and, ev_or, ev_not, ev_ite, ev_call, ev_p1, ev_p2, ev_isi, ev_sub, ev_subv, ev_slc, ev_slcv, ev_rev, ev_pop, ev_popAt, ev_dnew, ev_lrg, ev_idx, ex_asg, ex_par, ex_aug, ex_setI, ex_augI, ex_app, ex_ext, ex_expr, ex_ret, ex_retN, ex_pass, ex_brk, ex_cnt, ex_ifS, ex_raise, ex_forS, ex_whl, evalV, evalT, evalEs, evalA, evalA1, evalO, evalC, evalI, enterE, slotR, ownR, ownC, setD, readR, moveR, outs, mapM, isTys_cons, isFreshF, L2.ixN, fillA, putA, putP]) (fun s _ => by
      have e := value_at_ok (C := C) hC.le hp (by omega) row s.1 (.inl rfl)
      by_cases hq : vm p row s.1 = s.2 <;> simp [turn_w, lc_agreeing_1_e, lc_agreeing_1_c, ss_nil, ss_cons, ev_cst, ev_var, ev_mov, ev_glob, ev_sh, ev_tup, ev_lst, ev_bin, ev_binv, ev_neg, ev_cmp, ev_cmpv, ev_chain, ev_and, ev_or, ev_not, ev_ite, ev_call, ev_p1, ev_p2, ev_isi, ev_sub, ev_subv, ev_slc, ev_slcv, ev_rev, ev_pop, ev_popAt, ev_dnew, ev_lrg, ev_idx, ex_asg, ex_par, ex_aug, ex_setI, ex_augI, ex_app, ex_ext, ex_expr, ex_ret, ex_retN, ex_pass, ex_brk, ex_cnt, ex_ifS, ex_raise, ex_forS, ex_whl, evalV, evalT, evalEs, evalA, evalA1, evalO, evalC, evalI, enterE, slotR, ownR, ownC, setD, readR, moveR, outs, mapM, isTys_cons, isFreshF, L2.ixN, fillA, putA, putP, encS, wipeE, e, hq]) (len_s (m := 1000) l2)]
    rfl
  simp [f_agreeing, b_agreeing, ss_nil, ss_cons, ev_cst, ev_var, ev_mov, ev_glob, ev_sh, ev_tup, ev_lst, ev_bin, ev_binv, ev_neg, ev_cmp, ev_cmpv, ev_chain, ev_and, ev_or, ev_not, ev_ite, ev_call, ev_p1, ev_p2, ev_isi, ev_sub, ev_subv, ev_slc, ev_slcv, ev_rev, ev_pop, ev_popAt, ev_dnew, ev_lrg, ev_idx, ex_asg, ex_par, ex_aug, ex_setI, ex_augI, ex_app, ex_ext, ex_expr, ex_ret, ex_retN, ex_pass, ex_brk, ex_cnt, ex_ifS, ex_raise, ex_forS, ex_whl, evalV, evalT, evalEs, evalA, evalA1, evalO, evalC, evalI, enterE, slotR, ownR, ownC, setD, readR, moveR, outs, mapM, isTys_cons, isFreshF, L2.ixN, fillA, putA, putP, el]
theorem bin_repL {ds : List D} {b : Int} (h1 : -(2 ^ 63) ≤ b) (h2 : b < 2 ^ 63) (h3 : ds.length * b.toNat ≤ sizeLine) : Rf.bin .mul (.lst ds) (.int b) = some (.lst (List.replicate b.toNat ds).flatten) := by
  unfold Rf.bin
  dsimp only
  rw [decide_eq_true h1, decide_eq_true h2, decide_eq_true h3]
  rfl
theorem prod_rep (p : Int) : ∀ n : Nat, (List.replicate n p).prod = p ^ n
  | 0 => by simp
  | n + 1 => by rw [List.replicate_succ, List.prod_cons, prod_rep p n, Int.pow_succ, Int.mul_comm]
theorem Shs.sub' {p : Int} {ss : List (Int × Int)} (h : Shs p ss) (k : Nat) : Shs p (ss.take k) where
  up := List.Pairwise.sublist ((List.take_sublist k ss).map _) h.up
  in_ := fun t ht => h.in_ t (List.mem_of_mem_take ht)
  val := fun t ht => h.val t (List.mem_of_mem_take ht)
theorem Shs.apart {p : Int} {ss : List (Int × Int)} (h : Shs p ss) : Apart p (ss.map (·.1)) :=
  apart_of (List.Pairwise.imp (fun {a b} h => by omega) h.up) fun x hx => by
    obtain ⟨s, hs, rfl⟩ := List.mem_map.mp hx
    have := h.in_ s hs
    omega
theorem shs_of {p : Int} (hp : 0 < p) {row xs : List Int} (h : Pts p xs) : Shs p (shOf p row xs) where
  up := by
    have : (shOf p row xs).map (·.1) = xs := by unfold shOf; rw [List.map_map]; exact List.map_id xs
    rw [this]
    exact h.up
  in_ := fun s hs => by
    obtain ⟨x, hx, rfl⟩ := List.mem_map.mp hs
    exact h.in_ x hx
  val := fun s hs => by
    obtain ⟨x, hx, rfl⟩ := List.mem_map.mp hs
    exact vm_in hp row x
/-- what fits tells -/
def fitN (p : Int) (k : Nat) (ss : List (Int × Int)) (secret : Int) : Int :=
  if ss.length < k then p ^ (k - 1 - ss.length) else if ((thru p (ss.take k)).getD 0 0 == secret && hasV p ss (thru p (ss.take k))) = true then 1 else 0
theorem all_len {α : Type} (q : α → Bool) : ∀ l : List α, ((l.filter q).length = l.length) ↔ (l.all q = true)
  | [] => by simp
  | a :: l => by
    have := all_len q l
    have le := List.length_filter_le q l
    cases h : q a <;> simp [h] <;> omega
theorem fits_ok {C : Calls} (hC : At C 7) {p : Int} {k : Nat} (hp : p ∈ primes) (k1 : 1 ≤ k) (k2 : k ≤ 20) {ss : List (Int × Int)} (h : Shs p ss) (l2 : ss.length ≤ 100) {secret : Int} (s0 : 0 ≤ secret) (s1 : secret < p) :
    C.fn i_fits [.int p, .int k, .tup (ss.map encS), .int secret] = .ok (.int (fitN p k ss secret)) [] := by
  refine stepEh T_fits rfl hC fun C hC => ?_
  obtain ⟨p2, p3⟩ := primes_2 hp
  have e1 := check_fits_ok (C := C) hC.le hp (k := k) (by omega) (by omega) h (by omega)
  have e2 := within_ok (C := C) hC.le secret 0 (p - 1)
  rw [decide_eq_true s0, decide_eq_true (show secret ≤ p - 1 by omega)] at e2
  by_cases hlt : ss.length < k
  · obtain ⟨n, hn⟩ := Int.eq_ofNat_of_zero_le (show 0 ≤ (k : Int) - 1 - ss.length by omega)
    have hn2 : k - 1 - ss.length = n := by omega
    have rep : Rf.bin .mul (.lst [.int p]) (.int n) = some (.lst ((List.replicate n p).map .int)) := by
      rw [bin_repL (by omega) (by omega) (by rw [List.length_singleton, Int.toNat_natCast, Nat.one_mul]; exact len_s (m := 20) (by omega)), Int.toNat_natCast, List.map_replicate]
      congr 2
      have : ∀ n : Nat, (List.replicate n [D.int p]).flatten = List.replicate n (D.int p) := fun n => by
        induction n with
        | zero => rfl
        | succ n ih => rw [List.replicate_succ, List.flatten_cons, ih, List.replicate_succ]; rfl
      rw [this]
    have pr := product_ok (C := C) hC.le (List.replicate n p) (fun x hx => by rw [(List.mem_replicate.mp hx).2]; omega) (.inl rfl)
    rw [prod_rep] at pr
    have fe : fitN p k ss secret = p ^ n := by unfold fitN; rw [if_pos hlt, hn2]
    rw [fe]
    generalize (List.replicate n p).map D.int = RP at *
    refine ⟨?_⟩
    simp [f_fits, b_fits, ss_nil, ss_cons, ev_cst, ev_var, ev_mov, ev_glob, ev_sh, ev_tup, ev_lst, ev_bin, ev_binv, ev_neg, ev_cmp, ev_cmpv, ev_chain, ev_and, ev_or, ev_not, ev_ite, ev_call, ev_p1, ev_p2, ev_isi, ev_sub, ev_subv, ev_slc, ev_slcv, ev_rev, ev_pop, ev_popAt, ev_dnew, ev_lrg, ev_idx, ex_asg, ex_par, ex_aug, ex_setI, ex_augI, ex_app, ex_ext, ex_expr, ex_ret, ex_retN, ex_pass, ex_brk, ex_cnt, ex_ifS, ex_raise, ex_forS, ex_whl, evalV, evalT, evalEs, evalA, evalA1, evalO, evalC, evalI, enterE, slotR, ownR, ownC, setD, readR, moveR, outs, mapM, isTys_cons, isFreshF, L2.ixN, fillA, putA, putP, e1, e2, show (ss.length : Int) < k by omega, hn, rep, pr]
  · have lk : (ss.take k).length = k := by rw [List.length_take]; omega
    have hk := h.sub' k
    have e4 := row_through_ok (C := C) hC.le hp hk.apart (fun s hs => by have := hk.in_ s hs; omega) hk.val (by omega)
    have n := newt_ok hp hk.apart
    have hl : (thru p (ss.take k)).length = k := n.lf.trans lk
    have hc := cut_n (ss.map encS) k
    rw [← List.map_take] at hc
    have e5 := agreeing_ok (C := C) hC.le (p := p) (by omega) (by omega) (thru p (ss.take k)) (ss := ss) (by omega)
    have g0 : L2.atI ((thru p (ss.take k)).map D.int) 0 = some (.int ((thru p (ss.take k)).getD 0 0)) := by
      cases ht : thru p (ss.take k) with
      | nil => rw [ht] at hl; simp at hl; omega
      | cons a r =>
        show L2.atI ((a :: r).map D.int) ((0 : Nat) : Int) = _
        exact L2.atI_nat rfl
    have al := all_len (fun s : Int × Int => vm p (thru p (ss.take k)) s.1 == s.2) ss
    have fe : fitN p k ss secret = if ((thru p (ss.take k)).getD 0 0 == secret && decide ((ss.filter fun s => vm p (thru p (ss.take k)) s.1 == s.2).length = ss.length)) = true then 1 else 0 := by
      unfold fitN
      rw [if_neg hlt]
      have : hasV p ss (thru p (ss.take k)) = decide ((ss.filter fun s => vm p (thru p (ss.take k)) s.1 == s.2).length = ss.length) := by
        rw [Bool.eq_iff_iff, decide_eq_true_eq]
        exact al.symm
      rw [this]
    rw [fe]
    clear al fe n
    have lenS : (p1 .len (.tup (ss.map encS))) = some (.int ss.length) := by simp [p1]
    have hlt' : ¬ (ss.length : Int) < k := by omega
    generalize (ss.filter fun s => vm p (thru p (ss.take k)) s.1 == s.2).length = c at *
    generalize (thru p (ss.take k)).getD 0 0 = r0 at *
    generalize (thru p (ss.take k)).map D.int = RT at *
    generalize (ss.take k).map encS = SK at *
    generalize hS : ss.map encS = SA at *
    generalize ss.length = N at *
    refine ⟨?_⟩
    have qi : ((c : Int) = (N : Int)) = (c = N) := propext (by omega)
    by_cases q0 : r0 = secret <;> by_cases qc : c = N <;> simp [f_fits, b_fits, ss_nil, ss_cons, ev_cst, ev_var, ev_mov, ev_glob, ev_sh, ev_tup, ev_lst, ev_bin, ev_binv, ev_neg, ev_cmp, ev_cmpv, ev_chain, ev_and, ev_or, ev_not, ev_ite, ev_call, ev_p1, ev_p2, ev_isi, ev_sub, ev_subv, ev_slc, ev_slcv, ev_rev, ev_pop, ev_popAt, ev_dnew, ev_lrg, ev_idx, ex_asg, ex_par, ex_aug, ex_setI, ex_augI, ex_app, ex_ext, ex_expr, ex_ret, ex_retN, ex_pass, ex_brk, ex_cnt, ex_ifS, ex_raise, ex_forS, ex_whl, evalV, evalT, evalEs, evalA, evalA1, evalO, evalC, evalI, enterE, slotR, ownR, ownC, setD, readR, moveR, outs, mapM, isTys_cons, isFreshF, L2.ixN, fillA, putA, putP, e1, e2, lenS, hlt', slice, hc, e4, g0, e5, q0, qi, qc]
def encR (r : List Int) : D := .tup (r.map .int)
theorem every_row_ok {C : Calls} (hC : At C 1) {p k : Nat} (hp : p ≤ 101) (small : ∀ j, j ≤ k → p ^ j ≤ 100000) (hk : k ≤ 100) : C.fn i__law_every_row [.int p, .int k] = .ok (.lst ((rowsE p k).map encR)) [] := by
  refine stepE T__law_every_row rfl hC fun C hC => ?_
  have hr : ∀ a b c d e : Sl, evalI C lp__law_every_row_1_i [Sl.sh (.int p), .sh (.int k), a, b, c, d, e] = .ok (rangeD 0 k) [Sl.sh (.int p), .sh (.int k), a, b, c, d, e] := fun a b c d e => rng1_s (by simp [ss_nil, ss_cons, ev_cst, ev_var, ev_mov, ev_glob, ev_sh, ev_tup, ev_lst, ev_bin, ev_binv, ev_neg, ev_cmp, ev_cmpv, ev_chain, ev_and, ev_or, ev_not, ev_ite, ev_call, ev_p1, ev_p2, ev_isi, ev_sub, ev_subv, ev_slc, ev_slcv, ev_rev, ev_pop, ev_popAt, ev_dnew, ev_lrg, ev_idx, ex_asg, ex_par, ex_aug, ex_setI, ex_augI, ex_app, ex_ext, ex_expr, ex_ret, ex_retN, ex_pass, ex_brk, ex_cnt, ex_ifS, ex_raise, ex_forS, ex_whl, evalV, evalT, evalEs, evalA, evalA1, evalO, evalC, evalI, enterE, slotR, ownR, ownC, setD, readR, moveR, outs, mapM, isTys_cons, isFreshF, L2.ixN, fillA, putA, putP]) (by omega)
  simp [f__law_every_row, b__law_every_row, ss_nil, ss_cons, ev_cst, ev_var, ev_mov, ev_glob, ev_sh, ev_tup, ev_lst, ev_bin, ev_binv, ev_neg, ev_cmp, ev_cmpv, ev_chain, ev_and, ev_or, ev_not, ev_ite, ev_call, ev_p1, ev_p2, ev_isi, ev_sub, ev_subv, ev_slc, ev_slcv, ev_rev, ev_pop, ev_popAt, ev_dnew, ev_lrg, ev_idx, ex_asg, ex_par, ex_aug, ex_setI, ex_augI, ex_app, ex_ext, ex_expr, ex_ret, ex_retN, ex_pass, ex_brk, ex_cnt, ex_ifS, ex_raise, ex_forS, ex_whl, evalV, evalT, evalEs, evalA, evalA1, evalO, evalC, evalI, enterE, slotR, ownR, ownC, setD, readR, moveR, outs, mapM, isTys_cons, isFreshF, L2.ixN, fillA, putA, putP, hr]
  refine is_for (fun i s => ∃ a b d, s = [Sl.sh (.int p), .sh (.int k), .sh (.lst ((rowsE p i).map encR)), a, b, d, .no]) (fun _ _ => False) ⟨.no, .no, .no, by simp [rowsE, encR]⟩ ?_ ?_ (fun _ _ h => h.elim)
  · rintro i d hd s ⟨a, b, d', rfl⟩
    obtain ⟨rfl, hi⟩ := range_at hd
    simp [forB_eq, lp__law_every_row_1_b, lp__law_every_row_2_i, ss_nil, ss_cons, ev_cst, ev_var, ev_mov, ev_glob, ev_sh, ev_tup, ev_lst, ev_bin, ev_binv, ev_neg, ev_cmp, ev_cmpv, ev_chain, ev_and, ev_or, ev_not, ev_ite, ev_call, ev_p1, ev_p2, ev_isi, ev_sub, ev_subv, ev_slc, ev_slcv, ev_rev, ev_pop, ev_popAt, ev_dnew, ev_lrg, ev_idx, ex_asg, ex_par, ex_aug, ex_setI, ex_augI, ex_app, ex_ext, ex_expr, ex_ret, ex_retN, ex_pass, ex_brk, ex_cnt, ex_ifS, ex_raise, ex_forS, ex_whl, evalV, evalT, evalEs, evalA, evalA1, evalO, evalC, evalI, enterE, slotR, ownR, ownC, setD, readR, moveR, outs, mapM, isTys_cons, isFreshF, L2.ixN, fillA, putA, putP]
    refine w_for (fun j s => ∃ d, s = [Sl.sh (.int p), .sh (.int k), .sh (.lst ((rowsE p i).map encR)), .sh (.int i), .ow (.lst ((((rowsE p i).take j).flatMap fun r => (List.range p).map fun (n : Nat) => r ++ [(n : Int)]).map encR)), d, .no]) (fun _ _ => False) ⟨d', by simp⟩ ?_ ?_ (fun _ _ h => h)
    · intro j d hd s hs
      apply Hid.out
      obtain ⟨d', rfl⟩ := hs
      rw [List.getElem?_map] at hd
      obtain ⟨r, hr, rfl⟩ := Option.map_eq_some_iff.mp hd
      have hrl := (rowsE_mem.mp (List.mem_of_getElem? hr)).1
      have cat : ∀ n : Int, Rf.bin .add (encR r) (.tup [.int n]) = some (encR (r ++ [n])) := fun n => by
        unfold encR
        rw [bin_catT (by rw [List.length_map, hrl]; exact len_s (m := 101) (by simp; omega))]
        simp
      have el : ∀ (a : Sl) (D0 : D), evalE C lc__law_every_row_1 [Sl.sh (.int p), .sh (.int k), a, .sh (.int i), .ow D0, .sh (encR r), .no] = .ok (.lst ((List.range p).map fun (n : Nat) => encR (r ++ [(n : Int)]))) [Sl.sh (.int p), .sh (.int k), a, .sh (.int i), .ow D0, .sh (encR r), .no] := fun a D0 => by
        rw [lc_it (s1 := [Sl.sh (.int p), .sh (.int k), a, .sh (.int i), .ow D0, .sh (encR r), .no]) (List.range p) (fun (n : Nat) => D.int n) (fun (n : Nat) => encR (r ++ [(n : Int)])) (by
          have := Rf.range_map 0 p
          simp only [Int.zero_add] at this
          rw [← this]
          exact rng1_s (by simp [ss_nil, ss_cons, ev_cst, ev_var, ev_mov, ev_glob, ev_sh, ev_tup, ev_lst, ev_bin, ev_binv, ev_neg, ev_cmp, ev_cmpv, ev_chain, ev_and, ev_or, ev_not, ev_ite, ev_call, ev_p1, ev_p2, ev_isi, ev_sub, ev_subv, ev_slc, ev_slcv, ev_rev, ev_pop, ev_popAt, ev_dnew, ev_lrg, ev_idx, ex_asg, ex_par, ex_aug, ex_setI, ex_augI, ex_app, ex_ext, ex_expr, ex_ret, ex_retN, ex_pass, ex_brk, ex_cnt, ex_ifS, ex_raise, ex_forS, ex_whl, evalV, evalT, evalEs, evalA, evalA1, evalO, evalC, evalI, enterE, slotR, ownR, ownC, setD, readR, moveR, outs, mapM, isTys_cons, isFreshF, L2.ixN, fillA, putA, putP]) (by omega)) (fun n hn => by simp [turn_w, lc__law_every_row_1_e, ss_nil, ss_cons, ev_cst, ev_var, ev_mov, ev_glob, ev_sh, ev_tup, ev_lst, ev_bin, ev_binv, ev_neg, ev_cmp, ev_cmpv, ev_chain, ev_and, ev_or, ev_not, ev_ite, ev_call, ev_p1, ev_p2, ev_isi, ev_sub, ev_subv, ev_slc, ev_slcv, ev_rev, ev_pop, ev_popAt, ev_dnew, ev_lrg, ev_idx, ex_asg, ex_par, ex_aug, ex_setI, ex_augI, ex_app, ex_ext, ex_expr, ex_ret, ex_retN, ex_pass, ex_brk, ex_cnt, ex_ifS, ex_raise, ex_forS, ex_whl, evalV, evalT, evalEs, evalA, evalA1, evalO, evalC, evalI, enterE, slotR, ownR, ownC, setD, readR, moveR, outs, mapM, isTys_cons, isFreshF, L2.ixN, fillA, putA, putP, wipeE, cat]) (by rw [List.length_range]; exact len_s (m := 101) (by omega))]
        rfl
      have ht : (rowsE p i).take (j + 1) = (rowsE p i).take j ++ [r] := by rw [List.take_add_one, hr]; rfl
      have hlen : (((rowsE p i).take j).flatMap fun r => (List.range p).map fun (n : Nat) => r ++ [(n : Int)]).length + p ≤ sizeLine := by
        have key : ∀ l : List (List Int), (l.flatMap fun r => (List.range p).map fun (n : Nat) => r ++ [(n : Int)]).length = l.length * p := by
          intro l
          induction l with
          | nil => simp
          | cons a l ih => rw [List.flatMap_cons, List.length_append, ih, List.length_map, List.length_range, List.length_cons, Nat.succ_mul]; omega
        rw [key, List.length_take, rowsE_len]
        have h1 : min j (p ^ i) * p ≤ p ^ i * p := Nat.mul_le_mul (Nat.min_le_right _ _) (Nat.le_refl _)
        have h2 := small (i + 1) (by omega)
        rw [Nat.pow_succ] at h2
        exact len_s (m := 200000) (by omega)
      rw [ht]
      generalize hW : (((rowsE p i).take j).flatMap fun r => (List.range p).map fun (n : Nat) => r ++ [(n : Int)]) = W at *
      have fm : ∀ (f : List Int → List (List Int)), [r].flatMap f = f r := fun f => by simp
      have mk : mkSl false (encR r) = .sh (encR r) := rfl
      refine ⟨?_⟩
      simp [forB_eq, lp__law_every_row_2_b, ss_nil, ss_cons, ev_cst, ev_var, ev_mov, ev_glob, ev_sh, ev_tup, ev_lst, ev_bin, ev_binv, ev_neg, ev_cmp, ev_cmpv, ev_chain, ev_and, ev_or, ev_not, ev_ite, ev_call, ev_p1, ev_p2, ev_isi, ev_sub, ev_subv, ev_slc, ev_slcv, ev_rev, ev_pop, ev_popAt, ev_dnew, ev_lrg, ev_idx, ex_asg, ex_par, ex_aug, ex_setI, ex_augI, ex_app, ex_ext, ex_expr, ex_ret, ex_retN, ex_pass, ex_brk, ex_cnt, ex_ifS, ex_raise, ex_forS, ex_whl, evalV, evalT, evalEs, evalA, evalA1, evalO, evalC, evalI, enterE, slotR, ownR, ownC, setD, readR, moveR, outs, mapM, isTys_cons, isFreshF, L2.ixN, fillA, putA, putP, mk, el, hlen, hW, fm, List.flatMap_append, List.map_append, List.map_map, Function.comp_def]
    · rw [List.length_map, List.take_length]
      rintro s ⟨d, rfl⟩
      simp [ss_nil, ss_cons, ev_cst, ev_var, ev_mov, ev_glob, ev_sh, ev_tup, ev_lst, ev_bin, ev_binv, ev_neg, ev_cmp, ev_cmpv, ev_chain, ev_and, ev_or, ev_not, ev_ite, ev_call, ev_p1, ev_p2, ev_isi, ev_sub, ev_subv, ev_slc, ev_slcv, ev_rev, ev_pop, ev_popAt, ev_dnew, ev_lrg, ev_idx, ex_asg, ex_par, ex_aug, ex_setI, ex_augI, ex_app, ex_ext, ex_expr, ex_ret, ex_retN, ex_pass, ex_brk, ex_cnt, ex_ifS, ex_raise, ex_forS, ex_whl, evalV, evalT, evalEs, evalA, evalA1, evalO, evalC, evalI, enterE, slotR, ownR, ownC, setD, readR, moveR, outs, mapM, isTys_cons, isFreshF, L2.ixN, fillA, putA, putP, rowsE]
  · rw [range_len]
    rintro s ⟨a, b, d, rfl⟩
    simp [ss_nil, ss_cons, ev_cst, ev_var, ev_mov, ev_glob, ev_sh, ev_tup, ev_lst, ev_bin, ev_binv, ev_neg, ev_cmp, ev_cmpv, ev_chain, ev_and, ev_or, ev_not, ev_ite, ev_call, ev_p1, ev_p2, ev_isi, ev_sub, ev_subv, ev_slc, ev_slcv, ev_rev, ev_pop, ev_popAt, ev_dnew, ev_lrg, ev_idx, ex_asg, ex_par, ex_aug, ex_setI, ex_augI, ex_app, ex_ext, ex_expr, ex_ret, ex_retN, ex_pass, ex_brk, ex_cnt, ex_ifS, ex_raise, ex_forS, ex_whl, evalV, evalT, evalEs, evalA, evalA1, evalO, evalC, evalI, enterE, slotR, ownR, ownC, setD, readR, moveR, outs, mapM, isTys_cons, isFreshF, L2.ixN, fillA, putA, putP]
theorem some_shares_ok {C : Calls} (hC : At C 8) (h : Hand) {p : Int} (hp : p ∈ primes) {k : Nat} (k1 : 1 ≤ k) (k2 : k ≤ 20) : ∃ (ss : List (Int × Int)) (h' : Hand), C.fn i__law_some_shares [hd h, .int p, .int k] = .ok (.tup (ss.map encS)) [hd h'] ∧ Shs p ss ∧ ss.length ≤ 20 := by
  have key : (C.fn i__law_some_shares [hd h, .int p, .int k]).is fun d o => (∃ h', o = [hd h']) ∧ ∃ ss : List (Int × Int), d = .tup (ss.map encS) ∧ Shs p ss ∧ ss.length ≤ 20 := by
    refine stepIh T__law_some_shares rfl hC fun C hC => ?_
    obtain ⟨p2, p3⟩ := primes_2 hp
    obtain ⟨b, hb⟩ : ∃ b, b = if (k : Int) + 3 < 20 then (k : Int) + 3 else 20 := ⟨_, rfl⟩
    have b1 : 4 ≤ b ∧ b ≤ 20 := by rw [hb]; constructor <;> split <;> omega
    have em : Rf.p2 .min (.int 20) (.int ((k : Int) + 3)) = some (.int b) := by rw [hb]; rfl
    have db := draw_s hC.le h (b := b) (by omega) (by omega)
    have v1 := dv_ge h (b := b) (by omega)
    have v2 := dv_lt h (b := b) (by omega)
    generalize dn h b = h1 at *
    generalize dv h b = v at *
    obtain ⟨many, hm⟩ := Int.eq_ofNat_of_zero_le (show 0 ≤ if v < p - 1 then v else p - 1 by split <;> omega)
    have m1 : (many : Int) ≤ p - 1 ∧ many ≤ 19 := by constructor <;> split at hm <;> omega
    have em2 : Rf.p2 .min (.int (p - 1)) (.int v) = some (.int many) := by rw [← hm]; rfl
    obtain ⟨row, h2, e2, hr, lr⟩ := law_row_ok hC.le h1 (show 0 < p by omega) (by omega) (k := k) (by omega)
    obtain ⟨xs, h3, e3, hx, lx⟩ := law_points_ok hC.le h2 (p := p) (by omega) (by omega) (m := many) m1.1
    have ed := law_dealt_ok (C := C) hC.le (show 0 < p by omega) (by omega) row xs (by omega)
    have d3 := draw_s hC.le h3 (b := 3) (by decide) (by decide)
    generalize dn h3 3 = h4 at *
    generalize dv h3 3 = kind at *
    have sx : (shOf p row xs).map (·.1) = xs := by unfold shOf; rw [List.map_map]; exact List.map_id xs
    have sv := (shs_of (show 0 < p by omega) (row := row) hx).val
    have sl : (shOf p row xs).length = many := by unfold shOf; rw [List.length_map]; exact lx
    generalize shOf p row xs = SS at *
    refine ⟨?_⟩
    simp [f__law_some_shares, b__law_some_shares, lp__law_some_shares_1_i, ss_nil, ss_cons, ev_cst, ev_var, ev_mov, ev_glob, ev_sh, ev_tup, ev_lst, ev_bin, ev_binv, ev_neg, ev_cmp, ev_cmpv, ev_chain, ev_and, ev_or, ev_not, ev_ite, ev_call, ev_p1, ev_p2, ev_isi, ev_sub, ev_subv, ev_slc, ev_slcv, ev_rev, ev_pop, ev_popAt, ev_dnew, ev_lrg, ev_idx, ex_asg, ex_par, ex_aug, ex_setI, ex_augI, ex_app, ex_ext, ex_expr, ex_ret, ex_retN, ex_pass, ex_brk, ex_cnt, ex_ifS, ex_raise, ex_forS, ex_whl, evalV, evalT, evalEs, evalA, evalA1, evalO, evalC, evalI, enterE, slotR, ownR, ownC, setD, readR, moveR, outs, mapM, isTys_cons, isFreshF, L2.ixN, fillA, putA, putP, em, db, em2, e2, e3, d3, ed]
    refine is_for (fun i s => ∃ (h : Hand) (L : List (Int × Int)) (a b : Sl), s = [Sl.ow (hd h), .sh (.int p), .sh (.int k), .sh (.int many), .sh (.tup (row.map .int)), .sh (.tup (xs.map .int)), .sh (.int kind), .ow (.lst (L.map encS)), a, b] ∧ L.map (·.1) = (SS.take i).map (·.1) ∧ (∀ t ∈ L, 0 ≤ t.2 ∧ t.2 < p)) (fun _ _ => False) ⟨h4, [], .no, .no, by simp⟩ ?_ ?_ (fun _ _ h => h.elim)
    · intro i d hdd s hs
      apply Hid.out
      obtain ⟨h, L, a, b, rfl, hL, hV⟩ := hs
      rw [List.getElem?_map] at hdd
      obtain ⟨⟨x, y⟩, hxy, rfl⟩ := Option.map_eq_some_iff.mp hdd
      have hy := sv _ (List.mem_of_getElem? hxy)
      have hlt := (List.getElem?_eq_some_iff.mp hxy).1
      have lL : L.length < sizeLine := by
        have := congrArg List.length hL
        simp at this
        exact len_l (m := 1000) (by omega)
      have nx : ∀ v : Int, 0 ≤ v ∧ v < p → (L ++ [(x, v)]).map (·.1) = (SS.take (i + 1)).map (·.1) ∧ ∀ t ∈ L ++ [(x, v)], 0 ≤ t.2 ∧ t.2 < p := fun v hv => by
        refine ⟨by rw [List.take_add_one, hxy, List.map_append, List.map_append, hL]; rfl, fun t ht => ?_⟩
        rcases List.mem_append.mp ht with ht | ht
        · exact hV t ht
        · rw [List.mem_singleton.mp ht]; exact hv
      have dp := draw_s hC.le h (b := p) (by omega) (by omega)
      have p1' := dv_ge h (b := p) (by omega)
      have p2' := dv_lt h (b := p) (by omega)
      have d4 := draw_s hC.le h (b := 4) (by decide) (by decide)
      have dq := draw_s hC.le (dn h 4) (b := p) (by omega) (by omega)
      have q1' := dv_ge (dn h 4) (b := p) (by omega)
      have q2' := dv_lt (dn h 4) (b := p) (by omega)
      have n1 := nx (dv h p) ⟨p1', p2'⟩
      have n2 := nx (dv (dn h 4) p) ⟨q1', q2'⟩
      have n3 := nx y hy
      simp only [List.map_append] at n1 n2 n3
      refine ⟨?_⟩
      by_cases c2 : kind = 2
      · simp [forB_eq, lp__law_some_shares_1_b, ss_nil, ss_cons, ev_cst, ev_var, ev_mov, ev_glob, ev_sh, ev_tup, ev_lst, ev_bin, ev_binv, ev_neg, ev_cmp, ev_cmpv, ev_chain, ev_and, ev_or, ev_not, ev_ite, ev_call, ev_p1, ev_p2, ev_isi, ev_sub, ev_subv, ev_slc, ev_slcv, ev_rev, ev_pop, ev_popAt, ev_dnew, ev_lrg, ev_idx, ex_asg, ex_par, ex_aug, ex_setI, ex_augI, ex_app, ex_ext, ex_expr, ex_ret, ex_retN, ex_pass, ex_brk, ex_cnt, ex_ifS, ex_raise, ex_forS, ex_whl, evalV, evalT, evalEs, evalA, evalA1, evalO, evalC, evalI, enterE, slotR, ownR, ownC, setD, readR, moveR, outs, mapM, isTys_cons, isFreshF, L2.ixN, fillA, putA, putP, encS, c2, dp, lL]
        exact ⟨_, L ++ [(x, dv h p)], ⟨rfl, by simp⟩, by simpa using n1⟩
      · by_cases c1 : kind = 1
        · by_cases c4 : dv h 4 = 0
          · simp [forB_eq, lp__law_some_shares_1_b, ss_nil, ss_cons, ev_cst, ev_var, ev_mov, ev_glob, ev_sh, ev_tup, ev_lst, ev_bin, ev_binv, ev_neg, ev_cmp, ev_cmpv, ev_chain, ev_and, ev_or, ev_not, ev_ite, ev_call, ev_p1, ev_p2, ev_isi, ev_sub, ev_subv, ev_slc, ev_slcv, ev_rev, ev_pop, ev_popAt, ev_dnew, ev_lrg, ev_idx, ex_asg, ex_par, ex_aug, ex_setI, ex_augI, ex_app, ex_ext, ex_expr, ex_ret, ex_retN, ex_pass, ex_brk, ex_cnt, ex_ifS, ex_raise, ex_forS, ex_whl, evalV, evalT, evalEs, evalA, evalA1, evalO, evalC, evalI, enterE, slotR, ownR, ownC, setD, readR, moveR, outs, mapM, isTys_cons, isFreshF, L2.ixN, fillA, putA, putP, encS, c2, c1, d4, c4, dq, lL]
            exact ⟨_, L ++ [(x, dv (dn h 4) p)], ⟨rfl, by simp⟩, by simpa using n2⟩
          · simp [forB_eq, lp__law_some_shares_1_b, ss_nil, ss_cons, ev_cst, ev_var, ev_mov, ev_glob, ev_sh, ev_tup, ev_lst, ev_bin, ev_binv, ev_neg, ev_cmp, ev_cmpv, ev_chain, ev_and, ev_or, ev_not, ev_ite, ev_call, ev_p1, ev_p2, ev_isi, ev_sub, ev_subv, ev_slc, ev_slcv, ev_rev, ev_pop, ev_popAt, ev_dnew, ev_lrg, ev_idx, ex_asg, ex_par, ex_aug, ex_setI, ex_augI, ex_app, ex_ext, ex_expr, ex_ret, ex_retN, ex_pass, ex_brk, ex_cnt, ex_ifS, ex_raise, ex_forS, ex_whl, evalV, evalT, evalEs, evalA, evalA1, evalO, evalC, evalI, enterE, slotR, ownR, ownC, setD, readR, moveR, outs, mapM, isTys_cons, isFreshF, L2.ixN, fillA, putA, putP, encS, c2, c1, d4, c4, lL]
            exact ⟨_, L ++ [(x, y)], ⟨rfl, by simp⟩, by simpa using n3⟩
        · simp [forB_eq, lp__law_some_shares_1_b, ss_nil, ss_cons, ev_cst, ev_var, ev_mov, ev_glob, ev_sh, ev_tup, ev_lst, ev_bin, ev_binv, ev_neg, ev_cmp, ev_cmpv, ev_chain, ev_and, ev_or, ev_not, ev_ite, ev_call, ev_p1, ev_p2, ev_isi, ev_sub, ev_subv, ev_slc, ev_slcv, ev_rev, ev_pop, ev_popAt, ev_dnew, ev_lrg, ev_idx, ex_asg, ex_par, ex_aug, ex_setI, ex_augI, ex_app, ex_ext, ex_expr, ex_ret, ex_retN, ex_pass, ex_brk, ex_cnt, ex_ifS, ex_raise, ex_forS, ex_whl, evalV, evalT, evalEs, evalA, evalA1, evalO, evalC, evalI, enterE, slotR, ownR, ownC, setD, readR, moveR, outs, mapM, isTys_cons, isFreshF, L2.ixN, fillA, putA, putP, encS, c2, c1, lL]
          exact ⟨_, L ++ [(x, y)], ⟨rfl, by simp⟩, by simpa using n3⟩
    · intro s hs
      apply Hid.out
      obtain ⟨h, L, a, b, rfl, hL, hV⟩ := hs
      rw [List.length_map, List.take_length, sx] at hL
      refine ⟨?_⟩
      have lL := congrArg List.length hL
      rw [List.length_map] at lL
      simp [ss_nil, ss_cons, ev_cst, ev_var, ev_mov, ev_glob, ev_sh, ev_tup, ev_lst, ev_bin, ev_binv, ev_neg, ev_cmp, ev_cmpv, ev_chain, ev_and, ev_or, ev_not, ev_ite, ev_call, ev_p1, ev_p2, ev_isi, ev_sub, ev_subv, ev_slc, ev_slcv, ev_rev, ev_pop, ev_popAt, ev_dnew, ev_lrg, ev_idx, ex_asg, ex_par, ex_aug, ex_setI, ex_augI, ex_app, ex_ext, ex_expr, ex_ret, ex_retN, ex_pass, ex_brk, ex_cnt, ex_ifS, ex_raise, ex_forS, ex_whl, evalV, evalT, evalEs, evalA, evalA1, evalO, evalC, evalI, enterE, slotR, ownR, ownC, setD, readR, moveR, outs, mapM, isTys_cons, isFreshF, L2.ixN, fillA, putA, putP]
      exact ⟨L, rfl, ⟨by rw [hL]; exact hx.up, fun t ht => hx.in_ t.1 (by rw [← hL]; exact List.mem_map.mpr ⟨t, ht, rfl⟩), hV⟩, by omega⟩
  obtain ⟨d, o, e, ⟨h', rfl⟩, ss, rfl, h1, h2⟩ := key.out
  exact ⟨ss, h', e, h1, h2⟩
/-! ### the secret as one more value -/
theorem through_vm {p : Int} (hp : p ∈ primes) {ss : List (Int × Int)} (nd : (ss.map (·.1)).Nodup) (h : ∀ s ∈ ss, 0 ≤ s.1 ∧ s.1 < p) (hv : ∀ s ∈ ss, 0 ≤ s.2 ∧ s.2 < p) (x : Int) : through p ss x = vm p (thru p ss) x := by
  obtain ⟨p2, _⟩ := primes_in p hp
  have a := through_in (p := p) (by omega) ss x
  have b := vm_in (p := p) (by omega) (thru p ss) x
  exact ((through_thru hp nd h hv x).trans (vm_cg p _ x).symm).eq a.1 a.2 b.1 b.2
structure Kn (p : Int) (ss : List (Int × Int)) : Prop where
  nd : (ss.map (·.1)).Nodup
  in_ : ∀ s ∈ ss, 0 ≤ s.1 ∧ s.1 < p
  val : ∀ s ∈ ss, 0 ≤ s.2 ∧ s.2 < p
theorem Kn.sub {p : Int} {ss ts : List (Int × Int)} (h : Kn p ss) (s : ts.Sublist ss) : Kn p ts where
  nd := h.nd.sublist (s.map _)
  in_ := fun t ht => h.in_ t (s.subset ht)
  val := fun t ht => h.val t (s.subset ht)
theorem Kn.apart {p : Int} {ss : List (Int × Int)} (h : Kn p ss) : Apart p (ss.map (·.1)) := apart_of h.nd fun x hx => by
  obtain ⟨s, hs, rfl⟩ := List.mem_map.mp hx
  exact h.in_ s hs
theorem kn_of {p : Int} (hp : 0 < p) {ss : List (Int × Int)} (h : Shs p ss) {c : Int} (h0 : 0 ≤ c) (h1 : c < p) : Kn p ((0, c) :: ss) where
  nd := by
    rw [List.map_cons]
    refine List.nodup_cons.mpr ⟨fun q => ?_, List.Pairwise.imp (fun {a b} (h : a < b) => (by omega : a ≠ b)) h.up⟩
    obtain ⟨s, hs, e⟩ := List.mem_map.mp q
    have := h.in_ s hs
    have e : s.1 = 0 := e
    omega
  in_ := fun s hs => by
    rcases List.mem_cons.mp hs with rfl | hs
    · exact ⟨Int.le_refl _, hp⟩
    · have := h.in_ s hs; omega
  val := fun s hs => by
    rcases List.mem_cons.mp hs with rfl | hs
    · exact ⟨h0, h1⟩
    · exact h.val s hs
theorem hasV_cg {p : Int} (hp : 0 < p) {cs : List (Int × Int)} {r : List Int} (hv : ∀ s ∈ cs, 0 ≤ s.2 ∧ s.2 < p) : hasV p cs r = true ↔ ∀ s ∈ cs, Cg p (ev r s.1) s.2 := by
  unfold hasV
  rw [List.all_eq_true]
  constructor
  · intro h s hs
    have := h s hs
    rw [beq_iff_eq] at this
    exact (vm_cg p r s.1).symm.trans (Cg.of_eq this)
  · intro h s hs
    rw [beq_iff_eq]
    have a := vm_in hp r s.1
    have b := hv s hs
    exact ((vm_cg p r s.1).trans (h s hs)).eq a.1 a.2 b.1 b.2
/-- a row through k of the values that has all: it is the row through any k of them -/
theorem one_row {p : Int} (hp : p ∈ primes) {K A B : List (Int × Int)} (kn : Kn p K) (sa : A.Sublist K) (sb : B.Sublist K) (hl : A.length = B.length) (h : hasV p K (thru p A) = true) : thru p B = thru p A := by
  obtain ⟨p2, _⟩ := primes_in p hp
  have na := newt_ok hp (kn.sub sa).apart
  have v := (hasV_cg (by omega) kn.val).mp h
  exact thru_eq hp (kn.sub sb).apart (na.lf.trans hl) na.rf fun s hs => v s (sb.subset hs)
theorem one_row_iff {p : Int} (hp : p ∈ primes) {K A B : List (Int × Int)} (kn : Kn p K) (sa : A.Sublist K) (sb : B.Sublist K) (hl : A.length = B.length) : hasV p K (thru p A) = hasV p K (thru p B) := by
  rw [Bool.eq_iff_iff]
  constructor
  · intro h
    rw [one_row hp kn sa sb hl h]; exact h
  · intro h
    rw [one_row hp kn sb sa hl.symm h]; exact h
theorem hasV_self {p : Int} (hp : p ∈ primes) {A : List (Int × Int)} (kn : Kn p A) : hasV p A (thru p A) = true := by
  obtain ⟨p2, _⟩ := primes_in p hp
  exact (hasV_cg (by omega) kn.val).mpr (newt_ok hp kn.apart).at_
theorem vm_zero {p : Int} (hp : 0 < p) {f : List Int} (hf : Row' p f) : vm p f 0 = f.getD 0 0 := by
  cases f with
  | nil => rfl
  | cons c r =>
    have := hf c List.mem_cons_self
    show (vm p r 0 * 0 + c) % p = c
    rw [Int.mul_zero, Int.zero_add, Int.emod_eq_of_lt this.1 this.2]
/-- enough shares: fits tells whether some row has all values -/
theorem fit_known {p : Int} (hp : p ∈ primes) {k : Nat} (k1 : 1 ≤ k) {ss : List (Int × Int)} (h : Shs p ss) (hk : k ≤ ss.length) {c : Int} (h0 : 0 ≤ c) (h1 : c < p) : fitN p k ss c = if hasV p ((0, c) :: ss) (thru p (((0, c) :: ss).take k)) = true then 1 else 0 := by
  obtain ⟨p2, _⟩ := primes_in p hp
  have p0 : 0 < p := by omega
  have kn := kn_of p0 h h0 h1
  have sa : (ss.take k).Sublist ((0, c) :: ss) := (List.take_sublist k ss).trans (List.sublist_cons_self _ _)
  have sb : (((0, c) :: ss).take k).Sublist ((0, c) :: ss) := List.take_sublist _ _
  have hl : (ss.take k).length = (((0, c) :: ss).take k).length := by rw [List.length_take, List.length_take, List.length_cons]; omega
  have e := one_row_iff hp kn sa sb hl
  have rf : Row' p (thru p (ss.take k)) := (newt_ok hp (kn.sub sa).apart).rf
  have e2 : hasV p ((0, c) :: ss) (thru p (ss.take k)) = ((thru p (ss.take k)).getD 0 0 == c && hasV p ss (thru p (ss.take k))) := by
    rw [← vm_zero p0 rf]
    rfl
  unfold fitN
  rw [if_neg (by omega), ← e2, e]
/-! ### the law's parts -/
theorem head_at {r : List Int} (h : r ≠ []) : L2.atI (r.map D.int) 0 = some (.int (r.getD 0 0)) := by
  cases r with
  | nil => exact absurd rfl h
  | cons a r =>
    show L2.atI ((a :: r).map D.int) ((0 : Nat) : Int) = _
    exact L2.atI_nat rfl
theorem ev_head (f : List Int) : ev f 0 = f.getD 0 0 := by
  cases f with
  | nil => rfl
  | cons c r => simp [ev]
theorem known_one {p : Int} (hp : p ∈ primes) {k : Nat} {K : List (Int × Int)} (kn : Kn p K) (hk : k ≤ K.length) : (thru p (K.take k)).length = k ∧ Row' p (thru p (K.take k)) ∧ ∀ r : List Int, r.length = k → Row' p r → hasV p K r = true → r = thru p (K.take k) := by
  obtain ⟨p2, _⟩ := primes_in p hp
  have s : (K.take k).Sublist K := List.take_sublist _ _
  have ks := kn.sub s
  have n := newt_ok hp ks.apart
  have hl : (thru p (K.take k)).length = k := n.lf.trans (by rw [List.length_take]; omega)
  refine ⟨hl, n.rf, fun r h1 h2 h3 => (thru_eq hp ks.apart (h1.trans (hl.symm.trans n.lf)) h2 fun t ht => ?_).symm⟩
  exact (hasV_cg (by omega) kn.val).mp h3 t (s.subset ht)
theorem due_fit {p k : Nat} (hp : (p : Int) ∈ primes) (k1 : 1 ≤ k) {ss : List (Int × Int)} (h : Shs p ss) {c : Int} (c0 : 0 ≤ c) (c1 : c < p) :
    ((((rowsE p k).filter (hasV p ss)).filter fun r => decide (r.getD 0 0 = c)).length : Int) = fitN p k ss c := by
  obtain ⟨p2, _⟩ := primes_in _ hp
  have p0 : (0 : Int) < p := by omega
  have kn := kn_of p0 h c0 c1
  have e : ((rowsE p k).filter (hasV p ss)).filter (fun r => decide (r.getD 0 0 = c)) = (rowsE p k).filter (hasV p ((0, c) :: ss)) := by
    rw [List.filter_filter]
    refine List.filter_congr fun r hr => ?_
    obtain ⟨_, hr2⟩ := rowsE_mem.mp hr
    have e : hasV p ((0, c) :: ss) r = ((vm p r 0 == c) && hasV p ss r) := rfl
    rw [e, vm_zero p0 hr2]
    rfl
  rw [e]
  show ((cnt p k ((0, c) :: ss) : Nat) : Int) = _
  by_cases hlt : ss.length < k
  · rw [cnt_few hp _ k (by rw [List.length_cons]; omega) kn.apart kn.val]
    unfold fitN
    rw [if_pos hlt, List.length_cons, show k - (ss.length + 1) = k - 1 - ss.length by omega, Int.natCast_pow]
  · obtain ⟨a, b, d⟩ := known_one hp kn (k := k) (by rw [List.length_cons]; omega)
    rw [fit_known hp k1 h (by omega) c0 c1, cnt_many hp a b fun r hr hv => d r (rowsE_mem.mp hr).1 (rowsE_mem.mp hr).2 hv]
    split <;> rfl
theorem Shs.kn {p : Int} {ss : List (Int × Int)} (h : Shs p ss) : Kn p ss where
  nd := List.Pairwise.imp (fun {a b} (h : a < b) => (by omega : a ≠ b)) h.up
  in_ := fun s hs => by have := h.in_ s hs; omega
  val := h.val
theorem rows_many {p k : Nat} (hp : (p : Int) ∈ primes) {ss : List (Int × Int)} (h : Shs p ss) (hk : k ≤ ss.length) :
    (rowsE p k).filter (hasV p ss) = [] ∨ (rowsE p k).filter (hasV p ss) = [thru p (ss.take k)] := by
  obtain ⟨_, _, d⟩ := known_one hp h.kn hk
  have all : ∀ r ∈ (rowsE p k).filter (hasV p ss), r = thru p (ss.take k) := fun r hr => by
    obtain ⟨h1, h2⟩ := List.mem_filter.mp hr
    exact d r (rowsE_mem.mp h1).1 (rowsE_mem.mp h1).2 h2
  have nd := (rowsE_nodup p k).sublist (List.filter_sublist (p := hasV p ss))
  cases hf : (rowsE p k).filter (hasV p ss) with
  | nil => exact .inl rfl
  | cons a l =>
    right
    rw [hf] at all nd
    have ha := all a List.mem_cons_self
    cases l with
    | nil => rw [ha]
    | cons b l =>
      have hb := all b (List.mem_cons_of_mem _ List.mem_cons_self)
      exact absurd (List.mem_cons.mpr (.inl (ha.trans hb.symm))) (List.nodup_cons.mp nd).1
/-- a one at one place -/
def ind (n : Nat) (t : Int) : List Int := (List.range n).map fun (s : Nat) => if t = s then 1 else 0
theorem ind_sum : ∀ (n : Nat) (t : Int), 0 ≤ t → (ind n t).sum = if t < n then 1 else 0
  | 0, t, h => by
    rw [if_neg (by omega)]; rfl
  | n + 1, t, h => by
    have ih := ind_sum n t h
    have e : ind (n + 1) t = ind n t ++ [if t = (n : Nat) then 1 else 0] := by
      unfold ind
      rw [List.range_succ, List.map_append]
      rfl
    rw [e, List.sum_append, ih]
    simp only [List.sum_cons, List.sum_nil]
    split <;> split <;> split <;> omega
theorem ind_idx {n : Nat} {t : Int} (h0 : 0 ≤ t) (h1 : t < n) : (ind n t).findIdx? (fun b => decide (b = 1)) = some t.toNat := by
  rw [List.findIdx?_eq_some_iff_getElem]
  refine ⟨by simp [ind]; omega, by simp [ind]; omega, fun j hj => ?_⟩
  simp [ind]
  omega
theorem eqds_ints : ∀ l : List Int, eqds (l.map .int) (l.map .int) = true
  | [] => rfl
  | a :: l => by simp [eqds, eqd, eqds_ints l]
theorem deps_ints : ∀ l : List Int, deps (l.map .int) = 0
  | [] => rfl
  | a :: l => by simp [deps, dep, deps_ints l]
theorem plains_ints : ∀ l : List Int, plains (l.map .int) = true
  | [] => rfl
  | a :: l => by simp [plains, Rf.plain, plains_ints l]
theorem cmp_ints (l : List Int) : cmp .eq (.lst (l.map .int)) (.lst (l.map .int)) = some true := by
  have h : cmpb (.lst (l.map .int)) = true := by
    unfold cmpb
    simp [Rf.plain, plains_ints, dep, deps_ints]
  show eqD _ _ = _
  unfold eqD
  rw [h]
  simp [eqd, eqds_ints]
theorem sms_ints : ∀ l : List Int, sms (l.map .int) = true
  | [] => rfl
  | a :: l => by simp [sms, sm, sms_ints l]
theorem is_ints {C : Calls} (hC : At C 2) {l : List Int} (h : l.length ≤ 1000000) : C.fn i__law_is [.lst (l.map .int), .lst (l.map .int)] = .ok (.bl true) [] :=
  is_same 1 _ hC (by simp [dep, deps_ints]) (by simp [sm, sms_ints, h])
theorem is_int2 {C : Calls} (hC : At C 1) (a : Int) : C.fn i__law_is [.int a, .int a] = .ok (.bl true) [] := is_same 0 _ hC (by simp [dep]) (by simp [sm])
def menu : List D := [.tup [.int 2, .int 1], .tup [.int 2, .int 4], .tup [.int 3, .int 1], .tup [.int 3, .int 3], .tup [.int 3, .int 4], .tup [.int 5, .int 2], .tup [.int 5, .int 3], .tup [.int 7, .int 1], .tup [.int 7, .int 2], .tup [.int 7, .int 3]]
theorem menu_in {d : D} (h : d ∈ menu) : ∃ p k : Nat, d = .tup [.int p, .int k] ∧ (p : Int) ∈ primes ∧ 1 ≤ k ∧ k ≤ 4 ∧ ∀ j, j ≤ k → p ^ j ≤ 100000 := by
  have key : ∀ (p k : Nat), 1 ≤ p → p ^ k ≤ 100000 → ∀ j, j ≤ k → p ^ j ≤ 100000 := fun p k hp h j hj => Nat.le_trans (Nat.pow_le_pow_right hp hj) h
  simp only [menu, List.mem_cons, List.not_mem_nil, or_false] at h
  rcases h with e | e | e | e | e | e | e | e | e | e
  · exact ⟨2, 1, e, by decide, by decide, by decide, key _ _ (by decide) (by decide)⟩
  · exact ⟨2, 4, e, by decide, by decide, by decide, key _ _ (by decide) (by decide)⟩
  · exact ⟨3, 1, e, by decide, by decide, by decide, key _ _ (by decide) (by decide)⟩
  · exact ⟨3, 3, e, by decide, by decide, by decide, key _ _ (by decide) (by decide)⟩
  · exact ⟨3, 4, e, by decide, by decide, by decide, key _ _ (by decide) (by decide)⟩
  · exact ⟨5, 2, e, by decide, by decide, by decide, key _ _ (by decide) (by decide)⟩
  · exact ⟨5, 3, e, by decide, by decide, by decide, key _ _ (by decide) (by decide)⟩
  · exact ⟨7, 1, e, by decide, by decide, by decide, key _ _ (by decide) (by decide)⟩
  · exact ⟨7, 2, e, by decide, by decide, by decide, key _ _ (by decide) (by decide)⟩
  · exact ⟨7, 3, e, by decide, by decide, by decide, key _ _ (by decide) (by decide)⟩
theorem small_ok {C : Calls} (hC : At C 9) (h : Hand) : ∃ h', C.fn i__law_small_right [hd h] = .ok (.bl true) [hd h'] := by
  have key : (C.fn i__law_small_right [hd h]).is fun d o => d = .bl true ∧ ∃ h', o = [hd h'] := by
    refine stepIh T__law_small_right rfl hC fun C hC => ?_
    have da := any_l hC.le h (ds := menu) (by simp [menu]) (by simp [menu])
    obtain ⟨p, k, hb, hp, k1, k4, small⟩ := menu_in (pick_mem h (ds := menu) (by simp [menu]))
    rw [hb] at da
    generalize dn h menu.length = h1 at *
    obtain ⟨p2, p3⟩ := primes_2 hp
    obtain ⟨ss, h2, es, hs, ls⟩ := some_shares_ok hC h1 hp k1 (by omega)
    have eR := every_row_ok (C := C) hC.le (p := p) (k := k) (by omega) small (by omega)
    have lR : (rowsE p k).length ≤ 100000 := by rw [rowsE_len]; exact small k (Nat.le_refl _)
    have mR : ∀ r ∈ rowsE p k, r ≠ [] := fun r hr e => by
      have := (rowsE_mem.mp hr).1
      rw [e] at this
      simp at this
      omega
    have dF : ∀ s : Nat, s < p → ((((rowsE p k).filter (hasV p ss)).filter fun r => decide (r.getD 0 0 = (s : Int))).length : Int) = fitN p k ss s := fun s hs' => due_fit hp k1 hs (by omega) (by omega)
    have el1 : ∀ a b c d e g i : Sl, evalE C lc__law_small_right_1 [Sl.ow (hd h2), .sh (.tup (ss.map encS)), a, b, c, .sh (.int p), .sh (.int k), .no, .no, .no, .no] = .ok (.lst (((rowsE p k).filter (hasV p ss)).map encR)) [Sl.ow (hd h2), .sh (.tup (ss.map encS)), a, b, c, .sh (.int p), .sh (.int k), .no, .no, .no, .no] := fun a b c d e g i => by
      rw [lc_if (s1 := [Sl.ow (hd h2), .sh (.tup (ss.map encS)), a, b, c, .sh (.int p), .sh (.int k), .no, .no, .no, .no]) (rowsE p k) encR (hasV p ss) encR (by simp [lc__law_small_right_1_i, ss_nil, ss_cons, ev_cst, ev_var, ev_mov, ev_glob, ev_sh, ev_tup, ev_lst, ev_bin, ev_binv, ev_neg, ev_cmp, ev_cmpv, ev_chain, ev_and, ev_or, ev_not, ev_ite, ev_call, ev_p1, ev_p2, ev_isi, ev_sub, ev_subv, ev_slc, ev_slcv, ev_rev, ev_pop, ev_popAt, ev_dnew, ev_lrg, ev_idx, ex_asg, ex_par, ex_aug, ex_setI, ex_augI, ex_app, ex_ext, ex_expr, ex_ret, ex_retN, ex_pass, ex_brk, ex_cnt, ex_ifS, ex_raise, ex_forS, ex_whl, evalV, evalT, evalEs, evalA, evalA1, evalO, evalC, evalI, enterE, slotR, ownR, ownC, setD, readR, moveR, outs, mapM, isTys_cons, isFreshF, L2.ixN, fillA, putA, putP, eR]) (fun r hr => by
        have el2 : evalE C lc__law_small_right_2 [Sl.ow (hd h2), .sh (.tup (ss.map encS)), a, b, c, .sh (.int p), .sh (.int k), .sh (encR r), .no, .no, .no] = .ok (.lst (ss.map fun s => .bl (vm p r s.1 == s.2))) [Sl.ow (hd h2), .sh (.tup (ss.map encS)), a, b, c, .sh (.int p), .sh (.int k), .sh (encR r), .no, .no, .no] := by
          rw [lc_it (s1 := [Sl.ow (hd h2), .sh (.tup (ss.map encS)), a, b, c, .sh (.int p), .sh (.int k), .sh (encR r), .no, .no, .no]) ss encS (fun s => .bl (vm p r s.1 == s.2)) (by simp [lc__law_small_right_2_i, ss_nil, ss_cons, ev_cst, ev_var, ev_mov, ev_glob, ev_sh, ev_tup, ev_lst, ev_bin, ev_binv, ev_neg, ev_cmp, ev_cmpv, ev_chain, ev_and, ev_or, ev_not, ev_ite, ev_call, ev_p1, ev_p2, ev_isi, ev_sub, ev_subv, ev_slc, ev_slcv, ev_rev, ev_pop, ev_popAt, ev_dnew, ev_lrg, ev_idx, ex_asg, ex_par, ex_aug, ex_setI, ex_augI, ex_app, ex_ext, ex_expr, ex_ret, ex_retN, ex_pass, ex_brk, ex_cnt, ex_ifS, ex_raise, ex_forS, ex_whl, evalV, evalT, evalEs, evalA, evalA1, evalO, evalC, evalI, enterE, slotR, ownR, ownC, setD, readR, moveR, outs, mapM, isTys_cons, isFreshF, L2.ixN, fillA, putA, putP]) (fun s _ => by
            have e := law_value_ok (C := C) hC.le (p := p) (by omega) (by omega) r s.1 (.inl rfl)
            rw [show D.tup (r.map .int) = encR r from rfl] at e
            simp [turn_w, lc__law_small_right_2_e, ss_nil, ss_cons, ev_cst, ev_var, ev_mov, ev_glob, ev_sh, ev_tup, ev_lst, ev_bin, ev_binv, ev_neg, ev_cmp, ev_cmpv, ev_chain, ev_and, ev_or, ev_not, ev_ite, ev_call, ev_p1, ev_p2, ev_isi, ev_sub, ev_subv, ev_slc, ev_slcv, ev_rev, ev_pop, ev_popAt, ev_dnew, ev_lrg, ev_idx, ex_asg, ex_par, ex_aug, ex_setI, ex_augI, ex_app, ex_ext, ex_expr, ex_ret, ex_retN, ex_pass, ex_brk, ex_cnt, ex_ifS, ex_raise, ex_forS, ex_whl, evalV, evalT, evalEs, evalA, evalA1, evalO, evalC, evalI, enterE, slotR, ownR, ownC, setD, readR, moveR, outs, mapM, isTys_cons, isFreshF, L2.ixN, fillA, putA, putP, encS, wipeE, e]
            rfl) (len_s (m := 1000) (by omega))]
          rfl
        have ea := p1_all_map (fun s : Int × Int => vm p r s.1 == s.2) ss
        have hv : (ss.all fun s => vm p r s.1 == s.2) = hasV p ss r := rfl
        rw [hv] at ea
        cases hq : hasV p ss r <;> rw [hq] at ea <;> simp [turn_w, lc__law_small_right_1_e, lc__law_small_right_1_c, ss_nil, ss_cons, ev_cst, ev_var, ev_mov, ev_glob, ev_sh, ev_tup, ev_lst, ev_bin, ev_binv, ev_neg, ev_cmp, ev_cmpv, ev_chain, ev_and, ev_or, ev_not, ev_ite, ev_call, ev_p1, ev_p2, ev_isi, ev_sub, ev_subv, ev_slc, ev_slcv, ev_rev, ev_pop, ev_popAt, ev_dnew, ev_lrg, ev_idx, ex_asg, ex_par, ex_aug, ex_setI, ex_augI, ex_app, ex_ext, ex_expr, ex_ret, ex_retN, ex_pass, ex_brk, ex_cnt, ex_ifS, ex_raise, ex_forS, ex_whl, evalV, evalT, evalEs, evalA, evalA1, evalO, evalC, evalI, enterE, slotR, ownR, ownC, setD, readR, moveR, outs, mapM, isTys_cons, isFreshF, L2.ixN, fillA, putA, putP, wipeE, el2, ea]) (len_s (m := 100000) lR)]
      rfl
    have many := rows_many (k := k) hp hs
    have lRF : ((rowsE p k).filter (hasV p ss)).length ≤ 100000 := Nat.le_trans (List.length_filter_le _ _) lR
    have mRF : ∀ r ∈ (rowsE p k).filter (hasV p ss), r ≠ [] := fun r hr => mR r (List.mem_filter.mp hr).1
    generalize (rowsE p k).filter (hasV p ss) = RF at *
    obtain ⟨due, hdue⟩ : ∃ due : List Int, due = (List.range p).map fun (s : Nat) => fitN p k ss s := ⟨_, rfl⟩
    have hdl : due.length = p := by rw [hdue]; simp
    have hdm : ((List.range p).map fun (n : Nat) => D.int (fitN p k ss n)) = due.map .int := by rw [hdue, List.map_map]; rfl
    have hrng : ∀ s : Rf.Env, (∀ (x : Rf.Env), s = x → evalE C (.var 5) s = .ok (.int p) s) → evalI C (.rng1 (.var 5)) s = .ok ((List.range p).map fun (n : Nat) => D.int n) s := fun s hs => by
      have := Rf.range_map 0 p
      simp only [Int.zero_add] at this
      rw [← this]
      exact rng1_s (hs s rfl) (by omega)
    have el3 : evalE C lc__law_small_right_3 [Sl.ow (hd h2), .sh (.tup (ss.map encS)), .sh (.lst (RF.map encR)), .no, .no, .sh (.int p), .sh (.int k), .no, .no, .no, .no] = .ok (.lst (due.map .int)) [Sl.ow (hd h2), .sh (.tup (ss.map encS)), .sh (.lst (RF.map encR)), .no, .no, .sh (.int p), .sh (.int k), .no, .no, .no, .no] := by
      rw [lc_it (it := lc__law_small_right_3_i) (s1 := [Sl.ow (hd h2), .sh (.tup (ss.map encS)), .sh (.lst (RF.map encR)), .no, .no, .sh (.int p), .sh (.int k), .no, .no, .no, .no]) (List.range p) (fun (n : Nat) => D.int n) (fun (n : Nat) => D.int (fitN p k ss n)) (hrng _ fun _ _ => by simp [ss_nil, ss_cons, ev_cst, ev_var, ev_mov, ev_glob, ev_sh, ev_tup, ev_lst, ev_bin, ev_binv, ev_neg, ev_cmp, ev_cmpv, ev_chain, ev_and, ev_or, ev_not, ev_ite, ev_call, ev_p1, ev_p2, ev_isi, ev_sub, ev_subv, ev_slc, ev_slcv, ev_rev, ev_pop, ev_popAt, ev_dnew, ev_lrg, ev_idx, ex_asg, ex_par, ex_aug, ex_setI, ex_augI, ex_app, ex_ext, ex_expr, ex_ret, ex_retN, ex_pass, ex_brk, ex_cnt, ex_ifS, ex_raise, ex_forS, ex_whl, evalV, evalT, evalEs, evalA, evalA1, evalO, evalC, evalI, enterE, slotR, ownR, ownC, setD, readR, moveR, outs, mapM, isTys_cons, isFreshF, L2.ixN, fillA, putA, putP]) (fun s hs' => by
        have el4 : evalE C lc__law_small_right_4 [Sl.ow (hd h2), .sh (.tup (ss.map encS)), .sh (.lst (RF.map encR)), .no, .no, .sh (.int p), .sh (.int k), .no, .sh (.int s), .no, .no] = .ok (.lst ((RF.filter fun r => decide (r.getD 0 0 = (s : Int))).map encR)) [Sl.ow (hd h2), .sh (.tup (ss.map encS)), .sh (.lst (RF.map encR)), .no, .no, .sh (.int p), .sh (.int k), .no, .sh (.int s), .no, .no] := by
          rw [lc_if (s1 := [Sl.ow (hd h2), .sh (.tup (ss.map encS)), .sh (.lst (RF.map encR)), .no, .no, .sh (.int p), .sh (.int k), .no, .sh (.int s), .no, .no]) RF encR (fun r => decide (r.getD 0 0 = (s : Int))) encR (by simp [lc__law_small_right_4_i, ss_nil, ss_cons, ev_cst, ev_var, ev_mov, ev_glob, ev_sh, ev_tup, ev_lst, ev_bin, ev_binv, ev_neg, ev_cmp, ev_cmpv, ev_chain, ev_and, ev_or, ev_not, ev_ite, ev_call, ev_p1, ev_p2, ev_isi, ev_sub, ev_subv, ev_slc, ev_slcv, ev_rev, ev_pop, ev_popAt, ev_dnew, ev_lrg, ev_idx, ex_asg, ex_par, ex_aug, ex_setI, ex_augI, ex_app, ex_ext, ex_expr, ex_ret, ex_retN, ex_pass, ex_brk, ex_cnt, ex_ifS, ex_raise, ex_forS, ex_whl, evalV, evalT, evalEs, evalA, evalA1, evalO, evalC, evalI, enterE, slotR, ownR, ownC, setD, readR, moveR, outs, mapM, isTys_cons, isFreshF, L2.ixN, fillA, putA, putP]) (fun r hr => by
            have h0 := head_at (mRF r hr)
            have er : encR r = .tup (r.map .int) := rfl
            generalize r.getD 0 0 = r0 at *
            by_cases hq : r0 = (s : Int) <;> simp [turn_w, lc__law_small_right_4_e, lc__law_small_right_4_c, ss_nil, ss_cons, ev_cst, ev_var, ev_mov, ev_glob, ev_sh, ev_tup, ev_lst, ev_bin, ev_binv, ev_neg, ev_cmp, ev_cmpv, ev_chain, ev_and, ev_or, ev_not, ev_ite, ev_call, ev_p1, ev_p2, ev_isi, ev_sub, ev_subv, ev_slc, ev_slcv, ev_rev, ev_pop, ev_popAt, ev_dnew, ev_lrg, ev_idx, ex_asg, ex_par, ex_aug, ex_setI, ex_augI, ex_app, ex_ext, ex_expr, ex_ret, ex_retN, ex_pass, ex_brk, ex_cnt, ex_ifS, ex_raise, ex_forS, ex_whl, evalV, evalT, evalEs, evalA, evalA1, evalO, evalC, evalI, enterE, slotR, ownR, ownC, setD, readR, moveR, outs, mapM, isTys_cons, isFreshF, L2.ixN, fillA, putA, putP, wipeE, er, h0, hq]) (len_s (m := 100000) lRF)]
          rfl
        have d := dF s (List.mem_range.mp hs')
        rw [← d]
        simp [turn_w, lc__law_small_right_3_e, ss_nil, ss_cons, ev_cst, ev_var, ev_mov, ev_glob, ev_sh, ev_tup, ev_lst, ev_bin, ev_binv, ev_neg, ev_cmp, ev_cmpv, ev_chain, ev_and, ev_or, ev_not, ev_ite, ev_call, ev_p1, ev_p2, ev_isi, ev_sub, ev_subv, ev_slc, ev_slcv, ev_rev, ev_pop, ev_popAt, ev_dnew, ev_lrg, ev_idx, ex_asg, ex_par, ex_aug, ex_setI, ex_augI, ex_app, ex_ext, ex_expr, ex_ret, ex_retN, ex_pass, ex_brk, ex_cnt, ex_ifS, ex_raise, ex_forS, ex_whl, evalV, evalT, evalEs, evalA, evalA1, evalO, evalC, evalI, enterE, slotR, ownR, ownC, setD, readR, moveR, outs, mapM, isTys_cons, isFreshF, L2.ixN, fillA, putA, putP, wipeE, el4]) (by rw [List.length_range]; exact len_s (m := 1000) (by omega)), hdm]
      rfl
    have ef : ∀ s : Nat, s < p → C.fn i_fits [.int p, .int k, .tup (ss.map encS), .int s] = .ok (.int (fitN p k ss s)) [] := fun s hs' => fits_ok (C := C) hC.le hp k1 (by omega) hs (by omega) (by omega) (by omega)
    have el5 : evalE C lc__law_small_right_5 [Sl.ow (hd h2), .sh (.tup (ss.map encS)), .sh (.lst (RF.map encR)), .sh (.lst (due.map .int)), .no, .sh (.int p), .sh (.int k), .no, .no, .no, .no] = .ok (.lst (due.map .int)) [Sl.ow (hd h2), .sh (.tup (ss.map encS)), .sh (.lst (RF.map encR)), .sh (.lst (due.map .int)), .no, .sh (.int p), .sh (.int k), .no, .no, .no, .no] := by
      rw [lc_it (it := lc__law_small_right_5_i) (s1 := [Sl.ow (hd h2), .sh (.tup (ss.map encS)), .sh (.lst (RF.map encR)), .sh (.lst (due.map .int)), .no, .sh (.int p), .sh (.int k), .no, .no, .no, .no]) (List.range p) (fun (n : Nat) => D.int n) (fun (n : Nat) => D.int (fitN p k ss n)) (hrng _ fun _ _ => by simp [ss_nil, ss_cons, ev_cst, ev_var, ev_mov, ev_glob, ev_sh, ev_tup, ev_lst, ev_bin, ev_binv, ev_neg, ev_cmp, ev_cmpv, ev_chain, ev_and, ev_or, ev_not, ev_ite, ev_call, ev_p1, ev_p2, ev_isi, ev_sub, ev_subv, ev_slc, ev_slcv, ev_rev, ev_pop, ev_popAt, ev_dnew, ev_lrg, ev_idx, ex_asg, ex_par, ex_aug, ex_setI, ex_augI, ex_app, ex_ext, ex_expr, ex_ret, ex_retN, ex_pass, ex_brk, ex_cnt, ex_ifS, ex_raise, ex_forS, ex_whl, evalV, evalT, evalEs, evalA, evalA1, evalO, evalC, evalI, enterE, slotR, ownR, ownC, setD, readR, moveR, outs, mapM, isTys_cons, isFreshF, L2.ixN, fillA, putA, putP]) (fun s hs' => by
        simp [turn_w, lc__law_small_right_5_e, ss_nil, ss_cons, ev_cst, ev_var, ev_mov, ev_glob, ev_sh, ev_tup, ev_lst, ev_bin, ev_binv, ev_neg, ev_cmp, ev_cmpv, ev_chain, ev_and, ev_or, ev_not, ev_ite, ev_call, ev_p1, ev_p2, ev_isi, ev_sub, ev_subv, ev_slc, ev_slcv, ev_rev, ev_pop, ev_popAt, ev_dnew, ev_lrg, ev_idx, ex_asg, ex_par, ex_aug, ex_setI, ex_augI, ex_app, ex_ext, ex_expr, ex_ret, ex_retN, ex_pass, ex_brk, ex_cnt, ex_ifS, ex_raise, ex_forS, ex_whl, evalV, evalT, evalEs, evalA, evalA1, evalO, evalC, evalI, enterE, slotR, ownR, ownC, setD, readR, moveR, outs, mapM, isTys_cons, isFreshF, L2.ixN, fillA, putA, putP, wipeE, ef s (List.mem_range.mp hs')]) (by rw [List.length_range]; exact len_s (m := 1000) (by omega))]
      rw [hdm]
      rfl
    have el6 : evalE C lc__law_small_right_6 [Sl.ow (hd h2), .sh (.tup (ss.map encS)), .sh (.lst (RF.map encR)), .sh (.lst (due.map .int)), .sh (.lst (due.map .int)), .sh (.int p), .sh (.int k), .no, .no, .no, .no] = .ok (.lst (due.map .int)) [Sl.ow (hd h2), .sh (.tup (ss.map encS)), .sh (.lst (RF.map encR)), .sh (.lst (due.map .int)), .sh (.lst (due.map .int)), .sh (.int p), .sh (.int k), .no, .no, .no, .no] := by
      rw [lc_it (it := lc__law_small_right_6_i) (s1 := [Sl.ow (hd h2), .sh (.tup (ss.map encS)), .sh (.lst (RF.map encR)), .sh (.lst (due.map .int)), .sh (.lst (due.map .int)), .sh (.int p), .sh (.int k), .no, .no, .no, .no]) (List.range p) (fun (n : Nat) => D.int n) (fun (n : Nat) => D.int (fitN p k ss n)) (hrng _ fun _ _ => by simp [ss_nil, ss_cons, ev_cst, ev_var, ev_mov, ev_glob, ev_sh, ev_tup, ev_lst, ev_bin, ev_binv, ev_neg, ev_cmp, ev_cmpv, ev_chain, ev_and, ev_or, ev_not, ev_ite, ev_call, ev_p1, ev_p2, ev_isi, ev_sub, ev_subv, ev_slc, ev_slcv, ev_rev, ev_pop, ev_popAt, ev_dnew, ev_lrg, ev_idx, ex_asg, ex_par, ex_aug, ex_setI, ex_augI, ex_app, ex_ext, ex_expr, ex_ret, ex_retN, ex_pass, ex_brk, ex_cnt, ex_ifS, ex_raise, ex_forS, ex_whl, evalV, evalT, evalEs, evalA, evalA1, evalO, evalC, evalI, enterE, slotR, ownR, ownC, setD, readR, moveR, outs, mapM, isTys_cons, isFreshF, L2.ixN, fillA, putA, putP]) (fun s hs' => by
        simp [turn_w, lc__law_small_right_6_e, ss_nil, ss_cons, ev_cst, ev_var, ev_mov, ev_glob, ev_sh, ev_tup, ev_lst, ev_bin, ev_binv, ev_neg, ev_cmp, ev_cmpv, ev_chain, ev_and, ev_or, ev_not, ev_ite, ev_call, ev_p1, ev_p2, ev_isi, ev_sub, ev_subv, ev_slc, ev_slcv, ev_rev, ev_pop, ev_popAt, ev_dnew, ev_lrg, ev_idx, ex_asg, ex_par, ex_aug, ex_setI, ex_augI, ex_app, ex_ext, ex_expr, ex_ret, ex_retN, ex_pass, ex_brk, ex_cnt, ex_ifS, ex_raise, ex_forS, ex_whl, evalV, evalT, evalEs, evalA, evalA1, evalO, evalC, evalI, enterE, slotR, ownR, ownC, setD, readR, moveR, outs, mapM, isTys_cons, isFreshF, L2.ixN, fillA, putA, putP, wipeE, ef s (List.mem_range.mp hs')]) (by rw [List.length_range]; exact len_s (m := 1000) (by omega))]
      rw [hdm]
      rfl
    have ei := is_ints (C := C) hC.le (l := due) (by omega)
    have lenS : (p1 .len (.tup (ss.map encS))) = some (.int ss.length) := by simp [p1]
    have eS := p1_sum_l due
    have mk : mkSl false (.lst (RF.map encR)) = .sh (.lst (RF.map encR)) := rfl
    have mk2 : mkSl false (.lst (due.map .int)) = .sh (.lst (due.map .int)) := rfl
    have el1 := el1 .no .no .no .no .no .no .no
    have hMenu : ([.tup [.int 2, .int 1], .tup [.int 2, .int 4], .tup [.int 3, .int 1], .tup [.int 3, .int 3], .tup [.int 3, .int 4], .tup [.int 5, .int 2], .tup [.int 5, .int 3], .tup [.int 7, .int 1], .tup [.int 7, .int 2], .tup [.int 7, .int 3]] : List D) = menu := rfl
    by_cases hlt : ss.length < k
    · obtain ⟨c, hc⟩ : ∃ c : Int, c = (p : Int) ^ (k - 1 - ss.length) := ⟨_, rfl⟩
      have hrep : due = List.replicate p c := by
        rw [hdue, List.eq_replicate_iff]
        refine ⟨by simp, fun b hb => ?_⟩
        obtain ⟨s, _, rfl⟩ := List.mem_map.mp hb
        unfold fitN
        rw [if_pos hlt, hc]
      have h0 : L2.atI (due.map D.int) 0 = some (.int c) := by
        have := head_at (r := due) (fun e => by rw [e] at hdl; simp at hdl; omega)
        rw [this, hrep]
        obtain ⟨q, rfl⟩ : ∃ q, p = q + 1 := ⟨p - 1, by omega⟩
        rfl
      have er : Rf.bin .mul (.lst [.int c]) (.int p) = some (.lst (due.map .int)) := by
        rw [bin_repL (by omega) (by omega) (by rw [List.length_singleton, Int.toNat_natCast, Nat.one_mul]; exact len_s (m := 1000) (by omega)), Int.toNat_natCast, hrep, List.map_replicate, Rf.flat_one]
      have ec := cmp_ints due
      have hlt' : (ss.length : Int) < k := by omega
      generalize due.map D.int = DU at *
      generalize ss.length = N at *
      generalize ss.map encS = SS at *
      generalize RF.map encR = RE at *
      refine ⟨?_⟩
      simp [f__law_small_right, b__law_small_right, ss_nil, ss_cons, ev_cst, ev_var, ev_mov, ev_glob, ev_sh, ev_tup, ev_lst, ev_bin, ev_binv, ev_neg, ev_cmp, ev_cmpv, ev_chain, ev_and, ev_or, ev_not, ev_ite, ev_call, ev_p1, ev_p2, ev_isi, ev_sub, ev_subv, ev_slc, ev_slcv, ev_rev, ev_pop, ev_popAt, ev_dnew, ev_lrg, ev_idx, ex_asg, ex_par, ex_aug, ex_setI, ex_augI, ex_app, ex_ext, ex_expr, ex_ret, ex_retN, ex_pass, ex_brk, ex_cnt, ex_ifS, ex_raise, ex_forS, ex_whl, evalV, evalT, evalEs, evalA, evalA1, evalO, evalC, evalI, enterE, slotR, ownR, ownC, setD, readR, moveR, outs, mapM, isTys_cons, isFreshF, L2.ixN, fillA, putA, putP, hMenu, da, es, el1, el3, el5, el6, ei, mk, mk2, lenS, hlt', h0, er, ec]
    · have hk : k ≤ ss.length := by omega
      have hlt' : ¬ (ss.length : Int) < k := by omega
      obtain ⟨t, ht⟩ : ∃ t, t = thru p (ss.take k) := ⟨_, rfl⟩
      obtain ⟨t1, t2, _⟩ := known_one hp hs.kn hk
      rw [← ht] at t1 t2
      have tne : t ≠ [] := fun e => by rw [e] at t1; simp at t1; omega
      have t0 : 0 ≤ t.getD 0 0 ∧ t.getD 0 0 < p := by
        cases t with
        | nil => exact absurd rfl tne
        | cons a r => exact t2 a List.mem_cons_self
      have dueF : due = (List.range p).map fun (s : Nat) => ((RF.filter fun r => decide (r.getD 0 0 = (s : Int))).length : Int) := by
        rw [hdue]
        exact List.map_congr_left fun s hs' => (dF s (List.mem_range.mp hs')).symm
      rcases many hk with hR | hR
      · have d0 : due.sum = 0 := by
          have : due = List.replicate p 0 := by
            rw [dueF, hR, List.eq_replicate_iff]
            exact ⟨by simp, fun b hb => by obtain ⟨s, _, rfl⟩ := List.mem_map.mp hb; rfl⟩
          rw [this]
          have z : ∀ n : Nat, (List.replicate n (0 : Int)).sum = 0 := fun n => by
            induction n with
            | zero => rfl
            | succ n ih => rw [List.replicate_succ, List.sum_cons, ih]; rfl
          exact z p
        rw [d0] at eS
        generalize due.map D.int = DU at *
        generalize ss.length = N at *
        generalize ss.map encS = SS at *
        generalize RF.map encR = RE at *
        refine ⟨?_⟩
        simp [f__law_small_right, b__law_small_right, ss_nil, ss_cons, ev_cst, ev_var, ev_mov, ev_glob, ev_sh, ev_tup, ev_lst, ev_bin, ev_binv, ev_neg, ev_cmp, ev_cmpv, ev_chain, ev_and, ev_or, ev_not, ev_ite, ev_call, ev_p1, ev_p2, ev_isi, ev_sub, ev_subv, ev_slc, ev_slcv, ev_rev, ev_pop, ev_popAt, ev_dnew, ev_lrg, ev_idx, ex_asg, ex_par, ex_aug, ex_setI, ex_augI, ex_app, ex_ext, ex_expr, ex_ret, ex_retN, ex_pass, ex_brk, ex_cnt, ex_ifS, ex_raise, ex_forS, ex_whl, evalV, evalT, evalEs, evalA, evalA1, evalO, evalC, evalI, enterE, slotR, ownR, ownC, setD, readR, moveR, outs, mapM, isTys_cons, isFreshF, L2.ixN, fillA, putA, putP, hMenu, da, es, el1, el3, el5, el6, ei, mk, mk2, lenS, hlt', eS]
      · have di : due = ind p (t.getD 0 0) := by
          rw [dueF, hR, ← ht]
          unfold ind
          refine List.map_congr_left fun s _ => ?_
          by_cases q : t.getD 0 0 = (s : Int)
          · rw [if_pos q, List.filter_cons, if_pos (by simpa using q)]; rfl
          · rw [if_neg q, List.filter_cons, if_neg (by simpa using q)]; rfl
        have ds := ind_sum p (t.getD 0 0) t0.1
        rw [← di, if_pos t0.2] at ds
        rw [ds] at eS
        have dx := ind_idx t0.1 t0.2
        rw [← di] at dx
        have ex : idxD (due.map .int) (.int 1) = some (.int (t.getD 0 0)) := by
          have hz : (due.map D.int).length ≤ sizeLine := by rw [List.length_map]; exact len_s (m := 1000) (by omega)
          unfold idxD
          dsimp only
          rw [if_pos hz, intsOf_map]
          simp only [Option.bind_some]
          rw [dx]
          simp only [Option.map_some]
          rw [show (((t.getD 0 0).toNat : Nat) : Int) = t.getD 0 0 from Int.toNat_of_nonneg t0.1]
        have lk : (ss.take k).length = k := by rw [List.length_take]; omega
        have ej := joined_ok (C := C) hC.le hp (hs.sub' k) (by omega) (by omega) (k := k) (by rw [lk])
        rw [← ht, ev_head] at ej
        have hc := cut_n (ss.map encS) k
        rw [← List.map_take] at hc
        have e2 := is_int2 (C := C) hC.le (t.getD 0 0)
        generalize t.getD 0 0 = r0 at *
        generalize (ss.take k).map encS = SK at *
        generalize due.map D.int = DU at *
        generalize ss.length = N at *
        generalize ss.map encS = SS at *
        generalize RF.map encR = RE at *
        refine ⟨?_⟩
        simp [f__law_small_right, b__law_small_right, ss_nil, ss_cons, ev_cst, ev_var, ev_mov, ev_glob, ev_sh, ev_tup, ev_lst, ev_bin, ev_binv, ev_neg, ev_cmp, ev_cmpv, ev_chain, ev_and, ev_or, ev_not, ev_ite, ev_call, ev_p1, ev_p2, ev_isi, ev_sub, ev_subv, ev_slc, ev_slcv, ev_rev, ev_pop, ev_popAt, ev_dnew, ev_lrg, ev_idx, ex_asg, ex_par, ex_aug, ex_setI, ex_augI, ex_app, ex_ext, ex_expr, ex_ret, ex_retN, ex_pass, ex_brk, ex_cnt, ex_ifS, ex_raise, ex_forS, ex_whl, evalV, evalT, evalEs, evalA, evalA1, evalO, evalC, evalI, enterE, slotR, ownR, ownC, setD, readR, moveR, outs, mapM, isTys_cons, isFreshF, L2.ixN, fillA, putA, putP, hMenu, da, es, el1, el3, el5, el6, ei, mk, mk2, lenS, hlt', eS, slice, hc, ej, ex, e2]
  obtain ⟨d, o, e, rfl, h', rfl⟩ := key.out
  exact ⟨h', e⟩
theorem known_all {p : Int} (hp : p ∈ primes) {k : Nat} {K : List (Int × Int)} (kn : Kn p K) : ((K.drop k).all fun s => through p (K.take k) s.1 == s.2) = hasV p K (thru p (K.take k)) := by
  have ks := kn.sub (List.take_sublist k K)
  have e : ∀ s : Int × Int, (through p (K.take k) s.1 == s.2) = (vm p (thru p (K.take k)) s.1 == s.2) := fun s => by rw [through_vm hp ks.nd ks.in_ ks.val]
  have h1 := hasV_self hp ks
  have h2 : hasV p K (thru p (K.take k)) = (hasV p (K.take k) (thru p (K.take k)) && hasV p (K.drop k) (thru p (K.take k))) := by
    unfold hasV
    rw [← List.all_append, List.take_append_drop]
  rw [h2, h1, Bool.true_and]
  unfold hasV
  congr 1
  funext s
  exact e s
theorem cut_from {α : Type} (ds : List α) (n : Nat) : cut ds (some (n : Int)) none = ds.drop n := by
  unfold cut
  rw [show HT.sIx ds.length ds.length none = ds.length from rfl, HT.sIx_nat]
  by_cases h : n ≤ ds.length
  · rw [Nat.min_eq_left h]
    exact List.take_of_length_le (by rw [List.length_drop]; omega)
  · rw [Nat.min_eq_right (by omega), List.drop_length, List.drop_eq_nil_of_le (by omega)]
    simp
theorem great_ok {C : Calls} (hC : At C 9) (h : Hand) : ∃ h', C.fn i__law_great_right [hd h] = .ok (.bl true) [hd h'] := by
  have key : (C.fn i__law_great_right [hd h]).is fun d o => d = .bl true ∧ ∃ h', o = [hd h'] := by
    refine stepIh T__law_great_right rfl hC fun C hC => ?_
    obtain ⟨p, h1, ep, hp, p11⟩ := law_prime_ok (C := C) hC.le h (least := 11) (by decide)
    obtain ⟨p2, p3⟩ := primes_2 hp
    have d20 := draw_s hC.le h1 (b := 20) (by decide) (by decide)
    have v1 := dv_ge h1 (b := 20) (by decide)
    have v2 := dv_lt h1 (b := 20) (by decide)
    generalize dn h1 20 = h2 at *
    obtain ⟨k, hk⟩ := Int.eq_ofNat_of_zero_le (show 0 ≤ 1 + dv h1 20 by omega)
    obtain ⟨ss, h3, es, hs, ls⟩ := some_shares_ok hC h2 hp (k := k) (by omega) (by omega)
    have dp := draw_s hC.le h3 (b := p) (by omega) (by omega)
    have w1 := dv_ge h3 (b := p) (by omega)
    have w2 := dv_lt h3 (b := p) (by omega)
    generalize dn h3 p = h4 at *
    have sk := hs.kn.sub (List.take_sublist k ss)
    have th := law_through_ok (C := C) hC.le hp sk.nd sk.in_ sk.val (x := 0) (by decide)
    have ti := through_in (show 0 < p by omega) (ss.take k) 0
    have hc := cut_n (ss.map encS) k
    rw [← List.map_take] at hc
    obtain ⟨c4, hc4⟩ : ∃ c4 : Int, c4 = if (k : Int) ≤ ss.length then through p (ss.take k) 0 else 1 := ⟨_, rfl⟩
    have c4i : 0 ≤ c4 ∧ c4 < p := by rw [hc4]; split <;> omega
    have lenS : (p1 .len (.tup (ss.map encS))) = some (.int ss.length) := by simp [p1]
    have hit : evalI C lp__law_great_right_1_i [Sl.ow (hd h3), .sh (.tup (ss.map encS)), .no, .sh (.int p), .sh (.int k), .no, .no, .no, .no] = .ok (([0, p - 1, dv h3 p, c4] : List Int).map .int) [Sl.ow (hd h4), .sh (.tup (ss.map encS)), .no, .sh (.int p), .sh (.int k), .no, .no, .no, .no] := by
      rw [hc4]
      generalize through p (ss.take k) 0 = th0 at *
      generalize (ss.take k).map encS = SK at *
      generalize ss.length = N at *
      by_cases q : (k : Int) ≤ N <;> simp [lp__law_great_right_1_i, ss_nil, ss_cons, ev_cst, ev_var, ev_mov, ev_glob, ev_sh, ev_tup, ev_lst, ev_bin, ev_binv, ev_neg, ev_cmp, ev_cmpv, ev_chain, ev_and, ev_or, ev_not, ev_ite, ev_call, ev_p1, ev_p2, ev_isi, ev_sub, ev_subv, ev_slc, ev_slcv, ev_rev, ev_pop, ev_popAt, ev_dnew, ev_lrg, ev_idx, ex_asg, ex_par, ex_aug, ex_setI, ex_augI, ex_app, ex_ext, ex_expr, ex_ret, ex_retN, ex_pass, ex_brk, ex_cnt, ex_ifS, ex_raise, ex_forS, ex_whl, evalV, evalT, evalEs, evalA, evalA1, evalO, evalC, evalI, enterE, slotR, ownR, ownC, setD, readR, moveR, outs, mapM, isTys_cons, isFreshF, L2.ixN, fillA, putA, putP, dp, lenS, q, slice, hc, th]
    have cs : ∀ c ∈ ([0, p - 1, dv h3 p, c4] : List Int), 0 ≤ c ∧ c < p := fun c hc => by
      simp only [List.mem_cons, List.not_mem_nil, or_false] at hc
      rcases hc with rfl | rfl | rfl | rfl <;> omega
    clear hc4
    generalize ([0, p - 1, dv h3 p, c4] : List Int) = CS at *
    refine ⟨?_⟩
    simp [f__law_great_right, b__law_great_right, ss_nil, ss_cons, ev_cst, ev_var, ev_mov, ev_glob, ev_sh, ev_tup, ev_lst, ev_bin, ev_binv, ev_neg, ev_cmp, ev_cmpv, ev_chain, ev_and, ev_or, ev_not, ev_ite, ev_call, ev_p1, ev_p2, ev_isi, ev_sub, ev_subv, ev_slc, ev_slcv, ev_rev, ev_pop, ev_popAt, ev_dnew, ev_lrg, ev_idx, ex_asg, ex_par, ex_aug, ex_setI, ex_augI, ex_app, ex_ext, ex_expr, ex_ret, ex_retN, ex_pass, ex_brk, ex_cnt, ex_ifS, ex_raise, ex_forS, ex_whl, evalV, evalT, evalEs, evalA, evalA1, evalO, evalC, evalI, enterE, slotR, ownR, ownC, setD, readR, moveR, outs, mapM, isTys_cons, isFreshF, L2.ixN, fillA, putA, putP, ep, d20, hk, es, hit]
    refine is_for (fun i s => ∃ a b c d e, s = [Sl.ow (hd h4), .sh (.tup (ss.map encS)), a, .sh (.int p), .sh (.int k), b, c, d, e]) (fun _ _ => False) ⟨_, _, _, _, _, rfl⟩ ?_ ?_ (fun _ _ h => h.elim)
    · intro i d hdd s hs'
      apply Hid.out
      obtain ⟨a, b, c', d', e', rfl⟩ := hs'
      rw [List.getElem?_map] at hdd
      obtain ⟨c, hcc, rfl⟩ := Option.map_eq_some_iff.mp hdd
      obtain ⟨c0, c1⟩ := cs c (List.mem_of_getElem? hcc)
      have kn := kn_of (show 0 < p by omega) hs c0 c1
      have ef := fits_ok (C := C) hC.le hp (k := k) (by omega) (by omega) hs (by omega) c0 c1
      have hK : Rf.bin .add (.tup [.tup [.int 0, .int c]]) (.tup (ss.map encS)) = some (.tup (((0, c) :: ss).map encS)) := bin_catT (by rw [List.length_map]; exact len_s (m := 1000) (by simp; omega))
      have lenK : (p1 .len (.tup (((0, c) :: ss).map encS))) = some (.int (ss.length + 1)) := by simp [p1]
      by_cases hlt : ss.length < k
      · obtain ⟨n, hn⟩ := Int.eq_ofNat_of_zero_le (show 0 ≤ (k : Int) - (ss.length + 1) by omega)
        have epw := power_ok (C := C) hC.le n (w := p) (by omega) (by omega)
        have fe : fitN p k ss c = p ^ n := by
          unfold fitN
          rw [if_pos hlt, show k - 1 - ss.length = n by omega]
        rw [fe] at ef
        have ei := is_int2 (C := C) hC.le (p ^ n)
        have q1 : (ss.length : Int) + 1 ≤ k := by omega
        have q2 : ¬ (k : Int) < ss.length + 1 := by omega
        generalize p ^ n = pn at *
        generalize ((0, c) :: ss).map encS = KS at *
        generalize ss.length = N at *
        generalize ss.map encS = SS at *
        refine ⟨?_⟩
        simp [forB_eq, lp__law_great_right_1_b, ss_nil, ss_cons, ev_cst, ev_var, ev_mov, ev_glob, ev_sh, ev_tup, ev_lst, ev_bin, ev_binv, ev_neg, ev_cmp, ev_cmpv, ev_chain, ev_and, ev_or, ev_not, ev_ite, ev_call, ev_p1, ev_p2, ev_isi, ev_sub, ev_subv, ev_slc, ev_slcv, ev_rev, ev_pop, ev_popAt, ev_dnew, ev_lrg, ev_idx, ex_asg, ex_par, ex_aug, ex_setI, ex_augI, ex_app, ex_ext, ex_expr, ex_ret, ex_retN, ex_pass, ex_brk, ex_cnt, ex_ifS, ex_raise, ex_forS, ex_whl, evalV, evalT, evalEs, evalA, evalA1, evalO, evalC, evalI, enterE, slotR, ownR, ownC, setD, readR, moveR, outs, mapM, isTys_cons, isFreshF, L2.ixN, fillA, putA, putP, hK, lenK, q1, q2, hn, epw, ef, ei]
      · have fe := fit_known hp (k := k) (by omega) hs (by omega) c0 c1
        rw [← known_all hp kn] at fe
        have sub := kn.sub (List.take_sublist k ((0, c) :: ss))
        have hc1 := cut_n (((0, c) :: ss).map encS) k
        have hc2 := cut_from (((0, c) :: ss).map encS) k
        rw [← List.map_take] at hc1
        rw [← List.map_drop] at hc2
        have el : ∀ a b : Sl, evalE C lc__law_great_right_1 [Sl.ow (hd h4), .sh (.tup (ss.map encS)), .sh (.int c), .sh (.int p), .sh (.int k), .sh (.tup (((0, c) :: ss).map encS)), .sh (.int 0), a, b] = .ok (.lst ((((0, c) :: ss).drop k).map fun s => .bl (through p (((0, c) :: ss).take k) s.1 == s.2))) (backE [Sl.ow (hd h4), .sh (.tup (ss.map encS)), .sh (.int c), .sh (.int p), .sh (.int k), .sh (.tup (((0, c) :: ss).map encS)), .sh (.int 0), a, b] (wipeE [Sl.ow (hd h4), .sh (.tup (ss.map encS)), .sh (.int c), .sh (.int p), .sh (.int k), .sh (.tup (((0, c) :: ss).map encS)), .sh (.int 0), a, b] [7, 8]) [7, 8]) := fun a b => by
          refine lc_it (s1 := [Sl.ow (hd h4), .sh (.tup (ss.map encS)), .sh (.int c), .sh (.int p), .sh (.int k), .sh (.tup (((0, c) :: ss).map encS)), .sh (.int 0), a, b]) (((0, c) :: ss).drop k) encS (fun s => .bl (through p (((0, c) :: ss).take k) s.1 == s.2)) ?_ (fun s hs' => ?_) ?_
          · generalize (((0, c) :: ss).drop k).map encS = KD at *
            generalize ((0, c) :: ss).map encS = KS at *
            simp [lc__law_great_right_1_i, ss_nil, ss_cons, ev_cst, ev_var, ev_mov, ev_glob, ev_sh, ev_tup, ev_lst, ev_bin, ev_binv, ev_neg, ev_cmp, ev_cmpv, ev_chain, ev_and, ev_or, ev_not, ev_ite, ev_call, ev_p1, ev_p2, ev_isi, ev_sub, ev_subv, ev_slc, ev_slcv, ev_rev, ev_pop, ev_popAt, ev_dnew, ev_lrg, ev_idx, ex_asg, ex_par, ex_aug, ex_setI, ex_augI, ex_app, ex_ext, ex_expr, ex_ret, ex_retN, ex_pass, ex_brk, ex_cnt, ex_ifS, ex_raise, ex_forS, ex_whl, evalV, evalT, evalEs, evalA, evalA1, evalO, evalC, evalI, enterE, slotR, ownR, ownC, setD, readR, moveR, outs, mapM, isTys_cons, isFreshF, L2.ixN, fillA, putA, putP, slice, hc2]
          · have si := kn.in_ s (List.mem_of_mem_drop hs')
            have et := law_through_ok (C := C) hC.le hp sub.nd sub.in_ sub.val (x := s.1) (by omega)
            generalize through p (((0, c) :: ss).take k) s.1 = tv at *
            generalize (((0, c) :: ss).take k).map encS = KT at *
            generalize ((0, c) :: ss).map encS = KS at *
            simp [turn_w, lc__law_great_right_1_e, ss_nil, ss_cons, ev_cst, ev_var, ev_mov, ev_glob, ev_sh, ev_tup, ev_lst, ev_bin, ev_binv, ev_neg, ev_cmp, ev_cmpv, ev_chain, ev_and, ev_or, ev_not, ev_ite, ev_call, ev_p1, ev_p2, ev_isi, ev_sub, ev_subv, ev_slc, ev_slcv, ev_rev, ev_pop, ev_popAt, ev_dnew, ev_lrg, ev_idx, ex_asg, ex_par, ex_aug, ex_setI, ex_augI, ex_app, ex_ext, ex_expr, ex_ret, ex_retN, ex_pass, ex_brk, ex_cnt, ex_ifS, ex_raise, ex_forS, ex_whl, evalV, evalT, evalEs, evalA, evalA1, evalO, evalC, evalI, enterE, slotR, ownR, ownC, setD, readR, moveR, outs, mapM, isTys_cons, isFreshF, L2.ixN, fillA, putA, putP, encS, wipeE, slice, hc1, et]
            rfl
          · rw [List.length_drop, List.length_cons]; exact len_s (m := 1000) (by omega)
        have ea := p1_all_map (fun s : Int × Int => through p (((0, c) :: ss).take k) s.1 == s.2) (((0, c) :: ss).drop k)
        have q1 : ¬ (ss.length : Int) + 1 ≤ k := by omega
        have q2 : (k : Int) < ss.length + 1 := by omega
        have ei := is_int2 (C := C) hC.le (fitN p k ss c)
        rw [fe] at ef ei
        generalize ((((0, c) :: ss).drop k).all fun s => through p (((0, c) :: ss).take k) s.1 == s.2) = bb at *
        generalize ((((0, c) :: ss).drop k).map fun s => D.bl (through p (((0, c) :: ss).take k) s.1 == s.2)) = AL at *
        clear hc1 hc2
        generalize ((0, c) :: ss).map encS = KS at *
        generalize ss.length = N at *
        generalize ss.map encS = SS at *
        refine ⟨?_⟩
        simp [wipeE, backE] at el
        cases bb <;> simp at ef ei <;> simp [forB_eq, lp__law_great_right_1_b, ss_nil, ss_cons, ev_cst, ev_var, ev_mov, ev_glob, ev_sh, ev_tup, ev_lst, ev_bin, ev_binv, ev_neg, ev_cmp, ev_cmpv, ev_chain, ev_and, ev_or, ev_not, ev_ite, ev_call, ev_p1, ev_p2, ev_isi, ev_sub, ev_subv, ev_slc, ev_slcv, ev_rev, ev_pop, ev_popAt, ev_dnew, ev_lrg, ev_idx, ex_asg, ex_par, ex_aug, ex_setI, ex_augI, ex_app, ex_ext, ex_expr, ex_ret, ex_retN, ex_pass, ex_brk, ex_cnt, ex_ifS, ex_raise, ex_forS, ex_whl, evalV, evalT, evalEs, evalA, evalA1, evalO, evalC, evalI, enterE, slotR, ownR, ownC, setD, readR, moveR, outs, mapM, isTys_cons, isFreshF, L2.ixN, fillA, putA, putP, hK, lenK, q1, q2, el, ea, ef, ei]
    · rintro s ⟨a, b, c, d, e, rfl⟩
      simp [ss_nil, ss_cons, ev_cst, ev_var, ev_mov, ev_glob, ev_sh, ev_tup, ev_lst, ev_bin, ev_binv, ev_neg, ev_cmp, ev_cmpv, ev_chain, ev_and, ev_or, ev_not, ev_ite, ev_call, ev_p1, ev_p2, ev_isi, ev_sub, ev_subv, ev_slc, ev_slcv, ev_rev, ev_pop, ev_popAt, ev_dnew, ev_lrg, ev_idx, ex_asg, ex_par, ex_aug, ex_setI, ex_augI, ex_app, ex_ext, ex_expr, ex_ret, ex_retN, ex_pass, ex_brk, ex_cnt, ex_ifS, ex_raise, ex_forS, ex_whl, evalV, evalT, evalEs, evalA, evalA1, evalO, evalC, evalI, enterE, slotR, ownR, ownC, setD, readR, moveR, outs, mapM, isTys_cons, isFreshF, L2.ixN, fillA, putA, putP]
  obtain ⟨d, o, e, rfl, h', rfl⟩ := key.out
  exact ⟨h', e⟩
theorem known_fit {C : Calls} (hC : At C 7) {p : Int} {k : Nat} (hp : p ∈ primes) (k1 : 1 ≤ k) (k2 : k ≤ 20) {ss : List (Int × Int)} (u : (ss.map (·.1)).Pairwise (· < ·)) (i : ∀ s ∈ ss, 1 ≤ s.1 ∧ s.1 < p) (v : ∀ s ∈ ss, 0 ≤ s.2 ∧ s.2 < p) (l2 : ss.length ≤ 100) {c r : Int} (s0 : 0 ≤ c) (s1 : c < p) (e : fitN p k ss c = r) :
    C.fn i_fits [.int p, .int k, .tup (ss.map encS), .int c] = .ok (.int r) [] := by
  rw [← e]
  exact fits_ok hC hp k1 k2 ⟨u, i, v⟩ l2 s0 s1
theorem known_ok {C : Calls} (hC : At C 9) : C.fn i__law_is_known [] = .ok (.bl true) [] := by
  refine stepEh T__law_is_known rfl hC fun C hC => ?_
  have m7 : (7 : Int) ∈ primes := by decide
  have m2 : (2 : Int) ∈ primes := by decide
  have k1 := known_fit (C := C) hC.le m7 (k := 2) (by decide) (by decide) (ss := []) (by decide) (by decide) (by decide) (by decide) (c := 3) (by decide) (by decide) (r := 7) (by decide +kernel)
  have k2 := known_fit (C := C) hC.le m7 (k := 2) (by decide) (by decide) (ss := [(1, 5)]) (by decide) (by decide) (by decide) (by decide) (c := 3) (by decide) (by decide) (r := 1) (by decide +kernel)
  have k3 := known_fit (C := C) hC.le m7 (k := 2) (by decide) (by decide) (ss := [(1, 5), (2, 0)]) (by decide) (by decide) (by decide) (by decide) (c := 3) (by decide) (by decide) (r := 1) (by decide +kernel)
  have k4 := known_fit (C := C) hC.le m7 (k := 2) (by decide) (by decide) (ss := [(1, 5), (2, 0)]) (by decide) (by decide) (by decide) (by decide) (c := 4) (by decide) (by decide) (r := 0) (by decide +kernel)
  have k5 := known_fit (C := C) hC.le m7 (k := 2) (by decide) (by decide) (ss := [(1, 5), (2, 0), (6, 1)]) (by decide) (by decide) (by decide) (by decide) (c := 3) (by decide) (by decide) (r := 1) (by decide +kernel)
  have k6 := known_fit (C := C) hC.le m7 (k := 2) (by decide) (by decide) (ss := [(1, 5), (2, 0), (6, 2)]) (by decide) (by decide) (by decide) (by decide) (c := 3) (by decide) (by decide) (r := 0) (by decide +kernel)
  have k7 := known_fit (C := C) hC.le m2 (k := 1) (by decide) (by decide) (ss := []) (by decide) (by decide) (by decide) (by decide) (c := 0) (by decide) (by decide) (r := 1) (by decide +kernel)
  have ei := is_ints (C := C) hC.le (l := [7, 1, 1, 0, 1, 0, 1]) (by decide)
  have c1 : ∀ a b : D, Rf.bin .add (.tup [a, b]) (.tup [.tup [.int 6, .int 1]]) = some (.tup [a, b, .tup [.int 6, .int 1]]) := fun a b => bin_catT (len_s (m := 10) (by simp))
  have c2 : ∀ a b : D, Rf.bin .add (.tup [a, b]) (.tup [.tup [.int 6, .int 2]]) = some (.tup [a, b, .tup [.int 6, .int 2]]) := fun a b => bin_catT (len_s (m := 10) (by simp))
  have c3 : ∀ a b c d e f g : D, Rf.bin .add (.lst [a, b, c, d]) (.lst [e, f, g]) = some (.lst [a, b, c, d, e, f, g]) := fun a b c d e f g => bin_catL (len_s (m := 10) (by simp))
  simp [encS] at k1 k2 k3 k4 k5 k6 k7 ei
  refine ⟨?_⟩
  simp [f__law_is_known, b__law_is_known, ss_nil, ss_cons, ev_cst, ev_var, ev_mov, ev_glob, ev_sh, ev_tup, ev_lst, ev_bin, ev_binv, ev_neg, ev_cmp, ev_cmpv, ev_chain, ev_and, ev_or, ev_not, ev_ite, ev_call, ev_p1, ev_p2, ev_isi, ev_sub, ev_subv, ev_slc, ev_slcv, ev_rev, ev_pop, ev_popAt, ev_dnew, ev_lrg, ev_idx, ex_asg, ex_par, ex_aug, ex_setI, ex_augI, ex_app, ex_ext, ex_expr, ex_ret, ex_retN, ex_pass, ex_brk, ex_cnt, ex_ifS, ex_raise, ex_forS, ex_whl, evalV, evalT, evalEs, evalA, evalA1, evalO, evalC, evalI, enterE, slotR, ownR, ownC, setD, readR, moveR, outs, mapM, isTys_cons, isFreshF, L2.ixN, fillA, putA, putP, k1, k2, k3, k4, k5, k6, k7, ei, c1, c2, c3]
theorem law_ok {C : Calls} (hC : At C 40) (ns : List Int) (hns : ns.length ≤ 63) : C.fn i_law [.scr ns] = .ok (.bl true) [] := by
  refine stepE T_law rfl hC fun C hC => ?_
  have eh := hand_ok (C := C) hC.le ns
  have hf := hand_fr hC
  have hr : ∀ s : Rf.Env, evalI C lp_law_1_i s = .ok (rangeD 0 3) s := fun s => rng1_s (n := 3) (by simp [ss_nil, ss_cons, ev_cst, ev_var, ev_mov, ev_glob, ev_sh, ev_tup, ev_lst, ev_bin, ev_binv, ev_neg, ev_cmp, ev_cmpv, ev_chain, ev_and, ev_or, ev_not, ev_ite, ev_call, ev_p1, ev_p2, ev_isi, ev_sub, ev_subv, ev_slc, ev_slcv, ev_rev, ev_pop, ev_popAt, ev_dnew, ev_lrg, ev_idx, ex_asg, ex_par, ex_aug, ex_setI, ex_augI, ex_app, ex_ext, ex_expr, ex_ret, ex_retN, ex_pass, ex_brk, ex_cnt, ex_ifS, ex_raise, ex_forS, ex_whl, evalV, evalT, evalEs, evalA, evalA1, evalO, evalC, evalI, enterE, slotR, ownR, ownC, setD, readR, moveR, outs, mapM, isTys_cons, isFreshF, L2.ixN, fillA, putA, putP]) (by decide)
  simp [f_law, b_law, ss_nil, ss_cons, ev_cst, ev_var, ev_mov, ev_glob, ev_sh, ev_tup, ev_lst, ev_bin, ev_binv, ev_neg, ev_cmp, ev_cmpv, ev_chain, ev_and, ev_or, ev_not, ev_ite, ev_call, ev_p1, ev_p2, ev_isi, ev_sub, ev_subv, ev_slc, ev_slcv, ev_rev, ev_pop, ev_popAt, ev_dnew, ev_lrg, ev_idx, ex_asg, ex_par, ex_aug, ex_setI, ex_augI, ex_app, ex_ext, ex_expr, ex_ret, ex_retN, ex_pass, ex_brk, ex_cnt, ex_ifS, ex_raise, ex_forS, ex_whl, evalV, evalT, evalEs, evalA, evalA1, evalO, evalC, evalI, enterE, slotR, ownR, ownC, setD, readR, moveR, outs, mapM, isTys_cons, isFreshF, L2.ixN, fillA, putA, putP, eh, hf, hr]
  refine is_for (fun i s => ∃ (h : Hand) (a : Sl), s = [Sl.sh (.scr ns), .ow (hd h), a]) (fun _ _ => False) ⟨_, _, rfl⟩ ?_ ?_ (fun _ _ h => h.elim)
  · rintro i d hdd s ⟨h, a, rfl⟩
    obtain ⟨h', e⟩ := small_ok (C := C) hC.le h
    simp [forB_eq, lp_law_1_b, ss_nil, ss_cons, ev_cst, ev_var, ev_mov, ev_glob, ev_sh, ev_tup, ev_lst, ev_bin, ev_binv, ev_neg, ev_cmp, ev_cmpv, ev_chain, ev_and, ev_or, ev_not, ev_ite, ev_call, ev_p1, ev_p2, ev_isi, ev_sub, ev_subv, ev_slc, ev_slcv, ev_rev, ev_pop, ev_popAt, ev_dnew, ev_lrg, ev_idx, ex_asg, ex_par, ex_aug, ex_setI, ex_augI, ex_app, ex_ext, ex_expr, ex_ret, ex_retN, ex_pass, ex_brk, ex_cnt, ex_ifS, ex_raise, ex_forS, ex_whl, evalV, evalT, evalEs, evalA, evalA1, evalO, evalC, evalI, enterE, slotR, ownR, ownC, setD, readR, moveR, outs, mapM, isTys_cons, isFreshF, L2.ixN, fillA, putA, putP, e]
  · rintro s ⟨h, a, rfl⟩
    obtain ⟨h', e⟩ := great_ok (C := C) hC.le h
    have ek := known_ok (C := C) hC.le
    simp [ss_nil, ss_cons, ev_cst, ev_var, ev_mov, ev_glob, ev_sh, ev_tup, ev_lst, ev_bin, ev_binv, ev_neg, ev_cmp, ev_cmpv, ev_chain, ev_and, ev_or, ev_not, ev_ite, ev_call, ev_p1, ev_p2, ev_isi, ev_sub, ev_subv, ev_slc, ev_slcv, ev_rev, ev_pop, ev_popAt, ev_dnew, ev_lrg, ev_idx, ex_asg, ex_par, ex_aug, ex_setI, ex_augI, ex_app, ex_ext, ex_expr, ex_ret, ex_retN, ex_pass, ex_brk, ex_cnt, ex_ifS, ex_raise, ex_forS, ex_whl, evalV, evalT, evalEs, evalA, evalA1, evalO, evalC, evalI, enterE, slotR, ownR, ownC, setD, readR, moveR, outs, mapM, isTys_cons, isFreshF, L2.ixN, fillA, putA, putP, e, ek]


theorem law_runs (ns : List Int) (h : ns.length ≤ 63) : law ns = .ok (.bl true) [] := law_ok (C := cl tb fuel 60) ⟨60, by decide, rfl⟩ ns h
theorem all_ok : (lib.tds.all fun t => lib.ok t) = true := by kernel_rfl
theorem head_run (w : World) : HandSHeadRun.RunEq LRow (PySem.W.view LRow.prog [44]) hk ob 20000 loose w := by
  intro os
  kernel_rfl
end Hd
open PySem PySem.W PySem.Calls PyProof.Rows
theorem PySem.Challenge.cw_evenurn_k36_whole_fits_by_all_rows_holds : PySem.Challenge.rw_evenurn_k36_whole_fits_by_all_rows.Holds := by
  w_on; o_law
  refine HandSHeadRun.head_any (r := OpenLaw.row PySem.Challenge.rw_evenurn_k36_whole_fits_by_all_rows) (q := view (OpenLaw.row PySem.Challenge.rw_evenurn_k36_whole_fits_by_all_rows).prog [44]) (H := Hd.hk) (ob := Hd.ob) (M := 20000) (loose := Hd.loose) (d := HandSHeadRun.topDef (OpenLaw.row PySem.Challenge.rw_evenurn_k36_whole_fits_by_all_rows).prog 44) (kwd := []) Hd.ob_eq
    (by kernel_rfl) (fun s => by kernel_rfl) Hd.head_run (by kernel_rfl) (by kernel_rfl) (by kernel_rfl) (by rfl) (by first | assumption | decide +kernel) (by decide +kernel) ⟨rfl, rfl, rfl, rfl, rfl, by decide +kernel⟩ ?hw ?hc
  case hw => w_witness2
  case hc =>
    refine L2.walk_ofE (l := PySem.Challenge.rw_evenurn_k36_whole_fits_by_all_rows) (n := 63) (k := 60) (x := "script") (CX := L2.CX0) rfl (by decide) (by kernel_rfl) ⟨rfl, by decide, by decide⟩ ?F (fun _ _ _ _ z => z)
    intro w mg fa h Y G hmg0
    obtain ⟨K, KX, c⟩ := Y
    have hmg : mg (Hd.t_law.nm) = some (.ref fa) := by
      have e : (HandSHeadRun.topDef (OpenLaw.row PySem.Challenge.rw_evenurn_k36_whole_fits_by_all_rows).prog 44).name = Hd.t_law.nm := by kernel_rfl
      rw [← e]
      exact hmg0
    obtain ⟨fd, sp, h1, h2, h3⟩ := Rf.law_fn (P := (PySem.Challenge.rw_evenurn_k36_whole_fits_by_all_rows).prog) (w := w) (L := Hd.lib) (j := 33) (k := 60) (wf := Hd.fuel) (t := Hd.t_law) (n := 63) (x := "script") KX G c (by kernel_rfl) Hd.all_ok rfl rfl rfl rfl rfl hmg Hd.law_runs
    exact ⟨K, fd, sp, KX, h1, h2, h3⟩
