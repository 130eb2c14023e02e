import PyProof.Rows.All
import Wide.All
import OpenK.AllK
import Wide.FinOn
import KE.KStateDown
import HandS.ForSpec
import HandS.More
import HandS.Defaults
import HandS.Head0
import HandS.Head1
import HandS.Head2
import HandS.HeadEnd
import HandS.HeadHook1
import HandS.HeadHook2
import HandS.HeadHook4
import HandS.ForMost
import HandS.ForExc
import HandS.CallSlots
import HandS.Conv
import HandS.Flow
import HandS.TupAny
import HandS.Wide
import HandS.Zip
import HandS.SortInts
import HandS.IsInst
import HandS.Style
import HandS.TupMul
import HandS.Dict
import HandS.TupLen
import HandS.Deep
import HandS.SortOrd
import KE.KTupSum
import HandS.SetFor
import HandS.Strs
import KE.DataFind
import HandS.Codes
import HandS.OwnEq
import PyProof.InstNe
import KE.GoesMore
import PyProof.ExcBaseAll.ValueError
import PySem.Challenge.RW_evenurn_k48_whole_rows_of_a_machine_draw
set_option Elab.async false
set_option linter.all false
set_option maxRecDepth 100000
set_option maxHeartbeats 0
/-! Rf, part A: a small language without positions, its interpreter over data trees. -/
namespace Rf
open PySem

/-- data: what a value is as a tree -/
inductive D where
  | non | bl (b : Bool) | int (i : Int) | str (s : Str)
  | tup (ds : List D) | lst (ds : List D)
  /-- a tuple whose object is known (its methods may be called; it is no key) -/
  | tpz (ds : List D)
  | dic (ks ds : List D)
  /-- an instance of the class of this name, its attributes in their order; an exception of such a class -/
  | ins (x : Str) (ns : List Str) (fs : List D) | err (x : Str) (ns : List Str) (fs : List D)
  /-- a thing of which nothing is known -/
  | fn (f : Str)
  | scr (ns : List Int)
  deriving Inhabited

/-- a slot: nothing known | a value that others may hold too (never changed) | a value whose container is this slot's alone -/
inductive Sl where
  | no | sh (d : D) | ow (d : D)
  deriving Inhabited
abbrev Env := List Sl
/-- a container that can be changed -/
def isC : D → Bool
  | .lst _ => true
  | .dic _ _ => true
  | _ => false
def mkSl (fr : Bool) (d : D) : Sl := if fr && isC d then .ow d else .sh d

/-- how an expression ends: its value or an error, and the slots behind it -/
inductive R (α : Type) where
  | stuck | ok (a : α) (s : Env) | exc (x : D) (s : Env)
def R.bind {α β : Type} : R α → (α → Env → R β) → R β
  | .ok a s, f => f a s
  | .exc x s, _ => .exc x s
  | .stuck, _ => .stuck
/-- how a statement ends -/
inductive S where
  | stuck | nx (s : Env) | bk (s : Env) | ct (s : Env) | ret (d : D) (s : Env) | exc (x : D) (s : Env)
def R.thn {α : Type} : R α → (α → Env → S) → S
  | .ok a s, f => f a s
  | .exc x s, _ => .exc x s
  | .stuck, _ => .stuck
/-- how a call ends: its value or error, what its in-out parameters are then -/
inductive CR where
  | stuck | ok (d : D) (outs : List D) | exc (x : D) (outs : List D)
structure Calls where
  fn : Nat → List D → CR
  fr : Nat → Bool
  fuel : Nat

inductive BOp where | add | sub | mul | fdiv | mod | pow
  deriving DecidableEq
inductive COp where | eq | ne | lt | le | gt | ge | is | isnot | inn | notin
  deriving DecidableEq
inductive P1 where
  | len | sum | min | max | sorted | tuple | list | all | any | abs | int | str | bool | lenset | sortedset | tuplez
  deriving DecidableEq
inductive P2 where | min | max | index | count
  deriving DecidableEq
inductive Ty where | int | bool | str | tuple | list | dict | own (c : Nat)
  deriving DecidableEq

inductive Tg where
  | nm (i : Nat) | tp (ts : List Tg)

mutual
inductive E where
  | cst (d : D) | var (i : Nat) | mov (i : Nat) | glob (x : Str) (d : D) | sh (a : E)
  | tup (es : List E) | tupz (es : List E) | lst (es : List E)
  | bin (o : BOp) (a : E) (b : O) | binv (o : BOp) (i : Nat) (b : E) | neg (a : E)
  | cmp (o : COp) (a : E) (b : O) | cmpv (o : COp) (i : Nat) (b : E) | chain (o p : COp) (a b c : E)
  | and (a b : E) | or (a b : E) | not (a : O) | ite (t : T) (a b : E)
  | call (f : Nat) (as : List Arg)
  | p1 (p : P1) (a : O) | p2 (p : P2) (a b : E)
  | isi (a : O) (ts : List Ty)
  | sub (a i : E) | subv (v : Nat) (i : E) | slc (a : E) (lo hi : Option E) | slcv (v : Nat) (lo hi : Option E) | rev (a : O)
  | lc (elt : E) (tg : Tg) (it : It) (cond : Option T) (own : List Nat)
  | pop (v : Nat) | popAt (v : Nat) (i : E)
  | dnew | lrg (t : Bool) (it : It) | idx (a b : E)
  /-- never reached | C(..), j: its __init__ | a.f | isinstance(a, y) of an own class: yes, no: classes of which it is known | == and != by an own __eq__ (at j) | two clauses | .count -/
  | nev | mk (j : Nat) (x : Str) (ns : List Str) (as : List E) | fld (a : O) (xs : List Str) (f : Str) | isio (a : O) (y : Str) (yes no : List Str) | cmpI (ne : Bool) (x : Str) (j : Nat) (a b : E)
  | lc2 (elt : E) (tg : Tg) (it : It) (tg1 : Tg) (it1 : It) (cond1 : Option T) (own own1 : List Nat)
  | cnt (a b : E)
/-- an operand: a slot that is looked at only, another expression -/
inductive O where
  | vw (i : Nat) | e (e : E)
/-- a test -/
inductive T where
  | and (a b : T) | or (a b : T) | not (a : T) | ite (t a b : T) | o (a : O)
  | cmp (o : COp) (a : E) (b : O) | cmpv (o : COp) (i : Nat) (b : E) | chain (o p : COp) (a b c : E)
  | cmpI (ne : Bool) (x : Str) (j : Nat) (a b : E)
inductive It where
  | seq (e : E) | rng1 (a : E) | rng2 (a b : E) | rng3 (a b c : E) | zip (a b : E) | enum (a : E)
inductive Arg where
  | io (i : Nat) | e (e : E)
end

inductive St where
  | asg (tg : Tg) (e : E) | par (is : List Nat) (es : List E)
  | aug (i : Nat) (o : BOp) (e : E)
  | setI (v : Nat) (i e : E) | augI (v : Nat) (i : E) (o : BOp) (e : E)
  | app (v : Nat) (e : E) | ext (v : Nat) (e : E) | expr (e : E)
  | ret (e : E) | retN | pass | brk | cnt
  | ifS (t : T) (a b : List St) | forS (tg : Tg) (it : It) (body : List St) | whl (t : T) (body : List St)
  | raise (x : Str) | nev

/-! ### operations on data -/
def truth : D → Option Bool
  | .non => some false
  | .bl b => some b
  | .int i => some (decide (i ≠ 0))
  | .str s => if s.length ≤ sizeLine then some (decide (s.length ≠ 0)) else none
  | .tup ds => some (!ds.isEmpty)
  | .tpz ds => some (!ds.isEmpty)
  | .lst ds => some (!ds.isEmpty)
  | .dic _ _ => none
  | .ins _ _ _ => none
  | .err _ _ _ => none
  | .fn _ => none
  | .scr _ => none

def mulOk (i j : Int) : Bool := decide (i.natAbs < 2 ^ 64) || decide (j.natAbs < 2 ^ 64) || decide (i.natAbs.log2 + j.natAbs.log2 < 1000000)
def divOk (j : Int) : Bool := decide (0 < j) && (decide (j < 1073741824) || decide (j.natAbs.log2 < 9000))

mutual
/-- how deep it is nested -/
def dep : D → Nat
  | .tup ds => deps ds + 1
  | .tpz ds => deps ds + 1
  | .lst ds => deps ds + 1
  | _ => 0
def deps : List D → Nat
  | [] => 0
  | d :: ds => max (dep d) (deps ds)
end
mutual
/-- none, truths, numbers, texts, lists and tuples of such -/
def plain : D → Bool
  | .tup ds => plains ds
  | .tpz ds => plains ds
  | .lst ds => plains ds
  | .dic _ _ => false
  | .ins _ _ _ => false
  | .err _ _ _ => false
  | .fn _ => false
  | .scr _ => false
  | .str s => PyData.strOk s
  | _ => true
def plains : List D → Bool
  | [] => true
  | d :: ds => plain d && plains ds
end
mutual
/-- == of plain data, as Python has it: a truth is the number 0 or 1 -/
def eqd : D → D → Bool
  | .non, .non => true
  | .bl a, .bl b => a == b
  | .int a, .int b => decide (a = b)
  | .bl a, .int b => decide ((if a then 1 else 0) = b)
  | .int a, .bl b => decide (a = (if b then 1 else 0))
  | .str a, .str b => decide (a = b)
  | .tup a, .tup b => eqds a b
  | .tup a, .tpz b => eqds a b
  | .tpz a, .tup b => eqds a b
  | .tpz a, .tpz b => eqds a b
  | .lst a, .lst b => eqds a b
  | _, _ => false
def eqds : List D → List D → Bool
  | [], [] => true
  | a :: as, b :: bs => eqd a b && eqds as bs
  | _, _ => false
end
def cmpb (d : D) : Bool := plain d && decide (dep d ≤ 60)
def eqD (a b : D) : Option Bool := if cmpb a && cmpb b then some (eqd a b) else none

def bin : BOp → D → D → Option D
  | .add, .int a, .int b => some (.int (a + b))
  | .add, .str a, .str b => if a.length + b.length ≤ sizeLine then some (.str (a ++ b)) else none
  | .add, .tup a, .tup b => if a.length + b.length ≤ sizeLine then some (.tup (a ++ b)) else none
  | .add, .tup a, .tpz b => if a.length + b.length ≤ sizeLine then some (if a.isEmpty then .tpz b else if b.isEmpty then .tup a else .tup (a ++ b)) else none
  | .add, .tpz a, .tup b => if a.length + b.length ≤ sizeLine then some (if a.isEmpty then .tup b else if b.isEmpty then .tpz a else .tup (a ++ b)) else none
  | .add, .tpz a, .tpz b => if a.length + b.length ≤ sizeLine then some (if a.isEmpty then .tpz b else if b.isEmpty then .tpz a else .tup (a ++ b)) else none
  | .add, .lst a, .lst b => if a.length + b.length ≤ sizeLine then some (.lst (a ++ b)) else none
  | .sub, .int a, .int b => some (.int (a - b))
  | .mul, .int a, .int b => if mulOk a b then some (.int (a * b)) else none
  | .mul, .lst a, .int b => if decide (-(2 ^ 63) ≤ b) && decide (b < 2 ^ 63) && decide (a.length * b.toNat ≤ sizeLine) then some (.lst (List.replicate b.toNat a).flatten) else none
  | .mul, .tup a, .int b => if decide (-(2 ^ 62) ≤ b) && decide (b < 2 ^ 62) && decide (a.length * b.toNat ≤ sizeLine) then some (.tup (List.replicate b.toNat a).flatten) else none
  | .mul, .tpz a, .int b => if decide (2 ≤ b) && !a.isEmpty && decide (b < 2 ^ 62) && decide (a.length * b.toNat ≤ sizeLine) then some (.tup (List.replicate b.toNat a).flatten) else none
  | .fdiv, .int a, .int b => if divOk b then some (.int (a / b)) else none
  | .mod, .int a, .int b => if 0 < b then some (.int (a % b)) else none
  | .pow, .int a, .int b => if decide (0 ≤ b) && decide (b ≤ 1000000) && decide (a.natAbs < 2 ^ 64) then some (.int (a ^ b.toNat)) else none
  | _, _, _ => none

/-- op= : numbers and texts alone -/
def iop : BOp → D → D → Option D
  | .add, .int a, .int b => some (.int (a + b))
  | .add, .str a, .str b => if a.length + b.length ≤ sizeLine then some (.str (a ++ b)) else none
  | .sub, .int a, .int b => some (.int (a - b))
  | .mul, .int a, .int b => if decide (a.natAbs < 2 ^ 64) || decide (b.natAbs < 2 ^ 64) then some (.int (a * b)) else none
  | .fdiv, .int a, .int b => if decide (0 < b) && decide (b < 1073741824) then some (.int (a / b)) else none
  | .mod, .int a, .int b => if 0 < b then some (.int (a % b)) else none
  | _, _, _ => none
/-- the lexicographic order of tuples of numbers -/
def ltInts : List Int → List Int → Bool
  | [], [] => false
  | [], _ :: _ => true
  | _ :: _, [] => false
  | a :: as, b :: bs => if a < b then true else if b < a then false else ltInts as bs
def intsOf : List D → Option (List Int)
  | [] => some []
  | .int i :: r => (intsOf r).map (i :: ·)
  | _ :: _ => none
def boolsOf : List D → Option (List Bool)
  | [] => some []
  | .bl i :: r => (boolsOf r).map (i :: ·)
  | _ :: _ => none

/-- keys of a dict: numbers and texts | tuples of such -/
def isK1 : D → Bool
  | .int _ => true
  | .str _ => true
  | _ => false
def isKT : D → Bool
  | .tup ds => ds.all isK1
  | _ => false
def keyOk (ks : List D) (x : D) : Bool := (isK1 x && ks.all isK1) || (isKT x && ks.all isKT)
def dfind : List D → List D → D → Option D
  | k :: ks, d :: ds, x => if eqd k x then some d else dfind ks ds x
  | _, _, _ => none
def dputK (ks : List D) (x : D) : List D := if ks.any (fun k => eqd k x) then ks else ks ++ [x]
def dputV (ks ds : List D) (x v : D) : List D := if ks.any (fun k => eqd k x) then List.zipWith (fun k d => if eqd k x then v else d) ks ds else ds ++ [v]
def isIn (x : D) (ds : List D) : Option Bool := if cmpb x && ds.all cmpb then some (ds.any fun y => eqd y x) else none

def cmp : COp → D → D → Option Bool
  | .eq, a, b => eqD a b
  | .ne, a, b => (eqD a b).map (!·)
  | .lt, .int a, .int b => some (decide (a < b))
  | .le, .int a, .int b => some (decide (a ≤ b))
  | .gt, .int a, .int b => some (decide (b < a))
  | .ge, .int a, .int b => some (decide (b ≤ a))
  | .is, .bl a, .bl b => some (decide (a = b))
  | .isnot, .bl a, .bl b => some (!decide (a = b))
  | .is, .fn _, .non => none
  | .is, a, .non => some (match a with | .non => true | _ => false)
  | .isnot, .fn _, .non => none
  | .isnot, a, .non => some (match a with | .non => false | _ => true)
  | .inn, x, .lst ds => isIn x ds
  | .inn, x, .tup ds => isIn x ds
  | .inn, x, .tpz ds => isIn x ds
  | .inn, x, .dic ks _ => if keyOk ks x then some (ks.any fun k => eqd k x) else none
  | .notin, x, .lst ds => (isIn x ds).map (!·)
  | .notin, x, .tup ds => (isIn x ds).map (!·)
  | .notin, x, .tpz ds => (isIn x ds).map (!·)
  | .notin, x, .dic ks _ => if keyOk ks x then some (!(ks.any fun k => eqd k x)) else none
  | _, _, _ => none

abbrev ixN := L2.ixN
def item : D → D → Option D
  | .lst ds, .int i => L2.atI ds i
  | .tup ds, .int i => L2.atI ds i
  | .tpz ds, .int i => L2.atI ds i
  | .dic ks ds, k => if keyOk ks k then dfind ks ds k else none
  | _, _ => none
/-- a[i] = v -/
def setD : D → D → D → Option D
  | .lst ds, .int k, v => (ixN ds.length k).map fun j => .lst (ds.set j v)
  | .dic ks ds, k, v => if keyOk ks k && decide (ks.length < sizeLine) then some (.dic (dputK ks k) (dputV ks ds k v)) else none
  | _, _, _ => none
def cut {α : Type} (ds : List α) (lo hi : Option Int) : List α := (ds.drop (HT.sIx ds.length 0 lo)).take (HT.sIx ds.length ds.length hi - HT.sIx ds.length 0 lo)
def slice : D → Option Int → Option Int → Option D
  | .lst ds, lo, hi => some (.lst (cut ds lo hi))
  | .tup ds, lo, hi => some (.tup (cut ds lo hi))
  | .tpz ds, lo, hi => some (if HT.sIx ds.length 0 lo = 0 ∧ HT.sIx ds.length ds.length hi = ds.length then .tpz ds else .tup (cut ds lo hi))
  | .scr ns, lo, hi => some (.lst (cut (ns.map .int) lo hi))
  | _, _, _ => none

def insI (x : Int) : List Int → List Int
  | [] => [x]
  | y :: r => if x ≤ y then x :: y :: r else y :: insI x r
def sortI : List Int → List Int
  | [] => []
  | x :: r => insI x (sortI r)
def minI : List Int → Option Int
  | [] => none
  | x :: r => some (r.foldl (fun a b => if b < a then b else a) x)
def maxI : List Int → Option Int
  | [] => none
  | x :: r => some (r.foldl (fun a b => if b > a then b else a) x)
def seqOf : D → Option (List D)
  | .lst ds => some ds
  | .tup ds => some ds
  | .tpz ds => some ds
  | _ => none

def p1 : P1 → D → Option D
  | .len, .lst ds => some (.int ds.length)
  | .len, .tup ds => some (.int ds.length)
  | .len, .tpz ds => some (.int ds.length)
  | .len, .dic ks _ => some (.int ks.length)
  | .len, .str s => if s.length ≤ sizeLine then some (.int s.length) else none
  | .sum, d => (seqOf d).bind fun ds => (intsOf ds).map fun l => .int l.sum
  | .min, .lst ds => (intsOf ds).bind fun l => (minI l).map .int
  | .max, .lst ds => (intsOf ds).bind fun l => (maxI l).map .int
  | .sorted, .lst ds => (intsOf ds).map fun l => .lst ((sortI l).map .int)
  | .sorted, .tup ds => (intsOf ds).map fun l => .lst ((sortI l).map .int)
  | .sorted, .tpz ds => (intsOf ds).map fun l => .lst ((sortI l).map .int)
  | .tuple, .lst ds => some (.tup ds)
  | .tuple, .tup ds => some (.tup ds)
  | .tuple, .tpz ds => some (.tpz ds)
  | .tuplez, .lst ds => some (.tpz ds)
  | .tuplez, .tpz ds => some (.tpz ds)
  | .list, .lst ds => some (.lst ds)
  | .list, .tup ds => some (.lst ds)
  | .list, .tpz ds => some (.lst ds)
  | .lenset, .lst ds => (intsOf ds).bind fun l => if l.length + 1 < 4096 then some (.int l.eraseDups.length) else none
  | .lenset, .tup ds => (intsOf ds).bind fun l => if l.length + 1 < 4096 then some (.int l.eraseDups.length) else none
  | .all, .lst ds => (boolsOf ds).map fun l => .bl (l.all id)
  | .any, .lst ds => (boolsOf ds).map fun l => .bl (l.any id)
  | .abs, .int i => some (.int (if i < 0 then -i else i))
  | .int, .int i => some (.int i)
  | .int, .bl b => some (.int (if b then 1 else 0))
  | .bool, .int i => some (.bl (decide (i ≠ 0)))
  | .bool, .bl b => some (.bl b)
  | _, _ => none
/-- the first place -/
def idxD (ds : List D) (y : D) : Option D := if ds.all cmpb && cmpb y && decide (ds.length ≤ sizeLine) then (ds.findIdx? fun d => eqd d y).map fun i => .int (i : Nat) else none
def p2 : P2 → D → D → Option D
  | .min, .int a, .int b => some (.int (if b < a then b else a))
  | .max, .int a, .int b => some (.int (if b > a then b else a))
  | _, _, _ => none

def isTy : D → Ty → Option Bool
  | .non, _ => some false
  | .bl _, t => some (t == .bool || t == .int)
  | .int _, t => some (t == .int)
  | .str _, t => some (t == .str)
  | .tup _, t => some (t == .tuple)
  | .tpz _, t => some (t == .tuple)
  | .lst _, t => some (t == .list)
  | .dic _ _, t => some (t == .dict)
  | _, _ => none
/-- isinstance of an own class -/
def isOwn (yes no : List Str) : D → Option Bool
  | .ins x _ _ => if yes.contains x then some true else if no.contains x then some false else none
  | .non => some false
  | .bl _ => some false
  | .int _ => some false
  | .str _ => some false
  | .tup _ => some false
  | .tpz _ => some false
  | .lst _ => some false
  | .dic _ _ => some false
  | _ => none
/-- an attribute -/
def fget : List Str → List D → Str → Option D
  | n :: ns, d :: ds, f => if f = n then some d else fget ns ds f
  | _, _, _ => none
/-- how often it is there -/
def cntD (ds : List D) (y : D) : Option D := if ds.all cmpb && cmpb y && decide (ds.length ≤ sizeLine) then some (.int (ds.filter fun d => eqd d y).length) else none
def isTys (d : D) : List Ty → Option Bool
  | [] => some false
  | t :: r => match isTy d t with
    | some true => some true
    | some false => isTys d r
    | none => none

/-! ### targets -/
mutual
def bindT (fr : Bool) : Tg → D → Env → Option Env
  | .nm i, d, s => some (s.set i (mkSl fr d))
  | .tp ts, .tup ds, s => if ts.length = ds.length then bindTs ts ds s else none
  | .tp _, _, _ => none
def bindTs : List Tg → List D → Env → Option Env
  | [], _, s => some s
  | t :: ts, d :: ds, s => (bindT false t d s).bind fun s1 => bindTs ts ds s1
  | _ :: _, [], _ => none
end

/-- the slots of a comprehension's own names forgotten -/
def wipeE (s : Env) : List Nat → Env
  | [] => s
  | i :: r => (wipeE s r).set i .no
/-- these slots as they were ahead, where their values are shared -/
def backE (s0 : Env) (s : Env) : List Nat → Env
  | [] => s
  | i :: r => (backE s0 s r).set i (match s0[i]? with
    | some (.sh d) => .sh d
    | _ => .no)

def compL (own : List Nat) (f : D → Env → R (Option D)) : List D → Env → R (List D)
  | [], s => .ok [] s
  | d :: ds, s => match f d s with
    | .ok o s1 => (compL own f ds (wipeE s1 own)).bind fun r s2 => match o with
      | some x => .ok (x :: r) s2
      | none => .ok r s2
    | _ => .stuck
def compF (own : List Nat) (f : D → Env → R (List D)) : List D → Env → R (List D)
  | [], s => .ok [] s
  | d :: ds, s => match f d s with
    | .ok l s1 => (compF own f ds (wipeE s1 own)).bind fun r s2 => .ok (l ++ r) s2
    | _ => .stuck
def forL (f : D → Env → S) : List D → Env → S
  | [], s => .nx s
  | d :: ds, s => match f d s with
    | .nx s1 => forL f ds s1
    | .ct s1 => forL f ds s1
    | .bk s1 => .nx s1
    | r => r
def whileL (t : Env → R Bool) (f : Env → S) : Nat → Env → S
  | 0, _ => .stuck
  | n + 1, s => (t s).thn fun b s1 => if b then (match f s1 with
    | .nx s2 => whileL t f n s2
    | .ct s2 => whileL t f n s2
    | .bk s2 => .nx s2
    | r => r) else .nx s1

def rangeD (lo : Int) (n : Nat) : List D := (List.range n).map fun i => .int (lo + (i : Nat))
def enumD (n : Nat) : List D → List D
  | [] => []
  | d :: r => .tup [.int n, d] :: enumD (n + 1) r

/-- the values at the in-out arguments, filled in -/
def fillA : List Arg → List D → Env → Option (List D)
  | [], _, _ => some []
  | .io i :: as, ds, s => match s[i]? with
    | some (.ow d) => if isC d then (fillA as ds s).map (d :: ·) else none
    | _ => none
  | .e _ :: as, d :: ds, s => (fillA as ds s).map (d :: ·)
  | .e _ :: _, [], _ => none
/-- what the in-out arguments are behind the call -/
def putA : List Arg → List D → Env → Env
  | [], _, s => s
  | .io i :: as, d :: ds, s => putA as ds (s.set i (.ow d))
  | .io _ :: _, [], s => s
  | .e _ :: as, ds, s => putA as ds s
def mapM {α β : Type} (f : α → Option β) : List α → Option (List β)
  | [] => some []
  | a :: r => (f a).bind fun b => (mapM f r).map (b :: ·)
def optR {α : Type} (o : Option α) (s : Env) : R α := match o with
  | some a => .ok a s
  | none => .stuck
def optS {α : Type} (o : Option α) (f : α → S) : S := match o with
  | some a => f a
  | none => .stuck
/-- looked at only -/
def slotR (s : Env) (i : Nat) : R D := match s[i]? with
  | some (.sh d) => .ok d s
  | some (.ow d) => .ok d s
  | _ => .stuck
/-- shared from now on -/
def readR (s : Env) (i : Nat) : R D := match s[i]? with
  | some (.sh d) => .ok d s
  | some (.ow d) => .ok d (s.set i (.sh d))
  | _ => .stuck
/-- an owned list -/
def ownR (s : Env) (i : Nat) : R (List D) := match s[i]? with
  | some (.ow (.lst ds)) => .ok ds s
  | _ => .stuck
/-- an owned container -/
def ownC (s : Env) (i : Nat) : R D := match s[i]? with
  | some (.ow d) => if isC d then .ok d s else .stuck
  | _ => .stuck
/-- given away: the slot holds nothing from now on -/
def moveR (s : Env) (i : Nat) : R D := match s[i]? with
  | some (.sh d) => if isC d then .stuck else .ok d s
  | some (.ow d) => .ok d (s.set i .no)
  | _ => .stuck

/-- is the value's container new, held by nobody else -/
def isFreshF (fr : Nat → Bool) : E → Bool
  | .mov _ => true
  | .tup _ => true
  | .tupz _ => true
  | .lst _ => true
  | .bin _ _ _ => true
  | .binv _ _ _ => true
  | .neg _ => true
  | .cmp _ _ _ => true
  | .cmpv _ _ _ => true
  | .chain _ _ _ _ _ => true
  | .and a b => isFreshF fr a && isFreshF fr b
  | .or a b => isFreshF fr a && isFreshF fr b
  | .not _ => true
  | .ite _ a b => isFreshF fr a && isFreshF fr b
  | .call f _ => fr f
  | .p1 _ _ => true
  | .p2 _ _ _ => true
  | .isi _ _ => true
  | .slc _ _ _ => true
  | .slcv _ _ _ => true
  | .rev _ => true
  | .lc _ _ _ _ _ => true
  | .dnew => true
  | .lrg _ _ => true
  | .idx _ _ => true
  | .nev => true
  | .mk _ _ _ _ => true
  | .isio _ _ _ _ => true
  | .cmpI _ _ _ _ _ => true
  | .lc2 _ _ _ _ _ _ _ _ => true
  | .cnt _ _ => true
  | _ => false

abbrev isFresh (C : Calls) (e : E) : Bool := isFreshF C.fr e

/-- == and != by an own __eq__ -/
def ownF (C : Calls) (x : Str) (j : Nat) (ne : Bool) (d e : D) (s : Env) : R Bool := match d, e with
  | .ins y ns fs, .ins z ms gs => if y = x ∧ z = x then (match C.fn j [.ins y ns fs, .ins z ms gs] with
    | .ok (.bl k) [] => .ok (k != ne) s
    | _ => .stuck) else .stuck
  | _, _ => .stuck
mutual
def evalE (C : Calls) : E → Env → R D
  | .cst d, s => .ok d s
  | .var i, s => readR s i
  | .mov i, s => moveR s i
  | .glob _ d, s => .ok d s
  | .sh a, s => evalE C a s
  | .tup es, s => (evalEs C es s).bind fun ds s => .ok (.tup ds) s
  | .tupz es, s => (evalEs C es s).bind fun ds s => .ok (.tpz ds) s
  | .lst es, s => (evalEs C es s).bind fun ds s => .ok (.lst ds) s
  | .bin o a b, s => (evalE C a s).bind fun x s => (evalV C b s).bind fun y s => optR (bin o x y) s
  | .binv o i b, s => (slotR s i).bind fun _ s => (evalE C b s).bind fun y s => (slotR s i).bind fun x s => optR (bin o x y) s
  | .neg a, s => (evalE C a s).bind fun x s => match x with
    | .int i => .ok (.int (-i)) s
    | _ => .stuck
  | .cmp o a b, s => (evalE C a s).bind fun x s => (evalV C b s).bind fun y s => (optR (cmp o x y) s).bind fun k s => .ok (.bl k) s
  | .cmpv o i b, s => (slotR s i).bind fun _ s => (evalE C b s).bind fun y s => (slotR s i).bind fun x s => (optR (cmp o x y) s).bind fun k s => .ok (.bl k) s
  | .chain o p a b c, s => (evalE C a s).bind fun x s => (evalE C b s).bind fun y s => (optR (cmp o x y) s).bind fun k s =>
      if k then (evalE C c s).bind fun z s => (optR (cmp p y z) s).bind fun k s => .ok (.bl k) s else .ok (.bl false) s
  | .and a b, s => (evalE C a s).bind fun x s => (optR (truth x) s).bind fun k s => if k then evalE C b s else .ok x s
  | .or a b, s => (evalE C a s).bind fun x s => (optR (truth x) s).bind fun k s => if k then .ok x s else evalE C b s
  | .not a, s => (evalV C a s).bind fun x s => (optR (truth x) s).bind fun k s => .ok (.bl (!k)) s
  | .ite t a b, s => (evalT C t s).bind fun k s => if k then evalE C a s else evalE C b s
  | .call f as, s => (evalA C as s).bind fun ds s => (optR (fillA as ds s) s).bind fun ds s => match C.fn f ds with
    | .ok d outs => .ok d (putA as outs s)
    | .exc x outs => .exc x (putA as outs s)
    | .stuck => .stuck
  | .p1 p a, s => (evalV C a s).bind fun x s => optR (p1 p x) s
  | .p2 p a b, s => (evalE C a s).bind fun x s => (evalE C b s).bind fun y s => optR (p2 p x y) s
  | .isi a ts, s => (evalV C a s).bind fun x s => (optR (isTys x ts) s).bind fun k s => .ok (.bl k) s
  | .sub a i, s => (evalE C a s).bind fun x s => (evalE C i s).bind fun y s => optR (item x y) s
  | .subv v i, s => (slotR s v).bind fun _ s => (evalE C i s).bind fun y s => (slotR s v).bind fun x s => optR (item x y) s
  | .slc a lo hi, s => (evalE C a s).bind fun x s => (evalO C lo s).bind fun l s => (evalO C hi s).bind fun h s => optR (slice x l h) s
  | .slcv v lo hi, s => (slotR s v).bind fun _ s => (evalO C lo s).bind fun l s => (evalO C hi s).bind fun h s => (slotR s v).bind fun x s => optR (slice x l h) s
  | .rev a, s => (evalV C a s).bind fun x s => match x with
    | .lst ds => .ok (.lst ds.reverse) s
    | .tup ds => .ok (.tup ds.reverse) s
    | .tpz ds => .ok (.tup ds.reverse) s
    | _ => .stuck
  | .lc elt tg it cond own, s => (evalI C it s).bind fun ds s1 =>
      (compL own (fun d s => match bindT false tg d s with
        | none => .stuck
        | some s => (evalC C cond s).bind fun k s => if k then (evalE C elt s).bind fun x s => .ok (some x) s else .ok none s) ds (wipeE s1 own)).bind fun r s2 =>
        if r.length ≤ sizeLine then .ok (.lst r) (backE s1 s2 own) else .stuck
  | .pop v, s => (ownR s v).bind fun ds s => match ds.getLast? with
    | some d => .ok d (s.set v (.ow (.lst ds.dropLast)))
    | none => .stuck
  | .popAt v i, s => (ownR s v).bind fun _ s => (evalE C i s).bind fun y s => (ownR s v).bind fun ds s => match y with
    | .int k => if decide (-(2 ^ 62) ≤ k) && decide (k < 2 ^ 62) then (match ixN ds.length k with
      | some k => match ds[k]? with
        | some d => .ok d (s.set v (.ow (.lst (ds.eraseIdx k))))
        | none => .stuck
      | none => .stuck) else .stuck
    | _ => .stuck
  | .dnew, s => .ok (.dic [] []) s
  | .lrg t it, s => (evalI C it s).bind fun ds s => if ds.length ≤ sizeLine then .ok (if t then .tup ds else .lst ds) s else .stuck
  | .idx a b, s => (evalE C a s).bind fun x s => match x with
    | .lst ds => (evalE C b s).bind fun y s => optR (idxD ds y) s
    | .tpz ds => (evalE C b s).bind fun y s => optR (idxD ds y) s
    | _ => .stuck
  | .nev, _ => .stuck
  | .mk j x ns as, s => (evalEs C as s).bind fun ds s => match C.fn j (.fn "" :: ds) with
    | .ok (.tup fs) [] => if fs.length = ns.length then .ok (.ins x ns fs) s else .stuck
    | .exc y [] => .exc y s
    | _ => .stuck
  | .fld a xs f, s => (evalV C a s).bind fun d s => match d with
    | .ins x ns fs => if xs.contains x then optR (fget ns fs f) s else .stuck
    | _ => .stuck
  | .isio a _ yes no, s => (evalV C a s).bind fun d s => (optR (isOwn yes no d) s).bind fun k s => .ok (.bl k) s
  | .cmpI ne x j a b, s => (evalE C a s).bind fun d s => (evalE C b s).bind fun e s => (ownF C x j ne d e s).bind fun k s => .ok (.bl k) s
  | .lc2 elt tg it tg1 it1 cond1 own own1, s => (evalI C it s).bind fun ds s1 =>
      (compF own (fun d s => match bindT false tg d s with
        | none => .stuck
        | some s => (evalI C it1 s).bind fun ds1 s => compL own1 (fun d s => match bindT false tg1 d s with
          | none => .stuck
          | some s => (evalC C cond1 s).bind fun k s => if k then (evalE C elt s).bind fun x s => .ok (some x) s else .ok none s) ds1 (wipeE s own1)) ds (wipeE s1 own)).bind fun r s2 =>
        if r.length ≤ sizeLine then .ok (.lst r) (backE s1 s2 own) else .stuck
  | .cnt a b, s => (evalE C a s).bind fun x s => match x with
    | .lst ds => (evalE C b s).bind fun y s => optR (cntD ds y) s
    | .tpz ds => (evalE C b s).bind fun y s => optR (cntD ds y) s
    | _ => .stuck
def evalV (C : Calls) : O → Env → R D
  | .vw i, s => slotR s i
  | .e e, s => evalE C e s
def evalT (C : Calls) : T → Env → R Bool
  | .and a b, s => (evalT C a s).bind fun k s => if k then evalT C b s else .ok false s
  | .or a b, s => (evalT C a s).bind fun k s => if k then .ok true s else evalT C b s
  | .not a, s => (evalT C a s).bind fun k s => .ok (!k) s
  | .ite t a b, s => (evalT C t s).bind fun k s => if k then evalT C a s else evalT C b s
  | .o a, s => (evalV C a s).bind fun x s => optR (truth x) s
  | .cmp o a b, s => (evalE C a s).bind fun x s => (evalV C b s).bind fun y s => optR (cmp o x y) s
  | .cmpv o i b, s => (slotR s i).bind fun _ s => (evalE C b s).bind fun y s => (slotR s i).bind fun x s => optR (cmp o x y) s
  | .chain o p a b c, s => (evalE C a s).bind fun x s => (evalE C b s).bind fun y s => (optR (cmp o x y) s).bind fun k s =>
      if k then (evalE C c s).bind fun z s => optR (cmp p y z) s else .ok false s
  | .cmpI ne x j a b, s => (evalE C a s).bind fun d s => (evalE C b s).bind fun e s => ownF C x j ne d e s
def evalEs (C : Calls) : List E → Env → R (List D)
  | [], s => .ok [] s
  | e :: es, s => (evalE C e s).bind fun d s => (evalEs C es s).bind fun ds s => .ok (d :: ds) s
def evalA1 (C : Calls) : Arg → Env → R (List D)
  | .io i, s => (slotR s i).bind fun _ s => .ok [] s
  | .e e, s => (evalE C e s).bind fun d s => .ok [d] s
def evalA (C : Calls) : List Arg → Env → R (List D)
  | [], s => .ok [] s
  | a :: as, s => (evalA1 C a s).bind fun d s => (evalA C as s).bind fun ds s => .ok (d ++ ds) s
def evalO (C : Calls) : Option E → Env → R (Option Int)
  | none, s => .ok none s
  | some e, s => (evalE C e s).bind fun d s => match d with
    | .int i => .ok (some i) s
    | _ => .stuck
def evalC (C : Calls) : Option T → Env → R Bool
  | none, s => .ok true s
  | some e, s => evalT C e s
def evalI (C : Calls) : It → Env → R (List D)
  | .seq e, s => (evalE C e s).bind fun d s => optR (seqOf d) s
  | .rng1 a, s => (evalE C a s).bind fun x s => match x with
    | .int i => if decide (-(2 ^ 62) ≤ i) && decide (i < 2 ^ 62) then .ok (rangeD 0 i.toNat) s else .stuck
    | _ => .stuck
  | .rng2 a b, s => (evalE C a s).bind fun x s => (evalE C b s).bind fun y s => match x, y with
    | .int i, .int j => if decide (-(2 ^ 62) ≤ i) && decide (i < 2 ^ 62) && decide (-(2 ^ 62) ≤ j) && decide (j < 2 ^ 62) then .ok (rangeD i (j - i).toNat) s else .stuck
    | _, _ => .stuck
  | .rng3 _ _ _, _ => .stuck
  | .zip a b, s => (evalE C a s).bind fun x s => (evalE C b s).bind fun y s => optR ((seqOf x).bind fun xs => (seqOf y).map fun ys => List.zipWith (fun x y => .tup [x, y]) xs ys) s
  | .enum a, s => (evalE C a s).bind fun x s => match x with
    | .lst xs => .ok (enumD 0 xs) s
    | .tup xs => .ok (enumD 0 xs) s
    | .tpz xs => .ok (enumD 0 xs) s
    | _ => .stuck
end
/-- several slots get values (the last first) -/
def putP (C : Calls) : List Nat → List E → List D → Env → Env
  | i :: is, e :: es, d :: ds, s => (putP C is es ds s).set i (mkSl (isFresh C e) d)
  | _, _, _, s => s

mutual
def execS (C : Calls) : St → Env → S
  | .asg tg e, s => (evalE C e s).thn fun d s => optS (bindT (isFresh C e) tg d s) .nx
  | .par is es, s => (evalEs C es s).thn fun ds s => .nx (putP C is es ds s)
  | .aug i o e, s => (slotR s i).thn fun x s => (evalE C e s).thn fun y s => optS (iop o x y) fun z => .nx (s.set i (.sh z))
  | .setI v i e, s => (evalE C e s).thn fun d s => (ownC s v).thn fun _ s => (evalE C i s).thn fun k s => (ownC s v).thn fun c s => optS (setD c k d) fun c => .nx (s.set v (.ow c))
  | .augI v i o e, s => (ownR s v).thn fun _ s => (evalE C i s).thn fun k s => (ownR s v).thn fun ds s => match k with
    | .int k => match ixN ds.length k with
      | some j => match ds[j]? with
        | some a => (evalE C e s).thn fun b s => optS (iop o a b) fun z => (ownR s v).thn fun ds s => match ixN ds.length k with
          | some j => .nx (s.set v (.ow (.lst (ds.set j z))))
          | none => .stuck
        | none => .stuck
      | none => .stuck
    | _ => .stuck
  | .app v e, s => (ownR s v).thn fun _ s => (evalE C e s).thn fun d s => (ownR s v).thn fun ds s => if ds.length < sizeLine then .nx (s.set v (.ow (.lst (ds ++ [d])))) else .stuck
  | .ext v e, s => (ownR s v).thn fun _ s => (evalE C e s).thn fun d s => (ownR s v).thn fun ds s => match d with
    | .lst es => if ds.length + es.length ≤ sizeLine then .nx (s.set v (.ow (.lst (ds ++ es)))) else .stuck
    | _ => .stuck
  | .expr e, s => (evalE C e s).thn fun _ s => .nx s
  | .ret e, s => (evalE C e s).thn fun d s => .ret d s
  | .retN, s => .ret .non s
  | .pass, s => .nx s
  | .brk, s => .bk s
  | .cnt, s => .ct s
  | .ifS t a b, s => (evalT C t s).thn fun k s => if k then execSs C a s else execSs C b s
  | .forS tg it body, s => (evalI C it s).thn fun ds s => forL (fun d s => optS (bindT false tg d s) fun s => execSs C body s) ds s
  | .whl t body, s => whileL (fun s => evalT C t s) (fun s => execSs C body s) C.fuel s
  | .raise x, s => .exc (.err x [] []) s
  | .nev, _ => .stuck
def execSs (C : Calls) : List St → Env → S
  | [], s => .nx s
  | st :: r, s => match execS C st s with
    | .nx s1 => execSs C r s1
    | x => x
end

structure Fn where
  ps : Nat
  n : Nat
  io : List Nat
  fr : Bool
  body : List St
abbrev Tab := List Fn
def outs (io : List Nat) (s : Env) : Option (List D) := mapM (fun (i : Nat) => match s[i]? with
  | some (.ow d) => if isC d then some d else none
  | _ => none) io
def finish (f : Fn) : S → CR
  | .nx s => match outs f.io s with
    | some o => .ok .non o
    | none => .stuck
  | .ret d s => match outs f.io s with
    | some o => .ok d o
    | none => .stuck
  | .exc x s => match outs f.io s with
    | some o => .exc x o
    | none => .stuck
  | _ => .stuck
def enterE (io : List Nat) : Nat → List D → Env
  | _, [] => []
  | i, d :: ds => (if io.contains i then .ow d else .sh d) :: enterE io (i + 1) ds
def frOf (T : Tab) (f : Nat) : Bool := match T[f]? with
  | some fd => fd.fr
  | none => false
def run (T : Tab) (w : Nat) : Nat → Nat → List D → CR
  | 0, _, _ => .stuck
  | k + 1, f, ds => match T[f]? with
    | none => .stuck
    | some fd => if ds.length = fd.ps then finish fd (execSs ⟨run T w k, frOf T, w⟩ fd.body (enterE fd.io 0 ds ++ List.replicate (fd.n - fd.ps) .no)) else .stuck
end Rf

/-! Rf, part B: what a tree stands for in the abstract heap; states; what an expression's end asks. -/
namespace Rf
open PySem PySem.Spec PyProof.Rows L2

structure Sit where
  K : PySem.W.Frag
  cls : Nat → Option Value
  G : Addr → Prop
  io : List (Nat × V)
  fr : Bool
def Sit.F (S : Sit) (O : Addr → Prop) : Addr → Prop := fun a => S.G a ∨ O a

/-- numbers and texts as keys -/
def kOf : D → Option Key
  | .int i => some (.inl i)
  | .str s => some (.inr s)
  | _ => none
def kTOf : D → Option (List Key)
  | .tup ds => mapM kOf ds
  | _ => none
/-- the object of a dict whose keys are ks, whose values are vs; the empty one is always of the first kind -/
def DcO (o : HO) (ks : List D) (vs : List V) : Prop :=
  ks.length = vs.length ∧ ((∃ l, mapM kOf ks = some l ∧ o = .dK (l.zip vs)) ∨ (ks ≠ [] ∧ ∃ l, mapM kTOf ks = some l ∧ o = .dT (l.zip vs)))
/-- the script -/
def ScF (K : PySem.W.Frag) (H : Hp) (F : Addr → Prop) (a : Addr) (xs : List V) : Prop :=
  (Rd H a (.lst xs) ∧ ¬ F a) ∨ ∃ (o : Obj) (its : Array Value) (n : Nat), K.lookup a = some o ∧ o.cls = .type "list" ∧ o.dict = none ∧ o.data = .seq its n ∧ its.size ≤ sizeLine ∧ Vals xs its.toList
/-- a list that nobody will change | a tuple -/
def LsF (H : Hp) (F : Addr → Prop) (a : Addr) (xs : List V) : Prop := H a = some (.lst xs) ∧ ¬ F a
/-- a tuple whose object is known: it has no dict -/
def TzF (H : Hp) (F : Addr → Prop) (a : Addr) (xs : List V) : Prop := (∃ o, H a = some (.frz o (.tup xs)) ∧ o.dict = none ∧ o.cls = .type "tuple") ∧ ¬ F a
/-- an instance that nobody will change -/
def InF (K : PySem.W.Frag) (H : Hp) (F : Addr → Prop) (a : Addr) (x : Str) (dx : Addr) (ns : List Str) (vs : List V) : Prop := H a = some (.ins (He.ga K x) dx (ns.zip vs)) ∧ ¬ F a
def TpF (K : PySem.W.Frag) (H : Hp) (F : Addr → Prop) (a : Addr) (xs : List V) : Prop := H a = some (.tup xs) ∧ ¬ F a

mutual
/-- the value v is the tree d; none of its objects is at a place of F -/
def Rep (K : PySem.W.Frag) (H : Hp) (F : Addr → Prop) : D → V → Prop
  | .non, v => v = .non
  | .bl b, v => v = .bl b
  | .int i, v => v = .int i
  | .str s, v => v = .str s
  | .tup ds, v => ∃ a vs, v = .ref a ∧ TpF K H F a vs ∧ Reps K H F ds vs
  | .tpz ds, v => ∃ a vs, v = .ref a ∧ TzF H F a vs ∧ Reps K H F ds vs
  | .lst ds, v => ∃ a vs, v = .ref a ∧ LsF H F a vs ∧ Reps K H F ds vs
  | .dic ks ds, v => ∃ a vs o, v = .ref a ∧ (H a = some o ∧ ¬ F a ∧ DcO o ks vs) ∧ Reps K H F ds vs
  | .ins x ns ds, v => ∃ a dx vs, v = .ref a ∧ InF K H F a x dx ns vs ∧ Reps K H F ds vs
  | .err _ _ _, _ => False
  | .fn _, _ => True
  | .scr ns, v => ∃ a, v = .ref a ∧ ScF K H F a (ns.map V.int)
def Reps (K : PySem.W.Frag) (H : Hp) (F : Addr → Prop) : List D → List V → Prop
  | [], vs => vs = []
  | d :: ds, vs => ∃ v r, vs = v :: r ∧ Rep K H F d v ∧ Reps K H F ds r
end

/-- what was tracked stands, but at O; what is new in O was not tracked -/
structure Ext (H : Hp) (O : Addr → Prop) (H' : Hp) (O' : Addr → Prop) : Prop where
  keep : ∀ a o, H a = some o → ¬ O a → H' a = some o
  new : ∀ a, O' a → O a ∨ H a = none
theorem Ext.refl (H : Hp) (O : Addr → Prop) : Ext H O H O := ⟨fun _ _ e _ => e, fun _ h => .inl h⟩
theorem Ext.trans {H H1 H2 : Hp} {O O1 O2 : Addr → Prop} (a : Ext H O H1 O1) (b : Ext H1 O1 H2 O2) : Ext H O H2 O2 := by
  refine ⟨fun x o e n => b.keep x o (a.keep x o e n) fun h => ?_, fun x h => ?_⟩
  · rcases a.new x h with h | h
    · exact n h
    · rw [e] at h; cases h
  · rcases b.new x h with h | h
    · exact a.new x h
    · cases e : H x with
      | none => exact .inr rfl
      | some o =>
        by_cases n : O x
        · exact .inl n
        · rw [a.keep x o e n] at h; cases h
theorem Ext.same {H H' : Hp} {O : Addr → Prop} (h : Same H H') : Ext H O H' O := ⟨fun a o e _ => h a o e, fun _ h => .inl h⟩
theorem Ext.sub {H : Hp} {O O' : Addr → Prop} (h : ∀ a, O' a → O a) : Ext H O H O' := ⟨fun _ _ e _ => e, fun a x => .inl (h a x)⟩

section
variable {K : PySem.W.Frag} {H H' : Hp} {F F' : Addr → Prop}
/-- what lies outside F stands -/
def Mono (H : Hp) (F : Addr → Prop) (H' : Hp) (F' : Addr → Prop) : Prop := ∀ a o, H a = some o → ¬ F a → H' a = some o ∧ ¬ F' a
theorem LsF.mono {a : Addr} {xs : List V} (m : Mono H F H' F') (h : LsF H F a xs) : LsF H' F' a xs := m _ _ h.1 h.2
theorem TzF.mono {a : Addr} {xs : List V} (m : Mono H F H' F') (h : TzF H F a xs) : TzF H' F' a xs := let ⟨⟨o, e, d, c⟩, n⟩ := h; ⟨⟨o, (m _ _ e n).1, d, c⟩, (m _ _ e n).2⟩
theorem TzF.sq {K : PySem.W.Frag} {a : Addr} {xs : List V} (h : TzF H F a xs) : SqT K H a xs := .inl (.inr ⟨_, h.1.choose_spec.1⟩)
/-- a tuple of either kind -/
def TuF (K : PySem.W.Frag) (H : Hp) (F : Addr → Prop) (a : Addr) (xs : List V) : Prop := TpF K H F a xs ∨ TzF H F a xs
theorem InF.mono {a dx : Addr} {x : Str} {ns : List Str} {xs : List V} (m : Mono H F H' F') (h : InF K H F a x dx ns xs) : InF K H' F' a x dx ns xs := m _ _ h.1 h.2
theorem TpF.mono {a : Addr} {xs : List V} (m : Mono H F H' F') (h : TpF K H F a xs) : TpF K H' F' a xs := m _ _ h.1 h.2
theorem ScF.mono {a : Addr} {xs : List V} (m : Mono H F H' F') (h : ScF K H F a xs) : ScF K H' F' a xs := by
  rcases h with ⟨r | ⟨o, r⟩, n⟩ | h
  · exact .inl ⟨.inl (m _ _ r n).1, (m _ _ r n).2⟩
  · exact .inl ⟨.inr ⟨o, (m _ _ r n).1⟩, (m _ _ r n).2⟩
  · exact .inr h
theorem ScF.sq {a : Addr} {xs : List V} (h : ScF K H F a xs) : SqL K H a xs := by
  rcases h with h | h
  · exact .inl h.1
  · exact .inr h
theorem TuF.mono {a : Addr} {xs : List V} (m : Mono H F H' F') (h : TuF K H F a xs) : TuF K H' F' a xs := h.elim (fun h => .inl (h.mono m)) fun h => .inr (h.mono m)
theorem LsF.sq {a : Addr} {xs : List V} (h : LsF H F a xs) : SqL K H a xs := SqL.of h.1
theorem TpF.sq {a : Addr} {xs : List V} (h : TpF K H F a xs) : SqT K H a xs := SqT.of h.1
theorem TuF.sq {a : Addr} {xs : List V} (h : TuF K H F a xs) : SqT K H a xs := h.elim TpF.sq TzF.sq
mutual
theorem Rep.mono (m : Mono H F H' F') : ∀ {d : D} {v : V}, Rep K H F d v → Rep K H' F' d v
  | .non, _, h => h
  | .bl _, _, h => h
  | .int _, _, h => h
  | .str _, _, h => h
  | .tup ds, _, ⟨a, vs, e, t, r⟩ => ⟨a, vs, e, t.mono m, Reps.mono m (ds := ds) r⟩
  | .tpz ds, _, ⟨a, vs, e, t, r⟩ => ⟨a, vs, e, t.mono m, Reps.mono m (ds := ds) r⟩
  | .lst ds, _, ⟨a, vs, e, t, r⟩ => ⟨a, vs, e, t.mono m, Reps.mono m (ds := ds) r⟩
  | .dic ks ds, _, ⟨a, vs, o, e, ⟨t, n, c⟩, r⟩ => ⟨a, vs, o, e, ⟨(m _ _ t n).1, (m _ _ t n).2, c⟩, Reps.mono m (ds := ds) r⟩
  | .ins x ns ds, _, ⟨a, dx, vs, e, t, r⟩ => ⟨a, dx, vs, e, t.mono m, Reps.mono m (ds := ds) r⟩
  | .err _ _ _, _, h => h
  | .fn _, _, h => h
  | .scr _, _, ⟨a, e, h⟩ => ⟨a, e, h.mono m⟩
theorem Reps.mono (m : Mono H F H' F') : ∀ {ds : List D} {vs : List V}, Reps K H F ds vs → Reps K H' F' ds vs
  | [], _, h => h
  | d :: ds, _, ⟨v, r, e, h, t⟩ => ⟨v, r, e, Rep.mono m (d := d) h, Reps.mono m (ds := ds) t⟩
end
theorem Reps.length : ∀ {ds : List D} {vs : List V}, Reps K H F ds vs → ds.length = vs.length
  | [], _, h => by rw [show _ = ([] : List V) from h] <;> rfl
  | d :: ds, _, ⟨v, r, e, h, t⟩ => by rw [e, List.length_cons, List.length_cons, t.length]
theorem Reps.get : ∀ {ds : List D} {vs : List V} {i : Nat} {d : D}, Reps K H F ds vs → ds[i]? = some d → ∃ v, vs[i]? = some v ∧ Rep K H F d v
  | [], _, _, _, _, e => by simp at e
  | x :: ds, _, 0, d, ⟨v, r, e, h, t⟩, q => by
    simp at q; subst q
    exact ⟨v, by rw [e]; rfl, h⟩
  | x :: ds, _, i + 1, d, ⟨v, r, e, h, t⟩, q => by
    obtain ⟨v', e', h'⟩ := t.get (i := i) (d := d) (by simpa using q)
    exact ⟨v', by rw [e]; simpa using e', h'⟩
theorem Reps.get' : ∀ {ds : List D} {vs : List V} {i : Nat} {v : V}, Reps K H F ds vs → vs[i]? = some v → ∃ d, ds[i]? = some d ∧ Rep K H F d v := fun {ds vs i v} r e => by
  have hl := r.length
  have hi : i < ds.length := by rw [hl]; exact (List.getElem?_eq_some_iff.mp e).1
  obtain ⟨v', e', h'⟩ := r.get (i := i) (d := ds[i]) (by simp [hi])
  rw [e] at e'; cases e'
  exact ⟨_, by simp [hi], h'⟩
theorem Reps.append : ∀ {ds es : List D} {vs us : List V}, Reps K H F ds vs → Reps K H F es us → Reps K H F (ds ++ es) (vs ++ us)
  | [], _, _, _, h, k => by rw [show _ = ([] : List V) from h]; exact k
  | d :: ds, es, _, us, ⟨v, r, e, h, t⟩, k => ⟨v, r ++ us, by rw [e]; rfl, h, t.append k⟩
theorem Reps.one {d : D} {v : V} (h : Rep K H F d v) : Reps K H F [d] [v] := ⟨v, [], rfl, h, rfl⟩
theorem Reps.cons {d : D} {v : V} {ds : List D} {vs : List V} (h : Rep K H F d v) (t : Reps K H F ds vs) : Reps K H F (d :: ds) (v :: vs) := ⟨v, vs, rfl, h, t⟩
theorem Reps.nil : Reps K H F [] [] := rfl
theorem Reps.set : ∀ {ds : List D} {vs : List V} {d : D} {v : V} (i : Nat), Reps K H F ds vs → Rep K H F d v → Reps K H F (ds.set i d) (vs.set i v)
  | [], _, _, _, _, h, _ => by rw [show _ = ([] : List V) from h]; exact rfl
  | x :: ds, _, d, v, 0, ⟨v0, r, e, h, t⟩, k => by rw [e]; exact ⟨v, r, rfl, k, t⟩
  | x :: ds, _, d, v, i + 1, ⟨v0, r, e, h, t⟩, k => by rw [e]; exact ⟨v0, r.set i v, rfl, h, t.set i k⟩
theorem Reps.take : ∀ {ds : List D} {vs : List V} (n : Nat), Reps K H F ds vs → Reps K H F (ds.take n) (vs.take n)
  | _, _, 0, _ => by simp only [List.take_zero]; exact rfl
  | [], _, n + 1, h => by rw [show _ = ([] : List V) from h]; exact rfl
  | d :: ds, _, n + 1, ⟨v, r, e, h, t⟩ => by rw [e]; exact ⟨v, r.take n, rfl, h, t.take n⟩
theorem Reps.drop : ∀ {ds : List D} {vs : List V} (n : Nat), Reps K H F ds vs → Reps K H F (ds.drop n) (vs.drop n)
  | _, _, 0, h => h
  | [], _, n + 1, h => by rw [show _ = ([] : List V) from h]; exact rfl
  | d :: ds, _, n + 1, ⟨v, r, e, h, t⟩ => by rw [e]; exact t.drop n
theorem Reps.reverse {ds : List D} {vs : List V} (h : Reps K H F ds vs) : Reps K H F ds.reverse vs.reverse := by
  induction ds generalizing vs with
  | nil => rw [show _ = ([] : List V) from h]; exact rfl
  | cons d ds ih =>
    obtain ⟨v, r, e, h, t⟩ := h
    rw [e, List.reverse_cons, List.reverse_cons]
    exact (ih t).append (.one h)
theorem Reps.eraseIdx : ∀ {ds : List D} {vs : List V} (i : Nat), Reps K H F ds vs → Reps K H F (ds.eraseIdx i) (vs.eraseIdx i)
  | [], _, _, h => by rw [show _ = ([] : List V) from h]; exact rfl
  | d :: ds, _, 0, ⟨v, r, e, h, t⟩ => by rw [e]; exact t
  | d :: ds, _, i + 1, ⟨v, r, e, h, t⟩ => by rw [e]; exact ⟨v, r.eraseIdx i, rfl, h, t.eraseIdx i⟩
end

theorem Ext.mono {S : Sit} {H H' : Hp} {O O' : Addr → Prop} (x : Ext H O H' O') : Mono H (S.F O) H' (S.F O') := fun a o e n => by
  refine ⟨x.keep a o e fun h => n (.inr h), fun h => ?_⟩
  rcases h with h | h
  · exact n (.inl h)
  · rcases x.new a h with h | h
    · exact n (.inr h)
    · rw [e] at h; cases h
theorem Mono.sub {H : Hp} {F F' : Addr → Prop} (h : ∀ a, F' a → F a) : Mono H F H F' := fun a o e n => ⟨e, fun q => n (h a q)⟩
theorem Mono.same {H H' : Hp} {F : Addr → Prop} (h : Same H H') : Mono H F H' F := fun a o e n => ⟨h a o e, n⟩

/-- the value of an owned slot, or of a fresh expression: its container stands in O -/
def Top (S : Sit) (H : Hp) (O : Addr → Prop) : D → V → Prop
  | .lst ds, v => ∃ a vs, v = .ref a ∧ O a ∧ ¬ S.G a ∧ H a = some (.lst vs) ∧ Reps S.K H (S.F O) ds vs
  | .dic ks ds, v => ∃ a vs, v = .ref a ∧ O a ∧ ¬ S.G a ∧ (∃ o, H a = some o ∧ DcO o ks vs) ∧ Reps S.K H (S.F O) ds vs
  | d, v => Rep S.K H (S.F O) d v
/-- the items of a container -/
def kids : D → List D
  | .lst ds => ds
  | .dic _ ds => ds
  | _ => []
/-- the object of a container whose items are vs -/
def CnO : D → HO → List V → Prop
  | .lst _, o, vs => o = .lst vs
  | .dic ks _, o, vs => DcO o ks vs
  | _, _, _ => False
def CnAt (H : Hp) (d : D) (a : Addr) (vs : List V) : Prop := ∃ o, H a = some o ∧ CnO d o vs
abbrev Pd := List (D × V)
/-- the owned containers: a slot's, a pending one -/
def rtS (env : Env) (σ : L2.St) (i : Nat) : Option V := match env[i]?, σ[i]? with
  | some (Sl.ow d), some (some v) => if isC d then some v else none
  | _, _ => none
def rtP (P : Pd) (j : Nat) : Option V := match P[j]? with
  | some (d, v) => if isC d then some v else none
  | none => none
def rt (env : Env) (σ : L2.St) (P : Pd) : Nat ⊕ Nat → Option V
  | .inl i => rtS env σ i
  | .inr j => rtP P j

structure SR (S : Sit) (P : Pd) (H : Hp) (O : Addr → Prop) (env : Env) (σ : L2.St) : Prop where
  len : env.length = σ.length
  own : ∀ a, S.G a ∨ O a → H a ≠ none
  dis : ∀ a, S.G a → ¬ O a
  sh : ∀ (i : Nat) (d : D), env[i]? = some (Sl.sh d) → ∃ v, σ[i]? = some (some v) ∧ Rep S.K H (S.F O) d v
  ow : ∀ (i : Nat) (d : D), env[i]? = some (Sl.ow d) → ∃ v, σ[i]? = some (some v) ∧ Top S H O d v
  pd : ∀ p ∈ P, Top S H O p.1 p.2
  ne : ∀ x y v, rt env σ P x = some v → rt env σ P y = some v → x = y
  io : ∀ p ∈ S.io, σ[p.1]? = some (some p.2)

section
variable {S : Sit} {P : Pd} {H H' : Hp} {O O' : Addr → Prop} {env : Env} {σ : L2.St}
theorem top_notC {d : D} {v : V} (h : isC d = false) : Top S H O d v = Rep S.K H (S.F O) d v := by
  cases d <;> first | rfl | (simp [isC] at h)
theorem CnAt.mem {d : D} {a : Addr} {vs : List V} (c : CnAt H d a vs) : H a ≠ none := let ⟨o, h, _⟩ := c; by rw [h]; simp
theorem CnAt.keep {d : D} {a : Addr} {vs : List V} (c : CnAt H d a vs) (k : ∀ o, H a = some o → H' a = some o) : CnAt H' d a vs := let ⟨o, h, q⟩ := c; ⟨o, k o h, q⟩
theorem top_C {d : D} {v : V} (c : isC d = true) : Top S H O d v ↔ ∃ a vs, v = .ref a ∧ O a ∧ ¬ S.G a ∧ CnAt H d a vs ∧ Reps S.K H (S.F O) (kids d) vs := by
  cases d with
  | lst ds =>
    constructor
    · rintro ⟨a, vs, e, o, g, x, r⟩; exact ⟨a, vs, e, o, g, ⟨_, x, rfl⟩, r⟩
    · rintro ⟨a, vs, e, o, g, ⟨ob, x, q⟩, r⟩
      exact ⟨a, vs, e, o, g, by rw [x, show ob = .lst vs from q], r⟩
  | dic ks ds => exact Iff.rfl
  | _ => simp [isC] at c
/-- a container that nobody will change -/
theorem rep_C {K : PySem.W.Frag} {F : Addr → Prop} {d : D} {v : V} (c : isC d = true) : Rep K H F d v ↔ ∃ a vs, v = .ref a ∧ CnAt H d a vs ∧ ¬ F a ∧ Reps K H F (kids d) vs := by
  cases d with
  | lst ds =>
    constructor
    · rintro ⟨a, vs, e, x, r⟩; exact ⟨a, vs, e, ⟨_, x.1, rfl⟩, x.2, r⟩
    · rintro ⟨a, vs, e, ⟨ob, x, q⟩, n, r⟩
      exact ⟨a, vs, e, ⟨by rw [x, show ob = .lst vs from q], n⟩, r⟩
  | dic ks ds =>
    constructor
    · rintro ⟨a, vs, o, e, ⟨x, n, q⟩, r⟩; exact ⟨a, vs, e, ⟨o, x, q⟩, n, r⟩
    · rintro ⟨a, vs, e, ⟨o, x, q⟩, n, r⟩; exact ⟨a, vs, o, e, ⟨x, n, q⟩, r⟩
  | _ => simp [isC] at c
theorem Top.same {d : D} {v : V} (h : Same H H') (t : Top S H O d v) : Top S H' O d v := by
  cases c : isC d with
  | true =>
    obtain ⟨a, vs, e, o, g, x, r⟩ := (top_C c).mp t
    exact (top_C c).mpr ⟨a, vs, e, o, g, x.keep (h a), r.mono (Mono.same h)⟩
  | false => rw [top_notC c] at t ⊢; exact Rep.mono (Mono.same h) t
/-- the heap grows -/
theorem SR.same (h : Same H H') (s : SR S P H O env σ) : SR S P H' O env σ := by
  refine ⟨s.len, fun a f => ?_, s.dis, fun i d e => ?_, fun i d e => ?_, fun p hp => (s.pd p hp).same h, s.ne, s.io⟩
  · have := s.own a f
    cases q : H a with
    | none => exact absurd q this
    | some o => rw [h a o q]; simp
  · obtain ⟨v, e1, t⟩ := s.sh i d e
    exact ⟨v, e1, t.mono (Mono.same h)⟩
  · obtain ⟨v, e1, t⟩ := s.ow i d e
    exact ⟨v, e1, t.same h⟩
theorem SR.new {p : Addr} (s : SR S P H O env σ) (h : H p = none) : ¬ S.F O p := fun f => s.own p f h
theorem same_upd {p : Addr} {o : HO} (h : H p = none) : Same H (upd H p o) := fun a u e => by rw [upd_ne (ne_of_none e h)]; exact e
theorem rt_inl {i : Nat} {v : V} : rt env σ P (.inl i) = some v ↔ ∃ d, env[i]? = some (Sl.ow d) ∧ isC d = true ∧ σ[i]? = some (some v) := by
  show rtS env σ i = some v ↔ _
  unfold rtS
  constructor
  · intro h
    split at h
    · rename_i d w e1 e2
      split at h
      · rename_i c; cases h; exact ⟨d, e1, c, e2⟩
      · cases h
    · cases h
  · rintro ⟨d, e1, c, e2⟩
    rw [e1, e2]; simp [c]
theorem rt_inr {j : Nat} {v : V} : rt env σ P (.inr j) = some v ↔ ∃ d, P[j]? = some (d, v) ∧ isC d = true := by
  show rtP P j = some v ↔ _
  unfold rtP
  constructor
  · intro h
    split at h
    · rename_i d w e1
      split at h
      · rename_i c; cases h; exact ⟨d, e1, c⟩
      · cases h
    · cases h
  · rintro ⟨d, e1, c⟩
    simp only [e1, c, if_true]
/-- what an owned container is -/
theorem SR.root (s : SR S P H O env σ) {x : Nat ⊕ Nat} {v : V} (h : rt env σ P x = some v) : ∃ d a vs, v = .ref a ∧ O a ∧ ¬ S.G a ∧ CnAt H d a vs ∧ Reps S.K H (S.F O) (kids d) vs := by
  cases x with
  | inl i =>
    obtain ⟨d, e1, c, e2⟩ := rt_inl.mp h
    obtain ⟨w, e3, t⟩ := s.ow i _ e1
    rw [e2] at e3; cases e3
    exact ⟨d, (top_C c).mp t⟩
  | inr j =>
    obtain ⟨d, e1, c⟩ := rt_inr.mp h
    exact ⟨d, (top_C c).mp (s.pd _ (List.mem_of_getElem? e1))⟩
end

/-! ### what an expression's end asks -/
/-- the error x, an exception of the class cls whose own dict is at dd -/
def RepX (S : Sit) (x : D) (cls : Value) (dd : Option Addr) (H : Hp) : Prop := match x with
  | .err c [] [] => cls = .ref (He.ga S.K c) ∧ dd = none
  | _ => False
def PostG {α : Type} (S : Sit) (W : WX) (P : Pd) (H : Hp) (O : Addr → Prop) (σ : L2.St) (r : R α) (Q : α → Env → Hp → (Addr → Prop) → Prop) : Prop := match r with
  | .stuck => False
  | .ok d s => ∀ H' O', Ext H O H' O' → SR S P H' O' s σ → Q d s H' O'
  | .exc x s => ∀ cls dd H' O', Ext H O H' O' → SR S P H' O' s σ → RepX S x cls dd H' → W cls dd σ H'
/-- a value comes -/
abbrev Post (S : Sit) (W : WX) (P : Pd) (H : Hp) (O : Addr → Prop) (σ : L2.St) (r : R D) (Q : VK) : Prop :=
  PostG S W P H O σ r fun d _ H' O' => ∀ v, Rep S.K H' (S.F O') d v → Q v H'
/-- it is no owned container -/
def NewTop (env : Env) (σ : L2.St) (P : Pd) (d : D) (v : V) : Prop := isC d = true → ∀ x, rt env σ P x ≠ some v
/-- a fresh value comes -/
abbrev PostF (S : Sit) (W : WX) (P : Pd) (H : Hp) (O : Addr → Prop) (σ : L2.St) (r : R D) (Q : VK) : Prop :=
  PostG S W P H O σ r fun d s H' O' => ∀ v, Top S H' O' d v → NewTop s σ P d v → Q v H'
abbrev PostT (S : Sit) (W : WX) (P : Pd) (H : Hp) (O : Addr → Prop) (σ : L2.St) (r : R Bool) (Q : Bool → Hp → Prop) : Prop :=
  PostG S W P H O σ r fun b _ H' _ => Q b H'

section
variable {S : Sit} {W : WX} {P : Pd} {H H1 : Hp} {O O1 : Addr → Prop} {σ : L2.St} {α β : Type} {r : R α}
theorem PostG.later {Q : α → Env → Hp → (Addr → Prop) → Prop} (x : Ext H O H1 O1) (h : PostG S W P H O σ r Q) : PostG S W P H1 O1 σ r Q := by
  cases r with
  | stuck => exact h
  | ok d s => exact fun H' O' e => h H' O' (x.trans e)
  | exc y s => exact fun cls dd H' O' e => h cls dd H' O' (x.trans e)
theorem PostG.imp {Q Q' : α → Env → Hp → (Addr → Prop) → Prop} (h : PostG S W P H O σ r Q) (i : ∀ d s H' O', r = .ok d s → Ext H O H' O' → SR S P H' O' s σ → Q d s H' O' → Q' d s H' O') : PostG S W P H O σ r Q' := by
  cases r with
  | stuck => exact h
  | ok d s => exact fun H' O' e t => i d s H' O' rfl e t (h H' O' e t)
  | exc y s => exact h
theorem PostG.bind {f : α → Env → R β} {Q : β → Env → Hp → (Addr → Prop) → Prop} (h : PostG S W P H O σ (r.bind f) Q) :
    PostG S W P H O σ r fun d s H' O' => Ext H O H' O' ∧ SR S P H' O' s σ ∧ PostG S W P H' O' σ (f d s) Q := by
  cases r with
  | stuck => exact h
  | ok d s => exact fun H' O' e t => ⟨e, t, PostG.later e h⟩
  | exc y s => exact h
theorem PostG.opt {o : Option α} {s : Env} {Q : α → Env → Hp → (Addr → Prop) → Prop} (h : PostG S W P H O σ (optR o s) Q) : ∃ a, o = some a ∧ PostG S W P H O σ (.ok a s) Q := by
  cases o with
  | none => exact False.elim h
  | some a => exact ⟨a, rfl, h⟩
theorem PostG.optBind {o : Option α} {s : Env} {f : α → Env → R β} {Q : β → Env → Hp → (Addr → Prop) → Prop} (h : PostG S W P H O σ ((optR o s).bind f) Q) : ∃ a, o = some a ∧ PostG S W P H O σ (f a s) Q := by
  cases o with
  | none => exact False.elim h
  | some a => exact ⟨a, rfl, h⟩
end

def tD (S : Sit) (C : Calls) (W : WX) (e : E) : TE := fun σ H Q => ∃ P env O, SR S P H O env σ ∧ Post S W P H O σ (evalE C e env) Q
def tDf (S : Sit) (C : Calls) (W : WX) (e : E) : TE := fun σ H Q => ∃ P env O, SR S P H O env σ ∧ PostF S W P H O σ (evalE C e env) Q
def tT (S : Sit) (C : Calls) (W : WX) (e : T) : TT := fun σ H Q => ∃ P env O, SR S P H O env σ ∧ PostT S W P H O σ (evalT C e env) Q

theorem PE.imp {X : Cx} {e : Expr} {t t' : TE} (h : PE X e t) (i : ∀ σ H Q, t' σ H Q → t σ H Q) : PE X e t' := ⟨fun pins s σ H Q I q => h.run pins s σ H Q I (i σ H Q q)⟩
theorem PT.imp {X : Cx} {e : Expr} {t t' : TT} (h : PT X e t) (i : ∀ σ H Q, t' σ H Q → t σ H Q) : PT X e t' := ⟨fun pins s σ H Q I q => h.run pins s σ H Q I (i σ H Q q)⟩
theorem PA.imp {X : Cx} {e : List Expr} {t t' : TA} (h : PA X e t) (i : ∀ σ H Q, t' σ H Q → t σ H Q) : PA X e t' := ⟨fun pos pins s σ H Q I q => h.run pos pins s σ H Q I (i σ H Q q)⟩

/-- a container leaves the owned ones: it is no root of what is left -/
theorem SR.drop {S : Sit} {P P' : Pd} {H : Hp} {O : Addr → Prop} {env env' : Env} {σ : L2.St} {a : Addr} (s : SR S P H O env σ) (hl : env'.length = env.length)
    (hsh : ∀ (i : Nat) (d : D), env'[i]? = some (Sl.sh d) → env[i]? = some (Sl.sh d) ∨ ∃ v, σ[i]? = some (some v) ∧ Rep S.K H (S.F fun b => O b ∧ b ≠ a) d v)
    (how : ∀ (i : Nat) (d : D), env'[i]? = some (Sl.ow d) → env[i]? = some (Sl.ow d)) (hP : ∀ p ∈ P', p ∈ P)
    (hrt : ∀ x v, rt env' σ P' x = some v → ∃ y, rt env σ P y = some v) (hne : ∀ x y v, rt env' σ P' x = some v → rt env' σ P' y = some v → x = y)
    (n : ∀ x, rt env' σ P' x ≠ some (.ref a)) : SR S P' H (fun b => O b ∧ b ≠ a) env' σ := by
  have fsub : ∀ b, S.F (fun b => O b ∧ b ≠ a) b → S.F O b := fun b h => h.elim .inl fun h => .inr h.1
  refine ⟨hl.trans s.len, fun b h => s.own b (h.elim .inl fun h => .inr h.1), fun b h k => s.dis b h k.1, fun i di e => ?_, fun i di e => ?_, fun p hp => ?_, hne, s.io⟩
  · rcases hsh i di e with h | h
    · obtain ⟨w, e1, q⟩ := s.sh i di h
      exact ⟨w, e1, q.mono (Mono.sub fsub)⟩
    · exact h
  · obtain ⟨w, e1, q⟩ := s.ow i di (how i di e)
    refine ⟨w, e1, ?_⟩
    cases ci : isC di with
    | false => rw [top_notC ci] at q ⊢; exact q.mono (Mono.sub fsub)
    | true =>
      obtain ⟨b, us, rfl, ob, gb, xb, rb⟩ := (top_C ci).mp q
      refine (top_C ci).mpr ⟨b, us, rfl, ⟨ob, ?_⟩, gb, xb, rb.mono (Mono.sub fsub)⟩
      rintro rfl
      exact n (.inl i) (rt_inl.mpr ⟨_, e, ci, e1⟩)
  · have q := s.pd p (hP p hp)
    cases ci : isC p.1 with
    | false => rw [top_notC ci] at q ⊢; exact q.mono (Mono.sub fsub)
    | true =>
      obtain ⟨d, v⟩ := p
      obtain ⟨b, us, rfl, ob, gb, xb, rb⟩ := (top_C ci).mp q
      refine (top_C ci).mpr ⟨b, us, rfl, ⟨ob, ?_⟩, gb, xb, rb.mono (Mono.sub fsub)⟩
      rintro rfl
      obtain ⟨j, hj, ej⟩ := List.mem_iff_getElem.mp hp
      exact n (.inr j) (rt_inr.mpr ⟨_, by rw [List.getElem?_eq_getElem hj, ej], ci⟩)
/-- a fresh value given up: its container belongs to nobody from now on -/
theorem fresh_drop {S : Sit} {P : Pd} {H : Hp} {O : Addr → Prop} {env : Env} {σ : L2.St} {d : D} {v : V} (s : SR S P H O env σ) (t : Top S H O d v) (n : NewTop env σ P d v) :
    ∃ O', Ext H O H O' ∧ SR S P H O' env σ ∧ Rep S.K H (S.F O') d v := by
  cases hc : isC d with
  | false => exact ⟨O, Ext.refl _ _, s, by rw [top_notC hc] at t; exact t⟩
  | true =>
    obtain ⟨a, vs, rfl, o, g, x, r⟩ := (top_C hc).mp t
    have fsub : ∀ b, S.F (fun b => O b ∧ b ≠ a) b → S.F O b := fun b h => h.elim .inl fun h => .inr h.1
    refine ⟨fun b => O b ∧ b ≠ a, Ext.sub fun b h => h.1, s.drop rfl (fun _ _ h => .inl h) (fun _ _ h => h) (fun _ h => h) (fun x v h => ⟨x, h⟩) s.ne (n hc), (rep_C hc).mpr ⟨a, vs, rfl, x, fun h => ?_, r.mono (Mono.sub fsub)⟩⟩
    rcases h with h | h
    · exact g h
    · exact h.2 rfl
theorem post_fresh {S : Sit} {W : WX} {P : Pd} {H : Hp} {O : Addr → Prop} {σ : L2.St} {r : R D} {Q : VK} (h : Post S W P H O σ r Q) : PostF S W P H O σ r Q := by
  cases r with
  | stuck => exact h
  | ok d s =>
    intro H' O' x t v p n
    obtain ⟨O2, x2, t2, r2⟩ := fresh_drop t p n
    exact h H' O2 (x.trans x2) t2 v r2
  | exc y s => exact h
theorem PE.unfresh {X : Cx} {S : Sit} {C : Calls} {W : WX} {pe : Expr} {e : E} (h : PE X pe (tDf S C W e)) : PE X pe (tD S C W e) := PE.imp h fun σ H Q ⟨P, env, O, s, p⟩ => ⟨P, env, O, s, post_fresh p⟩

theorem sh_ne {d : D} : ∀ e, Sl.sh d ≠ Sl.ow e := fun _ q => nomatch q
theorem no_ne : ∀ e, Sl.no ≠ Sl.ow e := fun _ q => nomatch q
/-- a slot that is set to a shared value or to nothing, the state as it is -/
theorem rt_set {env : Env} {σ : L2.St} {P : Pd} {i : Nat} {sl : Sl} (hsl : ∀ d, sl ≠ .ow d) {x : Nat ⊕ Nat} {v : V} (h : rt (env.set i sl) σ P x = some v) : rt env σ P x = some v ∧ x ≠ .inl i := by
  cases x with
  | inl j =>
    obtain ⟨d, e1, c, e2⟩ := rt_inl.mp h
    by_cases hj : j = i
    · subst hj
      have hlt : j < env.length := by
        have := (List.getElem?_eq_some_iff.mp e1).1
        simpa using this
      rw [List.getElem?_set_self hlt] at e1
      exact absurd (Option.some.inj e1) (hsl d)
    · rw [List.getElem?_set_ne (Ne.symm hj)] at e1
      exact ⟨rt_inl.mpr ⟨d, e1, c, e2⟩, fun q => hj (by cases q; rfl)⟩
  | inr j => exact ⟨h, fun q => nomatch q⟩
/-- an owned slot's container is shared from now on, or not looked at -/
theorem SR.freeze {S : Sit} {P : Pd} {H : Hp} {O : Addr → Prop} {env : Env} {σ : L2.St} {i : Nat} {d : D} (s : SR S P H O env σ) (h : env[i]? = some (Sl.ow d)) :
    ∃ v O', σ[i]? = some (some v) ∧ Ext H O H O' ∧ SR S P H O' (env.set i (Sl.sh d)) σ ∧ Rep S.K H (S.F O') d v := by
  obtain ⟨v, e1, t⟩ := s.ow i d h
  have hlt : i < env.length := (List.getElem?_eq_some_iff.mp h).1
  cases hc : isC d with
  | false =>
    rw [top_notC hc] at t
    refine ⟨v, O, e1, Ext.refl _ _, ⟨by rw [List.length_set]; exact s.len, s.own, s.dis, fun j dj ej => ?_, fun j dj ej => ?_, s.pd, fun x y w h1 h2 => s.ne x y w (rt_set sh_ne h1).1 (rt_set sh_ne h2).1, s.io⟩, t⟩
    · by_cases hj : j = i
      · subst hj
        rw [List.getElem?_set_self hlt] at ej
        cases ej
        exact ⟨v, e1, t⟩
      · rw [List.getElem?_set_ne (Ne.symm hj)] at ej
        exact s.sh j dj ej
    · by_cases hj : j = i
      · subst hj
        rw [List.getElem?_set_self hlt] at ej
        cases ej
      · rw [List.getElem?_set_ne (Ne.symm hj)] at ej
        exact s.ow j dj ej
  | true =>
    obtain ⟨a, vs, rfl, o, g, x, r⟩ := (top_C hc).mp t
    have fsub : ∀ b, S.F (fun b => O b ∧ b ≠ a) b → S.F O b := fun b h => h.elim .inl fun h => .inr h.1
    have rp : Rep S.K H (S.F fun b => O b ∧ b ≠ a) d (.ref a) := (rep_C hc).mpr ⟨a, vs, rfl, x, fun h => h.elim (fun h => g h) fun h => h.2 rfl, r.mono (Mono.sub fsub)⟩
    refine ⟨.ref a, fun b => O b ∧ b ≠ a, e1, Ext.sub fun b h => h.1, s.drop (by rw [List.length_set]) (fun j dj ej => ?_) (fun j dj ej => ?_) (fun _ h => h) (fun x v h => ⟨x, (rt_set sh_ne h).1⟩)
      (fun x y w h1 h2 => s.ne x y w (rt_set sh_ne h1).1 (rt_set sh_ne h2).1) (fun x h1 => ?_), rp⟩
    · by_cases hj : j = i
      · subst hj
        rw [List.getElem?_set_self hlt] at ej
        cases ej
        exact .inr ⟨_, e1, rp⟩
      · rw [List.getElem?_set_ne (Ne.symm hj)] at ej
        exact .inl ej
    · by_cases hj : j = i
      · subst hj
        rw [List.getElem?_set_self hlt] at ej
        cases ej
      · rw [List.getElem?_set_ne (Ne.symm hj)] at ej
        exact ej
    · obtain ⟨q1, q2⟩ := rt_set sh_ne h1
      exact q2 (s.ne _ _ _ q1 (rt_inl.mpr ⟨_, h, hc, e1⟩))
end Rf

/-! Rf, part C: operators by trees. -/
namespace Rf
open PySem PySem.Spec PyProof.Rows L2

/-- the list's content, however its place is guarded -/
def RepV (K : PySem.W.Frag) (H : Hp) (F : Addr → Prop) : D → V → Prop
  | .lst ds, v => ∃ a vs, v = .ref a ∧ H a = some (.lst vs) ∧ Reps K H F ds vs
  | .dic ks ds, v => ∃ a vs, v = .ref a ∧ (∃ o, H a = some o ∧ DcO o ks vs) ∧ Reps K H F ds vs
  | d, v => Rep K H F d v
theorem Rep.view {K : PySem.W.Frag} {H : Hp} {F : Addr → Prop} {d : D} {v : V} (h : Rep K H F d v) : RepV K H F d v := by
  cases d with
  | lst ds =>
    obtain ⟨a, vs, e, l, r⟩ := h
    exact ⟨a, vs, e, l.1, r⟩
  | dic ks ds =>
    obtain ⟨a, vs, o, e, l, r⟩ := h
    exact ⟨a, vs, e, ⟨o, l.1, l.2.2⟩, r⟩
  | _ => exact h
theorem Top.view {S : Sit} {H : Hp} {O : Addr → Prop} {d : D} {v : V} (h : Top S H O d v) : RepV S.K H (S.F O) d v := by
  cases d with
  | lst ds =>
    obtain ⟨a, vs, e, o, g, x, r⟩ := h
    exact ⟨a, vs, e, x, r⟩
  | dic ks ds =>
    obtain ⟨a, vs, e, o, g, x, r⟩ := h
    exact ⟨a, vs, e, x, r⟩
  | _ => exact h

/-- what comes: a new list, a new dict | another value -/
def ResK (K : PySem.W.Frag) (H : Hp) (F : Addr → Prop) : D → VK → Prop
  | .lst ds, Q => ∀ p vs, H p = none → Reps K H F ds vs → Q (.ref p) (upd H p (.lst vs))
  | .dic ks ds, Q => ∀ p o vs, H p = none → DcO o ks vs → Reps K H F ds vs → Q (.ref p) (upd H p o)
  | d, Q => ∀ v H', Same H H' → Rep K H' F d v → Q v H'
/-- a new container -/
theorem res_new {S : Sit} {W : WX} {P : Pd} {H : Hp} {O : Addr → Prop} {env : Env} {σ : L2.St} {d : D} {Q : VK} (s : SR S P H O env σ) (hd : isC d = true) (h : PostF S W P H O σ (.ok d env) Q) {p : Addr} {o : HO} {vs : List V}
    (hp : H p = none) (ho : CnO d o vs) (r : Reps S.K H (S.F O) (kids d) vs) : Q (.ref p) (upd H p o) := by
  have sm : Same H (upd H p o) := same_upd hp
  have x : Ext H O (upd H p o) (fun a => O a ∨ a = p) := ⟨fun a o e _ => sm a o e, fun a h => h.elim .inl fun h => .inr (h ▸ hp)⟩
  have m := x.mono (S := S)
  have gp : ¬ S.G p := fun g => s.own p (.inl g) hp
  have tm : ∀ {d : D} {v : V}, Top S H O d v → Top S (upd H p o) (fun a => O a ∨ a = p) d v := fun {d v} t => by
    cases hc : isC d with
    | false => rw [top_notC hc] at t ⊢; exact t.mono m
    | true =>
      obtain ⟨b, us, e2, ob, gb, xb, rb⟩ := (top_C hc).mp t
      exact (top_C hc).mpr ⟨b, us, e2, .inl ob, gb, xb.keep (sm b), rb.mono m⟩
  refine h _ _ x ⟨s.len, fun a f => ?_, fun a g h => ?_, fun i d e => ?_, fun i d e => ?_, fun q hq => tm (s.pd q hq), s.ne, s.io⟩ _ ((top_C hd).mpr ⟨p, vs, rfl, .inr rfl, gp, ⟨o, upd_same, ho⟩, r.mono m⟩) fun _ y e => ?_
  · by_cases e : a = p
    · subst e; rw [upd_same]; simp
    · rw [upd_ne e]
      exact s.own a (by rcases f with f | f | f; exact .inl f; exact .inr f; exact absurd f e)
  · rcases h with h | h
    · exact s.dis a g h
    · exact gp (h ▸ g)
  · obtain ⟨v, e1, t⟩ := s.sh i d e
    exact ⟨v, e1, t.mono m⟩
  · obtain ⟨v, e1, t⟩ := s.ow i d e
    exact ⟨v, e1, tm t⟩
  · obtain ⟨es, b, us, e2, ob, gb, xb, rb⟩ := s.root e
    cases e2
    exact xb.mem hp
theorem resK_of {S : Sit} {W : WX} {P : Pd} {H : Hp} {O : Addr → Prop} {env : Env} {σ : L2.St} {d : D} {Q : VK} (s : SR S P H O env σ) (h : PostF S W P H O σ (.ok d env) Q) : ResK S.K H (S.F O) d Q := by
  cases d with
  | lst ds => exact fun p vs hp r => res_new s rfl h hp rfl r
  | dic ks ds => exact fun p o vs hp ho r => res_new s rfl h hp ho r
  | _ => exact fun v H' sm r => h H' O (Ext.same sm) (s.same sm) v r fun c => by simp [isC] at c


abbrev OpD (X : Cx) (f : Value → Value → Sem Value) (g : D → D → Option D) : Prop :=
  OpR X f (fun x y H Q => ∃ d e z F, (∀ a, F a → H a ≠ none) ∧ RepV X.K H F d x ∧ RepV X.K H F e y ∧ g d e = some z ∧ ResK X.K H F z Q)

theorem Reps.rep {K : PySem.W.Frag} {H : Hp} {F : Addr → Prop} {ds : List D} {vs : List V} (h : Reps K H F ds vs) : ∀ n : Nat, Reps K H F (List.replicate n ds).flatten (List.replicate n vs).flatten
  | 0 => rfl
  | n + 1 => by
    rw [List.replicate_succ, List.replicate_succ, List.flatten_cons, List.flatten_cons]
    exact h.append (Reps.rep h n)
theorem flat_len {α : Type} (n : Nat) (xs : List α) : (List.replicate n xs).flatten.length = n * xs.length := by
  induction n with
  | zero => simp
  | succ n ih => rw [List.replicate_succ, List.flatten_cons, List.length_append, ih, Nat.succ_mul]; omega

section
variable {X : Cx}
theorem opD_add : OpD X (binaryOp .Add) (bin .add) := by
  intro pins s σ H x y v u Q I rx ry h
  obtain ⟨d, e, z, F, fn, rd, re, hb, k⟩ := h
  cases d <;> cases e <;> try (simp [bin] at hb; done)
  case int.int i j =>
    cases rd; cases re
    simp only [bin, Option.some.injEq] at hb; subst hb
    exact op_add pins s σ H _ _ v u Q I rx ry ⟨i, j, rfl, rfl, k _ H (Same.refl H) rfl⟩
  case str.str i j =>
    cases rd; cases re
    simp only [bin] at hb
    split at hb
    · rename_i hl
      cases hb
      exact op_add_str pins s σ H _ _ v u Q I rx ry ⟨i, j, rfl, rfl, hl, k _ H (Same.refl H) rfl⟩
    · cases hb
  case tup.tup ds es =>
    obtain ⟨a, vs, rfl, ta, ra⟩ := rd
    obtain ⟨b, us, rfl, tb, rb⟩ := re
    simp only [bin] at hb
    split at hb
    · rename_i hl
      cases hb
      have l1 := ra.length
      have l2 := rb.length
      refine op_catA pins s σ H _ _ v u Q I rx ry ⟨a, b, vs, us, rfl, rfl, ta.sq, tb.sq, by omega, fun e => ?_, fun _ e => ?_, fun _ _ p hp => ?_⟩
      · subst e
        obtain rfl : ds = [] := List.eq_nil_of_length_eq_zero l1
        exact k _ H (Same.refl H) ⟨b, us, rfl, tb, rb⟩
      · subst e
        obtain rfl : es = [] := List.eq_nil_of_length_eq_zero l2
        exact k _ H (Same.refl H) ⟨a, vs, rfl, ta, by rw [List.append_nil]; exact ra⟩
      · have sm : Same H (upd H p (.tup (vs ++ us))) := same_upd hp
        exact k _ _ sm ⟨p, _, rfl, ⟨upd_same, fun f => fn p f hp⟩, (ra.append rb).mono (Mono.same sm)⟩
    · cases hb
  case tup.tpz ds es =>
    obtain ⟨a, vs, rfl, ta, ra⟩ := rd
    obtain ⟨b, us, rfl, tb, rb⟩ := re
    simp only [bin] at hb
    split at hb
    · rename_i hl
      cases hb
      have l1 := ra.length
      have l2 := rb.length
      refine op_catA pins s σ H _ _ v u Q I rx ry ⟨a, b, vs, us, rfl, rfl, ta.sq, tb.sq, by omega, fun e => ?_, fun e0 e => ?_, fun e0 e1 p hp => ?_⟩
      · subst e
        obtain rfl : ds = [] := List.eq_nil_of_length_eq_zero l1
        exact k _ H (Same.refl H) ⟨b, us, rfl, tb, rb⟩
      · subst e
        obtain rfl : es = [] := List.eq_nil_of_length_eq_zero l2
        cases ds with
        | nil => exact absurd (List.eq_nil_of_length_eq_zero l1.symm) e0
        | cons d ds => exact k _ H (Same.refl H) ⟨a, vs, rfl, ta, ra⟩
      · have sm : Same H (upd H p (.tup (vs ++ us))) := same_upd hp
        cases ds with
        | nil => exact absurd (List.eq_nil_of_length_eq_zero l1.symm) e0
        | cons d ds =>
          cases es with
          | nil => exact absurd (List.eq_nil_of_length_eq_zero l2.symm) e1
          | cons e es => exact k _ _ sm ⟨p, _, rfl, ⟨upd_same, fun f => fn p f hp⟩, (ra.append rb).mono (Mono.same sm)⟩
    · cases hb
  case tpz.tup ds es =>
    obtain ⟨a, vs, rfl, ta, ra⟩ := rd
    obtain ⟨b, us, rfl, tb, rb⟩ := re
    simp only [bin] at hb
    split at hb
    · rename_i hl
      cases hb
      have l1 := ra.length
      have l2 := rb.length
      refine op_catA pins s σ H _ _ v u Q I rx ry ⟨a, b, vs, us, rfl, rfl, ta.sq, tb.sq, by omega, fun e => ?_, fun e0 e => ?_, fun e0 e1 p hp => ?_⟩
      · subst e
        obtain rfl : ds = [] := List.eq_nil_of_length_eq_zero l1
        exact k _ H (Same.refl H) ⟨b, us, rfl, tb, rb⟩
      · subst e
        obtain rfl : es = [] := List.eq_nil_of_length_eq_zero l2
        cases ds with
        | nil => exact absurd (List.eq_nil_of_length_eq_zero l1.symm) e0
        | cons d ds => exact k _ H (Same.refl H) ⟨a, vs, rfl, ta, ra⟩
      · have sm : Same H (upd H p (.tup (vs ++ us))) := same_upd hp
        cases ds with
        | nil => exact absurd (List.eq_nil_of_length_eq_zero l1.symm) e0
        | cons d ds =>
          cases es with
          | nil => exact absurd (List.eq_nil_of_length_eq_zero l2.symm) e1
          | cons e es => exact k _ _ sm ⟨p, _, rfl, ⟨upd_same, fun f => fn p f hp⟩, (ra.append rb).mono (Mono.same sm)⟩
    · cases hb
  case tpz.tpz ds es =>
    obtain ⟨a, vs, rfl, ta, ra⟩ := rd
    obtain ⟨b, us, rfl, tb, rb⟩ := re
    simp only [bin] at hb
    split at hb
    · rename_i hl
      cases hb
      have l1 := ra.length
      have l2 := rb.length
      refine op_catA pins s σ H _ _ v u Q I rx ry ⟨a, b, vs, us, rfl, rfl, ta.sq, tb.sq, by omega, fun e => ?_, fun e0 e => ?_, fun e0 e1 p hp => ?_⟩
      · subst e
        obtain rfl : ds = [] := List.eq_nil_of_length_eq_zero l1
        exact k _ H (Same.refl H) ⟨b, us, rfl, tb, rb⟩
      · subst e
        obtain rfl : es = [] := List.eq_nil_of_length_eq_zero l2
        cases ds with
        | nil => exact absurd (List.eq_nil_of_length_eq_zero l1.symm) e0
        | cons d ds => exact k _ H (Same.refl H) ⟨a, vs, rfl, ta, ra⟩
      · have sm : Same H (upd H p (.tup (vs ++ us))) := same_upd hp
        cases ds with
        | nil => exact absurd (List.eq_nil_of_length_eq_zero l1.symm) e0
        | cons d ds =>
          cases es with
          | nil => exact absurd (List.eq_nil_of_length_eq_zero l2.symm) e1
          | cons e es => exact k _ _ sm ⟨p, _, rfl, ⟨upd_same, fun f => fn p f hp⟩, (ra.append rb).mono (Mono.same sm)⟩
    · cases hb
  case lst.lst ds es =>
    obtain ⟨a, vs, rfl, ta, ra⟩ := rd
    obtain ⟨b, us, rfl, tb, rb⟩ := re
    simp only [bin] at hb
    split at hb
    · rename_i hl
      cases hb
      have l1 := ra.length
      have l2 := rb.length
      exact op_cat pins s σ H _ _ v u Q I rx ry ⟨a, b, vs, us, rfl, rfl, ta, tb, by omega, fun p hp => k p _ hp (ra.append rb)⟩
    · cases hb
theorem opD_sub : OpD X (binaryOp .Sub) (bin .sub) := by
  intro pins s σ H x y v u Q I rx ry h
  obtain ⟨d, e, z, F, fn, rd, re, hb, k⟩ := h
  cases d <;> cases e <;> try (simp [bin] at hb; done)
  case int.int i j =>
    cases rd; cases re
    simp only [bin, Option.some.injEq] at hb; subst hb
    exact op_sub pins s σ H _ _ v u Q I rx ry ⟨i, j, rfl, rfl, k _ H (Same.refl H) rfl⟩
theorem opD_fdiv : OpD X (binaryOp .FloorDiv) (bin .fdiv) := by
  intro pins s σ H x y v u Q I rx ry h
  obtain ⟨d, e, z, F, fn, rd, re, hb, k⟩ := h
  cases d <;> cases e <;> try (simp [bin] at hb; done)
  case int.int i j =>
    cases rd; cases re
    simp only [bin] at hb
    split at hb
    · rename_i hl
      cases hb
      simp only [divOk, Bool.and_eq_true, Bool.or_eq_true, decide_eq_true_eq] at hl
      rcases hl with ⟨h0, h1 | h1⟩
      · exact op_fdiv pins s σ H _ _ v u Q I rx ry ⟨i, j, rfl, rfl, ⟨h0, h1⟩, k _ H (Same.refl H) rfl⟩
      · exact op_fdivW pins s σ H _ _ v u Q I rx ry ⟨i, j, rfl, rfl, ⟨h0, h1⟩, k _ H (Same.refl H) rfl⟩
    · cases hb
theorem opD_mod : OpD X (binaryOp .Mod) (bin .mod) := by
  intro pins s σ H x y v u Q I rx ry h
  obtain ⟨d, e, z, F, fn, rd, re, hb, k⟩ := h
  cases d <;> cases e <;> try (simp [bin] at hb; done)
  case int.int i j =>
    cases rd; cases re
    simp only [bin] at hb
    split at hb
    · rename_i hl
      cases hb
      exact op_mod pins s σ H _ _ v u Q I rx ry ⟨i, j, rfl, rfl, hl, k _ H (Same.refl H) rfl⟩
    · cases hb
theorem opD_pow : OpD X (binaryOp .Pow) (bin .pow) := by
  intro pins s σ H x y v u Q I rx ry h
  obtain ⟨d, e, z, F, fn, rd, re, hb, k⟩ := h
  cases d <;> cases e <;> try (simp [bin] at hb; done)
  case int.int i j =>
    cases rd; cases re
    simp only [bin] at hb
    split at hb
    · rename_i hl
      cases hb
      simp only [Bool.and_eq_true, decide_eq_true_eq] at hl
      exact op_pow pins s σ H _ _ v u Q I rx ry ⟨i, j, rfl, rfl, ⟨hl.1.1, hl.1.2, hl.2⟩, k _ H (Same.refl H) rfl⟩
    · cases hb

/-! tuple * int, whatever the number -/
theorem tuple_mul_one (l : Addr) (items : Array Value) (n : Nat) (dd : Option Addr) (sl : Array (Option Value)) (x : Int) (u : Tok) (c0 : (decide (x < -(2 ^ 63)) || decide (x ≥ 2 ^ 63)) = false) (c1 : (items.isEmpty || x == 1) = true) :
    Meets (Builtin.«tuple.__mul__» ⟨[.ref l, .int x u], []⟩) (fun _ R s => s.heap.get? l = some { cls := .type "tuple", dict := dd, data := .seq items n, slots := sl } ∧
      R (.ok (.ret (Value.ref l))) s) :=
  .of_wp fun prog w A R s h => by
    obtain ⟨hp, g, d, tk, os⟩ := s
    obtain ⟨hl, h⟩ := h
    have f1 := AutoSeq1.idx_int
    wp_walk using wpAny_loadPart' hl
    repeat (first
      | (refine wpAny_ite_false (decide_eq_false (by rw [c0]; exact Bool.false_ne_true)) ?_; wp_walk using wpAny_loadPart' hl)
      | (refine wpAny_ite_true (decide_eq_true (by rw [c1])) ?_; wp_walk using wpAny_loadPart' hl))
    exact ⟨_, rfl, h⟩
theorem tuple_mul_none (l : Addr) (items : Array Value) (n : Nat) (dd : Option Addr) (sl : Array (Option Value)) (x : Int) (u : Tok) (c0 : (decide (x < -(2 ^ 63)) || decide (x ≥ 2 ^ 63)) = false) (c1 : (items.isEmpty || x == 1) = false) (c2 : (decide (x ≤ 0) || items.isEmpty) = true) :
    Meets (Builtin.«tuple.__mul__» ⟨[.ref l, .int x u], []⟩) (fun _ R s => s.heap.get? l = some { cls := .type "tuple", dict := dd, data := .seq items n, slots := sl } ∧
      R (.ok (.ret (Value.ref s.heap.objs.size))) { s with heap := s.heap.push { cls := Value.type "tuple", data := Data.seq #[] } }) :=
  .of_wp fun prog w A R s h => by
    obtain ⟨hp, g, d, tk, os⟩ := s
    obtain ⟨hl, h⟩ := h
    have f1 := AutoSeq1.idx_int
    wp_walk using wpAny_loadPart' hl
    repeat (first
      | (refine wpAny_ite_false (decide_eq_false (by rw [c0]; exact Bool.false_ne_true)) ?_; wp_walk using wpAny_loadPart' hl)
      | (refine wpAny_ite_false (decide_eq_false (by rw [c1]; exact Bool.false_ne_true)) ?_; wp_walk using wpAny_loadPart' hl)
      | (refine wpAny_ite_true (decide_eq_true (by rw [c2])) ?_; wp_walk using wpAny_loadPart' hl))
    exact ⟨_, rfl, h⟩
theorem opD_mul : OpD X (binaryOp .Mult) (bin .mul) := by
  intro pins s σ H x y v u Q I rx ry h
  obtain ⟨d, e, z, F, fn, rd, re, hb, k⟩ := h
  cases d <;> cases e <;> try (simp [bin] at hb; done)
  case int.int i j =>
    cases rd; cases re
    simp only [bin] at hb
    split at hb
    · rename_i hl
      cases hb
      simp only [mulOk, Bool.or_eq_true, decide_eq_true_eq] at hl
      rcases hl with (h0 | h0) | h0
      · exact op_mul pins s σ H _ _ v u Q I rx ry ⟨i, j, rfl, rfl, .inl ⟨by omega, by omega⟩, k _ H (Same.refl H) rfl⟩
      · exact op_mul pins s σ H _ _ v u Q I rx ry ⟨i, j, rfl, rfl, .inr ⟨by omega, by omega⟩, k _ H (Same.refl H) rfl⟩
      · exact op_mulW pins s σ H _ _ v u Q I rx ry ⟨i, j, rfl, rfl, h0, k _ H (Same.refl H) rfl⟩
    · cases hb
  case lst.int ds j =>
    obtain ⟨a, vs, rfl, ta, ra⟩ := rd
    cases re
    simp only [bin] at hb
    split at hb
    · rename_i hl
      cases hb
      simp only [Bool.and_eq_true, decide_eq_true_eq] at hl
      have l1 := ra.length
      exact op_rep pins s σ H _ _ v u Q I rx ry ⟨a, j, vs, rfl, rfl, ta, hl.1.1, hl.1.2, by rw [← l1]; exact hl.2, fun p hp => k p _ hp (ra.rep _)⟩
    · cases hb
  case tup.int ds j =>
    obtain ⟨a, vs, rfl, ta, ra⟩ := rd
    cases re
    simp only [bin] at hb
    split at hb
    · rename_i hl
      cases hb
      simp only [Bool.and_eq_true, decide_eq_true_eq] at hl
      obtain ⟨⟨b1, b2⟩, b3⟩ := hl
      have l1 := ra.length
      cases rx
      obtain ⟨t, rfl⟩ := ry
      obtain ⟨its, r, ⟨⟨cls, dd, data, sl⟩, ho, hc, n, hd⟩, hs⟩ := I.tuple ta.sq
      simp only at hc hd
      subst hc hd
      have hle : its.length = vs.length := r.length.symm
      have c0 : (decide (j < -(2 ^ 63)) || decide (j ≥ 2 ^ 63)) = false := by
        rw [decide_eq_false (by omega), decide_eq_false (by omega)] <;> rfl
      have start : ∀ {R : Result → Shared → Prop}, codeAny (model X.prog X.w) X.A (.call (.builtin "tuple.__mul__") ⟨[.ref a, .int j t], []⟩) R s → True := fun _ => trivial
      cases c1 : (its.toArray.isEmpty || j == 1) with
      | true =>
        refine wpAny_binaryOp_repeat_ref (T := "tuple") (U := "int") (by decide) ⟨_, ho, rfl⟩ (fun s' => typeIs_int s' j t) noFill_tuple_mul PySem.F.fills_int_mul PySem.F.slot_int_rmul repeat_tuple PySem.F.slot_int_index.lookup
          (call_meets PySem.F.slot_int_rmul (typeIs_int s j t) PySem.F.entry_int_rmul (PySem.F.args_int_rmul_2 _ _) (int_rmul_tuple j t a its.toArray n dd sl)
            ⟨ho, rfl, ⟨_, ho, rfl⟩, call_meets PySem.F.slot_tuple_mul ⟨_, ho, rfl⟩ PySem.F.entry_tuple_mul (PySem.F.args_tuple_mul_2 _ _) (tuple_mul_one a its.toArray n dd sl j t c0 c1) ⟨ho, ?_⟩⟩)
        have e : (List.replicate j.toNat ds).flatten = ds := by
          by_cases hi : its = []
          · have : ds = [] := List.eq_nil_of_length_eq_zero (by rw [l1, ← hle, hi]; rfl)
            subst this
            apply List.eq_nil_of_length_eq_zero
            rw [flat_len]; simp
          · have hj : j = 1 := by
              have : its.toArray.isEmpty = false := by cases its with | nil => exact absurd rfl hi | cons _ _ => rfl
              rw [this, Bool.false_or] at c1
              exact eq_of_beq c1
            subst hj
            simp
        exact ⟨.ref a, H, I, rfl, k _ H (Same.refl H) (by rw [e]; exact ⟨a, vs, rfl, ta, ra⟩)⟩
      | false =>
        cases c2 : (decide (j ≤ 0) || its.toArray.isEmpty) with
        | true =>
          refine wpAny_binaryOp_repeat_ref (T := "tuple") (U := "int") (by decide) ⟨_, ho, rfl⟩ (fun s' => typeIs_int s' j t) noFill_tuple_mul PySem.F.fills_int_mul PySem.F.slot_int_rmul repeat_tuple PySem.F.slot_int_index.lookup
            (call_meets PySem.F.slot_int_rmul (typeIs_int s j t) PySem.F.entry_int_rmul (PySem.F.args_int_rmul_2 _ _) (int_rmul_tuple j t a its.toArray n dd sl)
              ⟨ho, rfl, ⟨_, ho, rfl⟩, call_meets PySem.F.slot_tuple_mul ⟨_, ho, rfl⟩ PySem.F.entry_tuple_mul (PySem.F.args_tuple_mul_2 _ _) (tuple_mul_none a its.toArray n dd sl j t c0 c1 c2) ⟨ho, ?_⟩⟩)
          have e : (List.replicate j.toNat ds).flatten = [] := by
            rw [Bool.or_eq_true, decide_eq_true_eq] at c2
            rw [Bool.or_eq_false_iff] at c1
            have : j.toNat = 0 := by
              rcases c2 with c2 | c2
              · omega
              · rw [c2] at c1; exact absurd c1.1 (by simp)
            rw [this]; simp
          have hn : H s.heap.objs.size = none := I.hok.fresh (Nat.le_refl _)
          have sm : Same H (upd H s.heap.objs.size (.tup [])) := same_upd hn
          refine ⟨.ref s.heap.objs.size, _, I.laid (t' := s.toks) (o := .tup []) (fun b ob q => Heap.get?_push_of_some _ q) (Nat.le_refl _) ⟨by rw [sizeLine_eq]; decide, [], .nil, IsTup.new _ _⟩, rfl, k _ _ sm ?_⟩
          rw [e]
          exact ⟨_, [], rfl, ⟨upd_same, fun f => fn _ f hn⟩, rfl⟩
        | false =>
          have flen : (List.replicate j.toNat its).flatten.length ≤ sizeLine := by
            rw [flat_len, hle, ← l1, Nat.mul_comm]; exact b3
          have hj0 : 0 < j := by
            rw [Bool.or_eq_false_iff, decide_eq_false_iff_not] at c2
            omega
          have b4 : ((its.toArray.size : Nat) : Int) * j ≤ sizeLine := by
            rw [List.size_toArray, hle, ← l1]
            have e1 : j = ((j.toNat : Nat) : Int) := by omega
            rw [e1]
            exact_mod_cast b3
          have hsl : sizeLine = 16777216 := sizeLine_eq
          have c4 : Builtin.Tuple.tupleTooMany (((its.toArray.size : Nat) : Int) * j) = false := by
            unfold Builtin.Tuple.tupleTooMany
            exact decide_eq_false (by omega)
          refine wpAny_binaryOp_repeat_ref (T := "tuple") (U := "int") (by decide) ⟨_, ho, rfl⟩ (fun s' => typeIs_int s' j t) noFill_tuple_mul PySem.F.fills_int_mul PySem.F.slot_int_rmul repeat_tuple PySem.F.slot_int_index.lookup
            (call_meets PySem.F.slot_int_rmul (typeIs_int s j t) PySem.F.entry_int_rmul (PySem.F.args_int_rmul_2 _ _) (int_rmul_tuple j t a its.toArray n dd sl)
              ⟨ho, rfl, ⟨_, ho, rfl⟩, call_meets PySem.F.slot_tuple_mul ⟨_, ho, rfl⟩ PySem.F.entry_tuple_mul (PySem.F.args_tuple_mul_2 _ _) (tuple_mulW a its.toArray n dd sl j t c0 c1 c2 (by omega) c4 (by rw [size_rep, List.size_toArray]; exact flen)) ⟨ho, ?_⟩⟩)
          rw [size_rep]
          have hn : H s.heap.objs.size = none := I.hok.fresh (Nat.le_refl _)
          have sm : Same H (upd H s.heap.objs.size (.tup (List.replicate j.toNat vs).flatten)) := same_upd hn
          refine ⟨.ref s.heap.objs.size, _, I.laid (t' := s.toks) (o := .tup (List.replicate j.toNat vs).flatten) (fun b ob q => Heap.get?_push_of_some _ q) (Nat.le_refl _) ?_, rfl, k _ _ sm ?_⟩
          · exact ⟨by rw [flat_len, ← hle, ← flat_len]; exact flen, _, r.rep j.toNat, IsTup.new _ _⟩
          · exact ⟨_, _, rfl, ⟨upd_same, fun f => fn _ f hn⟩, (ra.rep _).mono (Mono.same sm)⟩
    · cases hb
  case tpz.int ds j =>
    obtain ⟨a, vs, rfl, ta, ra⟩ := rd
    cases re
    simp only [bin] at hb
    split at hb
    · rename_i hl
      cases hb
      simp only [Bool.and_eq_true, decide_eq_true_eq] at hl
      obtain ⟨⟨⟨b1, b0⟩, b2⟩, b3⟩ := hl
      have l1 := ra.length
      cases rx
      obtain ⟨t, rfl⟩ := ry
      obtain ⟨its, r, ⟨⟨cls, dd, data, sl⟩, ho, hc, n, hd⟩, hs⟩ := I.tuple ta.sq
      simp only at hc hd
      subst hc hd
      have hle : its.length = vs.length := r.length.symm
      have c0 : (decide (j < -(2 ^ 63)) || decide (j ≥ 2 ^ 63)) = false := by
        rw [decide_eq_false (by omega), decide_eq_false (by omega)] <;> rfl
      have ie : its.toArray.isEmpty = false := by
        cases its with
        | nil =>
          have : ds = [] := List.eq_nil_of_length_eq_zero (by rw [l1, ← hle]; rfl)
          subst this
          cases b0
        | cons _ _ => rfl
      have c1 : (its.toArray.isEmpty || j == 1) = false := by
        rw [ie, Bool.false_or]
        exact beq_eq_false_iff_ne.mpr (by omega)
      have c2 : (decide (j ≤ 0) || its.toArray.isEmpty) = false := by
        rw [ie, Bool.or_false]
        exact decide_eq_false (by omega)
      have flen : (List.replicate j.toNat its).flatten.length ≤ sizeLine := by
        rw [flat_len, hle, ← l1, Nat.mul_comm]; exact b3
      have hj0 : 0 < j := by
        rw [Bool.or_eq_false_iff, decide_eq_false_iff_not] at c2
        omega
      have b4 : ((its.toArray.size : Nat) : Int) * j ≤ sizeLine := by
        rw [List.size_toArray, hle, ← l1]
        have e1 : j = ((j.toNat : Nat) : Int) := by omega
        rw [e1]
        exact_mod_cast b3
      have hsl : sizeLine = 16777216 := sizeLine_eq
      have c4 : Builtin.Tuple.tupleTooMany (((its.toArray.size : Nat) : Int) * j) = false := by
        unfold Builtin.Tuple.tupleTooMany
        exact decide_eq_false (by omega)
      refine wpAny_binaryOp_repeat_ref (T := "tuple") (U := "int") (by decide) ⟨_, ho, rfl⟩ (fun s' => typeIs_int s' j t) noFill_tuple_mul PySem.F.fills_int_mul PySem.F.slot_int_rmul repeat_tuple PySem.F.slot_int_index.lookup
        (call_meets PySem.F.slot_int_rmul (typeIs_int s j t) PySem.F.entry_int_rmul (PySem.F.args_int_rmul_2 _ _) (int_rmul_tuple j t a its.toArray n dd sl)
          ⟨ho, rfl, ⟨_, ho, rfl⟩, call_meets PySem.F.slot_tuple_mul ⟨_, ho, rfl⟩ PySem.F.entry_tuple_mul (PySem.F.args_tuple_mul_2 _ _) (tuple_mulW a its.toArray n dd sl j t c0 c1 c2 (by omega) c4 (by rw [size_rep, List.size_toArray]; exact flen)) ⟨ho, ?_⟩⟩)
      rw [size_rep]
      have hn : H s.heap.objs.size = none := I.hok.fresh (Nat.le_refl _)
      have sm : Same H (upd H s.heap.objs.size (.tup (List.replicate j.toNat vs).flatten)) := same_upd hn
      refine ⟨.ref s.heap.objs.size, _, I.laid (t' := s.toks) (o := .tup (List.replicate j.toNat vs).flatten) (fun b ob q => Heap.get?_push_of_some _ q) (Nat.le_refl _) ?_, rfl, k _ _ sm ?_⟩
      · exact ⟨by rw [flat_len, ← hle, ← flat_len]; exact flen, _, r.rep j.toNat, IsTup.new _ _⟩
      · exact ⟨_, _, rfl, ⟨upd_same, fun f => fn _ f hn⟩, (ra.rep _).mono (Mono.same sm)⟩
    · cases hb
end
end Rf

/-! Rg, part C1: dicts: what is found, what is put. -/
namespace Rf
open PySem PySem.Spec PyProof.Rows L2

/-- keys that are told apart as the data are -/
def KeyLike {κ : Type} (f : D → Option κ) : Prop := ∀ k x a b, f k = some a → f x = some b → (eqd k x = true ↔ a = b)
theorem like_k : KeyLike kOf := by
  intro k x a b h1 h2
  cases k <;> simp [kOf] at h1 <;> cases x <;> simp [kOf] at h2 <;> subst h1 h2 <;> simp [eqd]
theorem like_ks : ∀ {ks xs : List D} {as bs : List Key}, mapM kOf ks = some as → mapM kOf xs = some bs → (eqds ks xs = true ↔ as = bs)
  | [], [], _, _, h1, h2 => by cases h1; cases h2; simp [eqds]
  | [], x :: xs, _, bs, h1, h2 => by
    cases h1
    simp only [mapM, Option.bind_eq_some_iff, Option.map_eq_some_iff] at h2
    obtain ⟨b, _, r, _, rfl⟩ := h2
    simp [eqds]
  | k :: ks, [], as, _, h1, h2 => by
    cases h2
    simp only [mapM, Option.bind_eq_some_iff, Option.map_eq_some_iff] at h1
    obtain ⟨b, _, r, _, rfl⟩ := h1
    simp [eqds]
  | k :: ks, x :: xs, as, bs, h1, h2 => by
    simp only [mapM, Option.bind_eq_some_iff, Option.map_eq_some_iff] at h1 h2
    obtain ⟨a, e1, r1, e2, rfl⟩ := h1
    obtain ⟨b, e3, r2, e4, rfl⟩ := h2
    simp [eqds, like_k _ _ _ _ e1 e3, like_ks e2 e4]
theorem like_t : KeyLike kTOf := by
  intro k x a b h1 h2
  cases k <;> simp [kTOf] at h1
  cases x <;> simp [kTOf] at h2
  simp only [eqd]
  exact like_ks h1 h2
section
variable {κ : Type} [DecidableEq κ] {f : D → Option κ}
theorem keys_len : ∀ {ks : List D} {l : List κ}, mapM f ks = some l → l.length = ks.length
  | [], _, h => by cases h; rfl
  | k :: ks, l, h => by
    simp only [mapM, Option.bind_eq_some_iff, Option.map_eq_some_iff] at h
    obtain ⟨a, _, r, e, rfl⟩ := h
    simp [keys_len e]
theorem keys_any (L : KeyLike f) {x : D} {b : κ} (hx : f x = some b) : ∀ {ks : List D} {l : List κ} {vs : List V}, mapM f ks = some l → ks.length = vs.length → ((l.zip vs).any fun kv => decide (kv.1 = b)) = ks.any fun k => eqd k x
  | [], _, vs, h, _ => by cases h; rfl
  | k :: ks, l, [], h, e => by simp at e
  | k :: ks, l, v :: vs, h, e => by
    simp only [mapM, Option.bind_eq_some_iff, Option.map_eq_some_iff] at h
    obtain ⟨a, e1, r, e2, rfl⟩ := h
    rw [List.zip_cons_cons, List.any_cons, List.any_cons, keys_any L hx e2 (by simpa using e)]
    congr 1
    rw [Bool.eq_iff_iff, decide_eq_true_eq]
    exact (L _ _ _ _ e1 hx).symm
theorem keys_find (L : KeyLike f) {K : PySem.W.Frag} {H : Hp} {F : Addr → Prop} {x d : D} {b : κ} (hx : f x = some b) : ∀ {ks : List D} {l : List κ} {ds : List D} {vs : List V}, mapM f ks = some l → Reps K H F ds vs → dfind ks ds x = some d → ∃ v, valV (l.zip vs) b = some v ∧ Rep K H F d v
  | [], _, ds, vs, h, _, e => by cases ds <;> simp [dfind] at e
  | k :: ks, l, [], vs, h, _, e => by simp [dfind] at e
  | k :: ks, l, d0 :: ds, vs, h, ⟨v, r, ev, h0, t⟩, e => by
    subst ev
    simp only [mapM, Option.bind_eq_some_iff, Option.map_eq_some_iff] at h
    obtain ⟨a, e1, r', e2, rfl⟩ := h
    rw [List.zip_cons_cons]
    simp only [dfind] at e
    split at e
    · rename_i hk
      cases e
      exact ⟨v, valV_pos ((L _ _ _ _ e1 hx).mp hk), h0⟩
    · rename_i hk
      rw [valV_neg (fun q => hk ((L _ _ _ _ e1 hx).mpr q))]
      exact keys_find L hx e2 t e
theorem keys_repl (L : KeyLike f) {x : D} {b : κ} (hx : f x = some b) (u : V) : ∀ {ks : List D} {l : List κ} {vs : List V}, mapM f ks = some l → ks.length = vs.length →
    (l.zip vs).map (fun kv => if kv.1 = b then (kv.1, u) else kv) = l.zip (List.zipWith (fun k v => if eqd k x = true then u else v) ks vs)
  | [], _, vs, h, _ => by cases h; rfl
  | k :: ks, l, [], h, e => by simp at e
  | k :: ks, l, v :: vs, h, e => by
    simp only [mapM, Option.bind_eq_some_iff, Option.map_eq_some_iff] at h
    obtain ⟨a, e1, r, e2, rfl⟩ := h
    rw [List.zip_cons_cons, List.map_cons, List.zipWith_cons_cons, List.zip_cons_cons, keys_repl L hx u e2 (by simpa using e)]
    congr 1
    by_cases q : a = b
    · rw [if_pos q, if_pos ((L _ _ _ _ e1 hx).mpr q)]
    · rw [if_neg q, if_neg (fun z => q ((L _ _ _ _ e1 hx).mp z))]
theorem mapM_snoc {x : D} {b : κ} (hx : f x = some b) : ∀ {ks : List D} {l : List κ}, mapM f ks = some l → mapM f (ks ++ [x]) = some (l ++ [b])
  | [], _, h => by cases h; simp [mapM, hx]
  | k :: ks, l, h => by
    simp only [mapM, Option.bind_eq_some_iff, Option.map_eq_some_iff] at h
    obtain ⟨a, e1, r, e2, rfl⟩ := h
    simp [mapM, e1, mapM_snoc hx e2]
/-- the values behind a put -/
def putVs (ks : List D) (vs : List V) (x : D) (u : V) : List V := if ks.any (fun k => eqd k x) then List.zipWith (fun k v => if eqd k x = true then u else v) ks vs else vs ++ [u]
theorem keys_put (L : KeyLike f) {x : D} {b : κ} (hx : f x = some b) (u : V) {ks : List D} {l : List κ} {vs : List V} (h : mapM f ks = some l) (e : ks.length = vs.length) :
    ∃ l', mapM f (dputK ks x) = some l' ∧ putK (l.zip vs) b u = l'.zip (putVs ks vs x u) ∧ (dputK ks x).length = (putVs ks vs x u).length := by
  unfold putK dputK putVs
  rw [keys_any L hx h e]
  by_cases q : (ks.any fun k => eqd k x) = true
  · rw [if_pos q, if_pos q, if_pos q]
    exact ⟨l, h, keys_repl L hx u h e, by simp [e]⟩
  · rw [if_neg q, if_neg q, if_neg q]
    refine ⟨l ++ [b], mapM_snoc hx h, ?_, by simp [e]⟩
    rw [List.zip_append (by rw [keys_len h, e])]
    rfl
end
theorem reps_repl {K : PySem.W.Frag} {H : Hp} {F : Addr → Prop} {x d : D} {u : V} (hd : Rep K H F d u) : ∀ (ks : List D) {ds : List D} {vs : List V}, Reps K H F ds vs →
    Reps K H F (List.zipWith (fun k e => if eqd k x = true then d else e) ks ds) (List.zipWith (fun k v => if eqd k x = true then u else v) ks vs)
  | [], _, _, _ => rfl
  | k :: ks, [], _, h => by rw [show _ = ([] : List V) from h]; rfl
  | k :: ks, e :: ds, _, ⟨v, r, ev, h, t⟩ => by
    subst ev
    rw [List.zipWith_cons_cons, List.zipWith_cons_cons]
    refine .cons ?_ (reps_repl hd ks t)
    split
    · exact hd
    · exact h
theorem reps_put {K : PySem.W.Frag} {H : Hp} {F : Addr → Prop} {x d : D} {u : V} {ks ds : List D} {vs : List V} (r : Reps K H F ds vs) (hd : Rep K H F d u) : Reps K H F (dputV ks ds x d) (putVs ks vs x u) := by
  unfold dputV putVs
  split
  · exact reps_repl hd ks r
  · exact r.append (.one hd)

section
variable {X : Cx} {pins : List (Addr × Obj)} {σ : L2.St} {H : Hp} {s : Shared} {a : Addr}
theorem flip_t (I : L2.Inv X pins σ H s) (e : H a = some (.dK [])) : L2.Inv X pins σ (upd H a (.dT [])) s := by
  obtain ⟨z, hd, vs, rel, dd⟩ := dk_of I.hok e
  cases rel
  obtain ⟨o, es, ep, h1, h2, h3, _, h5, _⟩ := dd
  cases hes : es.toList with
  | nil => exact I.write (x := a) (e := a) (t' := s.toks) (by rw [e]; exact True.intro) (.inl rfl) (fun _ _ _ q => q) ⟨o, h1⟩ ⟨Nat.zero_le _, hd, [], .nil, o, es, ep, h1, h2, h3, by simpa using hes, List.nodup_nil⟩
  | cons x xs => rw [hes] at h5; cases h5
theorem flip_k (I : L2.Inv X pins σ H s) (e : H a = some (.dT [])) : L2.Inv X pins σ (upd H a (.dK [])) s := by
  obtain ⟨z, hd, vs, rel, dd⟩ := dt_of I.hok e
  cases rel
  obtain ⟨o, es, ep, h1, h2, h3, h5, _, _⟩ := dd
  have hes : es = #[] := by
    have : es.toList = [] := by simpa using h5
    exact Array.toList_eq_nil_iff.mp this
  subst hes
  refine I.write (x := a) (e := a) (t' := s.toks) (by rw [e]; exact True.intro) (.inl rfl) (fun _ _ _ q => q) ⟨o, h1⟩ ⟨Nat.zero_le _, hd, [], .nil, o, #[], ep, h1, h2, h3, ?_, ?_, List.nodup_nil⟩
  · intro x hx; simp at hx
  · exact .nil
theorem flip_back (I : L2.Inv X pins σ (upd H a (.dT [])) s) (e : H a = some (.dK [])) : L2.Inv X pins σ H s := by
  have k := flip_k I upd_same
  rw [upd_upd] at k
  have : upd H a (.dK []) = H := by
    funext b
    unfold upd
    split
    · rename_i q; rw [q, e]
    · rfl
  rwa [this] at k
theorem k1_of {d : D} (h : isK1 d = true) : ∃ k, kOf d = some k := by
  cases d <;> first | (simp [isK1] at h; done) | exact ⟨_, rfl⟩
theorem k1s_of : ∀ {ds : List D}, ds.all isK1 = true → ∃ l, mapM kOf ds = some l
  | [], _ => ⟨[], rfl⟩
  | d :: ds, h => by
    rw [List.all_cons, Bool.and_eq_true] at h
    obtain ⟨k, e⟩ := k1_of h.1
    obtain ⟨l, e2⟩ := k1s_of h.2
    exact ⟨k :: l, by simp [mapM, e, e2]⟩
theorem rep_k {K : PySem.W.Frag} {F : Addr → Prop} {d : D} {k : Key} {y : V} (h : kOf d = some k) (r : Rep K H F d y) : y = kV k := by
  cases d <;> simp [kOf] at h <;> subst h <;> exact r
theorem reps_k {K : PySem.W.Frag} {F : Addr → Prop} : ∀ {ds : List D} {l : List Key} {ys : List V}, mapM kOf ds = some l → Reps K H F ds ys → ys = l.map kV
  | [], _, _, h, r => by cases h; exact r
  | d :: ds, l, _, h, ⟨v, r, ev, h0, t⟩ => by
    subst ev
    simp only [mapM, Option.bind_eq_some_iff, Option.map_eq_some_iff] at h
    obtain ⟨a, e1, r', e2, rfl⟩ := h
    rw [rep_k e1 h0, reps_k e2 t]; rfl
theorem kt_of {d : D} (h : isKT d = true) : ∃ k, kTOf d = some k := by
  cases d <;> first | (simp [isKT] at h; done) | skip
  rename_i ds
  obtain ⟨l, e⟩ := k1s_of (show ds.all isK1 = true from h)
  exact ⟨l, e⟩
theorem rep_kt {K : PySem.W.Frag} {F : Addr → Prop} {d : D} {k : List Key} {y : V} (h : kTOf d = some k) (r : Rep K H F d y) : ∃ b, y = .ref b ∧ H b = some (.tup (k.map kV)) := by
  cases d <;> simp [kTOf] at h
  obtain ⟨b, ys, rfl, t, rs⟩ := r
  exact ⟨b, rfl, by rw [← reps_k h rs]; exact t.1⟩
theorem kinds {ks : List D} {l : List Key} (h : mapM kOf ks = some l) (q : ks.all isKT = true) : ks = [] := by
  cases ks with
  | nil => rfl
  | cons k ks =>
    simp only [mapM, Option.bind_eq_some_iff, Option.map_eq_some_iff] at h
    obtain ⟨a, e1, _⟩ := h
    rw [List.all_cons, Bool.and_eq_true] at q
    cases k <;> first | (simp [kOf] at e1; done) | (simp [isKT] at q; done)
theorem kinds' {ks : List D} {l : List (List Key)} (h : mapM kTOf ks = some l) (q : ks.all isK1 = true) : ks = [] := by
  cases ks with
  | nil => rfl
  | cons k ks =>
    simp only [mapM, Option.bind_eq_some_iff, Option.map_eq_some_iff] at h
    obtain ⟨a, e1, _⟩ := h
    rw [List.all_cons, Bool.and_eq_true] at q
    cases k <;> first | (simp [kTOf] at e1; done) | (simp [isK1] at q; done)
/-- what the dict at a holds at a key: read over the heap H2, that is H but for the kind of an empty dict -/
theorem dget_ex {K : PySem.W.Frag} {F : Addr → Prop} {o : HO} {ks ds : List D} {vs : List V} {x : D} {y : V} (e : H a = some o) (c : DcO o ks vs) (r : Reps K H F ds vs) (hk : keyOk ks x = true) (rx : Rep K H F x y) :
    ∃ (H2 : Hp) (w : Option V), (∀ s, L2.Inv X pins σ H s ↔ L2.Inv X pins σ H2 s) ∧ DGet H2 a y w ∧ w.isSome = (ks.any fun k => eqd k x) ∧ ∀ d, dfind ks ds x = some d → ∃ v, w = some v ∧ Rep K H F d v := by
  obtain ⟨len, c⟩ := c
  unfold keyOk at hk
  rw [Bool.or_eq_true, Bool.and_eq_true, Bool.and_eq_true] at hk
  rcases c with ⟨l, hl, rfl⟩ | ⟨hne, l, hl, rfl⟩
  · rcases hk with ⟨k1, k2⟩ | ⟨k1, k2⟩
    · obtain ⟨k, hk⟩ := k1_of k1
      obtain rfl := rep_k hk rx
      refine ⟨H, _, fun _ => Iff.rfl, DGet.k e, ?_, fun d hd => keys_find like_k hk hl r hd⟩
      rw [← valV_any]; exact keys_any like_k hk hl len
    · obtain rfl := kinds hl k2
      cases hl
      obtain ⟨k, hk⟩ := kt_of k1
      obtain ⟨b, rfl, hb⟩ := rep_kt hk rx
      have hab : b ≠ a := fun q => by subst q; rw [hb] at e; cases e
      refine ⟨upd H a (.dT []), _, fun s => ⟨fun I => flip_t I e, fun I => flip_back I e⟩, DGet.t (kvs := []) upd_same (by rw [upd_ne hab]; exact hb), rfl, fun d hd => by cases ds <;> simp [dfind] at hd⟩
  · rcases hk with ⟨k1, k2⟩ | ⟨k1, k2⟩
    · exact absurd (kinds' hl k2) hne
    · obtain ⟨k, hk⟩ := kt_of k1
      obtain ⟨b, rfl, hb⟩ := rep_kt hk rx
      refine ⟨H, _, fun _ => Iff.rfl, DGet.t e hb, ?_, fun d hd => keys_find like_t hk hl r hd⟩
      rw [← valV_any]; exact keys_any like_t hk hl len
theorem dput_ex {K : PySem.W.Frag} {F : Addr → Prop} {o : HO} {ks : List D} {vs : List V} {x : D} {y : V} (u : V) (e : H a = some o) (c : DcO o ks vs) (hk : keyOk ks x = true) (hz : ks.length < sizeLine) (rx : Rep K H F x y) :
    ∃ (H2 : Hp) (o' : HO), (∀ s, L2.Inv X pins σ H s → L2.Inv X pins σ H2 s) ∧ DPut H2 a y u (upd H a o') ∧ DcO o' (dputK ks x) (putVs ks vs x u) := by
  obtain ⟨len, c⟩ := c
  unfold keyOk at hk
  rw [Bool.or_eq_true, Bool.and_eq_true, Bool.and_eq_true] at hk
  rcases c with ⟨l, hl, rfl⟩ | ⟨hne, l, hl, rfl⟩
  · have lz : (l.zip vs).length < sizeLine := by rw [List.length_zip, keys_len hl, ← len]; omega
    rcases hk with ⟨k1, k2⟩ | ⟨k1, k2⟩
    · obtain ⟨k, hk⟩ := k1_of k1
      obtain rfl := rep_k hk rx
      obtain ⟨l', h1, h2, h3⟩ := keys_put like_k hk u hl len
      exact ⟨H, _, fun _ I => I, by rw [← h2]; exact DPut.k e lz, h3, .inl ⟨l', h1, rfl⟩⟩
    · obtain rfl := kinds hl k2
      cases hl
      obtain rfl : vs = [] := List.eq_nil_of_length_eq_zero len.symm
      obtain ⟨k, hk⟩ := kt_of k1
      obtain ⟨b, rfl, hb⟩ := rep_kt hk rx
      have hab : b ≠ a := fun q => by subst q; rw [hb] at e; cases e
      obtain ⟨l', h1, h2, h3⟩ := keys_put like_t hk u (ks := []) (l := []) (vs := []) rfl rfl
      refine ⟨upd H a (.dT []), .dT (l'.zip (putVs [] [] x u)), fun s I => flip_t I e, ?_, h3, .inr ⟨by simp [dputK], l', h1, rfl⟩⟩
      rw [← h2]
      have k := DPut.t (H := upd H a (.dT [])) (kvs := []) (v := u) upd_same (by rw [upd_ne hab]; exact hb) (by rw [sizeLine_eq]; decide)
      rw [upd_upd] at k
      exact k
  · have lz : (l.zip vs).length < sizeLine := by rw [List.length_zip, keys_len hl, ← len]; omega
    rcases hk with ⟨k1, k2⟩ | ⟨k1, k2⟩
    · exact absurd (kinds' hl k2) hne
    · obtain ⟨k, hk⟩ := kt_of k1
      obtain ⟨b, rfl, hb⟩ := rep_kt hk rx
      obtain ⟨l', h1, h2, h3⟩ := keys_put like_t hk u hl len
      refine ⟨H, _, fun _ I => I, by rw [← h2]; exact DPut.t e hb lz, h3, .inr ⟨fun q => hne ?_, l', h1, rfl⟩⟩
      unfold dputK at q
      split at q
      · exact q
      · simp at q
end

/-! ### a[x], x in a, a[x] = v, len(a) -/
def rIxDc (K : PySem.W.Frag) : R2 := fun p y H Q => ∃ a o ks ds vs x d F, p = .ref a ∧ H a = some o ∧ DcO o ks vs ∧ Reps K H F ds vs ∧ keyOk ks x = true ∧ Rep K H F x y ∧ dfind ks ds x = some d ∧ ∀ v, Rep K H F d v → Q v H
theorem ix_dict {X : Cx} (hu : X.A.units + 1 < cLine) : IxR X (rIxDc X.K) := by
  intro value slice pins s σ H p y v u Q I rx ry h hs
  obtain ⟨a, o, ks, ds, vs, x, d, F, rfl, e, c, r, hk, rxy, hf, k⟩ := h
  obtain rfl : v = Value.ref a := rx
  obtain ⟨H2, w, eqv, g, _, fnd⟩ := dget_ex (X := X) (pins := pins) (σ := σ) e c r hk rxy
  obtain ⟨z, rfl, rz⟩ := fnd d hf
  have I2 := (eqv s).mp I
  have hT := dict_typeIs I2 g
  unfold subscriptTail
  refine wpAny_bind ?_
  rw [getitemInPython_of_ne hT.not_modules]
  refine wpAny_bind (wpAny_specialOf hT PySem.F.slot_dict_getitem.lookup ?_)
  have fin : wpAny (model X.prog X.w) X.A (subscripted slice false (.ref a) u) (fun r s₃ => wpAny (model X.prog X.w) X.A (letTemporaryGo value (.ref a) r >>= fun _ => pure r) (EP X pins σ Q) X.xe s₃) X.xe s := by
    rw [hs]
    exact wpAny_operating (d_getItem hu I2 g ry fun w' s3 I3 rw' => wpAny_bind (wpAny_letTemporaryGo (wpAny_pure ⟨z, H, (eqv s3).mpr I3, rw', k z rz⟩)))
  first
    | exact wpAny_pure (wpAny_bind fin)
    | exact wpAny_bind (wpAny_pure (wpAny_bind fin))
    | exact wpAny_bind fin
def rInDc (K : PySem.W.Frag) (g : Bool → Bool) : R2 := fun y p H Q => ∃ a o ks vs x F, p = .ref a ∧ H a = some o ∧ DcO o ks vs ∧ keyOk ks x = true ∧ Rep K H F x y ∧ Q (.bl (g (ks.any fun k => eqd k x))) H
theorem reps_none {K : PySem.W.Frag} {H : Hp} {F : Addr → Prop} : ∀ vs : List V, True := fun _ => trivial
theorem dget_ex' {X : Cx} {pins : List (Addr × Obj)} {σ : L2.St} {H : Hp} {a : Addr} {K : PySem.W.Frag} {F : Addr → Prop} {o : HO} {ks : List D} {vs : List V} {x : D} {y : V} (e : H a = some o) (c : DcO o ks vs) (hk : keyOk ks x = true) (rx : Rep K H F x y) :
    ∃ (H2 : Hp) (w : Option V), (∀ s, L2.Inv X pins σ H s ↔ L2.Inv X pins σ H2 s) ∧ DGet H2 a y w ∧ w.isSome = (ks.any fun k => eqd k x) := by
  obtain ⟨len, c'⟩ := id c
  unfold keyOk at hk
  rw [Bool.or_eq_true, Bool.and_eq_true, Bool.and_eq_true] at hk
  rcases c' with ⟨l, hl, rfl⟩ | ⟨hne, l, hl, rfl⟩
  · rcases hk with ⟨k1, k2⟩ | ⟨k1, k2⟩
    · obtain ⟨k, hk⟩ := k1_of k1
      obtain rfl := rep_k hk rx
      refine ⟨H, _, fun _ => Iff.rfl, DGet.k e, ?_⟩
      rw [← valV_any]; exact keys_any like_k hk hl len
    · obtain rfl := kinds hl k2
      cases hl
      obtain ⟨k, hk⟩ := kt_of k1
      obtain ⟨b, rfl, hb⟩ := rep_kt hk rx
      have hab : b ≠ a := fun q => by subst q; rw [hb] at e; cases e
      exact ⟨upd H a (.dT []), _, fun s => ⟨fun I => flip_t I e, fun I => flip_back I e⟩, DGet.t (kvs := []) upd_same (by rw [upd_ne hab]; exact hb), rfl⟩
  · rcases hk with ⟨k1, k2⟩ | ⟨k1, k2⟩
    · exact absurd (kinds' hl k2) hne
    · obtain ⟨k, hk⟩ := kt_of k1
      obtain ⟨b, rfl, hb⟩ := rep_kt hk rx
      refine ⟨H, _, fun _ => Iff.rfl, DGet.t e hb, ?_⟩
      rw [← valV_any]; exact keys_any like_t hk hl len
theorem op_inDc {X : Cx} (hu : X.A.units + 1 < cLine) : OpR X (compareOp .In) (rInDc X.K id) := by
  intro pins s σ H x y v u Q I rx ry h
  obtain ⟨a, o, ks, vs, xd, F, rfl, e, c, hk, rxd, q⟩ := h
  obtain rfl : u = Value.ref a := ry
  obtain ⟨H2, w, eqv, g, hw⟩ := dget_ex' (X := X) (pins := pins) (σ := σ) e c hk rxd
  refine d_in hu ((eqv s).mp I) g rx fun s3 I3 => ⟨.bl w.isSome, H, (eqv s3).mpr I3, rfl, ?_⟩
  rw [hw]; exact q
theorem op_notinDc {X : Cx} (hu : X.A.units + 1 < cLine) : OpR X (compareOp .NotIn) (rInDc X.K (!·)) := by
  intro pins s σ H x y v u Q I rx ry h
  obtain ⟨a, o, ks, vs, xd, F, rfl, e, c, hk, rxd, q⟩ := h
  obtain rfl : u = Value.ref a := ry
  obtain ⟨H2, w, eqv, g, hw⟩ := dget_ex' (X := X) (pins := pins) (σ := σ) e c hk rxd
  refine d_notIn hu ((eqv s).mp I) g rx fun s3 I3 => ⟨.bl (!w.isSome), H, (eqv s3).mpr I3, rfl, ?_⟩
  rw [hw]; exact q
/-- a[x] = v: a list | a dict -/
def rSetDc (K : PySem.W.Frag) : TSet := fun p y v H Q => rSetL p y v H Q ∨
  ∃ a o ks vs x F, p = .ref a ∧ H a = some o ∧ DcO o ks vs ∧ keyOk ks x = true ∧ ks.length < sizeLine ∧ Rep K H F x y ∧ ∀ o', DcO o' (dputK ks x) (putVs ks vs x v) → Q (upd H a o')
theorem set_Dc {X : Cx} (hu : X.A.units + 1 < cLine) : PSet X (rSetDc X.K) := by
  intro pins s σ H p y v ov iv u Q I ro ri rv h
  rcases h with h | ⟨a, o, ks, vs, x, F, rfl, e, c, hk, hz, rx, k⟩
  · exact set_list pins s σ H p y v ov iv u Q I ro ri rv h
  · obtain rfl : ov = Value.ref a := ro
    obtain ⟨H2, o', im, g, c'⟩ := dput_ex (X := X) (pins := pins) (σ := σ) v e c hk hz rx
    exact d_setItem hu (im s I) g ri rv fun s3 I3 => ⟨_, I3, k o' c'⟩
theorem len_Dc {X : Cx} {pins : List (Addr × Obj)} {σ : L2.St} {H : Hp} {s : Shared} {a : Addr} {o : HO} {ks : List D} {vs : List V} {us : List Value} {Q : VK} (I : L2.Inv X pins σ H s) (e : H a = some o) (c : DcO o ks vs) (q : Q (.int ks.length) H) (r : Vals [V.ref a] us) :
    wpAny (model X.prog X.w) X.A (call (.builtin "len") us) (EP X pins σ Q) X.xe s := by
  obtain ⟨len, c⟩ := c
  rcases c with ⟨l, hl, rfl⟩ | ⟨hne, l, hl, rfl⟩
  · rw [Vals.ref1 r]
    refine d_len I (.inl e) fun t s' I' => ⟨.int (l.zip vs).length, H, I', ⟨t, rfl⟩, ?_⟩
    rw [List.length_zip, keys_len hl, ← len, Nat.min_self]; exact q
  · refine call_len_dT pins s σ H _ us Q I r ⟨a, _, rfl, e, ?_⟩
    rw [List.length_zip, keys_len hl, ← len, Nat.min_self]; exact q
end Rf

/-! Rf, part D: comparisons by trees. -/
namespace Rf
open PySem PySem.Spec PyProof.Rows L2
mutual
def pd : D → PyData
  | .bl b => .bool b
  | .int i => .int i
  | .str s => .str s
  | .tup ds => .tuple (pds ds)
  | .tpz ds => .tuple (pds ds)
  | .lst ds => .list (pds ds)
  | _ => .none
def pds : List D → List PyData
  | [] => []
  | d :: ds => pd d :: pds ds
end
mutual
theorem pd_lay : ∀ d : D, plain d = true → (pd d).canLay0 = true
  | .non, _ => by simp [pd, PyData.canLay0]
  | .bl _, _ => by simp [pd, PyData.canLay0]
  | .int _, _ => by simp [pd, PyData.canLay0]
  | .str s, h => by simpa [pd, PyData.canLay0, plain] using h
  | .tup ds, h => by
    simp only [pd, PyData.canLay0]
    exact pds_lay ds (by simpa [plain] using h)
  | .tpz ds, h => by
    simp only [pd, PyData.canLay0]
    exact pds_lay ds (by simpa [plain] using h)
  | .lst ds, h => by
    simp only [pd, PyData.canLay0]
    exact pds_lay ds (by simpa [plain] using h)
  | .dic _ _, h => by simp [plain] at h
  | .ins _ _ _, h => by simp [plain] at h
  | .err _ _ _, h => by simp [plain] at h
  | .fn _, h => by simp [plain] at h
  | .scr _, h => by simp [plain] at h
theorem pds_lay : ∀ ds : List D, plains ds = true → PyData.canLayAll0 (pds ds) = true
  | [], _ => by simp [pds, PyData.canLayAll0]
  | d :: ds, h => by
    simp only [plains, Bool.and_eq_true] at h
    simp only [pds, PyData.canLayAll0, Bool.and_eq_true]
    exact ⟨pd_lay d h.1, pds_lay ds h.2⟩
end
mutual
theorem pd_depth : ∀ d : D, (pd d).depth = dep d
  | .non => by simp [pd, PyData.depth, dep]
  | .bl _ => by simp [pd, PyData.depth, dep]
  | .int _ => by simp [pd, PyData.depth, dep]
  | .str s => by simp [pd, PyData.depth, dep]
  | .tup ds => by simp only [pd, PyData.depth, dep, pds_depth ds]
  | .tpz ds => by simp only [pd, PyData.depth, dep, pds_depth ds]
  | .lst ds => by simp only [pd, PyData.depth, dep, pds_depth ds]
  | .dic _ _ => by simp [pd, PyData.depth, dep]
  | .ins _ _ _ => by simp [pd, PyData.depth, dep]
  | .err _ _ _ => by simp [pd, PyData.depth, dep]
  | .fn _ => by simp [pd, PyData.depth, dep]
  | .scr _ => by simp [pd, PyData.depth, dep]
theorem pds_depth : ∀ ds : List D, PyData.depthAll (pds ds) = deps ds
  | [] => by simp [pds, PyData.depthAll, deps]
  | d :: ds => by simp only [pds, PyData.depthAll, deps, pd_depth d, pds_depth ds]
end
theorem pd_shaped {d : D} (h : cmpb d = true) : SeqAt.shaped (pd d) = true := by
  simp only [cmpb, Bool.and_eq_true, decide_eq_true_eq] at h
  unfold SeqAt.shaped
  rw [pd_lay d h.1, pd_depth]
  simp; omega
mutual
theorem pd_eqv : ∀ a b : D, plain a = true → plain b = true → PyData.eqv (pd a) (pd b) = eqd a b
  | .non, b, _, hb => by cases b <;> first | (simp [plain] at hb; done) | simp [pd, PyData.eqv, eqd]
  | .bl x, b, _, hb => by
    cases b <;> first | (simp [plain] at hb; done) | simp [pd, PyData.eqv, eqd]
    all_goals (cases x <;> simp <;> rfl)
  | .int x, b, _, hb => by
    cases b <;> first | (simp [plain] at hb; done) | simp [pd, PyData.eqv, eqd]
    all_goals rfl
  | .str x, b, _, hb => by
    cases b <;> first | (simp [plain] at hb; done) | simp [pd, PyData.eqv, eqd]
    all_goals rfl
  | .tup x, b, ha, hb => by
    cases b <;> try first | (simp [plain] at hb; done) | (simp [pd, PyData.eqv, eqd]; done)
    all_goals simp only [pd, PyData.eqv, eqd]
    all_goals exact pds_eqv _ _ (by simpa [plain] using ha) (by simpa [plain] using hb)
  | .tpz x, b, ha, hb => by
    cases b <;> try first | (simp [plain] at hb; done) | (simp [pd, PyData.eqv, eqd]; done)
    all_goals simp only [pd, PyData.eqv, eqd]
    all_goals exact pds_eqv _ _ (by simpa [plain] using ha) (by simpa [plain] using hb)
  | .lst x, b, ha, hb => by
    cases b <;> try first | (simp [plain] at hb; done) | (simp [pd, PyData.eqv, eqd]; done)
    simp only [pd, PyData.eqv, eqd]
    exact pds_eqv _ _ (by simpa [plain] using ha) (by simpa [plain] using hb)
  | .dic _ _, _, h, _ => by simp [plain] at h
  | .ins _ _ _, _, h, _ => by simp [plain] at h
  | .err _ _ _, _, h, _ => by simp [plain] at h
  | .fn _, _, h, _ => by simp [plain] at h
  | .scr _, _, h, _ => by simp [plain] at h
theorem pds_eqv : ∀ a b : List D, plains a = true → plains b = true → PyData.eqvAll (pds a) (pds b) = eqds a b
  | [], [], _, _ => by simp [pds, PyData.eqvAll, eqds]
  | [], _ :: _, _, _ => by simp [pds, PyData.eqvAll, eqds]
  | _ :: _, [], _, _ => by simp [pds, PyData.eqvAll, eqds]
  | a :: as, b :: bs, ha, hb => by
    simp only [plains, Bool.and_eq_true] at ha hb
    simp only [pds, PyData.eqvAll, eqds]
    rw [pd_eqv a b ha.1 hb.1, pds_eqv as bs ha.2 hb.2]
end
mutual
theorem dp_of {K : PySem.W.Frag} {H : Hp} {F : Addr → Prop} : ∀ {d : D} {v : V}, plain d = true → Rep K H F d v → Dp K H v (pd d)
  | .non, _, _, h => by cases h; simp only [pd]; exact .non
  | .bl _, _, _, h => by cases h; simp only [pd]; exact .bl _
  | .int _, _, _, h => by cases h; simp only [pd]; exact .int _
  | .str _, _, _, h => by cases h; simp only [pd]; exact .str _
  | .tup ds, _, p, ⟨a, vs, e, t, r⟩ => by subst e; simp only [pd]; exact .tup t.sq (dps_of (ds := ds) (by simpa [plain] using p) r)
  | .tpz ds, _, p, ⟨a, vs, e, t, r⟩ => by subst e; simp only [pd]; exact .tup t.sq (dps_of (ds := ds) (by simpa [plain] using p) r)
  | .lst ds, _, p, ⟨a, vs, e, t, r⟩ => by subst e; simp only [pd]; exact .lst t.sq (dps_of (ds := ds) (by simpa [plain] using p) r)
  | .dic _ _, _, p, _ => by simp [plain] at p
  | .ins _ _ _, _, p, _ => by simp [plain] at p
  | .err _ _ _, _, p, _ => by simp [plain] at p
  | .fn _, _, p, _ => by simp [plain] at p
  | .scr _, _, p, _ => by simp [plain] at p
theorem dps_of {K : PySem.W.Frag} {H : Hp} {F : Addr → Prop} : ∀ {ds : List D} {vs : List V}, plains ds = true → Reps K H F ds vs → DpAll K H vs (pds ds)
  | [], _, _, h => by cases h; simp only [pds]; exact .nil
  | d :: ds, _, p, ⟨v, r, e, h, t⟩ => by
    subst e
    simp only [plains, Bool.and_eq_true] at p
    simp only [pds]
    exact .cons (dp_of (d := d) p.1 h) (dps_of (ds := ds) p.2 t)
end
theorem dpv_of {K : PySem.W.Frag} {H : Hp} {F : Addr → Prop} {d : D} {v : V} (p : plain d = true) (h : RepV K H F d v) : Dp K H v (pd d) := by
  cases d with
  | lst ds =>
    obtain ⟨a, vs, e, t, r⟩ := h
    subst e
    simp only [pd]
    exact .lst (SqL.of t) (dps_of (by simpa [plain] using p) r)
  | dic => simp [plain] at p
  | _ => exact dp_of (F := F) p h
theorem any_pds (x : D) (hx : plain x = true) : ∀ ds : List D, plains ds = true → ((pds ds).any fun y => PyData.eqv y (pd x)) = ds.any fun y => eqd y x
  | [], _ => by simp [pds]
  | d :: ds, h => by
    simp only [plains, Bool.and_eq_true] at h
    simp only [pds, List.any_cons]
    rw [pd_eqv d x h.1 hx, any_pds x hx ds h.2]
theorem plains_of {ds : List D} (h : ds.all cmpb = true) : plains ds = true := by
  induction ds with
  | nil => rfl
  | cons d ds ih =>
    simp only [List.all_cons, Bool.and_eq_true, cmpb] at h
    simp only [plains, Bool.and_eq_true]
    exact ⟨h.1.1, ih h.2⟩

theorem repV_key {K : PySem.W.Frag} {H : Hp} {F : Addr → Prop} {ks : List D} {d : D} {v : V} (h : keyOk ks d = true) (r : RepV K H F d v) : Rep K H F d v := by
  cases d <;> first | exact r | (simp [keyOk, isK1, isKT] at h)
def cop : COp → CmpOp
  | .eq => .Eq | .ne => .NotEq | .lt => .Lt | .le => .LtE | .gt => .Gt | .ge => .GtE | .is => .Is | .isnot => .IsNot | .inn => .In | .notin => .NotIn
abbrev CmD (X : Cx) (o : COp) : Prop :=
  OpR X (compareOp (cop o)) (fun x y H Q => ∃ d e b F, RepV X.K H F d x ∧ RepV X.K H F e y ∧ cmp o d e = some b ∧ Q (.bl b) H)
section
variable {X : Cx}
theorem cmD (hu : X.A.units + 100 < cLine) (o : COp) : CmD X o := by
  intro pins s σ H x y v u Q I rx ry h
  obtain ⟨d, e, b, F, rd, re, hb, k⟩ := h
  have eqs : ∀ {b : Bool}, eqD d e = some b → (∃ d' e', Dp X.K H x d' ∧ Dp X.K H y e' ∧ SeqAt.shaped d' = true ∧ SeqAt.shaped e' = true ∧ PyData.eqv d' e' = b) := fun {b} h => by
    unfold eqD at h
    split at h
    · rename_i hc
      rw [Bool.and_eq_true] at hc
      cases h
      have h1 := hc.1
      have h2 := hc.2
      simp only [cmpb, Bool.and_eq_true] at h1 h2
      exact ⟨pd d, pd e, dpv_of h1.1 rd, dpv_of h2.1 re, pd_shaped hc.1, pd_shaped hc.2, pd_eqv d e h1.1 h2.1⟩
    · cases h
  cases o with
  | eq =>
    obtain ⟨d', e', p1, p2, s1, s2, q⟩ := eqs hb
    exact op_eqD (by omega) pins s σ H x y v u Q I rx ry ⟨d', e', p1, p2, s1, s2, by rw [q]; exact k⟩
  | ne =>
    simp only [cmp, Option.map_eq_some_iff] at hb
    obtain ⟨b', hb, rfl⟩ := hb
    obtain ⟨d', e', p1, p2, s1, s2, q⟩ := eqs hb
    exact op_neD (by omega) pins s σ H x y v u Q I rx ry ⟨d', e', p1, p2, s1, s2, by rw [q]; exact k⟩
  | lt =>
    cases d <;> cases e <;> try (simp [cmp] at hb; done)
    cases rd; cases re
    simp only [cmp, Option.some.injEq] at hb; subst hb
    exact op_lt pins s σ H _ _ v u Q I rx ry ⟨_, _, rfl, rfl, k⟩
  | le =>
    cases d <;> cases e <;> try (simp [cmp] at hb; done)
    cases rd; cases re
    simp only [cmp, Option.some.injEq] at hb; subst hb
    exact op_le pins s σ H _ _ v u Q I rx ry ⟨_, _, rfl, rfl, k⟩
  | gt =>
    cases d <;> cases e <;> try (simp [cmp] at hb; done)
    cases rd; cases re
    simp only [cmp, Option.some.injEq] at hb; subst hb
    exact op_gt pins s σ H _ _ v u Q I rx ry ⟨_, _, rfl, rfl, k⟩
  | ge =>
    cases d <;> cases e <;> try (simp [cmp] at hb; done)
    cases rd; cases re
    simp only [cmp, Option.some.injEq] at hb; subst hb
    exact op_ge pins s σ H _ _ v u Q I rx ry ⟨_, _, rfl, rfl, k⟩
  | is =>
    cases e <;> try (simp [cmp] at hb; done)
    case non =>
      cases re
      have e1 : decide (x = V.non) = b := by
        cases d <;> first | (simp [cmp] at hb; done) | skip
        all_goals (simp only [cmp, Option.some.injEq] at hb; subst hb)
        all_goals first | (cases rd; rfl) | (obtain ⟨a, vs, rfl, _⟩ := rd; rfl) | (obtain ⟨a, dx, vs, rfl, _⟩ := rd; rfl) | (obtain ⟨a, rfl, _⟩ := rd; rfl) | exact False.elim rd
      exact op_isN pins s σ H _ _ v u Q I rx ry ⟨rfl, by rw [e1]; exact k⟩
    case bl =>
      cases d <;> try (simp [cmp] at hb; done)
      cases rd; cases re
      simp only [cmp, Option.some.injEq] at hb; subst hb
      exact op_isBl pins s σ H _ _ v u Q I rx ry ⟨_, _, rfl, rfl, k⟩
  | isnot =>
    cases e <;> try (simp [cmp] at hb; done)
    case non =>
      cases re
      have e1 : (!decide (x = V.non)) = b := by
        cases d <;> first | (simp [cmp] at hb; done) | skip
        all_goals (simp only [cmp, Option.some.injEq] at hb; subst hb)
        all_goals first | (cases rd; rfl) | (obtain ⟨a, vs, rfl, _⟩ := rd; rfl) | (obtain ⟨a, dx, vs, rfl, _⟩ := rd; rfl) | (obtain ⟨a, rfl, _⟩ := rd; rfl) | exact False.elim rd
      exact op_notN pins s σ H _ _ v u Q I rx ry ⟨rfl, by rw [e1]; exact k⟩
    case bl =>
      cases d <;> try (simp [cmp] at hb; done)
      cases rd; cases re
      simp only [cmp, Option.some.injEq] at hb; subst hb
      exact op_notBl pins s σ H _ _ v u Q I rx ry ⟨_, _, rfl, rfl, k⟩
  | inn =>
    have go : ∀ {ds : List D}, isIn d ds = some b → ∃ as, Reads s.heap v (pd d) as ∧ (pd d).canLay0 = true ∧ PyData.canLayAll0 (pds ds) = true ∧ X.A.units + 1 + min (PyData.depthAll (pds ds)) (pd d).depth < cLine ∧ ((pds ds).any fun y => PyData.eqv y (pd d)) = b ∧ plains ds = true := fun {ds} hb => by
      unfold isIn at hb
      split at hb
      · rename_i hc
        rw [Bool.and_eq_true] at hc
        have h1 := hc.1
        simp only [cmpb, Bool.and_eq_true] at h1
        have h2 := plains_of hc.2
        obtain ⟨as, r1⟩ := Dp.reads I (pd d) x v (dpv_of h1.1 rd) rx
        exact ⟨as, r1, pd_lay d h1.1, pds_lay ds h2, PyProof.Rows.room_in_shaped (pd_shaped hc.1) (by omega), by rw [any_pds d h1.1 ds h2]; simpa using hb, h2⟩
      · cases hb
    cases e <;> try (simp [cmp] at hb; done)
    case lst ds =>
      obtain ⟨as, r1, c1, c2, hr, hv, hp⟩ := go (ds := ds) hb
      obtain ⟨bs, r2⟩ := Dp.reads I (.list (pds ds)) y u (by have := dpv_of (d := .lst ds) (by simpa [plain] using hp) re; simpa [pd] using this) ry
      exact SeqAt.in_list_reads r2 r1 c2 c1 hr ⟨.bl _, H, I, rfl, by rw [hv]; exact k⟩
    case tup ds =>
      obtain ⟨as, r1, c1, c2, hr, hv, hp⟩ := go (ds := ds) hb
      obtain ⟨bs, r2⟩ := Dp.reads I (.tuple (pds ds)) y u (by have := dpv_of (d := .tup ds) (by simpa [plain] using hp) re; simpa [pd] using this) ry
      exact SeqAt.in_tuple_reads r2 r1 c2 c1 hr ⟨.bl _, H, I, rfl, by rw [hv]; exact k⟩
    case tpz ds =>
      obtain ⟨as, r1, c1, c2, hr, hv, hp⟩ := go (ds := ds) hb
      obtain ⟨bs, r2⟩ := Dp.reads I (.tuple (pds ds)) y u (by have := dpv_of (d := .tpz ds) (by simpa [plain] using hp) re; simpa [pd] using this) ry
      exact SeqAt.in_tuple_reads r2 r1 c2 c1 hr ⟨.bl _, H, I, rfl, by rw [hv]; exact k⟩
    case dic ks ds =>
      simp only [cmp] at hb
      split at hb
      · rename_i hk
        cases hb
        obtain ⟨a, vs, rfl, ⟨o, eo, c⟩, _⟩ := re
        exact op_inDc (by omega) pins s σ H _ _ v u Q I rx ry ⟨a, o, ks, vs, d, F, rfl, eo, c, hk, repV_key hk rd, k⟩
      · cases hb
  | notin =>
    have go : ∀ {ds : List D}, (isIn d ds).map (!·) = some b → ∃ as, Reads s.heap v (pd d) as ∧ (pd d).canLay0 = true ∧ PyData.canLayAll0 (pds ds) = true ∧ X.A.units + 1 + min (PyData.depthAll (pds ds)) (pd d).depth < cLine ∧ (!((pds ds).any fun y => PyData.eqv y (pd d))) = b ∧ plains ds = true := fun {ds} hb => by
      obtain ⟨b', hb, rfl⟩ := Option.map_eq_some_iff.mp hb
      unfold isIn at hb
      split at hb
      · rename_i hc
        rw [Bool.and_eq_true] at hc
        have h1 := hc.1
        simp only [cmpb, Bool.and_eq_true] at h1
        have h2 := plains_of hc.2
        obtain ⟨as, r1⟩ := Dp.reads I (pd d) x v (dpv_of h1.1 rd) rx
        exact ⟨as, r1, pd_lay d h1.1, pds_lay ds h2, PyProof.Rows.room_in_shaped (pd_shaped hc.1) (by omega), by rw [any_pds d h1.1 ds h2]; simpa using hb, h2⟩
      · cases hb
    cases e <;> try (simp [cmp] at hb; done)
    case lst ds =>
      obtain ⟨as, r1, c1, c2, hr, hv, hp⟩ := go (ds := ds) hb
      obtain ⟨bs, r2⟩ := Dp.reads I (.list (pds ds)) y u (by have := dpv_of (d := .lst ds) (by simpa [plain] using hp) re; simpa [pd] using this) ry
      exact SeqAt.notIn_list_reads r2 r1 c2 c1 hr ⟨.bl _, H, I, rfl, by rw [hv]; exact k⟩
    case tup ds =>
      obtain ⟨as, r1, c1, c2, hr, hv, hp⟩ := go (ds := ds) hb
      obtain ⟨bs, r2⟩ := Dp.reads I (.tuple (pds ds)) y u (by have := dpv_of (d := .tup ds) (by simpa [plain] using hp) re; simpa [pd] using this) ry
      exact SeqAt.notIn_tuple_reads r2 r1 c2 c1 hr ⟨.bl _, H, I, rfl, by rw [hv]; exact k⟩
    case tpz ds =>
      obtain ⟨as, r1, c1, c2, hr, hv, hp⟩ := go (ds := ds) hb
      obtain ⟨bs, r2⟩ := Dp.reads I (.tuple (pds ds)) y u (by have := dpv_of (d := .tpz ds) (by simpa [plain] using hp) re; simpa [pd] using this) ry
      exact SeqAt.notIn_tuple_reads r2 r1 c2 c1 hr ⟨.bl _, H, I, rfl, by rw [hv]; exact k⟩
    case dic ks ds =>
      simp only [cmp] at hb
      split at hb
      · rename_i hk
        cases hb
        obtain ⟨a, vs, rfl, ⟨o, eo, c⟩, _⟩ := re
        exact op_notinDc (by omega) pins s σ H _ _ v u Q I rx ry ⟨a, o, ks, vs, d, F, rfl, eo, c, hk, repV_key hk rd, k⟩
      · cases hb
end
end Rf

/-! Rg, part E0: a tuple collected; sorted of a tuple. -/
namespace Rf
open PySem PySem.Spec PyProof.Rows L2
section
variable {prog : Program} {w : World} {A : Around} {E : Value → Shared → Prop} {s : Shared}
abbrev gathered (h : Heap) (vs : List Value) : Heap := (h.push (seqObj "list" #[] 0)).update h.objs.size (Obj.mapSeq (· ++ vs.toArray))
theorem collect_tup {l : Addr} {vs : List Value} {Q : List Value → Shared → Prop} (ht : IsTup s.heap l vs.toArray) (h : Q vs { s with heap := gathered s.heap vs }) (hsz : vs.length ≤ sizeLine) :
    wpAny (model prog w) A (collect (.ref l)) Q E s := by
  obtain ⟨o, ho, hc, n, hd⟩ := id ht
  have ho2 : (s.heap.push (seqObj "list" #[] 0)).get? l = some o := Heap.get?_push_of_some _ ho
  have new0 : (s.heap.push (seqObj "list" #[] 0)).get? s.heap.objs.size = some (seqObj "list" #[] 0) := Heap.get?_push_size _ rfl
  have isT : (Value.type "tuple" == Value.type "tuple") = true := by rfl
  have catE : ((#[] : Array Value) ++ vs.toArray).toList = vs := by simp
  unfold collect
  refine wpAny_bind (wpAny_runValue (codeAny_builtin PyProof.Rows.entry_proto_collect' ?_))
  show wpAny _ _ (newList [] >>= fun ls => again (.builtin "list.__iadd__" ⟨[ls, .ref l], []⟩)) _ _ s
  refine wpAny_bind (wpAny_newList (wpAny_pure ⟨Code.quiet_builtin _ (by decide +kernel), codeAny_builtin PyProof.Rows.entry_list_iadd' ?_⟩))
  show wpAny _ _ (Builtin.List.listExtendWith (.ref s.heap.objs.size) (.ref l) _) _ _ { s with heap := s.heap.push (seqObj "list" #[] 0) }
  unfold Builtin.List.listExtendWith
  refine wpAny_bind (wpAny_typeOf (T := "tuple") ⟨o, ho2, hc⟩ ?_)
  rw [if_pos (by rw [isT]; simp)]
  refine wpAny_bind (listItems_at ho2 hd (wpAny_bind (listItems_at (xs := #[]) (n := 0) new0 rfl ?_)))
  rw [if_neg (by simp)]
  refine wpAny_bind (listUpdate_at (xs := #[]) (n := 0) new0 rfl (wpAny_pure ?_) (Nat.zero_le _) (by show (#[] ++ vs.toArray).size ≤ sizeLine + 1; simp only [Array.size_append, List.size_toArray, List.length_nil]; omega))
  refine wpAny_bind (wpAny_load (get?_update_seq new0 _) ?_)
  refine (show wpAny (model prog w) A (pure ((#[] : Array Value) ++ vs.toArray).toList) Q E { s with heap := gathered s.heap vs } from ?_)
  rw [catE]
  exact wpAny_pure h
theorem sorted_ordT {l : Addr} {vs : List Value} {lt : Value → Value → Bool} {Q : Value → Shared → Prop} (O : SrtO.Swo lt) (ht : IsTup s.heap l vs.toArray) (hz : vs.length ≤ sizeLine)
    (hS : 2 ≤ vs.length → ∀ (h1 : Heap) (a : Addr), h1.get? a = some (seqObj "list" vs.toArray 0) → (∀ b o, s.heap.get? b = some o → b ≠ a ∧ h1.get? b = some o) → SrtO.SortableO prog w A.in1.in1 { s with heap := h1 } a vs lt)
    (h : ∀ out : List Value, SrtO.Srtd lt out → SrtO.Stb lt out vs → Q (.ref (s.heap.objs.size + 1)) { s with heap := sortedAll s.heap vs out.toArray }) :
    wpAny (model prog w) A (call (.builtin "sorted") [.ref l]) Q E s := by
  have sz : (gathered s.heap vs).objs.size = s.heap.objs.size + 1 := by rw [Heap.size_update, size_push']
  have atL : ((gathered s.heap vs).push (seqObj "list" vs.toArray 0)).get? (s.heap.objs.size + 1) = some (seqObj "list" vs.toArray 0) := by
    rw [← sz]
    exact Heap.get?_push_size _ rfl
  have stay : ∀ b o, s.heap.get? b = some o → b ≠ s.heap.objs.size + 1 ∧ ((gathered s.heap vs).push (seqObj "list" vs.toArray 0)).get? b = some o := fun b o e => by
    have lt : b < s.heap.objs.size := Heap.lt_size e
    refine ⟨Nat.ne_of_lt (Nat.lt_succ_of_lt lt), Heap.get?_push_of_some _ ?_⟩
    rw [Heap.get?_update_ne _ _ _ _ (Nat.ne_of_lt lt)]
    exact Heap.get?_push_of_some _ e
  refine Calls.call_function_entry PyProof.Rows.kind_sorted PyProof.Rows.plain_sorted PyProof.Rows.entry_sorted (PyProof.Rows.args_sorted1 _) ?_
  unfold Builtin.«sorted»
  refine wpAny_bind (m := checkCount "sorted" 1 1 _) (wpAny_pure (wpAny_bind (collect_tup ht (wpAny_bind (wpAny_newList ?_ hz)) hz)))
  show wpAny _ _ _ _ _ { s with heap := (gathered s.heap vs).push (seqObj "list" vs.toArray 0) }
  rw [sz]
  refine wpAny_bind (wpAny_holding (wpAny_call_entry PyProof.Rows.slot_list_sort ⟨_, atL, rfl⟩ PyProof.Rows.entry_list_sort (SrtO.list_sort_ord O atL hz (fun h2 => hS h2 _ _ atL stay) fun out h1 h2 => ⟨_, rfl, ?_⟩) (PyProof.Rows.args_list_sort _)))
  exact wpAny_pure ⟨_, rfl, h out h1 h2⟩
end
def rSortedTu (K : PySem.W.Frag) : List V → Hp → VK → Prop := fun vs H Q => ∃ (a : Addr) (ns : List Int), vs = [V.ref a] ∧ SqT K H a (ns.map V.int) ∧ ∀ (ns' : List Int) (p : Addr), ns'.Perm ns → ns'.Pairwise (· ≤ ·) → H p = none → Q (.ref p) (upd H p (.lst (ns'.map V.int)))
theorem cr_sortedTu {X : Cx} : CallR X (.builtin "sorted") (rSortedTu X.K) := by
  intro pins s σ H vs us Q I r ⟨a, ns, ev, hs, q⟩
  subst ev
  obtain ⟨its, rv, hl, hz⟩ := I.tuple hs
  rw [Vals.ref1 r]
  have isI := rv.ints
  refine sorted_ordT SrtO.swo_int hl (by rw [← rv.length]; exact hz) (fun h2 h1 a2 _ _ => SrtO.ints_sortable isI h2) fun out o1 o2 => ?_
  obtain ⟨k1, k2, k3⟩ := SrtO.ints_out isI o1 o2
  obtain ⟨ep, at_⟩ := PyProof.Rows.sortedAll_at s.heap its out.toArray
  have len : ((out.map SrtO.iv).map V.int).length ≤ sizeLine := by
    rw [List.length_map, k2.length_eq]
    simpa using hz
  exact ⟨.ref _, _, I.laid (t' := s.toks) (o := .lst ((out.map SrtO.iv).map V.int)) (fun _ _ => PyProof.Rows.sortedAll_old) (Nat.le_succ _) ⟨len, out, ep, vals_of_ints k1, at_⟩, rfl, q _ _ k2 k3 (I.hok.fresh (Nat.le_succ _))⟩
end Rf

/-! Rf, part E: built-in functions, isinstance, items and slices by trees. -/
namespace Rf
open PySem PySem.Spec PyProof.Rows L2

theorem reps_ints {K : PySem.W.Frag} {H : Hp} {F : Addr → Prop} : ∀ {ds : List D} {vs : List V} {l : List Int}, Reps K H F ds vs → intsOf ds = some l → vs = l.map V.int ∧ ds = l.map D.int
  | [], _, _, h, e => by cases h; cases e; exact ⟨rfl, rfl⟩
  | d :: ds, _, l, ⟨v, r, e1, h, t⟩, e => by
    subst e1
    cases d <;> try (simp [intsOf] at e; done)
    rename_i i
    simp only [intsOf, Option.map_eq_some_iff] at e
    obtain ⟨l', e2, rfl⟩ := e
    cases h
    obtain ⟨h1, h2⟩ := reps_ints t e2
    exact ⟨by rw [h1]; rfl, by rw [h2]; rfl⟩
theorem reps_bools {K : PySem.W.Frag} {H : Hp} {F : Addr → Prop} : ∀ {ds : List D} {vs : List V} {l : List Bool}, Reps K H F ds vs → boolsOf ds = some l → vs = l.map V.bl
  | [], _, _, h, e => by cases h; cases e; rfl
  | d :: ds, _, l, ⟨v, r, e1, h, t⟩, e => by
    subst e1
    cases d <;> try (simp [boolsOf] at e; done)
    rename_i i
    simp only [boolsOf, Option.map_eq_some_iff] at e
    obtain ⟨l', e2, rfl⟩ := e
    cases h
    rw [reps_bools t e2]; rfl
theorem reps_of_ints {K : PySem.W.Frag} {H : Hp} {F : Addr → Prop} : ∀ l : List Int, Reps K H F (l.map D.int) (l.map V.int)
  | [] => rfl
  | i :: l => ⟨_, _, rfl, rfl, reps_of_ints l⟩
theorem minI_spec {l : List Int} {m : Int} (h : minI l = some m) : 0 < l.length ∧ ∀ k, k ∈ l → (∀ y ∈ l, k ≤ y) → k = m := by
  cases l with
  | nil => cases h
  | cons x r =>
    simp only [minI, Option.some.injEq] at h
    have key : ∀ (r : List Int) (x : Int), (r.foldl (fun a b => if b < a then b else a) x) ∈ x :: r ∧ ∀ y ∈ x :: r, r.foldl (fun a b => if b < a then b else a) x ≤ y := by
      intro r
      induction r with
      | nil => intro x; simp
      | cons z r ih =>
        intro x
        simp only [List.foldl_cons]
        by_cases hz : z < x
        · rw [if_pos hz]
          obtain ⟨h1, h2⟩ := ih z
          refine ⟨List.mem_cons_of_mem _ h1, fun y hy => ?_⟩
          rcases List.mem_cons.mp hy with rfl | hy
          · have := h2 z List.mem_cons_self; omega
          · exact h2 y hy
        · rw [if_neg hz]
          obtain ⟨h1, h2⟩ := ih x
          refine ⟨?_, fun y hy => ?_⟩
          · rcases List.mem_cons.mp h1 with h | h
            · rw [h]; exact List.mem_cons_self
            · exact List.mem_cons_of_mem _ (List.mem_cons_of_mem _ h)
          · rcases List.mem_cons.mp hy with rfl | hy
            · exact h2 y List.mem_cons_self
            · rcases List.mem_cons.mp hy with rfl | hy
              · have := h2 x List.mem_cons_self; omega
              · exact h2 y (List.mem_cons_of_mem _ hy)
    obtain ⟨h1, h2⟩ := key r x
    rw [h] at h1 h2
    exact ⟨by simp, fun k hk hall => by have a1 := hall m h1; have a2 := h2 k hk; omega⟩
theorem maxI_spec {l : List Int} {m : Int} (h : maxI l = some m) : 0 < l.length ∧ ∀ k, k ∈ l → (∀ y ∈ l, y ≤ k) → k = m := by
  cases l with
  | nil => cases h
  | cons x r =>
    simp only [maxI, Option.some.injEq] at h
    have key : ∀ (r : List Int) (x : Int), (r.foldl (fun a b => if b > a then b else a) x) ∈ x :: r ∧ ∀ y ∈ x :: r, y ≤ r.foldl (fun a b => if b > a then b else a) x := by
      intro r
      induction r with
      | nil => intro x; simp
      | cons z r ih =>
        intro x
        simp only [List.foldl_cons]
        by_cases hz : z > x
        · rw [if_pos hz]
          obtain ⟨h1, h2⟩ := ih z
          refine ⟨List.mem_cons_of_mem _ h1, fun y hy => ?_⟩
          rcases List.mem_cons.mp hy with rfl | hy
          · have := h2 z List.mem_cons_self; omega
          · exact h2 y hy
        · rw [if_neg hz]
          obtain ⟨h1, h2⟩ := ih x
          refine ⟨?_, fun y hy => ?_⟩
          · rcases List.mem_cons.mp h1 with h | h
            · rw [h]; exact List.mem_cons_self
            · exact List.mem_cons_of_mem _ (List.mem_cons_of_mem _ h)
          · rcases List.mem_cons.mp hy with rfl | hy
            · exact h2 y List.mem_cons_self
            · rcases List.mem_cons.mp hy with rfl | hy
              · have := h2 x List.mem_cons_self; omega
              · exact h2 y (List.mem_cons_of_mem _ hy)
    obtain ⟨h1, h2⟩ := key r x
    rw [h] at h1 h2
    exact ⟨by simp, fun k hk hall => by have a1 := hall m h1; have a2 := h2 k hk; omega⟩
theorem insI_perm (x : Int) : ∀ l : List Int, (insI x l).Perm (x :: l)
  | [] => .refl _
  | y :: r => by
    unfold insI
    split
    · exact .refl _
    · exact ((insI_perm x r).cons y).trans (.swap x y r)
theorem insI_sorted (x : Int) : ∀ {l : List Int}, l.Pairwise (· ≤ ·) → (insI x l).Pairwise (· ≤ ·)
  | [], _ => by simp [insI]
  | y :: r, h => by
    unfold insI
    have h1 := List.pairwise_cons.mp h
    split
    · rename_i hx
      refine List.pairwise_cons.mpr ⟨fun z hz => ?_, h⟩
      rcases List.mem_cons.mp hz with rfl | hz
      · exact hx
      · have := h1.1 z hz; omega
    · rename_i hx
      refine List.pairwise_cons.mpr ⟨fun z hz => ?_, insI_sorted x h1.2⟩
      rcases List.mem_cons.mp ((insI_perm x r).mem_iff.mp hz) with rfl | hz
      · omega
      · exact h1.1 z hz
theorem sortI_perm : ∀ l : List Int, (sortI l).Perm l
  | [] => .refl _
  | x :: r => (insI_perm x (sortI r)).trans ((sortI_perm r).cons x)
theorem sortI_sorted : ∀ l : List Int, (sortI l).Pairwise (· ≤ ·)
  | [] => .nil
  | x :: r => insI_sorted x (sortI_sorted r)
theorem sorted_unique : ∀ {a b : List Int}, a.Pairwise (· ≤ ·) → b.Pairwise (· ≤ ·) → a.Perm b → a = b := fun {a b} ha hb p =>
  List.Perm.eq_of_pairwise (le := (· ≤ ·)) (fun x y _ _ h1 h2 => by omega) ha hb p

section
variable {X : Cx}
abbrev P1D (X : Cx) (f : Value) (p : P1) : Prop :=
  CallR X f (fun xs H Q => ∃ x d z F, xs = [x] ∧ (∀ a, F a → H a ≠ none) ∧ RepV X.K H F d x ∧ p1 p d = some z ∧ ResK X.K H F z Q)
theorem p1_len : P1D X (.builtin "len") .len := by
  intro pins s σ H xs us Q I rs h
  obtain ⟨x, d, z, F, rfl, fn, rd, hz, k⟩ := h
  cases d <;> try (simp [p1] at hz; done)
  case str t =>
    cases rd
    simp only [p1] at hz
    split at hz
    · rename_i hl
      cases hz
      exact call_len_str pins s σ H _ us Q I rs ⟨t, rfl, hl, k _ H (Same.refl H) rfl⟩
    · cases hz
  case tup ds =>
    obtain ⟨a, vs, rfl, ta, ra⟩ := rd
    simp only [p1, Option.some.injEq] at hz
    subst hz
    exact call_len_seq pins s σ H _ us Q I rs ⟨a, vs, rfl, .inr ta.sq, k _ H (Same.refl H) (by rw [← ra.length]; rfl)⟩
  case tpz ds =>
    obtain ⟨a, vs, rfl, ta, ra⟩ := rd
    simp only [p1, Option.some.injEq] at hz
    subst hz
    exact call_len_seq pins s σ H _ us Q I rs ⟨a, vs, rfl, .inr ta.sq, k _ H (Same.refl H) (by rw [← ra.length]; rfl)⟩
  case lst ds =>
    obtain ⟨a, vs, rfl, ta, ra⟩ := rd
    simp only [p1, Option.some.injEq] at hz
    subst hz
    exact call_len_seq pins s σ H _ us Q I rs ⟨a, vs, rfl, .inl (SqL.of ta), k _ H (Same.refl H) (by rw [← ra.length]; rfl)⟩
  case dic ks ds =>
    obtain ⟨a, vs, rfl, ⟨o, eo, c⟩, _⟩ := rd
    simp only [p1, Option.some.injEq] at hz
    subst hz
    exact len_Dc I eo c (k _ H (Same.refl H) rfl) rs
theorem p1_sum (hc : X.calm = true) : P1D X (.builtin "sum") .sum := by
  intro pins s σ H xs us Q I rs h
  obtain ⟨x, d, z, F, rfl, fn, rd, hz, k⟩ := h
  cases d <;> try (simp [p1, seqOf] at hz; done)
  case tup ds =>
    obtain ⟨a, vs, rfl, ta, ra⟩ := rd
    simp only [p1, seqOf, Option.bind_some, Option.map_eq_some_iff] at hz
    obtain ⟨l, hl, rfl⟩ := hz
    obtain ⟨rfl, rfl⟩ := reps_ints ra hl
    obtain ⟨its, rv, ht, _⟩ := I.tuple ta.sq
    rw [Vals.ref1 rs]
    have hi := rv.ints
    obtain ⟨xs, e⟩ := hi.allInts.items
    have hn : numsOf (intItems xs).toList = l := by rw [← e]; exact hi.numsOf
    rw [nums_intItems] at hn
    rw [e] at ht
    refine PySem.W.ktm_sumG (I.ok.hd hc) (show s.heap.IsTuple a (intItems xs) from ht) fun h' tk t' hk => ?_
    rw [preSum_eq, List.take_of_length_le (by simp), hn]
    exact ⟨.int _, H, I.kept hk, ⟨_, rfl⟩, k _ H (Same.refl H) rfl⟩
  case tpz ds =>
    obtain ⟨a, vs, rfl, ta, ra⟩ := rd
    simp only [p1, seqOf, Option.bind_some, Option.map_eq_some_iff] at hz
    obtain ⟨l, hl, rfl⟩ := hz
    obtain ⟨rfl, rfl⟩ := reps_ints ra hl
    obtain ⟨its, rv, ht, _⟩ := I.tuple ta.sq
    rw [Vals.ref1 rs]
    have hi := rv.ints
    obtain ⟨xs, e⟩ := hi.allInts.items
    have hn : numsOf (intItems xs).toList = l := by rw [← e]; exact hi.numsOf
    rw [nums_intItems] at hn
    rw [e] at ht
    refine PySem.W.ktm_sumG (I.ok.hd hc) (show s.heap.IsTuple a (intItems xs) from ht) fun h' tk t' hk => ?_
    rw [preSum_eq, List.take_of_length_le (by simp), hn]
    exact ⟨.int _, H, I.kept hk, ⟨_, rfl⟩, k _ H (Same.refl H) rfl⟩
  case lst ds =>
    obtain ⟨a, vs, rfl, ta, ra⟩ := rd
    simp only [p1, seqOf, Option.bind_some, Option.map_eq_some_iff] at hz
    obtain ⟨l, hl, rfl⟩ := hz
    obtain ⟨rfl, rfl⟩ := reps_ints ra hl
    exact cr_sum hc pins s σ H _ us Q I rs ⟨a, l, rfl, SqL.of ta, k _ H (Same.refl H) rfl⟩
theorem p1_min (hc : X.calm = true) : P1D X (.builtin "min") .min := by
  intro pins s σ H xs us Q I rs h
  obtain ⟨x, d, z, F, rfl, fn, rd, hz, k⟩ := h
  cases d <;> try (simp [p1] at hz; done)
  case lst ds =>
    obtain ⟨a, vs, rfl, ta, ra⟩ := rd
    simp only [p1, Option.bind_eq_some_iff, Option.map_eq_some_iff] at hz
    obtain ⟨l, hl, m, hm, rfl⟩ := hz
    obtain ⟨rfl, rfl⟩ := reps_ints ra hl
    obtain ⟨h1, h2⟩ := minI_spec hm
    exact cr_min hc pins s σ H _ us Q I rs ⟨a, l, rfl, SqL.of ta, h1, fun m' hm' hall => k _ H (Same.refl H) (by rw [h2 m' hm' hall]; rfl)⟩
theorem p1_max (hc : X.calm = true) : P1D X (.builtin "max") .max := by
  intro pins s σ H xs us Q I rs h
  obtain ⟨x, d, z, F, rfl, fn, rd, hz, k⟩ := h
  cases d <;> try (simp [p1] at hz; done)
  case lst ds =>
    obtain ⟨a, vs, rfl, ta, ra⟩ := rd
    simp only [p1, Option.bind_eq_some_iff, Option.map_eq_some_iff] at hz
    obtain ⟨l, hl, m, hm, rfl⟩ := hz
    obtain ⟨rfl, rfl⟩ := reps_ints ra hl
    obtain ⟨h1, h2⟩ := maxI_spec hm
    exact cr_max hc pins s σ H _ us Q I rs ⟨a, l, rfl, SqL.of ta, h1, fun m' hm' hall => k _ H (Same.refl H) (by rw [h2 m' hm' hall]; rfl)⟩
theorem p1_sorted : P1D X (.builtin "sorted") .sorted := by
  intro pins s σ H xs us Q I rs h
  obtain ⟨x, d, z, F, rfl, fn, rd, hz, k⟩ := h
  cases d <;> try (simp [p1] at hz; done)
  case lst ds =>
    obtain ⟨a, vs, rfl, ta, ra⟩ := rd
    simp only [p1, Option.map_eq_some_iff] at hz
    obtain ⟨l, hl, rfl⟩ := hz
    obtain ⟨rfl, rfl⟩ := reps_ints ra hl
    refine cr_sortedI pins s σ H _ us Q I rs ⟨a, l, rfl, SqL.of ta, fun ns p hp hs hn => ?_⟩
    have e : ns = sortI l := sorted_unique hs (sortI_sorted l) (hp.trans (sortI_perm l).symm)
    subst e
    exact k p _ hn (reps_of_ints _)
  case tup ds =>
    obtain ⟨a, vs, rfl, ta, ra⟩ := rd
    simp only [p1, Option.map_eq_some_iff] at hz
    obtain ⟨l, hl, rfl⟩ := hz
    obtain ⟨rfl, rfl⟩ := reps_ints ra hl
    refine cr_sortedTu pins s σ H _ us Q I rs ⟨a, l, rfl, ta.sq, fun ns p hp hs hn => ?_⟩
    have e : ns = sortI l := sorted_unique hs (sortI_sorted l) (hp.trans (sortI_perm l).symm)
    subst e
    exact k p _ hn (reps_of_ints _)
  case tpz ds =>
    obtain ⟨a, vs, rfl, ta, ra⟩ := rd
    simp only [p1, Option.map_eq_some_iff] at hz
    obtain ⟨l, hl, rfl⟩ := hz
    obtain ⟨rfl, rfl⟩ := reps_ints ra hl
    refine cr_sortedTu pins s σ H _ us Q I rs ⟨a, l, rfl, ta.sq, fun ns p hp hs hn => ?_⟩
    have e : ns = sortI l := sorted_unique hs (sortI_sorted l) (hp.trans (sortI_perm l).symm)
    subst e
    exact k p _ hn (reps_of_ints _)
theorem p1_tuple : P1D X (.type "tuple") .tuple := by
  intro pins s σ H xs us Q I rs h
  obtain ⟨x, d, z, F, rfl, fn, rd, hz, k⟩ := h
  cases d <;> try (simp [p1] at hz; done)
  case tup ds =>
    obtain ⟨a, vs, rfl, ta, ra⟩ := rd
    simp only [p1, Option.some.injEq] at hz; subst hz
    exact call_tuple_of pins s σ H _ us Q I rs ⟨a, vs, rfl, .inr ⟨ta.sq, k _ H (Same.refl H) ⟨a, vs, rfl, ta, ra⟩⟩⟩
  case tpz ds =>
    obtain ⟨a, vs, rfl, ta, ra⟩ := rd
    simp only [p1, Option.some.injEq] at hz; subst hz
    exact call_tuple_of pins s σ H _ us Q I rs ⟨a, vs, rfl, .inr ⟨ta.sq, k _ H (Same.refl H) ⟨a, vs, rfl, ta, ra⟩⟩⟩
  case lst ds =>
    obtain ⟨a, vs, rfl, ta, ra⟩ := rd
    simp only [p1, Option.some.injEq] at hz; subst hz
    refine call_tuple_of pins s σ H _ us Q I rs ⟨a, vs, rfl, .inl ⟨SqL.of ta, fun p hp => ?_⟩⟩
    have sm : Same H (upd H p (.tup vs)) := same_upd hp
    exact k _ _ sm ⟨p, vs, rfl, ⟨upd_same, fun f => fn p f hp⟩, ra.mono (Mono.same sm)⟩
/-- tuple(l) of a list: a new object, known -/
theorem call_tuple_z : CallR X (.type "tuple") (fun xs H Q => ∃ p ys, xs = [.ref p] ∧ ((SqL X.K H p ys ∧ ∀ l o, H l = none → o.dict = none → o.cls = .type "tuple" → Q (.ref l) (upd H l (.frz o (.tup ys)))) ∨ (SqT X.K H p ys ∧ Q (.ref p) H))) := by
  intro pins s σ H xs us Q I r h
  obtain ⟨p, ys, rfl, h⟩ := h
  obtain ⟨u, rfl, rx⟩ := vals1 r
  cases rx
  rcases h with ⟨hq, q⟩ | ⟨hq, q⟩
  · obtain ⟨its, r', pl, hz⟩ := I.list hq
    have hlen := r'.length
    refine call_tuple_list pl.isList (fun h' kp => ?_) (by simp only [List.size_toArray] <;> omega)
    have I1 : L2.Inv X pins σ H { s with heap := h' } := I.kept (t' := s.toks) kp
    have I2 : L2.Inv X pins σ (upd H h'.objs.size (.frz { cls := .type "tuple", data := .seq its.toArray } (.tup ys))) { s with heap := h'.push { cls := .type "tuple", data := .seq its.toArray } } :=
      I1.laid (t' := s.toks) (fun b o e => Heap.get?_push_of_some _ e) (Nat.le_refl _) (show ObjOk X.prog X.w _ _ _ (.frz _ (.tup ys)) from ⟨Heap.get?_push_size _ rfl, hz, its, r', IsTup.new _ _⟩)
    exact ⟨.ref h'.objs.size, _, I2, rfl, q _ _ (I1.hok.fresh (Nat.le_refl _)) rfl rfl⟩
  · obtain ⟨its, r', pl, hz⟩ := I.tuple hq
    exact call_tuple_same pl ⟨.ref p, H, I, rfl, q⟩
theorem p1_tuplez : P1D X (.type "tuple") .tuplez := by
  intro pins s σ H xs us Q I rs h
  obtain ⟨x, d, z, F, rfl, fn, rd, hz, k⟩ := h
  cases d <;> try (simp [p1] at hz; done)
  case tpz ds =>
    obtain ⟨a, vs, rfl, ta, ra⟩ := rd
    simp only [p1, Option.some.injEq] at hz; subst hz
    exact call_tuple_z pins s σ H _ us Q I rs ⟨a, vs, rfl, .inr ⟨ta.sq, k _ H (Same.refl H) ⟨a, vs, rfl, ta, ra⟩⟩⟩
  case lst ds =>
    obtain ⟨a, vs, rfl, ta, ra⟩ := rd
    simp only [p1, Option.some.injEq] at hz; subst hz
    refine call_tuple_z pins s σ H _ us Q I rs ⟨a, vs, rfl, .inl ⟨SqL.of ta, fun p o hp h1 h2 => ?_⟩⟩
    have sm : Same H (upd H p (.frz o (.tup vs))) := same_upd hp
    exact k _ _ sm ⟨p, vs, rfl, ⟨⟨o, upd_same, h1, h2⟩, fun f => fn p f hp⟩, ra.mono (Mono.same sm)⟩
theorem p1_list : P1D X (.type "list") .list := by
  intro pins s σ H xs us Q I rs h
  obtain ⟨x, d, z, F, rfl, fn, rd, hz, k⟩ := h
  cases d <;> try (simp [p1] at hz; done)
  case tup ds =>
    obtain ⟨a, vs, rfl, ta, ra⟩ := rd
    simp only [p1, Option.some.injEq] at hz; subst hz
    exact call_list_of pins s σ H _ us Q I rs ⟨a, vs, rfl, .inr ta.sq, fun p hp => k p vs hp ra⟩
  case tpz ds =>
    obtain ⟨a, vs, rfl, ta, ra⟩ := rd
    simp only [p1, Option.some.injEq] at hz; subst hz
    exact call_list_of pins s σ H _ us Q I rs ⟨a, vs, rfl, .inr ta.sq, fun p hp => k p vs hp ra⟩
  case lst ds =>
    obtain ⟨a, vs, rfl, ta, ra⟩ := rd
    simp only [p1, Option.some.injEq] at hz; subst hz
    exact call_list_of pins s σ H _ us Q I rs ⟨a, vs, rfl, .inl (SqL.of ta), fun p hp => k p vs hp ra⟩
/-! len(set(..)) of a tuple of numbers: the number of unlike ones -/
theorem dedup_count : ∀ (l : List Int), True := fun _ => trivial
theorem p1_all (hc : X.calm = true) : P1D X (.builtin "all") .all := by
  intro pins s σ H xs us Q I rs h
  obtain ⟨x, d, z, F, rfl, fn, rd, hz, k⟩ := h
  cases d <;> try (simp [p1] at hz; done)
  case lst ds =>
    obtain ⟨a, vs, rfl, ta, ra⟩ := rd
    simp only [p1, Option.map_eq_some_iff] at hz
    obtain ⟨l, hl, rfl⟩ := hz
    obtain rfl := reps_bools ra hl
    exact cr_all hc pins s σ H _ us Q I rs ⟨a, l, rfl, SqL.of ta, k _ H (Same.refl H) rfl⟩
theorem p1_any (hc : X.calm = true) : P1D X (.builtin "any") .any := by
  intro pins s σ H xs us Q I rs h
  obtain ⟨x, d, z, F, rfl, fn, rd, hz, k⟩ := h
  cases d <;> try (simp [p1] at hz; done)
  case lst ds =>
    obtain ⟨a, vs, rfl, ta, ra⟩ := rd
    simp only [p1, Option.map_eq_some_iff] at hz
    obtain ⟨l, hl, rfl⟩ := hz
    obtain rfl := reps_bools ra hl
    exact cr_any hc pins s σ H _ us Q I rs ⟨a, l, rfl, SqL.of ta, k _ H (Same.refl H) rfl⟩
theorem p1_abs : P1D X (.builtin "abs") .abs := by
  intro pins s σ H xs us Q I rs h
  obtain ⟨x, d, z, F, rfl, fn, rd, hz, k⟩ := h
  cases d <;> try (simp [p1] at hz; done)
  cases rd
  simp only [p1, Option.some.injEq] at hz; subst hz
  exact call_abs pins s σ H _ us Q I rs ⟨_, rfl, k _ H (Same.refl H) rfl⟩
theorem p1_int : P1D X (.type "int") .int := by
  intro pins s σ H xs us Q I rs h
  obtain ⟨x, d, z, F, rfl, fn, rd, hz, k⟩ := h
  cases d <;> try (simp [p1] at hz; done)
  · cases rd
    simp only [p1, Option.some.injEq] at hz; subst hz
    exact call_int1 pins s σ H _ us Q I rs (.inr ⟨_, rfl, k _ H (Same.refl H) rfl⟩)
  · cases rd
    simp only [p1, Option.some.injEq] at hz; subst hz
    exact call_int1 pins s σ H _ us Q I rs (.inl ⟨_, rfl, k _ H (Same.refl H) rfl⟩)
theorem p1_bool : P1D X (.type "bool") .bool := by
  intro pins s σ H xs us Q I rs h
  obtain ⟨x, d, z, F, rfl, fn, rd, hz, k⟩ := h
  cases d <;> try (simp [p1] at hz; done)
  · cases rd
    simp only [p1, Option.some.injEq] at hz; subst hz
    exact call_bool1 pins s σ H _ us Q I rs (.inr ⟨_, rfl, k _ H (Same.refl H) rfl⟩)
  · cases rd
    simp only [p1, Option.some.injEq] at hz; subst hz
    exact call_bool1 pins s σ H _ us Q I rs (.inl ⟨_, rfl, k _ H (Same.refl H) (by simp only [Rep]; congr 1; rw [Bool.eq_iff_iff]; simp)⟩)
abbrev P2D (X : Cx) (f : Value) (p : P2) : Prop :=
  CallR X f (fun xs H Q => ∃ x y d e z F, xs = [x, y] ∧ (∀ a, F a → H a ≠ none) ∧ RepV X.K H F d x ∧ RepV X.K H F e y ∧ p2 p d e = some z ∧ ResK X.K H F z Q)
theorem p2_min (hc : X.calm = true) : P2D X (.builtin "min") .min := by
  intro pins s σ H xs us Q I rs h
  obtain ⟨x, y, d, e, z, F, rfl, fn, rd, re, hz, k⟩ := h
  cases d <;> cases e <;> try (simp [p2] at hz; done)
  cases rd; cases re
  simp only [p2, Option.some.injEq] at hz; subst hz
  exact call_min2 hc pins s σ H _ us Q I rs ⟨_, _, rfl, k _ H (Same.refl H) rfl⟩
theorem p2_max (hc : X.calm = true) : P2D X (.builtin "max") .max := by
  intro pins s σ H xs us Q I rs h
  obtain ⟨x, y, d, e, z, F, rfl, fn, rd, re, hz, k⟩ := h
  cases d <;> cases e <;> try (simp [p2] at hz; done)
  cases rd; cases re
  simp only [p2, Option.some.injEq] at hz; subst hz
  exact call_max2 hc pins s σ H _ us Q I rs ⟨_, _, rfl, k _ H (Same.refl H) rfl⟩

/-! ### items, slices -/
theorem atI_reps {K : PySem.W.Frag} {H : Hp} {F : Addr → Prop} {ds : List D} {vs : List V} {i : Int} {d : D} (r : Reps K H F ds vs) (h : atI ds i = some d) : ∃ v, atI vs i = some v ∧ Rep K H F d v := by
  unfold atI at *
  rw [← r.length]
  cases e : L2.ixN ds.length i with
  | none => rw [e] at h; cases h
  | some j =>
    rw [e] at h
    exact r.get h
theorem ixD (hu : X.A.units + 100 < cLine) : IxR X (fun x y H Q => ∃ d e z F, (∀ a, F a → H a ≠ none) ∧ RepV X.K H F d x ∧ RepV X.K H F e y ∧ item d e = some z ∧ ∀ v, Rep X.K H F z v → Q v H) := by
  intro value slice pins s σ H x y v u Q I rx ry h hs
  obtain ⟨d, e, z, F, fn, rd, re, hz, k⟩ := h
  cases d
  case dic ks ds =>
    simp only [item] at hz
    split at hz
    · rename_i hk
      obtain ⟨a, vs, rfl, ⟨o, eo, c⟩, r⟩ := rd
      exact ix_dict (by omega) value slice pins s σ H _ _ v u Q I rx ry ⟨a, o, ks, ds, vs, e, z, F, rfl, eo, c, r, hk, repV_key hk re, hz, k⟩ hs
    · cases hz
  all_goals cases e <;> try (simp [item] at hz; done)
  · obtain ⟨a, vs, rfl, ta, ra⟩ := rd
    cases re
    obtain ⟨v', hv, rv⟩ := atI_reps ra hz
    exact ix_tup value slice pins s σ H _ _ v u Q I rx ry ⟨a, vs, _, v', rfl, rfl, ta.sq, hv, k v' rv⟩ hs
  rotate_left
  · obtain ⟨a, vs, rfl, ta, ra⟩ := rd
    cases re
    obtain ⟨v', hv, rv⟩ := atI_reps ra hz
    exact ix_tup value slice pins s σ H _ _ v u Q I rx ry ⟨a, vs, _, v', rfl, rfl, ta.sq, hv, k v' rv⟩ hs
  · obtain ⟨a, vs, rfl, ta, ra⟩ := rd
    cases re
    obtain ⟨v', hv, rv⟩ := atI_reps ra hz
    exact ix_list value slice pins s σ H _ _ v u Q I rx ry ⟨a, vs, _, v', rfl, rfl, SqL.of ta, hv, k v' rv⟩ hs
theorem cut_reps {K : PySem.W.Frag} {H : Hp} {F : Addr → Prop} {ds : List D} {vs : List V} (lo hi : Option Int) (r : Reps K H F ds vs) : Reps K H F (cut ds lo hi) (cutV vs lo hi) := by
  unfold cut cutV
  rw [← r.length]
  exact (r.drop _).take _
theorem slD : SlR X (fun x lo hi H Q => ∃ d z F, (∀ a, F a → H a ≠ none) ∧ RepV X.K H F d x ∧ slice d lo hi = some z ∧ ResK X.K H F z Q) := by
  intro pins s σ H x v vl vu lo hi sl Q I rx hs pl pu h
  obtain ⟨d, z, F, fn, rd, hz, k⟩ := h
  cases d <;> try (simp [slice] at hz; done)
  · obtain ⟨a, vs, rfl, ta, ra⟩ := rd
    simp only [slice, Option.some.injEq] at hz; subst hz
    refine sl_tupA pins s σ H _ v vl vu lo hi sl Q I rx hs pl pu ⟨a, vs, rfl, ta.sq, fun h => ?_, fun h p hp => ?_⟩
    · refine k _ H (Same.refl H) ⟨a, vs, rfl, ta, ?_⟩
      have e := cut_reps lo hi ra
      have e2 : cutV vs lo hi = vs := by
        unfold cutV
        rw [h.1, h.2]; simp
      rw [e2] at e
      exact e
    · have sm : Same H (upd H p (.tup (cutV vs lo hi))) := same_upd hp
      exact k _ _ sm ⟨p, _, rfl, ⟨upd_same, fun f => fn p f hp⟩, (cut_reps lo hi ra).mono (Mono.same sm)⟩
  · obtain ⟨a, vs, rfl, ta, ra⟩ := rd
    simp only [slice, Option.some.injEq] at hz; subst hz
    exact sl_list pins s σ H _ v vl vu lo hi sl Q I rx hs pl pu ⟨a, vs, rfl, SqL.of ta, fun p hp => k p _ hp (cut_reps lo hi ra)⟩
  · obtain ⟨a, vs, rfl, ta, ra⟩ := rd
    simp only [slice, Option.some.injEq] at hz; subst hz
    have l1 := ra.length
    refine sl_tupA pins s σ H _ v vl vu lo hi sl Q I rx hs pl pu ⟨a, vs, rfl, ta.sq, fun h => ?_, fun h p hp => ?_⟩
    · rw [if_pos (by rw [l1]; exact h)] at k
      exact k _ H (Same.refl H) ⟨a, vs, rfl, ta, ra⟩
    · rw [if_neg (by rw [l1]; exact h)] at k
      have sm : Same H (upd H p (.tup (cutV vs lo hi))) := same_upd hp
      exact k _ _ sm ⟨p, _, rfl, ⟨upd_same, fun f => fn p f hp⟩, (cut_reps lo hi ra).mono (Mono.same sm)⟩
  · obtain ⟨a, rfl, ta⟩ := rd
    simp only [slice, Option.some.injEq] at hz; subst hz
    exact sl_list pins s σ H _ v vl vu lo hi sl Q I rx hs pl pu ⟨a, _, rfl, ta.sq, fun p hp => k p _ hp (cut_reps lo hi (reps_of_ints _))⟩
end
end Rf

/-! Rg, part F: the rules of expressions over trees. -/
namespace Rf
open PySem PySem.Spec PyProof.Rows L2

def tDv (S : Sit) (C : Calls) (W : WX) (a : O) : TE := fun σ H Q => ∃ P env O, SR S P H O env σ ∧ PostG S W P H O σ (evalV C a env) fun d _ H' O' => ∀ v, RepV S.K H' (S.F O') d v → Q v H'
def tDo (S : Sit) (C : Calls) (W : WX) (o : Option E) : TO := fun σ H Q => ∃ P env O, SR S P H O env σ ∧ PostG S W P H O σ (evalO C o env) fun i _ H' _ => Q i H'
def tDs (S : Sit) (C : Calls) (W : WX) (es : List E) : TA := fun σ H Q => ∃ P env O, SR S P H O env σ ∧ PostG S W P H O σ (evalEs C es env) fun ds _ H' O' => ∀ vs, Reps S.K H' (S.F O') ds vs → Q vs H'

/-! ### exprs that are no stars, no slices -/
def nst : Expr → Bool
  | .Starred _ _ => false
  | _ => true
def nsl : Expr → Bool
  | .Slice _ _ _ _ => false
  | _ => true
section
variable {env : PySem.Env}
theorem star_cons {p : Expr} {ps : List Expr} (h : nst p = true) : starEach (p :: ps) env = (false, eval p env) :: starEach ps env := by
  cases p <;> first | rfl | (simp [nst] at h)
theorem star_none : ∀ {ps : List Expr} {pos : Pos}, ps.all nst = true → (backTo pos (starEach ps env)).any (·.1) = false
  | [], _, _ => rfl
  | p :: ps, pos, h => by
    rw [List.all_cons, Bool.and_eq_true] at h
    rw [star_cons h.1]
    show (false || (backTo pos (starEach ps env)).any (·.1)) = false
    rw [star_none h.2]; rfl
theorem plainIx {p : Expr} (h : nsl p = true) : PlainIx p := fun o i => by
  cases p <;> first | rfl | (simp [nsl] at h)
end

section
variable {X : Cx} {S : Sit} {C : Calls} {W : WX} {pos p1' : Pos}
theorem rep_scalar {K : PySem.W.Frag} {H : Hp} {F : Addr → Prop} {d : D} {v v' : V} (h : Rep K H F d v) (c : isC d = false) (h2 : ∀ H F, Rep K H F d v') : True := trivial

/-- a constant -/
def scl : D → Option V
  | .non => some .non
  | .bl b => some (.bl b)
  | .int i => some (.int i)
  | .str x => some (.str x)
  | _ => none
theorem rep_scl {K : PySem.W.Frag} {H : Hp} {F : Addr → Prop} {d : D} {v : V} (h : scl d = some v) : Rep K H F d v := by
  cases d <;> simp [scl] at h <;> subst h <;> rfl
theorem scl_notC {d : D} {v : V} (h : scl d = some v) : isC d = false := by
  cases d <;> first | rfl | (simp [scl] at h)
theorem r_cst {pe : Expr} {d : D} {v : V} {e : E} (h : scl d = some v) (hp : PE X pe (tC v)) (he : ∀ s, evalE C e s = .ok d s) : PE X pe (tD S C W e) :=
  PE.imp hp fun σ H Q ⟨P, env, O, s, p⟩ => by
    unfold Post at p
    rw [he] at p
    exact p H O (Ext.refl _ _) s v (rep_scl h)
theorem r_var {x : Str} {i : Nat} (hN : X.N[i]? = some x) (hv : Vis X.env.scope x) (hd : (x == ("__debug__" : Str)) = false) (hcd : (x == ("__classdict__" : Str)) = false) : PE X (.Name x pos) (tD S C W (.var i)) :=
  PE.imp (pe_var hN hv hd hcd) fun σ H Q ⟨P, env, O, s, p⟩ => by
    have p : Post S W P H O σ (readR env i) Q := p
    unfold readR at p
    split at p
    · rename_i d e
      obtain ⟨v, e1, r⟩ := s.sh i d e
      exact ⟨v, e1, p H O (Ext.refl _ _) s v r⟩
    · rename_i d e
      obtain ⟨v, O', e1, x, s', r⟩ := s.freeze e
      exact ⟨v, e1, p H O' x s' v r⟩
    · exact p.elim
theorem r_vw {x : Str} {i : Nat} (hN : X.N[i]? = some x) (hv : Vis X.env.scope x) (hd : (x == ("__debug__" : Str)) = false) (hcd : (x == ("__classdict__" : Str)) = false) : PE X (.Name x pos) (tDv S C W (.vw i)) :=
  PE.imp (pe_var hN hv hd hcd) fun σ H Q ⟨P, env, O, s, p⟩ => by
    have p : PostG S W P H O σ (slotR env i) _ := p
    unfold slotR at p
    split at p
    · rename_i d e
      obtain ⟨v, e1, r⟩ := s.sh i d e
      exact ⟨v, e1, p H O (Ext.refl _ _) s v r.view⟩
    · rename_i d e
      obtain ⟨v, e1, t⟩ := s.ow i d e
      exact ⟨v, e1, p H O (Ext.refl _ _) s v t.view⟩
    · exact p.elim
theorem SR.forget {P : Pd} {H : Hp} {O : Addr → Prop} {env : Env} {σ : L2.St} (s : SR S P H O env σ) (i : Nat) : SR S P H O (env.set i .no) σ := by
  refine ⟨by rw [List.length_set]; exact s.len, s.own, s.dis, fun j d e => ?_, fun j d e => ?_, s.pd, fun x y v h1 h2 => s.ne x y v (rt_set no_ne h1).1 (rt_set no_ne h2).1, s.io⟩
  · by_cases hj : j = i
    · subst hj
      have hlt : j < env.length := by
        have := (List.getElem?_eq_some_iff.mp e).1
        simpa using this
      rw [List.getElem?_set_self hlt] at e; cases e
    · rw [List.getElem?_set_ne (Ne.symm hj)] at e
      exact s.sh j d e
  · by_cases hj : j = i
    · subst hj
      have hlt : j < env.length := by
        have := (List.getElem?_eq_some_iff.mp e).1
        simpa using this
      rw [List.getElem?_set_self hlt] at e; cases e
    · rw [List.getElem?_set_ne (Ne.symm hj)] at e
      exact s.ow j d e
theorem r_mov {x : Str} {i : Nat} (hN : X.N[i]? = some x) (hv : Vis X.env.scope x) (hd : (x == ("__debug__" : Str)) = false) (hcd : (x == ("__classdict__" : Str)) = false) : PE X (.Name x pos) (tDf S C W (.mov i)) :=
  PE.imp (pe_var hN hv hd hcd) fun σ H Q ⟨P, env, O, s, p⟩ => by
    have p : PostF S W P H O σ (moveR env i) Q := p
    unfold moveR at p
    split at p
    · rename_i d e
      obtain ⟨v, e1, r⟩ := s.sh i d e
      split at p
      · exact p.elim
      · rename_i hc
        have hc : isC d = false := by simpa using hc
        exact ⟨v, e1, p H O (Ext.refl _ _) s v (by rw [top_notC hc]; exact r) fun c => by rw [hc] at c; cases c⟩
    · rename_i d e
      obtain ⟨v, e1, t⟩ := s.ow i d e
      refine ⟨v, e1, p H O (Ext.refl _ _) (s.forget i) v t fun c y hy => ?_⟩
      obtain ⟨q1, q2⟩ := rt_set no_ne hy
      exact q2 (s.ne _ _ _ q1 (rt_inl.mpr ⟨d, e, c, e1⟩))
    · exact p.elim
/-- any expression as an operand -/
theorem r_opd {pe : Expr} {e : E} (h : PE X pe (tD S C W e)) : PE X pe (tDv S C W (.e e)) := PE.imp h fun σ H Q ⟨P, env, O, s, p⟩ => ⟨P, env, O, s, PostG.imp (show PostG S W P H O σ (evalE C e env) _ from p) fun _ _ _ _ _ _ _ q v r => q v r.view⟩
/-- a slot, read behind the other operands -/
theorem SR.slot {P : Pd} {H : Hp} {O : Addr → Prop} {env : Env} {σ : L2.St} {i : Nat} {α : Type} {f : D → Env → R α} {Q : α → Env → Hp → (Addr → Prop) → Prop} (s : SR S P H O env σ) (h : PostG S W P H O σ ((slotR env i).bind f) Q) :
    ∃ d v, σ[i]? = some (some v) ∧ RepV S.K H (S.F O) d v ∧ PostG S W P H O σ (f d env) Q := by
  unfold slotR at h
  split at h
  · rename_i d e
    obtain ⟨v, e1, r⟩ := s.sh i d e
    exact ⟨d, v, e1, r.view, h⟩
  · rename_i d e
    obtain ⟨v, e1, t⟩ := s.ow i d e
    exact ⟨d, v, e1, t.view, h⟩
  · exact h.elim

variable {a b c : E} {pa pb pc : Expr} {o : BOp} {op : Operator}
theorem r_bin {b : O} (hK : S.K = X.K) (ho : OpD X (binaryOp op) (bin o)) (ha : PE X pa (tD S C W a)) (hb : PE X pb (tDv S C W b)) : PE X (.BinOp pa op pb pos) (tDf S C W (.bin o a b)) := by
  refine PE.imp (pe_op ho ha hb) fun σ H Q ⟨P, env, O, s, p⟩ => ⟨P, env, O, s, PostG.imp (PostG.bind p) fun d1 s1 H1 O1 _ _ _ ⟨x1, t1, p1⟩ v1 r1 => ⟨P, s1, O1, t1, PostG.imp (PostG.bind p1) fun d2 s2 H2 O2 _ _ _ ⟨x2, t2, p2⟩ v2 r2 => ?_⟩⟩
  obtain ⟨z, hz, p3⟩ := PostG.opt p2
  rw [hK] at r1 r2
  have k := resK_of t2 p3
  rw [hK] at k
  exact ⟨d1, d2, z, S.F O2, t2.own, (r1.mono x2.mono).view, r2, hz, k⟩
theorem r_var_ {X : Cx} {x : Str} {i : Nat} {pos : Pos} (hN : X.N[i]? = some x) (hv : Vis X.env.scope x) (hd : (x == ("__debug__" : Str)) = false) (hcd : (x == ("__classdict__" : Str)) = false) : PE X (.Name x pos) (tVar i) := pe_var hN hv hd hcd
theorem r_binv {i : Nat} (hK : S.K = X.K) (ho : OpD X (binaryOp op) (bin o)) (ha : PE X pa (tVar i)) (hb : PE X pb (tD S C W b)) : PE X (.BinOp pa op pb pos) (tDf S C W (.binv o i b)) := by
  refine PE.imp (pe_op ho ha hb) fun σ H Q ⟨P, env, O, s, p⟩ => ?_
  obtain ⟨_, v1, e1, _, p⟩ := s.slot (show PostG S W P H O σ ((slotR env i).bind _) _ from p)
  refine ⟨v1, e1, P, env, O, s, PostG.imp (PostG.bind p) fun d2 s2 H2 O2 _ _ _ ⟨x2, t2, p2⟩ v2 r2 => ?_⟩
  obtain ⟨d1, v1', e1', r1, p3⟩ := t2.slot p2
  rw [e1] at e1'; cases e1'
  obtain ⟨z, hz, p3⟩ := PostG.opt p3
  rw [hK] at r1 r2
  have k := resK_of t2 p3
  rw [hK] at k
  exact ⟨d1, d2, z, S.F O2, t2.own, r1, r2.view, hz, k⟩
theorem post_bl {P : Pd} {H : Hp} {O : Addr → Prop} {env : Env} {σ : L2.St} {k : Bool} {Q : VK} (s : SR S P H O env σ) (h : PostF S W P H O σ (.ok (.bl k) env) Q) : Q (.bl k) H :=
  h H O (Ext.refl _ _) s (.bl k) rfl fun c => by cases c
theorem post_int {P : Pd} {H : Hp} {O : Addr → Prop} {env : Env} {σ : L2.St} {k : Int} {Q : VK} (s : SR S P H O env σ) (h : PostF S W P H O σ (.ok (.int k) env) Q) : Q (.int k) H :=
  h H O (Ext.refl _ _) s (.int k) rfl fun c => by cases c
theorem r_neg (ha : PE X pa (tD S C W a)) : PE X (.UnaryOp .USub pa pos) (tDf S C W (.neg a)) := by
  refine PE.imp (pe_un un_neg ha) fun σ H Q ⟨P, env, O, s, p⟩ => ⟨P, env, O, s, PostG.imp (PostG.bind p) fun d1 s1 H1 O1 _ _ _ ⟨x1, t1, p1⟩ v1 r1 => ?_⟩
  cases d1 <;> try exact p1.elim
  cases r1
  exact ⟨_, rfl, post_int t1 p1⟩
variable {p : COp} {opc opc2 : CmpOp}
theorem cmD' (hr : X.A.units + 100 < cLine) (o : COp) : CmD X o := cmD hr o
theorem r_cmp {p : COp} {b : O} (hK : S.K = X.K) (hu : X.A.units + 100 < cLine) (ha : PE X pa (tD S C W a)) (hb : PE X pb (tDv S C W b)) (hm : behindInMarks (cop p) pb = false) : PE X (.Compare pa [cop p] [pb] pos) (tDf S C W (.cmp p a b)) := by
  refine PE.imp (pe_cmpR (cmD hu p) ha hb hm) fun σ H Q ⟨P, env, O, s, p⟩ => ⟨P, env, O, s, PostG.imp (PostG.bind p) fun d1 s1 H1 O1 _ _ _ ⟨x1, t1, p1⟩ v1 r1 => ⟨P, s1, O1, t1, PostG.imp (PostG.bind p1) fun d2 s2 H2 O2 _ _ _ ⟨x2, t2, p2⟩ v2 r2 => ?_⟩⟩
  obtain ⟨z, hz, p3⟩ := PostG.optBind p2
  rw [hK] at r1 r2
  exact ⟨d1, d2, z, S.F O2, (r1.mono x2.mono).view, r2, hz, post_bl t2 p3⟩
end
end Rf

/-! Rg, part G: .. comparisons, tests, calls of builtins, items. -/
namespace Rf
open PySem PySem.Spec PyProof.Rows L2
section
variable {X : Cx} {S : Sit} {C : Calls} {W : WX} {pos : Pos} {a b c : E} {pa pb pc : Expr}
abbrev rCm (X : Cx) (o : COp) : R2 := fun x y H Q => ∃ d e b F, RepV X.K H F d x ∧ RepV X.K H F e y ∧ cmp o d e = some b ∧ Q (.bl b) H
/-- a truth has come -/
abbrev BlK (S : Sit) (P : Pd) (σ : L2.St) (R : D → Env → Hp → (Addr → Prop) → Prop) : VK := fun x H' => ∃ k env' O', x = .bl k ∧ SR S P H' O' env' σ ∧ R (.bl k) env' H' O'
section
variable {P : Pd} {H : Hp} {O : Addr → Prop} {env : Env} {σ : L2.St} {R : D → Env → Hp → (Addr → Prop) → Prop}
theorem core_cmp {p : COp} {b : Rf.O} (hK : S.K = X.K) (s : SR S P H O env σ) (q : PostG S W P H O σ (evalE C (.cmp p a b) env) R) : tOp (rCm X p) (tD S C W a) (tDv S C W b) σ H (BlK S P σ R) := by
  refine ⟨P, env, O, s, PostG.imp (PostG.bind q) fun d1 s1 H1 O1 _ _ _ ⟨x1, t1, p1⟩ v1 r1 => ⟨P, s1, O1, t1, PostG.imp (PostG.bind p1) fun d2 s2 H2 O2 _ _ _ ⟨x2, t2, p2⟩ v2 r2 => ?_⟩⟩
  obtain ⟨z, hz, p3⟩ := PostG.optBind p2
  rw [hK] at r1 r2
  exact ⟨d1, d2, z, S.F O2, (r1.mono x2.mono).view, r2, hz, z, s2, O2, rfl, t2, p3 H2 O2 (Ext.refl _ _) t2⟩
theorem core_cmpv {p : COp} {i : Nat} (hK : S.K = X.K) (s : SR S P H O env σ) (q : PostG S W P H O σ (evalE C (.cmpv p i b) env) R) : tOp (rCm X p) (tVar i) (tD S C W b) σ H (BlK S P σ R) := by
  obtain ⟨_, v1, e1, _, p⟩ := s.slot (show PostG S W P H O σ ((slotR env i).bind _) _ from q)
  refine ⟨v1, e1, P, env, O, s, PostG.imp (PostG.bind p) fun d2 s2 H2 O2 _ _ _ ⟨x2, t2, p2⟩ v2 r2 => ?_⟩
  obtain ⟨d1, v1', e1', r1, p3⟩ := t2.slot p2
  rw [e1] at e1'; cases e1'
  obtain ⟨z, hz, p3⟩ := PostG.optBind p3
  rw [hK] at r1 r2
  exact ⟨d1, d2, z, S.F O2, r1, r2.view, hz, z, s2, O2, rfl, t2, p3 H2 O2 (Ext.refl _ _) t2⟩
theorem core_chain {p p' : COp} (hK : S.K = X.K) (s : SR S P H O env σ) (q : PostG S W P H O σ (evalE C (.chain p p' a b c) env) R) : tChain (rCm X p) (rCm X p') (tD S C W a) (tD S C W b) (tD S C W c) σ H (BlK S P σ R) := by
  refine ⟨P, env, O, s, PostG.imp (PostG.bind q) fun d1 s1 H1 O1 _ _ _ ⟨x1, t1, p1⟩ v1 r1 => ⟨P, s1, O1, t1, PostG.imp (PostG.bind p1) fun d2 s2 H2 O2 _ _ _ ⟨x2, t2, p2⟩ v2 r2 => ?_⟩⟩
  obtain ⟨z, hz, p3⟩ := PostG.optBind p2
  rw [hK] at r1 r2
  refine ⟨d1, d2, z, S.F O2, (r1.mono x2.mono).view, r2.view, hz, z, rfl, ?_⟩
  cases z with
  | false => exact ⟨false, s2, O2, rfl, t2, p3 H2 O2 (Ext.refl _ _) t2⟩
  | true =>
    refine ⟨P, s2, O2, t2, PostG.imp (PostG.bind (show PostG S W P H2 O2 σ ((evalE C c s2).bind _) _ from p3)) fun d3 s3 H3 O3 _ _ _ ⟨x3, t3, p4⟩ v3 r3 => ?_⟩
    obtain ⟨z', hz', p5⟩ := PostG.optBind p4
    rw [hK] at r3
    exact ⟨d2, d3, z', S.F O3, (r2.mono x3.mono).view, r3.view, hz', z', s3, O3, rfl, t3, p5 H3 O3 (Ext.refl _ _) t3⟩
theorem blk_val {Q : VK} {x : V} {H' : Hp} (h : BlK S P σ (fun d s H' O' => ∀ v, Top S H' O' d v → NewTop s σ P d v → Q v H') x H') : Q x H' := by
  obtain ⟨k, env', O', rfl, t, q⟩ := h
  exact q _ rfl fun c => by cases c
theorem blk_test {Q : Bool → Hp → Prop} {x : V} {H' : Hp} {H0 : Hp} {O0 : Addr → Prop} (h : BlK S P σ (fun d s H' O' => Ext H0 O0 H' O' ∧ SR S P H' O' s σ ∧ PostG S W P H' O' σ (optR (truth d) s) fun b _ H' _ => Q b H') x H') : ∃ k, x = .bl k ∧ Q k H' := by
  obtain ⟨k, env', O', rfl, t, _, _, q⟩ := h
  exact ⟨k, rfl, q H' O' (Ext.refl _ _) t⟩
end
theorem tOp_imp {r : R2} {ta tb : TE} (ma : ∀ σ H Q Q', ta σ H Q → (∀ v H', Q v H' → Q' v H') → ta σ H Q') {σ : L2.St} {H : Hp} {Q Q' : VK} : True := trivial
/-- the end of such a reading may be weakened -/
def MonoT (t : TE) : Prop := ∀ σ H (Q Q' : VK), (∀ v H', Q v H' → Q' v H') → t σ H Q → t σ H Q'
theorem mono_tD {e : E} : MonoT (tD S C W e) := fun σ H Q Q' i ⟨P, env, O, s, p⟩ => ⟨P, env, O, s, PostG.imp p fun _ _ _ _ _ _ _ q v r => i _ _ (q v r)⟩
theorem mono_tDv {e : Rf.O} : MonoT (tDv S C W e) := fun σ H Q Q' i ⟨P, env, O, s, p⟩ => ⟨P, env, O, s, PostG.imp p fun _ _ _ _ _ _ _ q v r => i _ _ (q v r)⟩
theorem mono_var {i : Nat} : MonoT (tVar i) := fun σ H Q Q' j ⟨v, e, q⟩ => ⟨v, e, j _ _ q⟩
theorem mono_cm {p : COp} {ta tb : TE} (ha : MonoT ta) (hb : MonoT tb) : MonoT (tOp (rCm X p) ta tb) := fun σ H Q Q' i h => ha _ _ _ _ (fun x H1 q => hb _ _ _ _ (fun y H2 ⟨d, e, b, F, h1, h2, h3, h4⟩ => ⟨d, e, b, F, h1, h2, h3, i _ _ h4⟩) q) h
theorem mono_chain {p p' : COp} {ta tb tc : TE} (ha : MonoT ta) (hb : MonoT tb) (hc : MonoT tc) : MonoT (tChain (rCm X p) (rCm X p') ta tb tc) := fun σ H Q Q' i h =>
  ha _ _ _ _ (fun x H1 q => hb _ _ _ _ (fun y H2 ⟨d, e, b, F, h1, h2, h3, k, h4, h5⟩ => ⟨d, e, b, F, h1, h2, h3, k, h4, by
    cases k with
    | false => exact i _ _ h5
    | true => exact hc _ _ _ _ (fun w H4 ⟨d, e, b, F, h1, h2, h3, h4⟩ => ⟨d, e, b, F, h1, h2, h3, i _ _ h4⟩) h5⟩) q) h

theorem r_cmpv {p : COp} {i : Nat} (hK : S.K = X.K) (hu : X.A.units + 100 < cLine) (ha : PE X pa (tVar i)) (hb : PE X pb (tD S C W b)) (hm : behindInMarks (cop p) pb = false) : PE X (.Compare pa [cop p] [pb] pos) (tDf S C W (.cmpv p i b)) :=
  PE.imp (pe_cmpR (cmD hu p) ha hb hm) fun σ H Q ⟨P, env, O, s, q⟩ => mono_cm mono_var mono_tD _ _ _ _ (fun _ _ => blk_val) (core_cmpv hK s q)
theorem r_chain {p p' : COp} (hK : S.K = X.K) (hu : X.A.units + 100 < cLine) (ha : PE X pa (tD S C W a)) (hb : PE X pb (tD S C W b)) (hc : PE X pc (tD S C W c)) (hm : lastMarks [cop p, cop p'] [pb, pc] = false) :
    PE X (.Compare pa [cop p, cop p'] [pb, pc] pos) (tDf S C W (.chain p p' a b c)) :=
  PE.imp (pe_chain (cmD hu p) (cmD hu p') ha hb hc hm) fun σ H Q ⟨P, env, O, s, q⟩ => mono_chain mono_tD mono_tD mono_tD _ _ _ _ (fun _ _ => blk_val) (core_chain hK s q)
/-! as tests -/
theorem rt_cmp {p : COp} {b : Rf.O} (hK : S.K = X.K) (hu : X.A.units + 100 < cLine) (ha : PE X pa (tD S C W a)) (hb : PE X pb (tDv S C W b)) (hm : behindInMarks (cop p) pb = false) : PT X (.Compare pa [cop p] [pb] pos) (tT S C W (.cmp p a b)) :=
  PT.imp (pt_cmpR (cmD hu p) ha hb hm) fun σ H Q ⟨P, env, O, s, q⟩ => ⟨P, env, O, s, PostG.imp (PostG.bind (show PostG S W P H O σ ((evalE C a env).bind _) _ from q)) fun d1 s1 H1 O1 _ _ _ ⟨x1, t1, p1⟩ v1 r1 => ⟨P, s1, O1, t1, PostG.imp (PostG.bind p1) fun d2 s2 H2 O2 _ _ _ ⟨x2, t2, p2⟩ v2 r2 => by
    obtain ⟨z, hz, p3⟩ := PostG.opt p2
    rw [hK] at r1 r2
    exact ⟨d1, d2, z, S.F O2, (r1.mono x2.mono).view, r2, hz, z, rfl, p3 H2 O2 (Ext.refl _ _) t2⟩⟩⟩
theorem rt_cmpv {p : COp} {i : Nat} (hK : S.K = X.K) (hu : X.A.units + 100 < cLine) (ha : PE X pa (tVar i)) (hb : PE X pb (tD S C W b)) (hm : behindInMarks (cop p) pb = false) : PT X (.Compare pa [cop p] [pb] pos) (tT S C W (.cmpv p i b)) :=
  PT.imp (pt_cmpR (cmD hu p) ha hb hm) fun σ H Q ⟨P, env, O, s, q⟩ => by
    obtain ⟨_, v1, e1, _, p⟩ := s.slot (show PostG S W P H O σ ((slotR env i).bind _) _ from q)
    refine ⟨v1, e1, P, env, O, s, PostG.imp (PostG.bind p) fun d2 s2 H2 O2 _ _ _ ⟨x2, t2, p2⟩ v2 r2 => ?_⟩
    obtain ⟨d1, v1', e1', r1, p3⟩ := t2.slot p2
    rw [e1] at e1'; cases e1'
    obtain ⟨z, hz, p3⟩ := PostG.opt p3
    rw [hK] at r1 r2
    exact ⟨d1, d2, z, S.F O2, r1, r2.view, hz, z, rfl, p3 H2 O2 (Ext.refl _ _) t2⟩
theorem rt_chain {p p' : COp} (hK : S.K = X.K) (hu : X.A.units + 100 < cLine) (ha : PE X pa (tD S C W a)) (hb : PE X pb (tD S C W b)) (hc : PE X pc (tD S C W c)) (hm : lastMarks [cop p, cop p'] [pb, pc] = false) :
    PT X (.Compare pa [cop p, cop p'] [pb, pc] pos) (tT S C W (.chain p p' a b c)) :=
  PT.imp (pt_chain (cmD hu p) (cmD hu p') ha hb hc hm) fun σ H Q ⟨P, env, O, s, q⟩ => ⟨P, env, O, s, PostG.imp (PostG.bind (show PostG S W P H O σ ((evalE C a env).bind _) _ from q)) fun d1 s1 H1 O1 _ _ _ ⟨x1, t1, p1⟩ v1 r1 => ⟨P, s1, O1, t1, PostG.imp (PostG.bind p1) fun d2 s2 H2 O2 _ _ _ ⟨x2, t2, p2⟩ v2 r2 => by
    obtain ⟨z, hz, p3⟩ := PostG.optBind p2
    rw [hK] at r1 r2
    refine ⟨d1, d2, z, S.F O2, (r1.mono x2.mono).view, r2.view, hz, z, rfl, ?_⟩
    cases z with
    | false => exact ⟨false, rfl, p3 H2 O2 (Ext.refl _ _) t2⟩
    | true =>
      refine ⟨P, s2, O2, t2, PostG.imp (PostG.bind (show PostG S W P H2 O2 σ ((evalE C c s2).bind _) _ from p3)) fun d3 s3 H3 O3 _ _ _ ⟨x3, t3, p4⟩ v3 r3 => ?_⟩
      obtain ⟨z', hz', p5⟩ := PostG.opt p4
      rw [hK] at r3
      exact ⟨d2, d3, z', S.F O3, (r2.mono x3.mono).view, r3.view, hz', z', rfl, p5 H3 O3 (Ext.refl _ _) t3⟩⟩⟩
/-- what is true of data -/
theorem truD {K : PySem.W.Frag} {H : Hp} {F : Addr → Prop} {d : D} {v : V} {k : Bool} (r : RepV K H F d v) (h : truth d = some k) : TruV K v H k := by
  cases d with
  | non => cases r; cases h; rfl
  | bl b => cases r; cases h; rfl
  | int i => cases r; simp only [truth, Option.some.injEq] at h; subst h; show _ = (i != 0); rw [Bool.eq_iff_iff]; simp
  | str x =>
    cases r
    simp only [truth] at h
    split at h
    · rename_i hl
      cases h
      exact ⟨hl, by rw [Bool.eq_iff_iff]; simp⟩
    · cases h
  | tup ds =>
    obtain ⟨a, vs, rfl, t, rs⟩ := r
    simp only [truth, Option.some.injEq] at h; subst h
    refine .inr (.inl ⟨vs, t.sq, ?_⟩)
    have := rs.length
    cases ds <;> cases vs <;> first | rfl | (simp at this)
  | tpz ds =>
    obtain ⟨a, vs, rfl, t, rs⟩ := r
    simp only [truth, Option.some.injEq] at h; subst h
    refine .inr (.inl ⟨vs, t.sq, ?_⟩)
    have := rs.length
    cases ds <;> cases vs <;> first | rfl | (simp at this)
  | lst ds =>
    obtain ⟨a, vs, rfl, t, rs⟩ := r
    simp only [truth, Option.some.injEq] at h; subst h
    refine .inl ⟨vs, SqL.of t, ?_⟩
    have := rs.length
    cases ds <;> cases vs <;> first | rfl | (simp at this)
  | dic => cases h
  | ins => cases h
  | err => cases h
  | fn => cases h
  | scr => cases h
theorem rt_o {b : Rf.O} (hK : S.K = X.K) (ha : PE X pa (tDv S C W b)) (he : ∀ whole, isTrue pa X.env whole = (do let v ← whole; standAt pa.pos; holding [v] (truthy v))) : PT X pa (tT S C W (.o b)) :=
  PT.imp (pt_truth ha he) fun σ H Q ⟨P, env, O, s, q⟩ => ⟨P, env, O, s, PostG.imp (PostG.bind (show PostG S W P H O σ ((evalV C b env).bind _) _ from q)) fun d s1 H1 O1 _ _ _ ⟨x1, t1, p1⟩ v r => by
    obtain ⟨z, hz, p3⟩ := PostG.opt p1
    rw [hK] at r
    exact ⟨z, truD r hz, p3 H1 O1 (Ext.refl _ _) t1⟩⟩
theorem r_not {b : Rf.O} (hK : S.K = X.K) (ha : PE X pa (tDv S C W b)) : PE X (.UnaryOp .Not pa pos) (tDf S C W (.not b)) :=
  PE.imp (pe_notT ha) fun σ H Q ⟨P, env, O, s, q⟩ => ⟨P, env, O, s, PostG.imp (PostG.bind (show PostG S W P H O σ ((evalV C b env).bind _) _ from q)) fun d s1 H1 O1 _ _ _ ⟨x1, t1, p1⟩ v r => by
    obtain ⟨z, hz, p3⟩ := PostG.optBind p1
    rw [hK] at r
    exact ⟨z, truD r hz, post_bl t1 p3⟩⟩
theorem r_and {rest : List Expr} (hK : S.K = X.K) (ha : PE X pa (tD S C W a)) (hb : PE X (.BoolOp .And (pb :: rest) pos) (tD S C W b)) : PE X (.BoolOp .And (pa :: pb :: rest) pos) (tD S C W (.and a b)) :=
  PE.imp (pe_andT ha hb) fun σ H Q ⟨P, env, O, s, q⟩ => ⟨P, env, O, s, PostG.imp (PostG.bind (show PostG S W P H O σ ((evalE C a env).bind _) _ from q)) fun d s1 H1 O1 _ _ _ ⟨x1, t1, p1⟩ v r => by
    obtain ⟨z, hz, p3⟩ := PostG.optBind p1
    have r' := r
    rw [hK] at r'
    refine ⟨z, truD r'.view hz, ?_⟩
    cases z with
    | true => exact ⟨P, s1, O1, t1, p3⟩
    | false => exact p3 H1 O1 (Ext.refl _ _) t1 v r⟩
theorem r_or {rest : List Expr} (hK : S.K = X.K) (ha : PE X pa (tD S C W a)) (hb : PE X (.BoolOp .Or (pb :: rest) pos) (tD S C W b)) : PE X (.BoolOp .Or (pa :: pb :: rest) pos) (tD S C W (.or a b)) :=
  PE.imp (pe_orT ha hb) fun σ H Q ⟨P, env, O, s, q⟩ => ⟨P, env, O, s, PostG.imp (PostG.bind (show PostG S W P H O σ ((evalE C a env).bind _) _ from q)) fun d s1 H1 O1 _ _ _ ⟨x1, t1, p1⟩ v r => by
    obtain ⟨z, hz, p3⟩ := PostG.optBind p1
    have r' := r
    rw [hK] at r'
    refine ⟨z, truD r'.view hz, ?_⟩
    cases z with
    | false => exact ⟨P, s1, O1, t1, p3⟩
    | true => exact p3 H1 O1 (Ext.refl _ _) t1 v r⟩
theorem r_ite {t : Rf.T} {pt : Expr} (ht : PT X pt (tT S C W t)) (ha : PE X pa (tD S C W a)) (hb : PE X pb (tD S C W b)) : PE X (.IfExp pt pa pb pos) (tD S C W (.ite t a b)) :=
  PE.imp (pe_ifExp ht ha hb) fun σ H Q ⟨P, env, O, s, q⟩ => ⟨P, env, O, s, PostG.imp (PostG.bind (show PostG S W P H O σ ((evalT C t env).bind _) _ from q)) fun d s1 H1 O1 _ _ _ ⟨x1, t1, p1⟩ => by
    cases d with
    | true => exact ⟨P, s1, O1, t1, p1⟩
    | false => exact ⟨P, s1, O1, t1, p1⟩⟩
theorem rf_ite {t : Rf.T} {pt : Expr} (ht : PT X pt (tT S C W t)) (ha : PE X pa (tDf S C W a)) (hb : PE X pb (tDf S C W b)) : PE X (.IfExp pt pa pb pos) (tDf S C W (.ite t a b)) :=
  PE.imp (pe_ifExp ht ha hb) fun σ H Q ⟨P, env, O, s, q⟩ => ⟨P, env, O, s, PostG.imp (PostG.bind (show PostG S W P H O σ ((evalT C t env).bind _) _ from q)) fun d s1 H1 O1 _ _ _ ⟨x1, t1, p1⟩ => by
    cases d with
    | true => exact ⟨P, s1, O1, t1, p1⟩
    | false => exact ⟨P, s1, O1, t1, p1⟩⟩
/-! tests put together -/
theorem PT.pw {op : BoolOp} {vs : List Expr} {t : TT} (h : PT X (.BoolOp op vs pos) t) : PW X (.BoolOp op vs pos) t := ⟨fun whole pins s σ H Q I q => h.run pins s σ H Q I q⟩
theorem rt_and {ta tb : Rf.T} {rest : List Expr} (ha : PT X pa (tT S C W ta)) (hb : PW X (.BoolOp .And (pb :: rest) pos) (tT S C W tb)) : PW X (.BoolOp .And (pa :: pb :: rest) pos) (tT S C W (.and ta tb)) := by
  have h := pw_and ha hb
  refine ⟨fun whole pins s σ H Q I ⟨P, env, O, t, q⟩ => h.run whole pins s σ H Q I ⟨P, env, O, t, PostG.imp (PostG.bind (show PostG S W P H O σ ((evalT C ta env).bind _) _ from q)) fun d s1 H1 O1 _ _ _ ⟨x1, t1, p1⟩ => ?_⟩⟩
  cases d with
  | true => exact ⟨P, s1, O1, t1, p1⟩
  | false => exact p1 H1 O1 (Ext.refl _ _) t1
theorem rt_or {ta tb : Rf.T} {rest : List Expr} (ha : PT X pa (tT S C W ta)) (hb : PW X (.BoolOp .Or (pb :: rest) pos) (tT S C W tb)) : PW X (.BoolOp .Or (pa :: pb :: rest) pos) (tT S C W (.or ta tb)) := by
  have h := pw_or ha hb
  refine ⟨fun whole pins s σ H Q I ⟨P, env, O, t, q⟩ => h.run whole pins s σ H Q I ⟨P, env, O, t, PostG.imp (PostG.bind (show PostG S W P H O σ ((evalT C ta env).bind _) _ from q)) fun d s1 H1 O1 _ _ _ ⟨x1, t1, p1⟩ => ?_⟩⟩
  cases d with
  | false => exact ⟨P, s1, O1, t1, p1⟩
  | true => exact p1 H1 O1 (Ext.refl _ _) t1
theorem rt_not {ta : Rf.T} (ha : PT X pa (tT S C W ta)) : PT X (.UnaryOp .Not pa pos) (tT S C W (.not ta)) :=
  PT.imp (pt_not ha) fun σ H Q ⟨P, env, O, t, q⟩ => ⟨P, env, O, t, PostG.imp (PostG.bind (show PostG S W P H O σ ((evalT C ta env).bind _) _ from q)) fun d s1 H1 O1 _ _ _ ⟨x1, t1, p1⟩ => p1 H1 O1 (Ext.refl _ _) t1⟩
/-- a if t else b as a test -/
theorem rt_ite {t ta tb : Rf.T} {pt : Expr} (ht : PT X pt (tT S C W t)) (ha : PT X pa (tT S C W ta)) (hb : PT X pb (tT S C W tb)) : PT X (.IfExp pt pa pb pos) (tT S C W (.ite t ta tb)) := by
  refine ⟨fun pins s σ H Q I ⟨P, env, O, t', q⟩ => ?_⟩
  show wpAny _ _ (do if ← isTrue pt X.env (eval pt X.env) then isTrue pa X.env (eval pa X.env) else isTrue pb X.env (eval pb X.env)) _ _ s
  refine wpAny_bind (thn (ht.run pins s σ H (fun k H1 => if k = true then tT S C W ta σ H1 Q else tT S C W tb σ H1 Q) I ⟨P, env, O, t', PostG.imp (PostG.bind (show PostG S W P H O σ ((evalT C t env).bind _) _ from q)) fun d s1 H1 O1 _ _ _ ⟨x1, t1, p1⟩ => ?_⟩) fun k s1 ⟨H1, I1, q1⟩ => ?_)
  · cases d with
    | true => exact ⟨P, s1, O1, t1, p1⟩
    | false => exact ⟨P, s1, O1, t1, p1⟩
  · cases k with
    | true => exact ha.run pins s1 σ H1 Q I1 q1
    | false => exact hb.run pins s1 σ H1 Q I1 q1
end
end Rf

/-! Rg, part H: .. displays, builtins, items, slices; owned lists written. -/
namespace Rf
open PySem PySem.Spec PyProof.Rows L2
section
variable {X : Cx} {S : Sit} {C : Calls} {W : WX} {pos : Pos} {a b c : E} {pa pb pc : Expr}
theorem r_ds_nil : PA X [] (tDs S C W []) := PA.imp pa_nil fun σ H Q ⟨P, env, O, s, p⟩ => p H O (Ext.refl _ _) s [] rfl
theorem r_ds_cons {es : List E} {ps : List Expr} (ha : PE X pa (tD S C W a)) (hr : PA X ps (tDs S C W es)) (hn : nst pa = true) : PA X (pa :: ps) (tDs S C W (a :: es)) :=
  PA.imp (pa_cons ha hr (star_cons hn)) fun σ H Q ⟨P, env, O, s, p⟩ => ⟨P, env, O, s, PostG.imp (PostG.bind (show PostG S W P H O σ ((evalE C a env).bind _) _ from p)) fun d s1 H1 O1 _ _ _ ⟨x1, t1, p1⟩ v r =>
    ⟨P, s1, O1, t1, PostG.imp (PostG.bind p1) fun ds s2 H2 O2 _ _ _ ⟨x2, t2, p2⟩ vs rs => p2 H2 O2 (Ext.refl _ _) t2 (v :: vs) (.cons (r.mono x2.mono) rs)⟩⟩
theorem evalEs_len {C : Calls} : ∀ {es : List E} {env env' : Env} {ds : List D}, evalEs C es env = .ok ds env' → ds.length = es.length
  | [], _, _, _, h => by
    simp only [evalEs] at h
    cases h; rfl
  | e :: es, env, env', ds, h => by
    simp only [evalEs] at h
    cases q : evalE C e env with
    | stuck => rw [q] at h; cases h
    | exc x s => rw [q] at h; cases h
    | ok d s =>
      rw [q] at h
      simp only [R.bind] at h
      cases q2 : evalEs C es s with
      | stuck => rw [q2] at h; cases h
      | exc x s => rw [q2] at h; cases h
      | ok r s2 =>
        rw [q2] at h
        cases h
        rw [List.length_cons, List.length_cons, evalEs_len q2]
theorem small {n : Nat} (h : n ≤ 1000) : n ≤ sizeLine := by rw [sizeLine_eq]; omega
theorem r_tup {es : List E} {ps : List Expr} {x1 : Nat} (h : PA X ps (tDs S C W es)) (hl : es.length ≤ 1000) : PE X (.Tuple ps x1 pos) (tDf S C W (.tup es)) :=
  PE.imp (pe_tup h) fun σ H Q ⟨P, env, O, s, p⟩ => ⟨P, env, O, s, PostG.imp (PostG.bind (show PostG S W P H O σ ((evalEs C es env).bind _) _ from p)) fun ds s1 H1 O1 e _ _ ⟨x1, t1, p1⟩ vs r => by
    refine ⟨by rw [← r.length, evalEs_len e]; exact small hl, fun q hq => ?_⟩
    exact resK_of t1 p1 _ _ (same_upd hq) ⟨q, vs, rfl, ⟨upd_same, t1.new hq⟩, r.mono (Mono.same (same_upd hq))⟩⟩
/-- a display whose object is known -/
theorem pe_tupZ {es : List Expr} {t : TA} {x1 : Nat} (h : PA X es t) : PE X (.Tuple es x1 pos) (fun σ H Q => t σ H fun xs H1 => xs.length ≤ sizeLine ∧ ∀ p o, H1 p = none → o.dict = none → o.cls = .type "tuple" → Q (.ref p) (upd H1 p (.frz o (.tup xs)))) := by
  refine ⟨fun pins s σ H Q I hq => ?_⟩
  refine wpAny_Tuple_spliced (thn (h.run pos pins s σ H _ I hq) fun us s1 ⟨xs, H1, I1, r, z, q⟩ => ⟨by rw [← r.length]; exact z, ?_⟩)
  have hf : H1 s1.heap.objs.size = none := I1.hok.fresh (Nat.le_refl _)
  refine ⟨.ref s1.heap.objs.size, upd H1 s1.heap.objs.size (.frz { cls := .type "tuple", data := .seq us.toArray } (.tup xs)), I1.laid (t' := s1.toks) (fun b u e => Heap.get?_push_of_some _ e) (Nat.le_refl _) ?_, rfl, q _ _ hf rfl rfl⟩
  exact ⟨Heap.get?_push_size _ rfl, z, us, r, ⟨_, Heap.get?_push_size _ rfl, rfl, _, rfl⟩⟩
theorem r_tupz {es : List E} {ps : List Expr} {x1 : Nat} (h : PA X ps (tDs S C W es)) (hl : es.length ≤ 1000) : PE X (.Tuple ps x1 pos) (tDf S C W (.tupz es)) :=
  PE.imp (pe_tupZ h) fun σ H Q ⟨P, env, O, s, p⟩ => ⟨P, env, O, s, PostG.imp (PostG.bind (show PostG S W P H O σ ((evalEs C es env).bind _) _ from p)) fun ds s1 H1 O1 e _ _ ⟨x1, t1, p1⟩ vs r => by
    refine ⟨by rw [← r.length, evalEs_len e]; exact small hl, fun q o hq h1 h2 => ?_⟩
    exact resK_of t1 p1 _ _ (same_upd hq) ⟨q, vs, rfl, ⟨⟨o, upd_same, h1, h2⟩, t1.new hq⟩, r.mono (Mono.same (same_upd hq))⟩⟩
theorem r_lst {es : List E} {ps : List Expr} (h : PA X ps (tDs S C W es)) (hl : es.length ≤ 1000) : PE X (.List ps pos) (tDf S C W (.lst es)) :=
  PE.imp (pe_lst h) fun σ H Q ⟨P, env, O, s, p⟩ => ⟨P, env, O, s, PostG.imp (PostG.bind (show PostG S W P H O σ ((evalEs C es env).bind _) _ from p)) fun ds s1 H1 O1 e _ _ ⟨x1, t1, p1⟩ vs r => by
    refine ⟨by rw [← r.length, evalEs_len e]; exact small hl, fun q hq => ?_⟩
    exact resK_of t1 p1 q vs hq r⟩
/-! ### builtins -/
def p1Name : P1 → Str
  | .len => "len" | .sum => "sum" | .min => "min" | .max => "max" | .sorted => "sorted" | .tuple => "tuple" | .list => "list" | .all => "all" | .any => "any" | .abs => "abs" | .int => "int" | .str => "str" | .bool => "bool"
  | .lenset => "len" | .sortedset => "sorted" | .tuplez => "tuple"
inductive BT where | b (id : String) | t (n : String)
def BT.v : BT → Value
  | .b id => .builtin id
  | .t n => .type n
def p1Val : P1 → Option BT
  | .len => some (.b "len") | .sum => some (.b "sum") | .min => some (.b "min") | .max => some (.b "max") | .sorted => some (.b "sorted") | .tuple => some (.t "tuple") | .list => some (.t "list") | .all => some (.b "all") | .any => some (.b "any")
  | .abs => some (.b "abs") | .int => some (.t "int") | .bool => some (.t "bool") | .tuplez => some (.t "tuple")
  | _ => none
theorem p1_boot : ∀ {p : P1} {f : BT}, p1Val p = some f → bootBuiltins (p1Name p) = some f.v := fun {p f} h => by
  cases p <;> simp only [p1Val] at h <;> cases h <;> decide +kernel
theorem p1_D (hc : X.calm = true) : ∀ {p : P1} {f : BT}, p1Val p = some f → P1D X f.v p := fun {p f} h => by
  cases p <;> simp only [p1Val] at h <;> cases h
  · exact p1_len
  · exact p1_sum hc
  · exact p1_min hc
  · exact p1_max hc
  · exact p1_sorted
  · exact p1_tuple
  · exact p1_list
  · exact p1_all hc
  · exact p1_any hc
  · exact p1_abs
  · exact p1_int
  · exact p1_bool
  · exact p1_tuplez
/-- a builtin called -/
theorem pe_bt {f : BT} {r : List V → Hp → VK → Prop} {x : Str} {p : Pos} {e : Expr} {es : List Expr} {t : TA} (hc : CallR X f.v r) (hg : Gl X x) (hm : X.mg x = none) (hv : bootBuiltins x = some f.v) (ha : PA X (e :: es) t) (hn : x ≠ "__name__") (hdb : (x == ("__debug__" : Str)) = false)
    (he : nst e = true) (hes : es.all nst = true) : PE X (.Call (.Name x p) (e :: es) [] pos) (tCB r t) := by
  cases f with
  | b id => exact pe_callB hc hg hm hv ha hn hdb (star_cons he) (star_none hes)
  | t n => exact pe_callTy hc hg hm hv ha hn hdb (star_cons he) (star_none hes)
theorem r_p1 {b : Rf.O} {p : P1} {f : BT} {q : Pos} {x : Str} (hK : S.K = X.K) (hc : X.calm = true) (hf : p1Val p = some f) (hx : x = p1Name p) (hg : Gl X x) (hm : X.mg x = none) (hn : x ≠ "__name__") (hdb : (x == ("__debug__" : Str)) = false)
    (ha : PE X pa (tDv S C W b)) (he : nst pa = true) : PE X (.Call (.Name x q) [pa] [] pos) (tDf S C W (.p1 p b)) := by
  refine PE.imp (pe_bt (p1_D hc hf) hg hm (by rw [hx]; exact p1_boot hf) (pa_cons ha pa_nil (star_cons he)) hn hdb he rfl) fun σ H Q ⟨P, env, O, s, p⟩ => ⟨P, env, O, s, PostG.imp (PostG.bind (show PostG S W P H O σ ((evalV C b env).bind _) _ from p)) fun d s1 H1 O1 _ _ _ ⟨x1, t1, p1⟩ v r => ?_⟩
  obtain ⟨z, hz, p3⟩ := PostG.opt p1
  rw [hK] at r
  have k := resK_of t1 p3
  rw [hK] at k
  exact ⟨v, d, z, S.F O1, rfl, t1.own, r, hz, k⟩
def p2Name : P2 → Str
  | .min => "min" | .max => "max" | .index => "index" | .count => "count"
theorem r_p2 {p : P2} {q : Pos} {x : Str} (hp : p = .min ∨ p = .max) (hK : S.K = X.K) (hc : X.calm = true) (hx : x = p2Name p) (hg : Gl X x) (hm : X.mg x = none) (hn : x ≠ "__name__") (hdb : (x == ("__debug__" : Str)) = false)
    (ha : PE X pa (tD S C W a)) (hb : PE X pb (tD S C W b)) (he : nst pa = true) (he2 : nst pb = true) : PE X (.Call (.Name x q) [pa, pb] [] pos) (tDf S C W (.p2 p a b)) := by
  have key : ∀ {f : BT}, P2D X f.v p → bootBuiltins (p2Name p) = some f.v → PE X (.Call (.Name x q) [pa, pb] [] pos) (tDf S C W (.p2 p a b)) := fun {f} hD hv => by
    refine PE.imp (pe_bt hD hg hm (by rw [hx]; exact hv) (pa_cons ha (pa_cons hb pa_nil (star_cons he2)) (star_cons he)) hn hdb he (by simp [he2])) fun σ H Q ⟨P, env, O, s, p⟩ => ⟨P, env, O, s, PostG.imp (PostG.bind (show PostG S W P H O σ ((evalE C a env).bind _) _ from p)) fun d s1 H1 O1 _ _ _ ⟨x1, t1, p1⟩ v r => ⟨P, s1, O1, t1, PostG.imp (PostG.bind p1) fun d2 s2 H2 O2 _ _ _ ⟨x2, t2, p2⟩ v2 r2 => ?_⟩⟩
    obtain ⟨z, hz, p3⟩ := PostG.opt p2
    rw [hK] at r r2
    have k := resK_of t2 p3
    rw [hK] at k
    exact ⟨v, v2, d, d2, z, S.F O2, rfl, t2.own, (r.mono x2.mono).view, r2.view, hz, k⟩
  rcases hp with rfl | rfl
  · exact key (f := .b "min") (p2_min hc) (by decide +kernel)
  · exact key (f := .b "max") (p2_max hc) (by decide +kernel)
/-! ### isinstance -/
def tyName : Ty → Option String
  | .int => some "int" | .bool => some "bool" | .str => some "str" | .tuple => some "tuple" | .list => some "list" | .dict => some "dict"
  | .own _ => none
def dTy : D → Option String
  | .non => some "NoneType"
  | .bl _ => some "bool"
  | .int _ => some "int"
  | .str _ => some "str"
  | .tup _ => some "tuple"
  | .tpz _ => some "tuple"
  | .lst _ => some "list"
  | .dic _ _ => some "dict"
  | _ => none
theorem isTy_dTy {d : D} {t : Ty} {k : Bool} (h : isTy d t = some k) : ∃ n, dTy d = some n := by
  cases d <;> first | exact ⟨_, rfl⟩ | (simp [isTy] at h; done)
theorem isTy_kit {d : D} {t : Ty} {k : Bool} {n m : String} (h : isTy d t = some k) (hd : dTy d = some n) (hm : tyName t = some m) : kitB n m = some k := by
  cases d <;> simp only [dTy] at hd <;> cases hd <;> cases t <;> simp only [tyName] at hm <;> cases hm <;> simp only [isTy] at h <;> cases h <;> decide +kernel
theorem tyX {K : PySem.W.Frag} {H : Hp} {F : Addr → Prop} {d : D} {v : V} {n : String} (r : RepV K H F d v) (h : dTy d = some n) : TyX K H v (.type n) := by
  cases d with
  | non => cases r; cases h; exact .base .non
  | bl b => cases r; cases h; exact .base (.bl b)
  | int i => cases r; cases h; exact .base (.int i)
  | str x => cases r; cases h; exact .base (.str x)
  | tup ds =>
    obtain ⟨a, vs, rfl, ta, ra⟩ := r
    cases h
    exact .base (.tup ta.1)
  | tpz ds =>
    obtain ⟨a, vs, rfl, ta, ra⟩ := r
    cases h
    obtain ⟨⟨o, e, _⟩, _⟩ := ta
    exact .fTuple e
  | lst ds =>
    obtain ⟨a, vs, rfl, ta, ra⟩ := r
    cases h
    exact .base (.lst ta)
  | dic ks ds =>
    obtain ⟨a, vs, rfl, ⟨o, ea, _, c⟩, _⟩ := r
    cases h
    rcases c with ⟨l, _, rfl⟩ | ⟨_, l, _, rfl⟩
    · exact .base (.dK ea)
    · exact .base (.dT ea)
  | _ => cases h
theorem ty_boot : ∀ {t : Ty} {m : String}, tyName t = some m → bootBuiltins (m : Str) = some (.type m) := fun {t m} h => by
  cases t <;> simp only [tyName] at h <;> cases h <;> decide +kernel
def tCs (vs : List V) : TA := fun _ H Q => Q vs H
/-- names of builtin types -/
def tyC : List Ty → List Expr → Bool
  | [], [] => true
  | t :: ts, .Name x _ :: ps => (match tyName t with
    | some m => decide (x = (m : Str))
    | none => false) && tyC ts ps
  | _, _ => false
def tyVs (ts : List Ty) : List V := ts.filterMap fun t => (tyName t).map V.ty
def tyUs (ts : List Ty) : List Value := ts.filterMap fun t => (tyName t).map Value.type
theorem tyC_pa : ∀ {ts : List Ty} {ps : List Expr}, (∀ t ∈ ts, ∀ {m : String}, tyName t = some m → ∀ p, PE X (.Name (m : Str) p) (tC (.ty m))) → tyC ts ps = true → PA X ps (tCs (tyVs ts)) ∧ Paired ClsV (tyVs ts) (tyUs ts) ∧ ps.all nst = true
  | [], [], _, _ => ⟨PA.imp pa_nil fun σ H Q q => q, .nil, rfl⟩
  | [], _ :: _, _, h => by simp [tyC] at h
  | t :: ts, [], _, h => by simp [tyC] at h
  | t :: ts, p :: ps, hg, h => by
    cases p <;> try (simp [tyC] at h; done)
    rename_i x q
    simp only [tyC, Bool.and_eq_true] at h
    cases e : tyName t with
    | none => rw [e] at h; cases h.1
    | some m =>
      rw [e] at h
      have hx := of_decide_eq_true h.1
      subst hx
      obtain ⟨h1, h2, h3⟩ := tyC_pa (fun t ht => hg t (List.mem_cons_of_mem _ ht)) h.2
      have e1 : tyVs (t :: ts) = .ty m :: tyVs ts := by simp [tyVs, e]
      have e2 : tyUs (t :: ts) = .type m :: tyUs ts := by simp [tyUs, e]
      rw [e1, e2]
      exact ⟨PA.imp (pa_cons (hg t List.mem_cons_self e q) h1 (star_cons rfl)) fun σ H Q q => q, .cons (.ty m) h2, by rw [List.all_cons, h3]; rfl⟩
theorem isTys_kit {K : PySem.W.Frag} {d : D} {n : String} (hd : dTy d = some n) : ∀ {ts : List Ty} {k : Bool}, (∀ t ∈ ts, (tyName t).isSome = true) → isTys d ts = some k → PySem.W.kitAny K (.type n) (tyUs ts) = some k
  | [], k, _, h => by
    simp only [isTys] at h
    cases h
    exact kitAny_nil
  | t :: ts, k, ht, h => by
    obtain ⟨m, e⟩ := Option.isSome_iff_exists.mp (ht t List.mem_cons_self)
    have e2 : tyUs (t :: ts) = .type m :: tyUs ts := by simp [tyUs, e]
    rw [e2]
    simp only [isTys] at h
    cases q : isTy d t with
    | none => rw [q] at h; cases h
    | some b =>
      rw [q] at h
      refine kitAny_cons (kit_ty (isTy_kit q hd e)) (fun hb => ?_) fun hb => ?_
      · subst hb
        exact isTys_kit hd (fun t h => ht t (List.mem_cons_of_mem _ h)) h
      · subst hb
        simpa using h.symm
theorem tyC_some : ∀ {ts : List Ty} {ps : List Expr}, tyC ts ps = true → ∀ t ∈ ts, (tyName t).isSome = true
  | [], _, _ => fun t h => by cases h
  | t :: ts, [], h => by simp [tyC] at h
  | t :: ts, p :: ps, h => by
    cases p <;> try (simp [tyC] at h; done)
    simp only [tyC, Bool.and_eq_true] at h
    intro t' ht
    rcases List.mem_cons.mp ht with rfl | ht
    · cases e : tyName t' with
      | none => rw [e] at h; cases h.1
      | some m => rfl
    · exact tyC_some h.2 t' ht
theorem isTys_dTy {d : D} {ts : List Ty} {k : Bool} (hne : ts ≠ []) (h : isTys d ts = some k) : ∃ n, dTy d = some n := by
  cases ts with
  | nil => exact absurd rfl hne
  | cons t r =>
    simp only [isTys] at h
    cases q : isTy d t with
    | none => rw [q] at h; cases h
    | some b => exact isTy_dTy q
theorem r_isi1 {b : Rf.O} {t : Ty} {m : String} {q q2 : Pos} (hK : S.K = X.K) (hg : Gl X "isinstance") (hm : X.mg "isinstance" = none) (ht : tyName t = some m) (hT : PE X (.Name (m : Str) q2) (tC (.ty m))) (ha : PE X pa (tDv S C W b)) (he : nst pa = true) :
    PE X (.Call (.Name "isinstance" q) [pa, .Name (m : Str) q2] [] pos) (tDf S C W (.isi b [t])) := by
  refine PE.imp (pe_bt (f := .b "isinstance") call_isi hg hm (by decide +kernel) (pa_cons ha (pa_cons hT pa_nil (star_cons rfl)) (star_cons he)) (by decide) (by decide) he rfl) fun σ H Q ⟨P, env, O, s, p⟩ => ⟨P, env, O, s, PostG.imp (PostG.bind (show PostG S W P H O σ ((evalV C b env).bind _) _ from p)) fun d s1 H1 O1 _ _ _ ⟨x1, t1, p1⟩ v r => ?_⟩
  obtain ⟨z, hz, p3⟩ := PostG.optBind p1
  have hz' : isTy d t = some z := by
    simp only [isTys] at hz
    cases e : isTy d t with
    | none => rw [e] at hz; cases hz
    | some k => rw [e] at hz; cases k <;> simpa using hz
  obtain ⟨n, hn⟩ := isTy_dTy hz'
  rw [hK] at r
  exact ⟨v, .ty m, .type n, .type m, z, rfl, .ty m, tyX r hn, kit_ty (isTy_kit hz' hn ht), post_bl t1 p3⟩
theorem RepV.same {K : PySem.W.Frag} {H H' : Hp} {F : Addr → Prop} {d : D} {v : V} (h : Same H H') (r : RepV K H F d v) : RepV K H' F d v := by
  cases d with
  | lst ds =>
    obtain ⟨a, vs, e, t, rs⟩ := r
    exact ⟨a, vs, e, h _ _ t, rs.mono (Mono.same h)⟩
  | dic ks ds =>
    obtain ⟨a, vs, e, ⟨o, t, c⟩, rs⟩ := r
    exact ⟨a, vs, e, ⟨o, h _ _ t, c⟩, rs.mono (Mono.same h)⟩
  | _ => exact Rep.mono (Mono.same h) r
theorem r_isiT {b : Rf.O} {ts : List Ty} {ps : List Expr} {k1 : Nat} {q q2 : Pos} (hK : S.K = X.K) (hg : Gl X "isinstance") (hm : X.mg "isinstance" = none) (hne : ts ≠ []) (hc : tyC ts ps = true) (hT : ∀ t ∈ ts, ∀ {m : String}, tyName t = some m → ∀ p, PE X (.Name (m : Str) p) (tC (.ty m))) (hl : ts.length ≤ 1000) (ha : PE X pa (tDv S C W b)) (he : nst pa = true) :
    PE X (.Call (.Name "isinstance" q) [pa, .Tuple ps k1 q2] [] pos) (tDf S C W (.isi b ts)) := by
  obtain ⟨h1, h2, h3⟩ := tyC_pa hT hc
  have hl2 : (tyVs ts).length ≤ 1000 := Nat.le_trans (List.length_filterMap_le _ _) hl
  refine PE.imp (pe_bt (f := .b "isinstance") call_isiT hg hm (by decide +kernel) (pa_cons ha (pa_cons (pe_tup h1) pa_nil (star_cons rfl)) (star_cons he)) (by decide) (by decide) he rfl) fun σ H Q ⟨P, env, O, s, p⟩ => ⟨P, env, O, s, PostG.imp (PostG.bind (show PostG S W P H O σ ((evalV C b env).bind _) _ from p)) fun d s1 H1 O1 _ _ _ ⟨x1, t1, p1⟩ v r => ⟨small hl2, fun q hq => ?_⟩⟩
  obtain ⟨z, hz, p3⟩ := PostG.optBind p1
  obtain ⟨n, hn⟩ := isTys_dTy hne hz
  rw [hK] at r
  have sm : Same H1 (upd H1 q (.tup (tyVs ts))) := same_upd hq
  exact ⟨v, q, tyVs ts, .type n, tyUs ts, z, rfl, upd_same, h2, tyX (r.same sm) hn, isTys_kit hn (tyC_some hc) hz, p3 _ _ (Ext.same sm) (t1.same sm) (.bl z) rfl fun c => by cases c⟩
end
end Rf

/-! Rg, part H0: {}, list(range(..)), len(set(..)), l.index(x). -/
namespace Rf
open PySem PySem.Spec PyProof.Rows L2
section
variable {X : Cx} {S : Sit} {C : Calls} {W : WX} {pos : Pos} {a b c : E} {pa pb pc : Expr}
theorem r_dnew : PE X (.Dict [] [] pos) (tDf S C W .dnew) :=
  PE.imp pe_dnewK fun σ H Q ⟨P, env, O, s, q⟩ p hp => res_new (d := .dic [] []) (o := .dK []) (vs := []) s rfl q hp ⟨rfl, .inl ⟨[], rfl, rfl⟩⟩ rfl
/-! ### range(..) handed to list, tuple -/
theorem reps_rg {K : PySem.W.Frag} {H : Hp} {F : Addr → Prop} (lo : Int) (n : Nat) : Reps K H F (rangeD lo n) ((List.range n).map fun i => V.int (lo + (i : Nat))) := by
  have e : rangeD lo n = ((List.range n).map fun (i : Nat) => lo + (i : Int)).map D.int := by simp [rangeD, Function.comp_def]
  have e2 : ((List.range n).map fun (i : Nat) => V.int (lo + (i : Nat))) = ((List.range n).map fun (i : Nat) => lo + (i : Int)).map V.int := by simp [Function.comp_def]
  rw [e, e2]
  exact reps_of_ints _
def tRgD (S : Sit) (C : Calls) (W : WX) (it : It) : L2.St → Hp → (Int → Int → Hp → Prop) → Prop := fun σ H Q => ∃ P env O, SR S P H O env σ ∧
  PostG S W P H O σ (evalI C it env) fun ds s H' O' => ∀ lo hi, ds = rangeD lo (hi - lo).toNat → -(2 ^ 62) ≤ lo → lo < 2 ^ 62 → -(2 ^ 62) ≤ hi → hi < 2 ^ 62 → Q lo hi H'
theorem PRg.imp {X : Cx} {e : Expr} {t t' : L2.St → Hp → (Int → Int → Hp → Prop) → Prop} (h : PRg X e t) (i : ∀ σ H Q, t' σ H Q → t σ H Q) : PRg X e t' := fun pins s σ H Q I q => h pins s σ H Q I (i σ H Q q)
theorem prg1 {p : Pos} (hg : Gl X "range") (hm : X.mg "range" = none) (ha : PE X pa (tD S C W a)) (he : nst pa = true) : PRg X (.Call (.Name "range" p) [pa] [] pos) (tRgD S C W (.rng1 a)) :=
  PRg.imp (prg_1 hg hm ha (star_cons he)) fun σ H Q ⟨P, env, O, s, q⟩ => ⟨P, env, O, s, PostG.imp (PostG.bind (show PostG S W P H O σ ((evalE C a env).bind _) _ from q)) fun d s1 H1 O1 _ _ _ ⟨x1, t1, p1⟩ v r => by
    obtain ⟨n, rfl⟩ : ∃ n, d = .int n := by cases d <;> first | exact ⟨_, rfl⟩ | exact p1.elim
    cases r
    refine ⟨n, rfl, ?_⟩
    have p1 : PostG S W P H1 O1 σ (if decide (-(2 ^ 62) ≤ n) && decide (n < 2 ^ 62) then R.ok (rangeD 0 n.toNat) s1 else .stuck) _ := p1
    split at p1
    · rename_i hn
      simp only [Bool.and_eq_true, decide_eq_true_eq] at hn
      exact p1 H1 O1 (Ext.refl _ _) t1 0 n (by rw [Int.sub_zero]) (by decide) (by decide) hn.1 hn.2
    · exact False.elim p1⟩
theorem prg2 {p : Pos} (hg : Gl X "range") (hm : X.mg "range" = none) (ha : PE X pa (tD S C W a)) (hb : PE X pb (tD S C W b)) (he : nst pa = true) (he2 : nst pb = true) : PRg X (.Call (.Name "range" p) [pa, pb] [] pos) (tRgD S C W (.rng2 a b)) :=
  PRg.imp (prg_2 hg hm ha hb (star_cons he) (star_cons he2) (star_none (by simp [he2]))) fun σ H Q ⟨P, env, O, s, q⟩ => ⟨P, env, O, s, PostG.imp (PostG.bind (show PostG S W P H O σ ((evalE C a env).bind _) _ from q)) fun d s1 H1 O1 _ _ _ ⟨x1, t1, p1⟩ v r =>
    ⟨P, s1, O1, t1, PostG.imp (PostG.bind p1) fun d2 s2 H2 O2 _ _ _ ⟨x2, t2, p2⟩ v2 r2 => by
      obtain ⟨i, rfl⟩ : ∃ n, d = .int n := by cases d <;> first | exact ⟨_, rfl⟩ | exact p2.elim
      obtain ⟨j, rfl⟩ : ∃ n, d2 = .int n := by cases d2 <;> first | exact ⟨_, rfl⟩ | exact p2.elim
      cases r; cases r2
      refine ⟨i, j, rfl, rfl, ?_⟩
      have p2 : PostG S W P H2 O2 σ (if decide (-(2 ^ 62) ≤ i) && decide (i < 2 ^ 62) && decide (-(2 ^ 62) ≤ j) && decide (j < 2 ^ 62) then R.ok (rangeD i (j - i).toNat) s2 else .stuck) _ := p2
      split at p2
      · rename_i hn
        simp only [Bool.and_eq_true, decide_eq_true_eq] at hn
        exact p2 H2 O2 (Ext.refl _ _) t2 i j rfl hn.1.1.1 hn.1.1.2 hn.1.2 hn.2
      · exact False.elim p2⟩⟩
theorem rg_len (lo : Int) (n : Nat) : (rangeD lo n).length = n := by simp [rangeD]
theorem r_lrgL {it : It} {p : Pos} (hc : X.calm = true) (hg : Gl X "list") (hm : X.mg "list" = none) (he : PRg X pa (tRgD S C W it)) (hn : nst pa = true) : PE X (.Call (.Name "list" p) [pa] [] pos) (tDf S C W (.lrg false it)) :=
  PE.imp (pe_listRg hc hg hm he (star_cons hn)) fun σ H Q ⟨P, env, O, s, q⟩ => ⟨P, env, O, s, PostG.imp (PostG.bind (show PostG S W P H O σ ((evalI C it env).bind _) _ from q)) fun ds s1 H1 O1 _ _ _ ⟨x1, t1, p1⟩ lo hi e b1 b2 b3 b4 => by
    split at p1
    · rename_i hz
      have hz' : (hi - lo).toNat ≤ sizeLine := by rw [e, rg_len] at hz; exact hz
      refine ⟨⟨b1, b2, b3, b4, by rw [sizeLine_eq] at hz'; omega⟩, fun l hl => ?_⟩
      have k := resK_of t1 (d := .lst ds) p1
      exact k l _ hl (by rw [e]; exact reps_rg _ _)
    · exact False.elim p1⟩
theorem r_lrgT {it : It} {p : Pos} (hc : X.calm = true) (hg : Gl X "tuple") (hm : X.mg "tuple" = none) (he : PRg X pa (tRgD S C W it)) (hn : nst pa = true) : PE X (.Call (.Name "tuple" p) [pa] [] pos) (tDf S C W (.lrg true it)) :=
  PE.imp (pe_tupRg hc hg hm he (star_cons hn)) fun σ H Q ⟨P, env, O, s, q⟩ => ⟨P, env, O, s, PostG.imp (PostG.bind (show PostG S W P H O σ ((evalI C it env).bind _) _ from q)) fun ds s1 H1 O1 _ _ _ ⟨x1, t1, p1⟩ lo hi e b1 b2 b3 b4 => by
    split at p1
    · rename_i hz
      have hz' : (hi - lo).toNat ≤ sizeLine := by rw [e, rg_len] at hz; exact hz
      refine ⟨⟨b1, b2, b3, b4, by rw [sizeLine_eq] at hz'; omega⟩, fun l hl => ?_⟩
      have k := resK_of t1 (d := .tup ds) p1
      have sm : Same H1 (upd H1 l (.tup (rgV lo hi))) := same_upd hl
      exact k _ _ sm ⟨l, _, rfl, ⟨upd_same, t1.new hl⟩, by rw [e]; exact reps_rg _ _⟩
    · exact False.elim p1⟩
/-! ### len(set(..)) of numbers -/
theorem nodup_dd (l : List Int) : l.eraseDups.Nodup := by
  induction hn : l.length using Nat.strongRecOn generalizing l with
  | ind n ih =>
    cases l with
    | nil => simp
    | cons x xs =>
      rw [List.eraseDups_cons]
      refine List.nodup_cons.mpr ⟨fun q => ?_, ih _ (by subst hn; exact Nat.lt_succ_of_le (List.length_filter_le _ _)) _ rfl⟩
      rw [List.mem_eraseDups] at q
      simp at q
theorem dist_len {out ns : List Int} (h1 : out.Nodup) (h2 : ∀ k, k ∈ out ↔ k ∈ ns) : out.length = ns.eraseDups.length := by
  refine List.Perm.length_eq ((List.perm_ext_iff_of_nodup h1 (nodup_dd ns)).mpr fun k => ?_)
  rw [h2, List.mem_eraseDups]
theorem firstMet_nd (val : Nat → Int) : ∀ i, (PyProof.Rows.firstMet val i).Nodup
  | 0 => .nil
  | i + 1 => by
    rw [PyProof.Rows.firstMet_succ]
    unfold PyProof.Rows.step_dedup
    split
    · exact firstMet_nd val i
    · rename_i h
      refine List.nodup_append.mpr ⟨firstMet_nd val i, by simp, fun x hx y hy q => h ?_⟩
      rw [List.mem_singleton.mp hy] at q
      exact List.any_eq_true.mpr ⟨x, hx, by rw [q]; simp⟩
theorem firstMet_mem (ns : List Int) (k : Int) : k ∈ PyProof.Rows.firstMet (fun i => ns.getD i 0) ns.length ↔ k ∈ ns := by
  have e := PyProof.Rows.firstMet_any (fun i => ns.getD i 0) ns.length k
  have e2 : (List.range ns.length).map (fun i => ns.getD i 0) = ns := by
    refine List.ext_getElem (by simp) fun i h1 h2 => ?_
    simp only [List.getElem_map, List.getElem_range]
    rw [List.getD_eq_getElem?_getD, List.getElem?_eq_getElem h2]; rfl
  rw [e2] at e
  have any_iff : ∀ l : List Int, (l.any (· == k)) = true ↔ k ∈ l := fun l => by simp
  rw [← any_iff, e, any_iff]
def tLenSetD (K : PySem.W.Frag) (ta : TE) : TE := fun σ H Q => ta σ H fun x H1 => ∃ (l : Addr) (ns : List Int), x = .ref l ∧ (SqL K H1 l (ns.map V.int) ∨ SqT K H1 l (ns.map V.int)) ∧ ns.length + 1 < scanBound ∧ Q (.int (ns.eraseDups.length : Nat)) H1
theorem pe_lenSetD {ta : TE} {p p2 q : Pos} (hc : X.calm = true) (hg : Gl X "len") (hm : X.mg "len" = none) (hg2 : Gl X "set") (hm2 : X.mg "set" = none) (ha : PE X pa ta)
    (na : starEach [pa] X.env = (false, eval pa X.env) :: starEach [] X.env) : PE X (.Call (.Name "len" p) [.Call (.Name "set" p2) [pa] [] q] [] pos) (tLenSetD X.K ta) := by
  refine ⟨fun pins s σ H Q I h => ?_⟩
  refine Call_ (ld_blt I hg hm boot_len ?_)
  refine PyProof.Rows.callWith_builtin1 (PyProof.Rows.args_cons ?_ rfl) rfl rfl
  refine Call_ (ld_blt I hg2 hm2 boot_set ?_)
  refine PyProof.Rows.callWith_type1 (PyProof.Rows.args_cons (thn (ha.run pins s σ H _ I h) fun v s1 ⟨x, H1, I1, r1, q1⟩ => PyProof.Rows.args_nil ?_) na) na rfl
  obtain ⟨l, ns, rfl, hq, hl, q1⟩ := q1
  cases r1
  have sb : scanBound < 2 ^ 40 := by decide +kernel
  rcases hq with hq | hq
  · obtain ⟨its, r, pl, hz⟩ := I1.list hq
    have hlen : its.toArray.size = ns.length := by rw [List.size_toArray, ← r.length, List.length_map]
    refine call_set_list (I1.ok.hd hc) pl.isList (by simpa using r.ints) (by rw [hlen]; exact hl) fun h' tk hS hk => ?_
    refine PyProof.Rows.args_nil ?_
    rw [hlen] at hS
    obtain ⟨o, es, ep, t, ho, hex, hd, _, _, _, hf, hn⟩ := hS
    have I2 : L2.Inv X pins σ H1 { s1 with heap := h', toks := tk } := I1.kept fun b o e => hk b o (Heap.lt_size e) e
    have hn : es.size = ns.eraseDups.length := by rw [hn]; exact dist_len (firstMet_nd _ _) (firstMet_mem ns)
    have hle := PyProof.Rows.firstMet_length_le (fun i => ns.getD i 0) ns.length
    rw [dist_len (firstMet_nd _ _) (firstMet_mem ns)] at hle
    exact call_len_set ho hex hd hf (by rw [hn]; omega) ⟨.int ns.eraseDups.length, H1, I2.tok _, ⟨_, by rw [hn]⟩, q1⟩
  · obtain ⟨its, r, pl, hz⟩ := I1.tuple hq
    refine call_set_tupI ns (I1.ok.hd hc) pl (by simpa using r.ints) hl fun h' tk c R1 hcn k => ?_
    refine PyProof.Rows.args_nil ?_
    obtain ⟨o, es, ep, t, ho, hex, hdt, g, nd, hm2, hb, hf, hn, hr, hl2⟩ := R1
    have I2 : L2.Inv X pins σ H1 { s1 with heap := h', toks := tk } := I1.kept k
    have hn2 : es.size = ns.eraseDups.length := by
      have e := dist_len nd (ns := ns) fun k => by rw [← hm2 k, decide_eq_true_eq]
      simpa using e
    exact call_len_set ho hex hdt hf (by omega) ⟨.int ns.eraseDups.length, H1, I2.tok _, ⟨_, by rw [hn2]⟩, q1⟩
theorem r_lenset {b : Rf.O} {p p2 q : Pos} (hK : S.K = X.K) (hc : X.calm = true) (hg : Gl X "len") (hm : X.mg "len" = none) (hg2 : Gl X "set") (hm2 : X.mg "set" = none) (ha : PE X pa (tDv S C W b)) (he : nst pa = true) :
    PE X (.Call (.Name "len" p) [.Call (.Name "set" p2) [pa] [] q] [] pos) (tDf S C W (.p1 .lenset b)) := by
  refine PE.imp (pe_lenSetD hc hg hm hg2 hm2 ha (star_cons he)) fun σ H Q ⟨P, env, O, s, p⟩ => ⟨P, env, O, s, PostG.imp (PostG.bind (show PostG S W P H O σ ((evalV C b env).bind _) _ from p)) fun d s1 H1 O1 _ _ _ ⟨x1, t1, p1⟩ v r => ?_⟩
  obtain ⟨z, hz, p3⟩ := PostG.opt p1
  cases d <;> try (simp [Rf.p1] at hz; done)
  · obtain ⟨l, vs, rfl, t, rs⟩ := r
    simp only [Rf.p1, Option.bind_eq_some_iff] at hz
    obtain ⟨ns, hns, hz⟩ := hz
    obtain ⟨rfl, rfl⟩ := reps_ints rs hns
    split at hz
    · rename_i hl
      cases hz
      have sq := t.sq
      rw [hK] at sq
      exact ⟨l, ns, rfl, .inr sq, hl, post_int t1 p3⟩
    · cases hz
  · obtain ⟨l, vs, rfl, t, rs⟩ := r
    simp only [Rf.p1, Option.bind_eq_some_iff] at hz
    obtain ⟨ns, hns, hz⟩ := hz
    obtain ⟨rfl, rfl⟩ := reps_ints rs hns
    split at hz
    · rename_i hl
      cases hz
      exact ⟨l, ns, rfl, .inl (SqL.of t), hl, post_int t1 p3⟩
    · cases hz
/-! ### l.index(x), numbers -/
theorem few1' (env : PySem.Env) (cpos : Pos) (hn : nst pb = true) : ((backTo cpos (starEach [pb] env)).all (fun x => !x.1) && (backToKw cpos (keywordEach [] env)).all (fun x => x.1.isSome)
      && decide (([pb] : List Expr).length + ([] : List Keyword).length + (if ([] : List Keyword).isEmpty then 0 else 1) < 30)) = true := by
  rw [star_cons hn]; rfl
end
end Rf

/-! Rg, part H1: l.index(x), l.count(x) of lists and tuples, any data. -/
namespace Rf
open PySem PySem.Spec PyProof.Rows L2
/-- what stands ahead of a point is no call without arguments -/
def nbase : Expr → Bool
  | .Call _ _ _ _ => false
  | _ => true
theorem nbase_ok {o : Expr} (h : nbase o = true) (f : Str) (env : PySem.Env) (whole : Sem Value) : attributeBase o f env whole = whole := by
  cases o <;> first | rfl | (simp [nbase] at h)
section
variable {X : Cx}
/-- a tuple whose object is known -/
def tzV (x : V) (H : Hp) : Prop := ∃ a o xs, x = .ref a ∧ H a = some (.frz o (.tup xs)) ∧ o.dict = none ∧ o.cls = .type "tuple"
theorem tzV_is {pins : List (Addr × Obj)} {σ : L2.St} {H : Hp} {s : Shared} {x : V} {v : Value} (I : L2.Inv X pins σ H s) (r : L2.RelV x v) (ty : tzV x H) :
    s.TypeIs v "tuple" ∧ ∀ a, v = .ref a → ∃ ob, s.heap.get? a = some ob ∧ ob.dict = none := by
  obtain ⟨a, o, xs, rfl, h, hd, hc⟩ := ty
  obtain ⟨e, _⟩ := (show ObjOk X.prog X.w H s.heap a (.frz o (.tup xs)) from I.hok a _ h)
  cases r
  exact ⟨⟨o, e, hc⟩, fun b q => by cases q; exact ⟨o, e, hd⟩⟩
def tBM2 (K : PySem.W.Frag) (T1 : String) (r1 r2 : V → List V → Hp → VK → Prop) (to : TE) (t : TA) : TE := fun σ H Q => to σ H fun x H1 =>
  (tyV K T1 x H1 ∧ t σ H1 fun xs H2 => r1 x xs H2 Q) ∨ (tzV x H1 ∧ t σ H1 fun xs H2 => r2 x xs H2 Q)
theorem pe_bm2 {T1 id1 id2 : String} {name : Str} {r1 r2 : V → List V → Hp → VK → Prop} {o e : Expr} {es : List Expr} {apos cpos : Pos} {to : TE} {t : TA} (pa1 : PlainAttrs T1) (slot1 : Slot T1 name id1) (hty1 : typeOf (.builtin id1) = pure (.type "method_descriptor")) (hm1 : MtR X id1 r1)
    (pa2 : PlainAttrs "tuple") (slot2 : Slot "tuple" name id2) (hty2 : typeOf (.builtin id2) = pure (.type "method_descriptor")) (hm2 : MtR X id2 r2) (ho : PE X o to) (ha : PA X (e :: es) t)
    (hbase : attributeBase o name X.env (eval o X.env) = eval o X.env)
    (hfew : ((backTo cpos (starEach (e :: es) X.env)).all (fun x => !x.1) && (backToKw cpos (keywordEach [] X.env)).all (fun x => x.1.isSome)
      && decide ((e :: es).length + ([] : List Keyword).length + (if ([] : List Keyword).isEmpty then 0 else 1) < 30)) = true)
    (hline : (apos.endLine == cpos.line) = true) (hs : starEach (e :: es) X.env = (false, eval e X.env) :: starEach es X.env) (hplain : (backTo cpos (starEach es X.env)).any (·.1) = false) :
    PE X (.Call (.Attribute o name apos) (e :: es) [] cpos) (tBM2 X.K T1 r1 r2 to t) := by
  refine ⟨fun pins s σ H Q I h => ?_⟩
  refine wpAny_Call_method_late hbase hfew hline rfl (thn (ho.run pins s σ H _ I h) fun v s1 ⟨x, H1, I1, q1, hor⟩ => ?_)
  rcases hor with ⟨ty, qq⟩ | ⟨ty, qq⟩
  · obtain ⟨h1, h2⟩ := tyV_is I1 q1 ty
    refine ⟨T1, id1, pa1, slot1, hty1, h1, h2, ?_⟩
    have hA := ha.run cpos pins s1 σ H1 _ I1 qq
    rw [hs] at hA ⊢
    refine Calls.callWith_builtin (by show (false || (backTo cpos (starEach es X.env)).any (·.1)) = false; rw [hplain] <;> rfl) (Calls.evalArgs_plain ?_)
    exact thn hA fun us s2 ⟨vs, H2, I2, r2, q2⟩ => hm1 pins s2 σ H2 x vs v us Q I2 q1 r2 q2
  · obtain ⟨h1, h2⟩ := tzV_is I1 q1 ty
    refine ⟨"tuple", id2, pa2, slot2, hty2, h1, h2, ?_⟩
    have hA := ha.run cpos pins s1 σ H1 _ I1 qq
    rw [hs] at hA ⊢
    refine Calls.callWith_builtin (by show (false || (backTo cpos (starEach es X.env)).any (·.1)) = false; rw [hplain] <;> rfl) (Calls.evalArgs_plain ?_)
    exact thn hA fun us s2 ⟨vs, H2, I2, r2, q2⟩ => hm2 pins s2 σ H2 x vs v us Q I2 q1 r2 q2
/-- what both ask: x is the list (the tuple) ds, its one argument y -/
def DatR (K : PySem.W.Frag) (isL : Bool) (x : V) (xs : List V) (H : Hp) (ds : List PyData) (d : PyData) : Prop := ∃ (a : Addr) (y : V), x = .ref a ∧ xs = [y] ∧ Dp K H (.ref a) (if isL then .list ds else .tuple ds) ∧ Dp K H y d ∧ SeqAt.shaped (.list ds) = true ∧ SeqAt.shaped d = true
theorem mt_lidx (hu : X.A.units + 65 < cLine) : MtR X "list.index" (fun x xs H Q => ∃ ds d j, DatR X.K true x xs H ds d ∧ (ds.findIdx? fun z => PyData.eqv z d) = some j ∧ Q (.int (j : Nat)) H) := by
  intro pins s σ H x xs v us Q I rx rxs ⟨ds, d, j, ⟨a, y, e1, e2, hl, hy, sl, sd⟩, hj, q⟩
  obtain ⟨h1, h2, h3⟩ := List.findIdx?_eq_some_iff_getElem.mp hj
  refine mt_indexD hu pins s σ H x xs v us Q I rx rxs ⟨a, y, d, ds, j, ds[j], e1, e2, hl, hy, sl, sd, by simp [h1], h2, fun m z' hm hz => ?_, q⟩
  have := h3 m hm
  obtain ⟨hm2, e⟩ := List.getElem?_eq_some_iff.mp hz
  rw [e] at this
  simpa using this
theorem mt_tidx (hu : X.A.units + 65 < cLine) : MtR X "tuple.index" (fun x xs H Q => ∃ ds d j, DatR X.K false x xs H ds d ∧ (ds.findIdx? fun z => PyData.eqv z d) = some j ∧ Q (.int (j : Nat)) H) := by
  intro pins s σ H x xs v us Q I rx rxs ⟨ds, d, j, ⟨a, y, e1, e2, hl, hy, sl, sd⟩, hj, q⟩
  subst e1 e2
  cases rx
  obtain ⟨u, rfl, ru⟩ := rxs.one
  obtain ⟨bs, r1⟩ := Dp.reads I d y u hy ru
  have hl : Dp X.K H (.ref a) (.tuple ds) := hl
  have hxs : PyData.canLayAll0 ds = true := SeqAt.canLay_of_shaped sl
  have hroom : X.A.units + 1 + min (PyData.depthAll ds) d.depth < cLine := room_in_shaped sd hu
  cases hl with
  | tup hs ha =>
    obtain ⟨its, rv, ⟨⟨cls, dd, data, sls⟩, ho, hc, n, hdt⟩, hlen⟩ := I.tuple hs
    simp only at hc hdt
    subst hc hdt
    obtain ⟨as, h4⟩ := Dp.readsAll I ds _ its ha rv
    have hp : SeqAt.dataPlace ds d = some j := hj
    have h4' : ReadsAll s.heap its.toArray.toList ds as := by simpa using h4
    obtain ⟨hj', hit, hno⟩ := SeqAt.hit_at h4' (PyData.plainAll_of_canLay0 ds hxs) hp
    exact call_meets PySem.F.slot_tuple_index ⟨_, ho, rfl⟩ PySem.F.entry_tuple_index (PySem.F.args_tuple_index_2 _ _) (TI.tuple_indexAt a its.toArray n dd sls u (fun y => PyData.eqv (SeqAt.readOf s.heap y) d) j hj' hit hno)
      ⟨ho, SeqAt.items_plain h4' r1 (PyData.plainAll_of_canLay0 ds hxs) (PyData.plain_of_canLay0 d (SeqAt.canLay_of_shaped sd)) hroom, ⟨.int (j : Nat), H, I.tok _, ⟨_, rfl⟩, q⟩⟩
theorem mt_lcnt (hu : X.A.units + 65 < cLine) : MtR X "list.count" (fun x xs H Q => ∃ ds d, DatR X.K true x xs H ds d ∧ Q (.int ((ds.filter fun z => PyData.eqv z d).length : Nat)) H) := by
  intro pins s σ H x xs v us Q I rx rxs ⟨ds, d, ⟨a, y, e1, e2, hl, hy, sl, sd⟩, q⟩
  subst e1 e2
  cases rx
  obtain ⟨u, rfl, ru⟩ := rxs.one
  obtain ⟨bs, r1⟩ := Dp.reads I d y u hy ru
  have hl : Dp X.K H (.ref a) (.list ds) := hl
  have hxs : PyData.canLayAll0 ds = true := SeqAt.canLay_of_shaped sl
  have hroom : X.A.units + 1 + min (PyData.depthAll ds) d.depth < cLine := room_in_shaped sd hu
  cases hl with
  | lst hs ha =>
    obtain ⟨its, rv, ⟨o, n, ho, hc, hdn, hdt⟩, hlen⟩ := I.list hs
    obtain ⟨as, h4⟩ := Dp.readsAll I ds _ its ha rv
    have h4' : ReadsAll s.heap its.toArray.toList ds as := by simpa using h4
    refine SeqAt.count_list_data ⟨o, ho, hc, n, hdt⟩ h4' r1 (PyData.plainAll_of_canLay0 ds hxs) (PyData.plain_of_canLay0 d (SeqAt.canLay_of_shaped sd)) hroom ⟨.int ((ds.filter fun z => PyData.eqv z d).length : Nat), H, I.tok _, ⟨s.toks, ?_⟩, q⟩
    rw [List.countP_eq_length_filter]
theorem mt_tcnt (hu : X.A.units + 65 < cLine) : MtR X "tuple.count" (fun x xs H Q => ∃ ds d, DatR X.K false x xs H ds d ∧ Q (.int ((ds.filter fun z => PyData.eqv z d).length : Nat)) H) := by
  intro pins s σ H x xs v us Q I rx rxs ⟨ds, d, ⟨a, y, e1, e2, hl, hy, sl, sd⟩, q⟩
  subst e1 e2
  cases rx
  obtain ⟨u, rfl, ru⟩ := rxs.one
  obtain ⟨bs, r1⟩ := Dp.reads I d y u hy ru
  have hl : Dp X.K H (.ref a) (.tuple ds) := hl
  have hxs : PyData.canLayAll0 ds = true := SeqAt.canLay_of_shaped sl
  have hroom : X.A.units + 1 + min (PyData.depthAll ds) d.depth < cLine := room_in_shaped sd hu
  cases hl with
  | tup hs ha =>
    obtain ⟨its, rv, pl, hlen⟩ := I.tuple hs
    obtain ⟨as, h4⟩ := Dp.readsAll I ds _ its ha rv
    have h4' : ReadsAll s.heap its.toArray.toList ds as := by simpa using h4
    refine SeqAt.count_tuple_data pl h4' r1 (PyData.plainAll_of_canLay0 ds hxs) (PyData.plain_of_canLay0 d (SeqAt.canLay_of_shaped sd)) hroom ⟨.int ((ds.filter fun z => PyData.eqv z d).length : Nat), H, I.tok _, ⟨s.toks, ?_⟩, q⟩
    rw [List.countP_eq_length_filter]
end
section
variable {X : Cx} {S : Sit} {C : Calls} {W : WX} {pos : Pos} {a b c : E} {pa pb pc : Expr}
theorem find_pds {y : D} (hy : plain y = true) : ∀ {ds : List D}, plains ds = true → ((pds ds).findIdx? fun z => PyData.eqv z (pd y)) = ds.findIdx? fun d => eqd d y
  | [], _ => rfl
  | d :: ds, h => by
    simp only [plains, Bool.and_eq_true] at h
    simp only [pds, List.findIdx?_cons]
    rw [pd_eqv d y h.1 hy, find_pds hy h.2]
theorem filt_pds {y : D} (hy : plain y = true) : ∀ {ds : List D}, plains ds = true → ((pds ds).filter fun z => PyData.eqv z (pd y)).length = (ds.filter fun d => eqd d y).length
  | [], _ => rfl
  | d :: ds, h => by
    simp only [plains, Bool.and_eq_true] at h
    simp only [pds, List.filter_cons]
    rw [pd_eqv d y h.1 hy]
    split
    · rw [List.length_cons, List.length_cons, filt_pds hy h.2]
    · exact filt_pds hy h.2
theorem deps_all : ∀ {ds : List D}, ds.all cmpb = true → deps ds ≤ 60
  | [], _ => Nat.zero_le _
  | d :: ds, h => by
    simp only [List.all_cons, Bool.and_eq_true, cmpb, decide_eq_true_eq] at h
    simp only [deps]
    exact Nat.max_le.mpr ⟨h.1.2, deps_all h.2⟩
theorem shaped_l {ds : List D} (h : ds.all cmpb = true) : SeqAt.shaped (.list (pds ds)) = true := by
  have p := plains_of h
  have d := deps_all h
  unfold SeqAt.shaped
  have e : PyData.canLay0 (.list (pds ds)) = true := by simp only [PyData.canLay0]; exact pds_lay ds p
  have e2 : (PyData.list (pds ds)).depth = deps ds + 1 := by simp [PyData.depth, pds_depth]
  rw [e, e2]
  simp; omega
theorem plain_cmpb {d : D} (h : cmpb d = true) : plain d = true := by
  simp only [cmpb, Bool.and_eq_true] at h
  exact h.1
theorem datL {K : PySem.W.Frag} {H : Hp} {F : Addr → Prop} {ds : List D} {y : D} {l : Addr} {v2 : V} (h1 : ds.all cmpb = true) (h2 : cmpb y = true) (r : Rep K H F (.lst ds) (.ref l)) (r2 : Rep K H F y v2) : DatR K true (.ref l) [v2] H (pds ds) (pd y) := by
  have := dp_of (d := .lst ds) (by simpa [plain] using plains_of h1) r
  exact ⟨l, v2, rfl, rfl, by simpa [pd] using this, dp_of (plain_cmpb h2) r2, shaped_l h1, pd_shaped h2⟩
theorem datT {K : PySem.W.Frag} {H : Hp} {F : Addr → Prop} {ds : List D} {y : D} {l : Addr} {v2 : V} (h1 : ds.all cmpb = true) (h2 : cmpb y = true) (r : Rep K H F (.tpz ds) (.ref l)) (r2 : Rep K H F y v2) : DatR K false (.ref l) [v2] H (pds ds) (pd y) := by
  have := dp_of (d := .tpz ds) (by simpa [plain] using plains_of h1) r
  exact ⟨l, v2, rfl, rfl, by simpa [pd] using this, dp_of (plain_cmpb h2) r2, shaped_l h1, pd_shaped h2⟩
theorem r_idx {apos cpos : Pos} (hK : S.K = X.K) (hu : X.A.units + 100 < cLine) (ha : PE X pa (tD S C W a)) (hb : PE X pb (tD S C W b)) (hl : (apos.endLine == cpos.line) = true) (hn : nst pb = true) (hbase : nbase pa = true) : PE X (.Call (.Attribute pa "index" apos) [pb] [] cpos) (tDf S C W (.idx a b)) := by
  refine PE.imp (pe_bm2 PySem.F.plainAttrs_list PySem.F.slot_list_index PySem.F.type_list_index (mt_lidx (by omega)) PySem.F.plainAttrs_tuple PySem.F.slot_tuple_index PySem.F.type_tuple_index (mt_tidx (by omega)) ha (pa_cons hb pa_nil (star_cons hn)) (nbase_ok hbase _ _ _) (few1' _ _ hn) hl (star_cons hn) rfl) fun σ H Q ⟨P, env, O, s, q⟩ => ⟨P, env, O, s, PostG.imp (PostG.bind (show PostG S W P H O σ ((evalE C a env).bind _) _ from q)) fun d s1 H1 O1 _ _ _ ⟨x1, t1, p1⟩ v r => ?_⟩
  rcases (show (∃ ds, d = .lst ds) ∨ ∃ ds, d = .tpz ds from by cases d <;> first | exact .inl ⟨_, rfl⟩ | exact .inr ⟨_, rfl⟩ | exact p1.elim) with ⟨ds, rfl⟩ | ⟨ds, rfl⟩
  · have r0 := r
    obtain ⟨l, vs, rfl, t, rs⟩ := r
    refine .inl ⟨.inl ⟨rfl, vs, SqL.of t.1⟩, P, s1, O1, t1, PostG.imp (PostG.bind (show PostG S W P H1 O1 σ ((evalE C b s1).bind _) _ from p1)) fun d2 s2 H2 O2 _ _ _ ⟨x2, t2, p2⟩ v2 r2 => ?_⟩
    obtain ⟨z, hz, p3⟩ := PostG.opt p2
    unfold idxD at hz
    split at hz
    · rename_i hc
      simp only [Bool.and_eq_true, decide_eq_true_eq] at hc
      have D := datL hc.1.1 hc.1.2 (r0.mono x2.mono) r2
      rw [hK] at D
      obtain ⟨j, hj, rfl⟩ := Option.map_eq_some_iff.mp hz
      exact ⟨pds ds, pd d2, j, D, by rw [find_pds (plain_cmpb hc.1.2) (plains_of hc.1.1)]; exact hj, post_int t2 p3⟩
    · cases hz
  · have r0 := r
    obtain ⟨l, vs, rfl, ⟨⟨o, e, e2, e3⟩, _⟩, rs⟩ := r
    refine .inr ⟨⟨l, o, vs, rfl, e, e2, e3⟩, P, s1, O1, t1, PostG.imp (PostG.bind (show PostG S W P H1 O1 σ ((evalE C b s1).bind _) _ from p1)) fun d2 s2 H2 O2 _ _ _ ⟨x2, t2, p2⟩ v2 r2 => ?_⟩
    obtain ⟨z, hz, p3⟩ := PostG.opt p2
    unfold idxD at hz
    split at hz
    · rename_i hc
      simp only [Bool.and_eq_true, decide_eq_true_eq] at hc
      have D := datT hc.1.1 hc.1.2 (r0.mono x2.mono) r2
      rw [hK] at D
      obtain ⟨j, hj, rfl⟩ := Option.map_eq_some_iff.mp hz
      exact ⟨pds ds, pd d2, j, D, by rw [find_pds (plain_cmpb hc.1.2) (plains_of hc.1.1)]; exact hj, post_int t2 p3⟩
    · cases hz
theorem r_cnt {apos cpos : Pos} (hK : S.K = X.K) (hu : X.A.units + 100 < cLine) (ha : PE X pa (tD S C W a)) (hb : PE X pb (tD S C W b)) (hl : (apos.endLine == cpos.line) = true) (hn : nst pb = true) (hbase : nbase pa = true) : PE X (.Call (.Attribute pa "count" apos) [pb] [] cpos) (tDf S C W (.cnt a b)) := by
  refine PE.imp (pe_bm2 PySem.F.plainAttrs_list PySem.F.slot_list_count PySem.F.type_list_count (mt_lcnt (by omega)) PySem.F.plainAttrs_tuple PySem.F.slot_tuple_count PySem.F.type_tuple_count (mt_tcnt (by omega)) ha (pa_cons hb pa_nil (star_cons hn)) (nbase_ok hbase _ _ _) (few1' _ _ hn) hl (star_cons hn) rfl) fun σ H Q ⟨P, env, O, s, q⟩ => ⟨P, env, O, s, PostG.imp (PostG.bind (show PostG S W P H O σ ((evalE C a env).bind _) _ from q)) fun d s1 H1 O1 _ _ _ ⟨x1, t1, p1⟩ v r => ?_⟩
  rcases (show (∃ ds, d = .lst ds) ∨ ∃ ds, d = .tpz ds from by cases d <;> first | exact .inl ⟨_, rfl⟩ | exact .inr ⟨_, rfl⟩ | exact p1.elim) with ⟨ds, rfl⟩ | ⟨ds, rfl⟩
  · have r0 := r
    obtain ⟨l, vs, rfl, t, rs⟩ := r
    refine .inl ⟨.inl ⟨rfl, vs, SqL.of t.1⟩, P, s1, O1, t1, PostG.imp (PostG.bind (show PostG S W P H1 O1 σ ((evalE C b s1).bind _) _ from p1)) fun d2 s2 H2 O2 _ _ _ ⟨x2, t2, p2⟩ v2 r2 => ?_⟩
    obtain ⟨z, hz, p3⟩ := PostG.opt p2
    unfold cntD at hz
    split at hz
    · rename_i hc
      simp only [Bool.and_eq_true, decide_eq_true_eq] at hc
      have D := datL hc.1.1 hc.1.2 (r0.mono x2.mono) r2
      rw [hK] at D
      cases hz
      exact ⟨pds ds, pd d2, D, by rw [filt_pds (plain_cmpb hc.1.2) (plains_of hc.1.1)]; exact post_int t2 p3⟩
    · cases hz
  · have r0 := r
    obtain ⟨l, vs, rfl, ⟨⟨o, e, e2, e3⟩, _⟩, rs⟩ := r
    refine .inr ⟨⟨l, o, vs, rfl, e, e2, e3⟩, P, s1, O1, t1, PostG.imp (PostG.bind (show PostG S W P H1 O1 σ ((evalE C b s1).bind _) _ from p1)) fun d2 s2 H2 O2 _ _ _ ⟨x2, t2, p2⟩ v2 r2 => ?_⟩
    obtain ⟨z, hz, p3⟩ := PostG.opt p2
    unfold cntD at hz
    split at hz
    · rename_i hc
      simp only [Bool.and_eq_true, decide_eq_true_eq] at hc
      have D := datT hc.1.1 hc.1.2 (r0.mono x2.mono) r2
      rw [hK] at D
      cases hz
      exact ⟨pds ds, pd d2, D, by rw [filt_pds (plain_cmpb hc.1.2) (plains_of hc.1.1)]; exact post_int t2 p3⟩
    · cases hz
end
end Rf

/-! Rg, part I0: t[::-1] of a tuple. -/
namespace Rf
open PySem PySem.Spec PyProof.Rows L2 HT
section
variable {prog : Program} {w : World} {A : Around} {E : Value → Shared → Prop} {s : Shared}
theorem back_adjust (n : Nat) : Builtin.Slice.sliceAdjust none none (-1) (n : Int) = ((n : Int) - 1, -1) := rfl
theorem back_places (n : Nat) : Builtin.Slice.slicePlaces ((n : Int) - 1) (-1) (-1) = n := by
  have neg : ¬ ((-1 : Int) > 0) := by decide
  unfold Builtin.Slice.slicePlaces
  rw [if_neg neg]
  by_cases h : (n : Int) - 1 > -1
  · rw [if_pos h, show (- -1 : Int) = 1 by decide, Int.ediv_one]
    omega
  · rw [if_neg h]
    omega
theorem fm_on {α β : Type} {f g : α → Option β} : ∀ {l : List α}, (∀ a ∈ l, f a = g a) → l.filterMap f = l.filterMap g
  | [], _ => rfl
  | a :: l, h => by rw [List.filterMap_cons, List.filterMap_cons, h a List.mem_cons_self, fm_on fun b hb => h b (List.mem_cons_of_mem _ hb)]
theorem back_pick (xs : Array Value) : ((List.range xs.size).filterMap fun (k : Nat) => xs[((xs.size : Int) - 1 + (k : Int) * (-1)).toNat]?).toArray = xs.toList.reverse.toArray := by
  rw [← PySem.W.krv_all xs, ← List.filterMap_reverse, ← PySem.W.krv_range, List.filterMap_map]
  congr 1
  refine fm_on fun k hk => ?_
  have := List.mem_range.mp hk
  show _ = xs[xs.size - 1 - k]?
  congr 1
  omega
theorem back_applied {sl : Addr} {vs : Value} {n : Nat} {Q : Int × Int × Nat → Shared → Prop} (hs : s.heap.IsSliceOf sl .none .none vs) (ps : IsPart vs (some (-1)))
    (h : Q ((n : Int) - 1, -1, n) s) : wpAny (model prog w) A (Builtin.Slice.sliceApplied (.ref sl) (pure (n : Int))) Q E s := by
  obtain ⟨os, hos, hcs, hds⟩ := id hs
  unfold Builtin.Slice.sliceApplied Builtin.Slice.sliceFields
  refine wpAny_bind (wpAny_bind (wpAny_field hos hds (x := .none) rfl (wpAny_bind (wpAny_field hos hds (x := .none) rfl (wpAny_bind (wpAny_field hos hds (x := vs) rfl (wpAny_pure ?_)))))))
  refine wpAny_bind (slicePart_ ps ?_)
  show wpAny _ _ (if ((-1 : Int) == 0) = true then _ else _) _ _ s
  rw [if_neg (by decide)]
  refine wpAny_bind (slicePart_none (wpAny_bind (slicePart_none (wpAny_bind (wpAny_pure ?_)))))
  show wpAny _ _ (match Builtin.Slice.sliceAdjust none none (-1) (n : Int) with | (lo, hi) => pure (lo, (-1 : Int), Builtin.Slice.slicePlaces lo hi (-1))) _ _ s
  rw [back_adjust]
  show wpAny _ _ (pure ((n : Int) - 1, (-1 : Int), Builtin.Slice.slicePlaces ((n : Int) - 1) (-1) (-1))) _ _ s
  rw [back_places]
  exact wpAny_pure h
theorem getItem_tuple_back {t sl : Addr} {items : Array Value} {vs : Value} {Q : Value → Shared → Prop} (ht : IsTup s.heap t items) (hs : s.heap.IsSliceOf sl .none .none vs) (ps : IsPart vs (some (-1)))
    (h : Q (.ref s.heap.objs.size) { s with heap := s.heap.push ⟨.type "tuple", none, .seq items.toList.reverse.toArray 0, #[]⟩ }) (hsz : items.size ≤ sizeLine) : wpAny (model prog w) A (getItem (.ref t) (.ref sl)) Q E s := by
  have fits : sizeOk (.seq items.toList.reverse.toArray) := by
    show items.toList.reverse.toArray.size ≤ sizeLine
    simpa using hsz
  obtain ⟨os, hos, hcs, hds⟩ := id hs
  have isS : s.TypeIs (.ref sl) "slice" := ⟨os, hos, hcs⟩
  unfold getItem
  try with_reducible refine wpAny_holding ?_
  first
    | refine wpAny_bind (wpAny_pure ?_)
    | skip
  refine wpAny_bind (wpAny_sequenceKey ht.typeIs (by decide) (wpAny_bind (wpAny_callSpecial?_slot (name := Str.ofString "__getitem__") ht.typeIs PyProof.Rows.slot_tuple_getitem (wpAny_call_entry PyProof.Rows.slot_tuple_getitem ht.typeIs entry_tuple_getitem ?_ (args_tuple_getitem _ _)))))
  show wpAny _ _ (Builtin.Tuple.tupleItemsOf (.ref t) >>= _) _ _ s
  refine wpAny_bind (tupleItemsOf_ ht (wpAny_bind (wpAny_typeOf isS ?_)))
  rw [if_pos (by decide)]
  refine wpAny_bind (back_applied hs ps ?_)
  have no : ¬ ((((items.size : Int) - 1 == 0 && (-1 : Int) == 1 && items.size == items.size)) = true) := by simp
  show wpAny _ _ (if ((items.size : Int) - 1 == 0 && (-1 : Int) == 1 && items.size == items.size) = true then _ else _) _ _ s
  rw [if_neg no, back_pick]
  first
    | exact wpAny_bind (m := Builtin.Tuple.tupleExact _) (wpAny_newObj_type (wpAny_pure ⟨_, rfl, wpAny_pure h⟩) fits)
    | exact wpAny_bind (m := Builtin.Tuple.tupleExact _) (wpAny_newObj_type (wpAny_bind (wpAny_pure (wpAny_pure ⟨_, rfl, wpAny_pure h⟩))) fits)
    | exact wpAny_bind (wpAny_bind (m := Builtin.Tuple.tupleExact _) (wpAny_newObj_type (wpAny_pure (wpAny_pure ⟨_, rfl, wpAny_pure h⟩)) fits))
    | exact wpAny_bind (wpAny_bind (m := Builtin.Tuple.tupleExact _) (wpAny_newObj_type (wpAny_pure ⟨_, rfl, wpAny_pure h⟩) fits))
end
def tRevA (K : PySem.W.Frag) (te : TE) : TE := fun σ H Q => te σ H fun x H1 => ∃ a xs, x = .ref a ∧ ((SqL K H1 a xs ∧ ∀ p, H1 p = none → Q (.ref p) (upd H1 p (.lst xs.reverse))) ∨ (SqT K H1 a xs ∧ ∀ p, H1 p = none → Q (.ref p) (upd H1 p (.tup xs.reverse))))
theorem pe_revA {X : Cx} {e : Expr} {te : TE} {k : Nat} {p1 p2 p3 pos : Pos} (he : PE X e te) : PE X (.Subscript e (.Slice none none (some (.UnaryOp .USub (.Constant (.int 1) k p1) p2)) p3) pos) (tRevA X.K te) := ⟨fun pins s σ H Q I h => by
  refine Subscript_ (thn (he.run pins s σ H _ I h) fun v s1 ⟨x, H1, I1, r1, a, xs, ex, q⟩ => ?_)
  subst ex
  cases r1
  have last : PO X (some (.UnaryOp .USub (.Constant (.int 1) k p1) p2)) (tPart (tUn (rU fun i => .int (-i)) (tC (.int 1)))) := po_some (pe_un un_neg pe_int)
  refine wpAny_Slice (thn (po_none.run pins s1 σ H1 (fun o H2 => o = none ∧ H2 = H1) I1 ⟨rfl, rfl⟩) fun vl s2 ⟨l, H2, I2, pl, el, e2⟩ => ?_)
  subst el e2
  refine thn (po_none.run pins s2 σ H2 (fun o H3 => o = none ∧ H3 = H2) I2 ⟨rfl, rfl⟩) fun vu s3 ⟨u, H3, I3, pu, eu, e3⟩ => ?_
  subst eu e3
  refine thn (last.run pins s3 σ H3 (fun o H4 => o = some (-1) ∧ H4 = H3) I3 ⟨1, rfl, -1, rfl, rfl, rfl⟩) fun vs s4 ⟨o, H4, I4, ps, eo, e4⟩ => ?_
  subst eo e4
  cases pl
  cases pu
  have I5 : Inv X pins σ H4 { s4 with heap := s4.heap.push ⟨.type "slice", none, .fields #[.none, .none, vs], #[]⟩ } := I4.kept (t' := s4.toks) fun b ob q => Heap.get?_push_of_some _ q
  show wpAny (model X.prog X.w) X.A (subscriptTail e (.Slice none none (some (.UnaryOp .USub (.Constant (.int 1) k p1) p2)) p3) (.ref a) (.ref s4.heap.objs.size)) (EP X pins σ Q) X.xe { s4 with heap := s4.heap.push ⟨.type "slice", none, .fields #[.none, .none, vs], #[]⟩ }
  rcases q with ⟨hx, q⟩ | ⟨hx, q⟩
  · obtain ⟨its, r, ht, hz⟩ := I5.list hx
    have len := r.length
    refine tail_any (ops := [.ref a, .ref s4.heap.objs.size]) ht.isList.typeIs (PySem.slot_list_getitem.lookup) ?_ (by with_unfolding_all rfl)
    refine wpAny_getItem_list_slice ht.isList (Heap.IsSliceOf.new _ .none .none vs) .none .none ps (by decide) ?_ (by rw [List.size_toArray]; omega)
    rw [PySem.W.krv_pick]
    refine ⟨.ref _, _, I5.laid (t' := s4.toks) (o := .lst xs.reverse) (fun b ob q => Heap.get?_push_of_some _ q) (Nat.le_refl _) ?_, rfl, q _ (I5.hok.fresh (Nat.le_refl _))⟩
    exact ⟨by rw [List.length_reverse]; exact hz, _, 0, r.reverse, Heap.get?_push_size _ rfl⟩
  · obtain ⟨its, r, ht, hz⟩ := I5.tuple hx
    have len := r.length
    refine tail_any (ops := [.ref a, .ref s4.heap.objs.size]) ht.typeIs (PyProof.Rows.slot_tuple_getitem.lookup) ?_ (by with_unfolding_all rfl)
    refine getItem_tuple_back ht (Heap.IsSliceOf.new _ .none .none vs) ps ?_ (by rw [List.size_toArray]; omega)
    refine ⟨.ref _, _, I5.laid (t' := s4.toks) (o := .tup xs.reverse) (fun b ob q => Heap.get?_push_of_some _ q) (Nat.le_refl _) ?_, rfl, q _ (I5.hok.fresh (Nat.le_refl _))⟩
    exact ⟨by rw [List.length_reverse]; exact hz, _, r.reverse, IsTup.new _ _⟩⟩
end Rf

/-! Rg, part I: .. items, slices, reversed lists, owned lists written. -/
namespace Rf
open PySem PySem.Spec PyProof.Rows L2
section
variable {X : Cx} {S : Sit} {C : Calls} {W : WX} {pos : Pos} {a b c : E} {pa pb pc : Expr}
theorem r_sub (hK : S.K = X.K) (hu : X.A.units + 100 < cLine) (ha : PE X pa (tD S C W a)) (hb : PE X pb (tD S C W b)) (hs : nsl pb = true) : PE X (.Subscript pa pb pos) (tD S C W (.sub a b)) :=
  PE.imp (pe_ix (ixD hu) ha hb (plainIx hs)) fun σ H Q ⟨P, env, O, s, p⟩ => ⟨P, env, O, s, PostG.imp (PostG.bind (show PostG S W P H O σ ((evalE C a env).bind _) _ from p)) fun d1 s1 H1 O1 _ _ _ ⟨x1, t1, p1⟩ v1 r1 => ⟨P, s1, O1, t1, PostG.imp (PostG.bind p1) fun d2 s2 H2 O2 _ _ _ ⟨x2, t2, p2⟩ v2 r2 => by
    obtain ⟨z, hz, p3⟩ := PostG.opt p2
    have k := p3 H2 O2 (Ext.refl _ _) t2
    rw [hK] at r1 r2 k
    exact ⟨d1, d2, z, S.F O2, t2.own, (r1.mono x2.mono).view, r2.view, hz, k⟩⟩⟩
theorem r_subv {i : Nat} (hK : S.K = X.K) (hu : X.A.units + 100 < cLine) (ha : PE X pa (tVar i)) (hb : PE X pb (tD S C W b)) (hs : nsl pb = true) : PE X (.Subscript pa pb pos) (tD S C W (.subv i b)) := by
  refine PE.imp (pe_ix (ixD hu) ha hb (plainIx hs)) fun σ H Q ⟨P, env, O, s, p⟩ => ?_
  obtain ⟨_, v1, e1, _, p⟩ := s.slot (show PostG S W P H O σ ((slotR env i).bind _) _ from p)
  refine ⟨v1, e1, P, env, O, s, PostG.imp (PostG.bind p) fun d2 s2 H2 O2 _ _ _ ⟨x2, t2, p2⟩ v2 r2 => ?_⟩
  obtain ⟨d1, v1', e1', r1, p3⟩ := t2.slot p2
  rw [e1] at e1'; cases e1'
  obtain ⟨z, hz, p3⟩ := PostG.opt p3
  have k := p3 H2 O2 (Ext.refl _ _) t2
  rw [hK] at r1 r2 k
  exact ⟨d1, d2, z, S.F O2, t2.own, r1, r2.view, hz, k⟩
theorem r_po_none : PO X none (tDo S C W none) := ⟨fun pins s σ H Q I ⟨P, env, O, t, p⟩ => po_none.run pins s σ H Q I (p H O (Ext.refl _ _) t)⟩
theorem r_po_some (ha : PE X pa (tD S C W a)) : PO X (some pa) (tDo S C W (some a)) :=
  ⟨fun pins s σ H Q I ⟨P, env, O, t, p⟩ => (po_some ha).run pins s σ H Q I ⟨P, env, O, t, PostG.imp (PostG.bind (show PostG S W P H O σ ((evalE C a env).bind _) _ from p)) fun d s1 H1 O1 _ _ _ ⟨x1, t1, p1⟩ v r => by
    cases d <;> try exact p1.elim
    cases r
    exact ⟨_, rfl, p1 H1 O1 (Ext.refl _ _) t1⟩⟩⟩
theorem r_slc {lo hi : Option E} {plo phi : Option Expr} {p2 : Pos} (hK : S.K = X.K) (ha : PE X pa (tD S C W a)) (hl : PO X plo (tDo S C W lo)) (hh : PO X phi (tDo S C W hi)) : PE X (.Subscript pa (.Slice plo phi none p2) pos) (tDf S C W (.slc a lo hi)) :=
  PE.imp (pe_slice slD ha hl hh) fun σ H Q ⟨P, env, O, s, p⟩ => ⟨P, env, O, s, PostG.imp (PostG.bind (show PostG S W P H O σ ((evalE C a env).bind _) _ from p)) fun d1 s1 H1 O1 _ _ _ ⟨x1, t1, p1⟩ v1 r1 => ⟨P, s1, O1, t1, PostG.imp (PostG.bind p1) fun l s2 H2 O2 _ _ _ ⟨x2, t2, p2⟩ =>
    ⟨P, s2, O2, t2, PostG.imp (PostG.bind p2) fun h s3 H3 O3 _ _ _ ⟨x3, t3, p3⟩ => by
      obtain ⟨z, hz, p4⟩ := PostG.opt p3
      have k := resK_of t3 p4
      rw [hK] at r1 k
      exact ⟨d1, z, S.F O3, t3.own, ((r1.mono x2.mono).mono x3.mono).view, hz, k⟩⟩⟩⟩
theorem r_slcv {i : Nat} {lo hi : Option E} {plo phi : Option Expr} {p2 : Pos} (hK : S.K = X.K) (ha : PE X pa (tVar i)) (hl : PO X plo (tDo S C W lo)) (hh : PO X phi (tDo S C W hi)) : PE X (.Subscript pa (.Slice plo phi none p2) pos) (tDf S C W (.slcv i lo hi)) := by
  refine PE.imp (pe_slice slD ha hl hh) fun σ H Q ⟨P, env, O, s, p⟩ => ?_
  obtain ⟨_, v1, e1, _, p⟩ := s.slot (show PostG S W P H O σ ((slotR env i).bind _) _ from p)
  refine ⟨v1, e1, P, env, O, s, PostG.imp (PostG.bind p) fun l s2 H2 O2 _ _ _ ⟨x2, t2, p2⟩ => ⟨P, s2, O2, t2, PostG.imp (PostG.bind p2) fun h s3 H3 O3 _ _ _ ⟨x3, t3, p3⟩ => ?_⟩⟩
  obtain ⟨d1, v1', e1', r1, p4⟩ := t3.slot p3
  rw [e1] at e1'; cases e1'
  obtain ⟨z, hz, p5⟩ := PostG.opt p4
  have k := resK_of t3 p5
  rw [hK] at r1 k
  exact ⟨d1, z, S.F O3, t3.own, r1, hz, k⟩
theorem r_rev {b : Rf.O} {k : Nat} {p1 p2 p3 : Pos} (hK : S.K = X.K) (ha : PE X pa (tDv S C W b)) : PE X (.Subscript pa (.Slice none none (some (.UnaryOp .USub (.Constant (.int 1) k p1) p2)) p3) pos) (tDf S C W (.rev b)) :=
  PE.imp (pe_revA ha) fun σ H Q ⟨P, env, O, s, p⟩ => ⟨P, env, O, s, PostG.imp (PostG.bind (show PostG S W P H O σ ((evalV C b env).bind _) _ from p)) fun d s1 H1 O1 _ _ _ ⟨x1, t1, p1⟩ v r => by
    cases d <;> try exact p1.elim
    · obtain ⟨q, vs, rfl, t, rs⟩ := r
      have sq := t.sq
      rw [hK] at sq
      exact ⟨q, vs, rfl, .inr ⟨sq, fun l hl => resK_of t1 p1 _ _ (same_upd hl) ⟨l, vs.reverse, rfl, ⟨upd_same, t1.new hl⟩, rs.reverse.mono (Mono.same (same_upd hl))⟩⟩⟩
    · obtain ⟨q, vs, rfl, t, rs⟩ := r
      exact ⟨q, vs, rfl, .inl ⟨SqL.of t, fun l hl => resK_of t1 p1 l _ hl rs.reverse⟩⟩
    · obtain ⟨q, vs, rfl, t, rs⟩ := r
      have sq := t.sq (K := S.K)
      rw [hK] at sq
      exact ⟨q, vs, rfl, .inr ⟨sq, fun l hl => resK_of t1 p1 _ _ (same_upd hl) ⟨l, vs.reverse, rfl, ⟨upd_same, t1.new hl⟩, rs.reverse.mono (Mono.same (same_upd hl))⟩⟩⟩⟩
/-! ### an owned container is written -/
theorem SR.writeC {P : Pd} {H : Hp} {O : Addr → Prop} {env : Env} {σ : L2.St} {i : Nat} {c : D} (s : SR S P H O env σ) (h : env[i]? = some (Sl.ow c)) (hc : isC c = true) :
    ∃ l vs, σ[i]? = some (some (.ref l)) ∧ CnAt H c l vs ∧ Reps S.K H (S.F O) (kids c) vs ∧ ∀ (d : D) (o' : HO) (us : List V), isC d = true → CnO d o' us → Reps S.K H (S.F O) (kids d) us →
      Ext H O (upd H l o') O ∧ SR S P (upd H l o') O (env.set i (Sl.ow d)) σ ∧ Mono H (S.F O) (upd H l o') (S.F O) := by
  obtain ⟨v, e1, t0⟩ := s.ow i _ h
  obtain ⟨l, vs, rfl, o, g, x, r⟩ := (top_C hc).mp t0
  have hlt : i < env.length := (List.getElem?_eq_some_iff.mp h).1
  refine ⟨l, vs, e1, x, r, fun d0 o' us hd ho ru => ?_⟩
  have m : Mono H (S.F O) (upd H l o') (S.F O) := fun b ob e n => ⟨by rw [upd_ne (fun q => by rw [q] at n; exact n (.inr o))]; exact e, n⟩
  have xt : Ext H O (upd H l o') O := ⟨fun b ob e n => by rw [upd_ne (fun q => by rw [q] at n; exact n o)]; exact e, fun b h => .inl h⟩
  have top : ∀ {d : D} {v : V}, Top S H O d v → (isC d = true → v ≠ .ref l) → Top S (upd H l o') O d v := fun {d v} t n => by
    cases hc : isC d with
    | false => rw [top_notC hc] at t ⊢; exact t.mono m
    | true =>
      obtain ⟨b, ws, rfl, ob, gb, xb, rb⟩ := (top_C hc).mp t
      exact (top_C hc).mpr ⟨b, ws, rfl, ob, gb, xb.keep fun o e => by rw [upd_ne (fun q => n hc (by rw [q]))]; exact e, rb.mono m⟩
  have root : rt env σ P (.inl i) = some (.ref l) := rt_inl.mpr ⟨_, h, hc, e1⟩
  refine ⟨xt, ⟨by rw [List.length_set]; exact s.len, fun b f => ?_, s.dis, fun j d e => ?_, fun j d e => ?_, fun p hp => ?_, fun y z w h1 h2 => ?_, s.io⟩, m⟩
  · by_cases hb : b = l
    · rw [hb, upd_same]; simp
    · rw [upd_ne hb]; exact s.own b f
  · by_cases hj : j = i
    · subst hj
      rw [List.getElem?_set_self hlt] at e; cases e
    · rw [List.getElem?_set_ne (Ne.symm hj)] at e
      obtain ⟨w, e2, t⟩ := s.sh j d e
      exact ⟨w, e2, t.mono m⟩
  · by_cases hj : j = i
    · subst hj
      rw [List.getElem?_set_self hlt] at e; cases e
      exact ⟨_, e1, (top_C hd).mpr ⟨l, us, rfl, o, g, ⟨o', upd_same, ho⟩, ru.mono m⟩⟩
    · rw [List.getElem?_set_ne (Ne.symm hj)] at e
      obtain ⟨w, e2, t⟩ := s.ow j d e
      refine ⟨w, e2, top t fun c q => ?_⟩
      have := s.ne (.inl j) (.inl i) (.ref l) (rt_inl.mpr ⟨d, e, c, by rw [e2, q]⟩) root
      exact hj (by cases this; rfl)
  · refine top (s.pd p hp) fun c q => ?_
    obtain ⟨j, hj, ej⟩ := List.mem_iff_getElem.mp hp
    have := s.ne (.inr j) (.inl i) (.ref l) (rt_inr.mpr ⟨p.1, by rw [List.getElem?_eq_getElem hj, ej, ← q], c⟩) root
    cases this
  · have back : ∀ y w, rt (env.set i (Sl.ow d0)) σ P y = some w → rt env σ P y = some w := fun y w h1 => by
      cases y with
      | inr j => exact h1
      | inl j =>
        obtain ⟨d, q1, q2, q3⟩ := rt_inl.mp h1
        by_cases hj : j = i
        · subst hj
          rw [e1] at q3; cases q3
          exact root
        · rw [List.getElem?_set_ne (Ne.symm hj)] at q1
          exact rt_inl.mpr ⟨d, q1, q2, q3⟩
    exact s.ne y z w (back y w h1) (back z w h2)
theorem SR.write {P : Pd} {H : Hp} {O : Addr → Prop} {env : Env} {σ : L2.St} {i : Nat} {ds es : List D} (s : SR S P H O env σ) (h : env[i]? = some (Sl.ow (.lst ds))) :
    ∃ l vs, σ[i]? = some (some (.ref l)) ∧ H l = some (.lst vs) ∧ Reps S.K H (S.F O) ds vs ∧ ∀ us, Reps S.K H (S.F O) es us → Ext H O (upd H l (.lst us)) O ∧ SR S P (upd H l (.lst us)) O (env.set i (Sl.ow (.lst es))) σ ∧ Mono H (S.F O) (upd H l (.lst us)) (S.F O) := by
  obtain ⟨l, vs, e1, ⟨o, x, q⟩, r, k⟩ := s.writeC h rfl
  exact ⟨l, vs, e1, by rw [x, show o = .lst vs from q], r, fun us ru => k (.lst es) (.lst us) us rfl rfl ru⟩
theorem Reps.last {K : PySem.W.Frag} {H : Hp} {F : Addr → Prop} {ds : List D} {vs : List V} {d : D} (r : Reps K H F ds vs) (h : ds.getLast? = some d) : ∃ v, vs[vs.length - 1]? = some v ∧ Rep K H F d v := by
  rw [List.getLast?_eq_getElem?] at h
  obtain ⟨v, e, q⟩ := r.get h
  rw [r.length] at e
  exact ⟨v, e, q⟩
theorem Reps.dropLast {K : PySem.W.Frag} {H : Hp} {F : Addr → Prop} {ds : List D} {vs : List V} (r : Reps K H F ds vs) : Reps K H F ds.dropLast vs.dropLast := by
  rw [List.dropLast_eq_take, List.dropLast_eq_take, ← r.length]
  exact r.take _
theorem base_name {x : Str} {p : Pos} {f : Str} {env : PySem.Env} : attributeBase (.Name x p) f env (eval (.Name x p) env) = eval (.Name x p) env := rfl
/-- an owned list read, written -/
theorem SR.own_ {P : Pd} {H : Hp} {O : Addr → Prop} {env : Env} {σ : L2.St} {i : Nat} {α : Type} {f : List D → Env → R α} {Q : α → Env → Hp → (Addr → Prop) → Prop} (s : SR S P H O env σ) (h : PostG S W P H O σ ((ownR env i).bind f) Q) :
    ∃ ds l vs, env[i]? = some (Sl.ow (.lst ds)) ∧ σ[i]? = some (some (.ref l)) ∧ H l = some (.lst vs) ∧ Reps S.K H (S.F O) ds vs ∧ PostG S W P H O σ (f ds env) Q := by
  unfold ownR at h
  split at h
  · rename_i ds e
    obtain ⟨l, vs, e1, x, r, k⟩ := s.write (es := []) e
    exact ⟨ds, l, vs, e, e1, x, r, h⟩
  · exact h.elim
theorem SR.ownC_ {P : Pd} {H : Hp} {O : Addr → Prop} {env : Env} {σ : L2.St} {i : Nat} {α : Type} {f : D → Env → R α} {Q : α → Env → Hp → (Addr → Prop) → Prop} (s : SR S P H O env σ) (h : PostG S W P H O σ ((ownC env i).bind f) Q) :
    ∃ c l vs, env[i]? = some (Sl.ow c) ∧ isC c = true ∧ σ[i]? = some (some (.ref l)) ∧ CnAt H c l vs ∧ Reps S.K H (S.F O) (kids c) vs ∧ PostG S W P H O σ (f c env) Q := by
  unfold ownC at h
  split at h
  · rename_i c e
    split at h
    · rename_i hc
      obtain ⟨l, vs, e1, x, r, k⟩ := s.writeC e hc
      exact ⟨c, l, vs, e, hc, e1, x, r, h⟩
    · exact h.elim
  · exact h.elim
theorem r_pop {i : Nat} {x : Str} {p apos cpos : Pos} (ha : PE X (.Name x p) (tVar i)) (hl : (apos.endLine == cpos.line) = true) : PE X (.Call (.Attribute (.Name x p) "pop" apos) [] [] cpos) (tD S C W (.pop i)) := by
  refine PE.imp (pe_bm0 PySem.F.plainAttrs_list PySem.F.slot_list_pop PySem.F.type_list_pop mt_pop ha base_name hl) fun σ H Q ⟨P, env, O, s, q⟩ => ?_
  obtain ⟨ds, _, _, e, _, _, _, q⟩ := s.own_ (show PostG S W P H O σ ((ownR env i).bind _) _ from q)
  split at q
  · rename_i d el
    obtain ⟨l, vs, e1, x, r, k⟩ := s.write (es := ds.dropLast) e
    obtain ⟨w, hw, rw'⟩ := r.last el
    obtain ⟨x2, t2, m2⟩ := k vs.dropLast r.dropLast
    exact ⟨.ref l, e1, .inl ⟨rfl, vs, SqL.of x⟩, l, vs, w, rfl, rfl, x, hw, q _ _ x2 t2 w (rw'.mono m2)⟩
  · exact q.elim
theorem few1 (env : PySem.Env) (cpos : Pos) (hn : nst pb = true) : ((backTo cpos (starEach [pb] env)).all (fun x => !x.1) && (backToKw cpos (keywordEach [] env)).all (fun x => x.1.isSome)
      && decide (([pb] : List Expr).length + ([] : List Keyword).length + (if ([] : List Keyword).isEmpty then 0 else 1) < 30)) = true := by
  rw [star_cons hn]; rfl
theorem r_popAt {i : Nat} {x : Str} {p apos cpos : Pos} (ha : PE X (.Name x p) (tVar i)) (hb : PE X pb (tD S C W b)) (hl : (apos.endLine == cpos.line) = true) (hn : nst pb = true) : PE X (.Call (.Attribute (.Name x p) "pop" apos) [pb] [] cpos) (tD S C W (.popAt i b)) := by
  refine PE.imp (pe_bm PySem.F.plainAttrs_list PySem.F.slot_list_pop PySem.F.type_list_pop mt_popAt ha (pa_cons hb pa_nil (star_cons hn)) base_name (few1 _ _ hn) hl (star_cons hn) rfl) fun σ H Q ⟨P, env, O, s, q⟩ => ?_
  obtain ⟨ds, l, vs, e, e1, x, r, q⟩ := s.own_ (show PostG S W P H O σ ((ownR env i).bind _) _ from q)
  refine ⟨.ref l, e1, .inl ⟨rfl, vs, SqL.of x⟩, P, env, O, s, PostG.imp (PostG.bind q) fun d2 s2 H2 O2 _ _ _ ⟨x2, t2, p2⟩ v2 r2 => ?_⟩
  obtain ⟨ds2, l2, vs2, e2, e12, x2', rs2, p2⟩ := t2.own_ p2
  rw [e1] at e12; cases e12
  cases d2 with
  | int k =>
    cases r2
    have p2 : PostG S W P H2 O2 σ (if decide (-(2 ^ 62) ≤ k) && decide (k < 2 ^ 62) then (match ixN ds2.length k with
      | some k => match ds2[k]? with
        | some d => .ok d (s2.set i (.ow (.lst (ds2.eraseIdx k))))
        | none => .stuck
      | none => .stuck) else .stuck) fun d _ H' O' => ∀ v, Rep S.K H' (S.F O') d v → Q v H' := p2
    split at p2
    · rename_i hb
      simp only [Bool.and_eq_true, decide_eq_true_eq] at hb
      cases hj : ixN ds2.length k with
      | none => rw [hj] at p2; exact False.elim p2
      | some j =>
        rw [hj] at p2
        cases hd : ds2[j]? with
        | none => simp only [hd] at p2; exact False.elim p2
        | some d =>
          simp only [hd] at p2
          obtain ⟨l3, vs3, e3, x3, r3, k3⟩ := t2.write (es := ds2.eraseIdx j) e2
          rw [e1] at e3; cases e3
          obtain ⟨w, hw, rw'⟩ := r3.get hd
          obtain ⟨x4, t4, m4⟩ := k3 (vs3.eraseIdx j) (r3.eraseIdx j)
          obtain ⟨g1, g2, g3, g4⟩ := ixN_seq hj
          rw [r3.length] at g1
          exact ⟨l, vs3, k, j, w, rfl, rfl, x3, by omega, by omega, g1, hw, p2 _ _ x4 t4 w (rw'.mono m4)⟩
    · exact False.elim p2
  | _ => exact False.elim p2
end
end Rf

/-! Rg, part J: calls of defs. -/
namespace Rf
open PySem PySem.Spec PyProof.Rows L2

def FinK (S : Sit) (H : Hp) (O : Addr → Prop) (io : List Nat) (r : CR) (Q : VK) (E : XK) : Prop := match r with
  | .stuck => False
  | .ok d o => ∀ H' O' s σ' v, Ext H O H' O' → SR S [] H' O' s σ' → outs io s = some o → (if S.fr = true then Top S H' O' d v ∧ NewTop s σ' [] d v else Rep S.K H' (S.F O') d v) → Q v H'
  | .exc x o => ∀ cls dd H' O' s σ', Ext H O H' O' → SR S [] H' O' s σ' → outs io s = some o → RepX S x cls dd H' → E cls dd H'
def ioV (io : List Nat) (vs : List V) : List (Nat × V) := io.filterMap fun i => (vs[i]?).map fun v => (i, v)
/-- a def's promise: what g reckons is what it does. io: its in-out parameters; fr: its value is new; n: how many parameters; N: all its names -/
def spOf (K : PySem.W.Frag) (cls : Nat → Option Value) (g : List D → CR) (io : List Nat) (fr : Bool) (n : Nat) (N : List Str) : Sp := fun vs H Q E => vs.length = n ∧ ∃ G O ds, ds.length = n ∧
  SR ⟨K, cls, G, ioV io vs, fr⟩ [] H O (enterE io 0 ds ++ List.replicate (N.length - n) .no) (start N vs) ∧ FinK ⟨K, cls, G, ioV io vs, fr⟩ H O io (g ds) Q E

/-! ### the arguments -/
def ioPos : Nat → List Arg → List Nat
  | _, [] => []
  | n, .io _ :: as => n :: ioPos (n + 1) as
  | n, .e _ :: as => ioPos (n + 1) as
def ioSl : List Arg → List Nat
  | [] => []
  | .io i :: as => i :: ioSl as
  | .e _ :: as => ioSl as
theorem mem_ioPos : ∀ {as : List Arg} {n p : Nat}, p ∈ ioPos n as ↔ ∃ (q : Nat) (j : Nat), p = n + q ∧ as[q]? = some (Arg.io j)
  | [], n, p => by simp [ioPos]
  | .io i :: as, n, p => by
    simp only [ioPos, List.mem_cons, mem_ioPos (as := as)]
    constructor
    · rintro (rfl | ⟨q, j, rfl, e⟩)
      · exact ⟨0, i, rfl, rfl⟩
      · exact ⟨q + 1, j, by omega, by simpa using e⟩
    · rintro ⟨q, j, rfl, e⟩
      cases q with
      | zero => exact .inl rfl
      | succ q => exact .inr ⟨q, j, by omega, by simpa using e⟩
  | .e _ :: as, n, p => by
    simp only [ioPos, mem_ioPos (as := as)]
    constructor
    · rintro ⟨q, j, rfl, e⟩
      exact ⟨q + 1, j, by omega, by simpa using e⟩
    · rintro ⟨q, j, rfl, e⟩
      cases q with
      | zero => simp at e
      | succ q => exact ⟨q, j, by omega, by simpa using e⟩
theorem mem_ioSl : ∀ {as : List Arg} {i : Nat}, i ∈ ioSl as ↔ ∃ q : Nat, as[q]? = some (Arg.io i)
  | [], i => by simp [ioSl]
  | .io j :: as, i => by
    simp only [ioSl, List.mem_cons, mem_ioSl (as := as)]
    constructor
    · rintro (rfl | ⟨q, e⟩)
      · exact ⟨0, rfl⟩
      · exact ⟨q + 1, by simpa using e⟩
    · rintro ⟨q, e⟩
      cases q with
      | zero => simp at e; exact .inl e.symm
      | succ q => exact .inr ⟨q, by simpa using e⟩
  | .e _ :: as, i => by
    simp only [ioSl, mem_ioSl (as := as)]
    constructor
    · rintro ⟨q, e⟩
      exact ⟨q + 1, by simpa using e⟩
    · rintro ⟨q, e⟩
      cases q with
      | zero => simp at e
      | succ q => exact ⟨q, by simpa using e⟩
/-- an in-out slot stands at one place -/
theorem ioSl_inj : ∀ {as : List Arg} {i p q : Nat}, (ioSl as).Nodup → as[p]? = some (Arg.io i) → as[q]? = some (Arg.io i) → p = q
  | [], _, _, _, _, h, _ => by simp at h
  | .io j :: as, i, p, q, nd, hp, hq => by
    have nd := List.nodup_cons.mp (show (j :: ioSl as).Nodup from nd)
    cases p with
    | zero =>
      cases q with
      | zero => rfl
      | succ q =>
        simp at hp; subst hp
        exact absurd (mem_ioSl.mpr ⟨q, by simpa using hq⟩) nd.1
    | succ p =>
      cases q with
      | zero =>
        simp at hq; subst hq
        exact absurd (mem_ioSl.mpr ⟨p, by simpa using hp⟩) nd.1
      | succ q => exact congrArg Nat.succ (ioSl_inj nd.2 (by simpa using hp) (by simpa using hq))
  | .e _ :: as, i, p, q, nd, hp, hq => by
    cases p with
    | zero => simp at hp
    | succ p =>
      cases q with
      | zero => simp at hq
      | succ q => exact congrArg Nat.succ (ioSl_inj (as := as) nd (by simpa using hp) (by simpa using hq))

def ArgsR (K : PySem.W.Frag) (H : Hp) (F : Addr → Prop) (σ : L2.St) : List Arg → List D → List V → Prop
  | [], ds, vs => ds = [] ∧ vs = []
  | .io i :: as, ds, vs => ∃ v r, vs = v :: r ∧ σ[i]? = some (some v) ∧ ArgsR K H F σ as ds r
  | .e _ :: as, ds, vs => ∃ v r d e, vs = v :: r ∧ ds = d :: e ∧ Rep K H F d v ∧ ArgsR K H F σ as e r
def tAr (S : Sit) (C : Calls) (W : WX) (as : List Arg) : TA := fun σ H Q => ∃ P env O, SR S P H O env σ ∧ PostG S W P H O σ (evalA C as env) fun ds _ H' O' => ∀ vs, ArgsR S.K H' (S.F O') σ as ds vs → Q vs H'
section
variable {X : Cx} {S : Sit} {C : Calls} {W : WX} {pos : Pos} {a b c : E} {pa pb pc : Expr} {as : List Arg} {ps : List Expr}
theorem r_ar_nil : PA X [] (tAr S C W []) := PA.imp pa_nil fun σ H Q ⟨P, env, O, s, p⟩ => p H O (Ext.refl _ _) s [] ⟨rfl, rfl⟩
theorem r_ar_io {i : Nat} (ha : PE X pa (tVar i)) (hr : PA X ps (tAr S C W as)) (hn : nst pa = true) : PA X (pa :: ps) (tAr S C W (.io i :: as)) := by
  refine PA.imp (pa_cons ha hr (star_cons hn)) fun σ H Q ⟨P, env, O, s, p⟩ => ?_
  have p : PostG S W P H O σ ((slotR env i).bind fun _ s1 => (evalA C as s1).bind fun ds s => .ok ([] ++ ds) s) (fun ds _ H' O' => ∀ vs, ArgsR S.K H' (S.F O') σ (.io i :: as) ds vs → Q vs H') := by
    have e : evalA C (.io i :: as) env = (slotR env i).bind fun _ s1 => (evalA C as s1).bind fun ds s => .ok ([] ++ ds) s := by
      show ((slotR env i).bind fun _ s => R.ok [] s).bind (fun d s => (evalA C as s).bind fun ds s => .ok (d ++ ds) s) = _
      cases slotR env i <;> rfl
    rw [e] at p
    exact p
  obtain ⟨_, v, e1, _, p⟩ := s.slot p
  exact ⟨v, e1, P, env, O, s, PostG.imp (PostG.bind p) fun ds s1 H1 O1 _ _ _ ⟨x1, t1, p1⟩ vs r => p1 H1 O1 (Ext.refl _ _) t1 (v :: vs) ⟨v, vs, rfl, e1, r⟩⟩
theorem ArgsR.mono {K : PySem.W.Frag} {H H' : Hp} {F F' : Addr → Prop} {σ : L2.St} (m : Mono H F H' F') : ∀ {as : List Arg} {ds : List D} {vs : List V}, ArgsR K H F σ as ds vs → ArgsR K H' F' σ as ds vs
  | [], _, _, h => h
  | .io _ :: as, _, _, ⟨v, r, e, e1, h⟩ => ⟨v, r, e, e1, h.mono m⟩
  | .e _ :: as, _, _, ⟨v, r, d, e, e1, e2, h1, h⟩ => ⟨v, r, d, e, e1, e2, h1.mono m, h.mono m⟩
theorem r_ar_e (ha : PE X pa (tD S C W a)) (hr : PA X ps (tAr S C W as)) (hn : nst pa = true) : PA X (pa :: ps) (tAr S C W (.e a :: as)) := by
  refine PA.imp (pa_cons ha hr (star_cons hn)) fun σ H Q ⟨P, env, O, s, p⟩ => ?_
  have p : PostG S W P H O σ ((evalE C a env).bind fun d s1 => (evalA C as s1).bind fun ds s => .ok ([d] ++ ds) s) (fun ds _ H' O' => ∀ vs, ArgsR S.K H' (S.F O') σ (.e a :: as) ds vs → Q vs H') := by
    have e : evalA C (.e a :: as) env = (evalE C a env).bind fun d s1 => (evalA C as s1).bind fun ds s => .ok ([d] ++ ds) s := by
      show ((evalE C a env).bind fun d s => R.ok [d] s).bind (fun d s => (evalA C as s).bind fun ds s => .ok (d ++ ds) s) = _
      cases evalE C a env <;> rfl
    rw [e] at p
    exact p
  exact ⟨P, env, O, s, PostG.imp (PostG.bind p) fun d s1 H1 O1 _ _ _ ⟨x1, t1, p1⟩ v r => ⟨P, s1, O1, t1, PostG.imp (PostG.bind p1) fun ds s2 H2 O2 _ _ _ ⟨x2, t2, p2⟩ vs rs => p2 H2 O2 (Ext.refl _ _) t2 (v :: vs) ⟨v, vs, d, ds, rfl, rfl, r.mono x2.mono, rs⟩⟩⟩
end
/-- what stands at each place -/
theorem args_at {K : PySem.W.Frag} {H : Hp} {F : Addr → Prop} {σ : L2.St} {s : Env} : ∀ {as : List Arg} {ds es : List D} {vs : List V}, ArgsR K H F σ as ds vs → fillA as ds s = some es → vs.length = as.length ∧ es.length = as.length ∧
    (∀ (p i : Nat), as[p]? = some (Arg.io i) → ∃ v d, vs[p]? = some v ∧ es[p]? = some d ∧ σ[i]? = some (some v) ∧ s[i]? = some (Sl.ow d) ∧ isC d = true) ∧ (∀ (p : Nat) (e : E), as[p]? = some (Arg.e e) → ∃ v d, vs[p]? = some v ∧ es[p]? = some d ∧ Rep K H F d v)
  | [], _, _, _, ⟨e1, e2⟩, h => by
    subst e1 e2
    simp only [fillA] at h
    cases h
    exact ⟨rfl, rfl, fun p i h => by simp at h, fun p i h => by simp at h⟩
  | .io j :: as, ds, es, _, ⟨v, r, e, e1, q⟩, h => by
    subst e
    simp only [fillA] at h
    split at h
    · rename_i d ed
      split at h
      · rename_i hc
        obtain ⟨es', he, rfl⟩ := Option.map_eq_some_iff.mp h
        obtain ⟨l1, l2, a1, a2⟩ := args_at q he
        refine ⟨by simp [l1], by simp [l2], fun p i hp => ?_, fun p e hp => ?_⟩
        · cases p with
          | zero =>
            simp at hp; subst hp
            exact ⟨v, d, rfl, rfl, e1, ed, hc⟩
          | succ p => simpa using a1 p i (by simpa using hp)
        · cases p with
          | zero => simp at hp
          | succ p => simpa using a2 p e (by simpa using hp)
      · cases h
    · cases h
  | .e _ :: as, _, es, _, ⟨v, r, d, ds, e1, e2, rp, q⟩, h => by
    subst e1 e2
    simp only [fillA] at h
    obtain ⟨es', he, rfl⟩ := Option.map_eq_some_iff.mp h
    obtain ⟨l1, l2, a1, a2⟩ := args_at q he
    refine ⟨by simp [l1], by simp [l2], fun p i hp => ?_, fun p e hp => ?_⟩
    · cases p with
      | zero => simp at hp
      | succ p => simpa using a1 p i (by simpa using hp)
    · cases p with
      | zero => exact ⟨v, d, rfl, rfl, rp⟩
      | succ p => simpa using a2 p e (by simpa using hp)
theorem enterE_len (io : List Nat) : ∀ (ds : List D) (k : Nat), (enterE io k ds).length = ds.length
  | [], _ => rfl
  | d :: ds, k => by simp [enterE, enterE_len io ds]
theorem enterE_at (io : List Nat) : ∀ (ds : List D) (k p : Nat), (enterE io k ds)[p]? = (ds[p]?).map fun d => if io.contains (k + p) then Sl.ow d else Sl.sh d
  | [], _, p => by simp [enterE]
  | d :: ds, k, 0 => by simp [enterE]
  | d :: ds, k, p + 1 => by
    simp only [enterE, List.getElem?_cons_succ]
    rw [enterE_at io ds (k + 1) p, show k + 1 + p = k + (p + 1) by omega]
theorem putA_len : ∀ (as : List Arg) (o : List D) (s : Env), (putA as o s).length = s.length
  | [], _, _ => rfl
  | .io i :: as, d :: ds, s => by simp [putA, putA_len as ds]
  | .io _ :: _, [], s => rfl
  | .e _ :: as, ds, s => by simp [putA, putA_len as ds]
/-- behind a call: another slot is as it was -/
theorem putA_out : ∀ {as : List Arg} {o : List D} {s : Env} {j : Nat}, j ∉ ioSl as → (putA as o s)[j]? = s[j]?
  | [], _, _, _, _ => rfl
  | .io i :: as, d :: ds, s, j, h => by
    simp only [ioSl, List.mem_cons, not_or] at h
    simp only [putA]
    rw [putA_out h.2, List.getElem?_set_ne (Ne.symm h.1)]
  | .io _ :: _, [], s, _, _ => rfl
  | .e _ :: as, ds, s, j, h => by
    simp only [putA]
    exact putA_out (as := as) h
/-- an in-out slot holds what the callee's parameter holds -/
theorem putA_at {s' : Env} : ∀ {as : List Arg} {n : Nat} {o : List D} {s : Env} {p i : Nat}, (ioSl as).Nodup → outs (ioPos n as) s' = some o → as[p]? = some (Arg.io i) → i < s.length → ∃ d, s'[n + p]? = some (Sl.ow d) ∧ isC d = true ∧ (putA as o s)[i]? = some (Sl.ow d)
  | [], _, _, _, _, _, _, _, h, _ => by simp at h
  | .io j :: as, n, o, s, p, i, nd, ho, hp, hi => by
    have nd := List.nodup_cons.mp (show (j :: ioSl as).Nodup from nd)
    simp only [ioPos, outs, mapM] at ho
    obtain ⟨d, hd, ho⟩ := Option.bind_eq_some_iff.mp ho
    obtain ⟨o', ho', rfl⟩ := Option.map_eq_some_iff.mp ho
    have hd' : s'[n]? = some (Sl.ow d) ∧ isC d = true := by
      split at hd
      · rename_i d' e
        split at hd
        · rename_i hc; cases hd; exact ⟨e, hc⟩
        · cases hd
      · cases hd
    cases p with
    | zero =>
      simp at hp; subst hp
      refine ⟨d, hd'.1, hd'.2, ?_⟩
      simp only [putA]
      rw [putA_out nd.1, List.getElem?_set_self hi]
    | succ p =>
      obtain ⟨d2, h1, h2, h3⟩ := putA_at (as := as) (n := n + 1) (s := s.set j (Sl.ow d)) nd.2 ho' (by simpa using hp) (by rw [List.length_set]; exact hi)
      exact ⟨d2, by rw [show n + (p + 1) = n + 1 + p by omega]; exact h1, h2, h3⟩
  | .e _ :: as, n, o, s, p, i, nd, ho, hp, hi => by
    cases p with
    | zero => simp at hp
    | succ p =>
      obtain ⟨d2, h1, h2, h3⟩ := putA_at (as := as) (n := n + 1) (s := s) nd ho (by simpa using hp) hi
      exact ⟨d2, by rw [show n + (p + 1) = n + 1 + p by omega]; exact h1, h2, h3⟩
end Rf

/-! Rg, part K: what a call leaves. -/
namespace Rf
open PySem PySem.Spec PyProof.Rows L2
theorem start_at {N : List Str} {vs : List V} {i : Nat} {v : V} (h : vs[i]? = some v) : (start N vs)[i]? = some (some v) := by
  unfold L2.start
  have hi := (List.getElem?_eq_some_iff.mp h).1
  rw [List.getElem?_append_left (by rw [List.length_map]; exact hi), List.getElem?_map, h]
  rfl
theorem start_len {N : List Str} {vs : List V} (h : vs.length ≤ N.length) : (start N vs).length = N.length := by
  unfold L2.start
  rw [List.length_append, List.length_map, List.length_replicate]; omega
/-- the slots at a def's entry -/
theorem enter_sl {io : List Nat} {ds : List D} {m i : Nat} {sl : Sl} (h : (enterE io 0 ds ++ List.replicate m Sl.no)[i]? = some sl) : sl = .no ∨ ∃ d, ds[i]? = some d ∧ sl = if io.contains i then Sl.ow d else Sl.sh d := by
  by_cases hi : i < ds.length
  · rw [List.getElem?_append_left (by rw [enterE_len]; exact hi), enterE_at] at h
    obtain ⟨d, hd, rfl⟩ := Option.map_eq_some_iff.mp h
    exact .inr ⟨d, hd, by rw [Nat.zero_add]⟩
  · rw [List.getElem?_append_right (by rw [enterE_len]; omega)] at h
    exact .inl (List.mem_replicate.mp (List.mem_of_getElem? h)).2
def FrK (S : Sit) (fr : Bool) (P : Pd) (s : Env) (σ : L2.St) (d : D) (v : V) (H' : Hp) (O' : Addr → Prop) : Prop := if fr = true then Top S H' O' d v ∧ NewTop s σ P d v else Rep S.K H' (S.F O') d v
theorem call_core {S : Sit} {W : WX} {P : Pd} {H : Hp} {O : Addr → Prop} {env : Env} {σ : L2.St} {as : List Arg} {ds es : List D} {vs : List V} {g : List D → CR} {fr : Bool} {N : List Str} {Q : VK} (s : SR S P H O env σ)
    (r : ArgsR S.K H (S.F O) σ as ds vs) (hf : fillA as ds env = some es) (nd : (ioSl as).Nodup) (hN : as.length ≤ N.length)
    (h : PostG S W P H O σ (match g es with
      | .ok d outs => R.ok d (putA as outs env)
      | .exc x outs => .exc x (putA as outs env)
      | .stuck => .stuck) fun d s' H' O' => ∀ v, FrK S fr P s' σ d v H' O' → Q v H') :
    spOf S.K S.cls g (ioPos 0 as) fr as.length N vs H Q (WE W σ) := by
  obtain ⟨l1, l2, atI, atE⟩ := args_at r hf
  let Oc : Addr → Prop := fun a => O a ∧ ∃ i, i ∈ ioSl as ∧ σ[i]? = some (some (.ref a))
  let G' : Addr → Prop := fun a => S.G a ∨ (O a ∧ ¬ Oc a)
  let S' : Sit := ⟨S.K, S.cls, G', ioV (ioPos 0 as) vs, fr⟩
  have fsub : ∀ a, S'.F Oc a → S.F O a := fun a q => by
    rcases q with (q | q) | q
    · exact .inl q
    · exact .inr q.1
    · exact .inr q.1
  have isIo : ∀ {p : Nat}, (ioPos 0 as).contains p = true ↔ ∃ j : Nat, as[p]? = some (Arg.io j) := fun {p} => by
    rw [List.contains_iff_mem, mem_ioPos]
    constructor
    · rintro ⟨q, j, e, h⟩
      exact ⟨j, by rw [e, Nat.zero_add]; exact h⟩
    · rintro ⟨j, h⟩
      exact ⟨p, j, by omega, h⟩
  -- an in-out argument's root
  have rootI : ∀ {p i : Nat}, as[p]? = some (Arg.io i) → ∃ l d, es[p]? = some d ∧ vs[p]? = some (.ref l) ∧ σ[i]? = some (some (.ref l)) ∧ env[i]? = some (Sl.ow d) ∧ isC d = true ∧ Oc l ∧ rt env σ P (.inl i) = some (.ref l) ∧ Top S H O d (.ref l) := fun {p i} hp => by
    obtain ⟨v, d, h1, h2, h3, h4, h5⟩ := atI p i hp
    obtain ⟨w, e1, t⟩ := s.ow i d h4
    rw [h3] at e1; cases e1
    obtain ⟨l, us, rfl, o, _, _, _⟩ := (top_C h5).mp t
    exact ⟨l, _, h2, h1, h3, h4, h5, ⟨o, i, mem_ioSl.mpr ⟨p, hp⟩, h3⟩, rt_inl.mpr ⟨_, h4, h5, h3⟩, t⟩
  have srt : SR S' [] H Oc (enterE (ioPos 0 as) 0 es ++ List.replicate (N.length - as.length) .no) (start N vs) := by
    refine ⟨?_, fun a q => s.own a (fsub a q), fun a q k => ?_, fun p d e => ?_, fun p d e => ?_, fun p hp => (nomatch hp), fun x y v h1 h2 => ?_, fun p hp => ?_⟩
    · rw [List.length_append, enterE_len, List.length_replicate, start_len (by omega)]; omega
    · rcases q with q | q
      · exact s.dis a q k.1
      · exact q.2 k
    · rcases enter_sl e with e | ⟨d', hd, e⟩
      · cases e
      · have hlt : p < as.length := by rw [← l2]; exact (List.getElem?_eq_some_iff.mp hd).1
        cases ha : as[p] with
        | io j =>
          have hc : (ioPos 0 as).contains p = true := isIo.mpr ⟨j, by rw [List.getElem?_eq_getElem hlt, ha]⟩
          rw [if_pos hc] at e; cases e
        | e x =>
          obtain ⟨v, d2, h1, h2, h3⟩ := atE p x (by rw [List.getElem?_eq_getElem hlt, ha])
          rw [hd] at h2; cases h2
          have hd' : d = d' := by
            split at e
            · cases e
            · cases e; rfl
          subst hd'
          exact ⟨v, start_at h1, h3.mono (Mono.sub fsub)⟩
    · rcases enter_sl e with e | ⟨d', hd, e⟩
      · cases e
      · split at e
        · rename_i hc
          cases e
          obtain ⟨j, hj⟩ := isIo.mp hc
          obtain ⟨l, d2, h1, h2, h3, h4, h5, h6, h7, t⟩ := rootI hj
          rw [hd] at h1; cases h1
          refine ⟨_, start_at h2, ?_⟩
          obtain ⟨b, us, e, o, gb, xb, rb⟩ := (top_C h5).mp t
          cases e
          exact (top_C h5).mpr ⟨l, us, rfl, h6, fun q => q.elim gb fun q => q.2 h6, xb, rb.mono (Mono.sub fsub)⟩
        · cases e
    · have key : ∀ {x v}, rt (enterE (ioPos 0 as) 0 es ++ List.replicate (N.length - as.length) .no) (start N vs) [] x = some v → ∃ p i l, x = .inl p ∧ v = .ref l ∧ as[p]? = some (Arg.io i) ∧ rt env σ P (.inl i) = some (.ref l) := fun {x v} h1 => by
        cases x with
        | inr j => obtain ⟨d, e, _⟩ := rt_inr.mp h1; simp at e
        | inl p =>
          obtain ⟨d, e, c, e2⟩ := rt_inl.mp h1
          rcases enter_sl e with e | ⟨d', hd, e⟩
          · cases e
          · split at e
            · rename_i hc
              obtain ⟨j, hj⟩ := isIo.mp hc
              obtain ⟨l, d2, h1, h2, h3, h4, h5, h6, h7, t⟩ := rootI hj
              rw [start_at h2] at e2; cases e2
              exact ⟨p, j, l, rfl, rfl, hj, h7⟩
            · cases e
      obtain ⟨p, i, l, rfl, rfl, h3, h4⟩ := key h1
      obtain ⟨q, j, l2, rfl, e, h5, h6⟩ := key h2
      cases e
      have := s.ne _ _ _ h4 h6
      cases this
      rw [ioSl_inj nd h3 h5]
    · obtain ⟨i, hi, e⟩ := List.mem_filterMap.mp hp
      obtain ⟨v, hv, rfl⟩ := Option.map_eq_some_iff.mp e
      exact start_at hv
  refine ⟨l1, G', Oc, es, l2, srt, ?_⟩
  -- behind
  have fsub2 : ∀ {O2 : Addr → Prop}, (∀ a, O2 a → O a) → True := fun _ => trivial
  have keepG : ∀ {H' : Hp} {O' : Addr → Prop}, Ext H Oc H' O' → ∀ a o, H a = some o → ¬ Oc a → H' a = some o := fun x a o e n => x.keep a o e n
  -- the caller's state behind the call, R: what joins the owned
  have back : ∀ {H' : Hp} {O' : Addr → Prop} {s' : Env} {σ' : L2.St} {o : List D} (R : Addr → Prop), Ext H Oc H' O' → SR S' [] H' O' s' σ' → outs (ioPos 0 as) s' = some o → (∀ a, R a → O' a ∧ ¬ G' a) →
      Ext H O H' (fun a => O a ∨ R a) ∧ SR S P H' (fun a => O a ∨ R a) (putA as o env) σ ∧ (∀ a, S.F (fun a => O a ∨ R a) a → S'.F O' a) ∧ (∀ x l, rt (putA as o env) σ P x = some (.ref l) → R l → ∃ p : Nat, rt s' σ' [] (.inl p) = some (.ref l)) := by
    intro H' O' s' σ' o R x t ho hR
    -- a parameter behind the call
    have par : ∀ {p i : Nat}, as[p]? = some (Arg.io i) → ∃ l d, σ[i]? = some (some (.ref l)) ∧ rt env σ P (.inl i) = some (.ref l) ∧ isC d = true ∧ (putA as o env)[i]? = some (Sl.ow d) ∧ Top S' H' O' d (.ref l) ∧ rt s' σ' [] (.inl p) = some (.ref l) := fun {p i} hp => by
      obtain ⟨l, d2, h1, h2, h3, h4, h5, h6, h7, _⟩ := rootI hp
      obtain ⟨d, k1, k2, k3⟩ := putA_at (s := env) nd ho hp (List.getElem?_eq_some_iff.mp h4).1
      rw [Nat.zero_add] at k1
      obtain ⟨w, e1, tp⟩ := t.ow p d k1
      have e2 : σ'[p]? = some (some (.ref l)) := t.io (p, .ref l) (List.mem_filterMap.mpr ⟨p, mem_ioPos.mpr ⟨p, i, by omega, hp⟩, by rw [h2]; rfl⟩)
      rw [e2] at e1; cases e1
      exact ⟨l, _, h3, h7, k2, k3, tp, rt_inl.mpr ⟨_, k1, k2, e2⟩⟩
    have ocO : ∀ {l : Addr}, Oc l → O' l ∧ H' l ≠ none := fun {l} ⟨_, i, hi, e⟩ => by
      obtain ⟨p, hp⟩ := mem_ioSl.mp hi
      obtain ⟨l2, d, e1, _, cd, _, tp, _⟩ := par hp
      obtain ⟨b, us, e3, ob, _, xb, _⟩ := (top_C cd).mp tp
      rw [e] at e1; cases e1; cases e3
      exact ⟨ob, xb.mem⟩
    have fin : ∀ a, S.F (fun a => O a ∨ R a) a → S'.F O' a := fun a q => by
      rcases q with q | q | q
      · exact .inl (.inl q)
      · by_cases hc : Oc a
        · exact .inr (ocO hc).1
        · exact .inl (.inr ⟨q, hc⟩)
      · exact .inr (hR a q).1
    have x2 : Ext H O H' (fun a => O a ∨ R a) := ⟨fun a ob e n => x.keep a ob e fun q => n q.1, fun a q => by
      rcases q with q | q
      · exact .inl q
      · rcases x.new a (hR a q).1 with q | q
        · exact .inl q.1
        · exact .inr q⟩
    have m : Mono H (S.F O) H' (S.F fun a => O a ∨ R a) := x2.mono
    -- another owned container
    have other : ∀ {d : D} {v : V}, Top S H O d v → (isC d = true → ∀ i, i ∈ ioSl as → σ[i]? ≠ some (some v)) → Top S H' (fun a => O a ∨ R a) d v := fun {d v} tp n => by
      cases hc : isC d with
      | false => rw [top_notC hc] at tp ⊢; exact tp.mono m
      | true =>
        obtain ⟨b, us, rfl, ob, gb, xb, rb⟩ := (top_C hc).mp tp
        exact (top_C hc).mpr ⟨b, us, rfl, .inl ob, gb, xb.keep fun o eo => x.keep b o eo fun q => let ⟨_, i, hi, e⟩ := q; n hc i hi e, rb.mono m⟩
    have rootback : ∀ {y : Nat ⊕ Nat} {w : V}, rt (putA as o env) σ P y = some w → rt env σ P y = some w := fun {y w} h1 => by
      cases y with
      | inr j => exact h1
      | inl j =>
        obtain ⟨d, q1, q2, q3⟩ := rt_inl.mp h1
        by_cases hj : j ∈ ioSl as
        · obtain ⟨p, hp⟩ := mem_ioSl.mp hj
          obtain ⟨l, d', e1, e2, _, _, _, _⟩ := par hp
          rw [q3] at e1; cases e1
          exact e2
        · rw [putA_out hj] at q1
          exact rt_inl.mpr ⟨d, q1, q2, q3⟩
    refine ⟨x2, ⟨by rw [putA_len]; exact s.len, fun a q => ?_, fun a q k => ?_, fun j d e => ?_, fun j d e => ?_, fun p hp => ?_, fun y z w h1 h2 => s.ne y z w (rootback h1) (rootback h2), s.io⟩, fin, fun y l h1 hl => ?_⟩
    · have base : S.G a ∨ O a → H' a ≠ none := fun q => by
        by_cases hc : Oc a
        · exact (ocO hc).2
        · cases e : H a with
          | none => exact absurd e (s.own a q)
          | some ob => rw [x.keep a ob e hc]; simp
      rcases q with q | q | q
      · exact base (.inl q)
      · exact base (.inr q)
      · exact t.own a (.inr (hR a q).1)
    · rcases k with k | k
      · exact s.dis a q k
      · exact (hR a k).2 (.inl q)
    · by_cases hj : j ∈ ioSl as
      · obtain ⟨p, hp⟩ := mem_ioSl.mp hj
        obtain ⟨l, d', e1, e2, _, e3, _, _⟩ := par hp
        rw [e3] at e; cases e
      · rw [putA_out hj] at e
        obtain ⟨w, e1, q⟩ := s.sh j d e
        exact ⟨w, e1, q.mono m⟩
    · by_cases hj : j ∈ ioSl as
      · obtain ⟨p, hp⟩ := mem_ioSl.mp hj
        obtain ⟨l, d', e1, e2, cd, e3, tp, _⟩ := par hp
        rw [e3] at e; cases e
        refine ⟨_, e1, ?_⟩
        obtain ⟨b, us, eb, ob, gb, xb, rb⟩ := (top_C cd).mp tp
        cases eb
        obtain ⟨ds0, b0, us0, eb0, ob0, gb0, _⟩ := s.root e2
        cases eb0
        exact (top_C cd).mpr ⟨l, us, rfl, .inl ob0, gb0, xb, rb.mono (Mono.sub fin)⟩
      · rw [putA_out hj] at e
        obtain ⟨w, e1, q⟩ := s.ow j d e
        refine ⟨w, e1, other q fun c i hi e2 => ?_⟩
        obtain ⟨p, hp⟩ := mem_ioSl.mp hi
        obtain ⟨l, d', k1, k2, _, _, _, _⟩ := par hp
        rw [e2] at k1; cases k1
        have := s.ne _ _ _ k2 (rt_inl.mpr ⟨d, e, c, e1⟩)
        cases this
        exact hj hi
    · refine other (s.pd p hp) fun c i hi e2 => ?_
      obtain ⟨q, hq⟩ := mem_ioSl.mp hi
      obtain ⟨l, d', k1, k2, _, _, _, _⟩ := par hq
      rw [e2] at k1
      obtain ⟨j, hj, ej⟩ := List.mem_iff_getElem.mp hp
      have e3 : p.2 = .ref l := by simpa using k1
      have := s.ne _ _ _ k2 (show rt env σ P (.inr j) = some (.ref l) from rt_inr.mpr ⟨p.1, by rw [List.getElem?_eq_getElem hj, ej, ← e3], c⟩)
      cases this
    · cases y with
      | inl j =>
        by_cases hj : j ∈ ioSl as
        · obtain ⟨p, hp⟩ := mem_ioSl.mp hj
          obtain ⟨l2, d', e1, e2, _, e3, _, e5⟩ := par hp
          have := rootback h1
          rw [e2] at this; cases this
          exact ⟨p, e5⟩
        · have h0 := rootback h1
          obtain ⟨ds0, b0, us0, eb0, ob0, gb0, _⟩ := s.root h0
          cases eb0
          refine absurd (.inr ⟨ob0, fun q => ?_⟩) (hR l hl).2
          obtain ⟨_, i, hi, e⟩ := q
          obtain ⟨p, hp⟩ := mem_ioSl.mp hi
          obtain ⟨l2, d', k1, k2, _, _, _, _⟩ := par hp
          rw [e] at k1; cases k1
          have := s.ne _ _ _ k2 h0
          cases this
          exact hj hi
      | inr j =>
        have h1 : rt env σ P (.inr j) = some (.ref l) := h1
        obtain ⟨ds0, b0, us0, eb0, ob0, gb0, _⟩ := s.root h1
        cases eb0
        refine absurd (.inr ⟨ob0, fun q => ?_⟩) (hR l hl).2
        obtain ⟨_, i, hi, e⟩ := q
        obtain ⟨p, hp⟩ := mem_ioSl.mp hi
        obtain ⟨l2, d', k1, k2, _, _, _, _⟩ := par hp
        rw [e] at k1; cases k1
        have := s.ne _ _ _ k2 (show rt env σ P (.inr j) = some (.ref l) from h1)
        cases this
  cases hg : g es with
  | stuck => rw [hg] at h; exact h
  | ok d o =>
    rw [hg] at h
    intro H' O' s' σ' v x t ho hv
    cases fr with
    | false =>
      obtain ⟨x2, t2, fin, _⟩ := back (fun _ => False) x t ho fun a q => q.elim
      refine h H' _ x2 t2 v ?_
      have hv : Rep S.K H' (S'.F O') d v := hv
      exact hv.mono (Mono.sub fin)
    | true =>
      have hv : Top S' H' O' d v ∧ NewTop s' σ' [] d v := hv
      obtain ⟨tp, nt⟩ := hv
      cases hc : isC d with
      | false =>
        obtain ⟨x2, t2, fin, _⟩ := back (fun _ => False) x t ho fun a q => q.elim
        refine h H' _ x2 t2 v ⟨?_, fun c => by rw [hc] at c; cases c⟩
        rw [top_notC hc] at tp ⊢
        exact tp.mono (Mono.sub fin)
      | true =>
        obtain ⟨b, us, rfl, ob, gb, xb, rb⟩ := (top_C hc).mp tp
        obtain ⟨x2, t2, fin, hn⟩ := back (fun a => a = b) x t ho fun a q => by rw [q]; exact ⟨ob, gb⟩
        refine h H' _ x2 t2 (.ref b) ⟨(top_C hc).mpr ⟨b, us, rfl, .inr rfl, fun q => gb (.inl q), xb, rb.mono (Mono.sub fin)⟩, fun c y hy => ?_⟩
        obtain ⟨p, hp⟩ := hn y b hy rfl
        exact nt hc _ hp
  | exc y o =>
    rw [hg] at h
    intro cls dd H' O' s' σ' x t ho hx
    obtain ⟨x2, t2, fin, _⟩ := back (fun _ => False) x t ho fun a q => q.elim
    refine h cls dd H' _ x2 t2 ?_
    unfold RepX at *
    exact hx
end Rf
namespace Rf
open PySem PySem.Spec PyProof.Rows L2
def tDk (fr : Bool) (S : Sit) (C : Calls) (W : WX) (e : E) : TE := fun σ H Q => ∃ P env O, SR S P H O env σ ∧ PostG S W P H O σ (evalE C e env) fun d s H' O' => ∀ v, FrK S fr P s σ d v H' O' → Q v H'
section
variable {X : Cx} {S : Sit} {C : Calls} {W : WX} {pos p : Pos} {as : List Arg} {ps : List Expr} {k j n : Nat} {f : Addr} {x : Str} {fd : FuncData} {psN N : List Str} {io : List Nat} {fr : Bool}
/-- what a def whose function object is at f does, at the level k -/
structure Callee (X : Cx) (S : Sit) (C : Calls) (k j : Nat) (x : Str) (n : Nat) (io : List Nat) (fr : Bool) : Prop where
  ex : ∃ (f : Addr) (fd : FuncData) (psN N : List Str), X.mg x = some (.ref f) ∧ PySem.W.keepIn X.K (.ref f) = true ∧ Binds X.K fd psN [] ∧ n ≤ N.length ∧ FnOk X.prog X.w X.K X.mg X.base (L2.CX X.prog X.w) k f fd psN (spOf X.K S.cls (C.fn j) io fr n N)
theorem call_main (hK : S.K = X.K) (hn : n = as.length) (hio : io = ioPos 0 as) (nd : (ioSl as).Nodup) (hN : n ≤ N.length) (σ : L2.St) (H : Hp) (Q : VK) (h : tDk fr S C W (.call j as) σ H Q) :
    tCallSD (spOf X.K S.cls (C.fn j) io fr n N) [] (WE W) (tAr S C W as) σ H Q := by
  subst hn hio
  obtain ⟨P, env, O, s, q⟩ := h
  exact ⟨P, env, O, s, PostG.imp (PostG.bind (show PostG S W P H O σ ((evalA C as env).bind _) _ from q)) fun ds s1 H1 O1 _ _ _ ⟨x1, t1, p1⟩ vs r => by
    obtain ⟨es, hf, p2⟩ := PostG.optBind p1
    rw [List.append_nil, ← hK]
    exact call_core t1 r hf nd hN p2⟩
theorem r_call {e : Expr} (hK : S.K = X.K) (tk : Takes X W) (hr : Room k X.A) (hg : Gl X x) (hdb : (x == ("__debug__" : Str)) = false) (F : Callee X S C k j x n io fr) (hn : n = as.length) (hio : io = ioPos 0 as) (nd : (ioSl as).Nodup) (ha : PA X (e :: ps) (tAr S C W as)) (hs : (e :: ps).all nst = true) :
    PE X (.Call (.Name x p) (e :: ps) [] pos) (tDk fr S C W (.call j as)) := by
  obtain ⟨f, fd, psN, N, hm, hk, hb, hN, F⟩ := F.ex
  rw [List.all_cons, Bool.and_eq_true] at hs
  exact PE.imp (pe_callSD F hr hg hm hk hb .nil (fun σ => passAt tk σ) ha hdb (star_cons hs.1) (star_none hs.2)) (call_main hK hn hio nd hN)
theorem r_call0 (hK : S.K = X.K) (tk : Takes X W) (hr : Room k X.A) (hg : Gl X x) (hdb : (x == ("__debug__" : Str)) = false) (F : Callee X S C k j x 0 io fr) (hio : io = []) :
    PE X (.Call (.Name x p) [] [] pos) (tDk fr S C W (.call j [])) := by
  obtain ⟨f, fd, psN, N, hm, hk, hb, hN, F⟩ := F.ex
  refine ⟨fun pins s σ H Q I h => ?_⟩
  refine wpAny_Call_Name_kw (ld_glob I hg hm ?_ hdb)
  obtain ⟨P, env, O, t, q⟩ := call_main (as := []) hK rfl hio List.nodup_nil hN σ H Q h
  exact PySem.W.callWith_K0 I.kIn hk (run_fnSD (us := []) F hr hb .nil (passAt tk σ) I .nil (q H O (Ext.refl _ _) t [] ⟨rfl, rfl⟩))
end
end Rf

/-! Rg, part K1: instances of own classes: made, their attributes, isinstance, == by an own __eq__. -/
namespace Rf
open PySem PySem.Spec PyProof.Rows L2
/-! ### attributes -/
/-- what of the text a class must have -/
structure ClsF (K : PySem.W.Frag) (x : Str) (ns : List Str) : Prop where
  cl : Cls K (He.ga K x)
  no : ∀ f ∈ ns, NoAttr K (He.ga K x) f
  ha : PySem.W.findIn K (.ref (He.ga K x)) "__class__" = some (some (.builtin "object.__class__"))
  hn : PySem.W.specialIn K (.builtin "object.__class__") "__get__" = some (some (.builtin "getset_descriptor.__get__"))
  htk : PySem.W.takesIn K (.builtin "object.__class__") = some true
  hm : PySem.W.mroIn K (He.ga K x) (.type "object") = some true
def clsB (K : PySem.W.Frag) (x : Str) (ns : List Str) : Bool := PySem.W.plainGet K (He.ga K x) Str.empty && PySem.W.hasDictIn K (He.ga K x) && PySem.W.plainOver K (He.ga K x) && He.eqO (PySem.W.findIn K (.ref (He.ga K x)) "__setattr__") (some (some (.builtin "object.__setattr__"))) &&
  (ns.all fun f => He.eqO (PySem.W.findIn K (.ref (He.ga K x)) f) (some none)) && He.eqO (PySem.W.findIn K (.ref (He.ga K x)) "__class__") (some (some (.builtin "object.__class__"))) &&
  He.eqO (PySem.W.specialIn K (.builtin "object.__class__") "__get__") (some (some (.builtin "getset_descriptor.__get__"))) && decide (PySem.W.takesIn K (.builtin "object.__class__") = some true) && decide (PySem.W.mroIn K (He.ga K x) (.type "object") = some true)
theorem clsB_ok {K : PySem.W.Frag} {x : Str} {ns : List Str} (h : clsB K x ns = true) : ClsF K x ns := by
  unfold clsB at h
  simp only [Bool.and_eq_true, decide_eq_true_eq] at h
  obtain ⟨⟨⟨⟨⟨⟨⟨⟨h1, h2⟩, h3⟩, h4⟩, h5⟩, h6⟩, h7⟩, h8⟩, h9⟩ := h
  exact ⟨⟨h1, h2, h3, He.eqO_ok h4⟩, fun f hf => He.eqO_ok (List.all_eq_true.mp h5 f hf), He.eqO_ok h6, He.eqO_ok h7, h8, h9⟩
theorem fget_zip {K : PySem.W.Frag} {H : Hp} {F : Addr → Prop} {f : Str} {d : D} : ∀ {ns : List Str} {ds : List D} {vs : List V}, Reps K H F ds vs → fget ns ds f = some d → ∃ v, (ns.zip vs).lookup f = some v ∧ Rep K H F d v
  | [], _, _, _, h => by simp [fget] at h
  | n :: ns, [], _, _, h => by simp [fget] at h
  | n :: ns, e :: ds, _, ⟨v, r, e1, h1, t⟩, h => by
    subst e1
    simp only [fget] at h
    rw [List.zip_cons_cons, List.lookup_cons]
    split at h
    · rename_i q
      cases h
      subst q
      exact ⟨v, by simp, h1⟩
    · rename_i q
      rw [show (f == n) = false from beq_eq_false_iff_ne.mpr q]
      exact fget_zip t h
section
variable {X : Cx} {S : Sit} {C : Calls} {W : WX} {pos : Pos} {a b c : E} {pa pb pc : Expr}
theorem r_fld {b : Rf.O} {xs : List Str} {f : Str} (hK : S.K = X.K) (hx : ∀ x ∈ xs, Cls X.K (He.ga X.K x) ∧ NoAttr X.K (He.ga X.K x) f) (ha : PE X pa (tDv S C W b)) (hb : nbase pa = true) : PE X (.Attribute pa f pos) (tD S C W (.fld b xs f)) := by
  refine PE.imp (pe_fld ha (nbase_ok hb _ _ _)) fun σ H Q ⟨P, env, O, s, q⟩ => ⟨P, env, O, s, PostG.imp (PostG.bind (show PostG S W P H O σ ((evalV C b env).bind _) _ from q)) fun d s1 H1 O1 _ _ _ ⟨x1, t1, p1⟩ v r => ?_⟩
  obtain ⟨x, ns, fs, rfl⟩ : ∃ x ns fs, d = .ins x ns fs := by cases d <;> first | exact ⟨_, _, _, rfl⟩ | exact p1.elim
  obtain ⟨l, dx, vs, rfl, ⟨hl, _⟩, rs⟩ := r
  have p1 : PostG S W P H1 O1 σ (if xs.contains x then optR (fget ns fs f) s1 else .stuck) (fun d s H' O' => ∀ v, Rep S.K H' (S.F O') d v → Q v H') := p1
  split at p1
  · rename_i hc
    obtain ⟨h1, h2⟩ := hx x (List.contains_iff_mem.mp hc)
    obtain ⟨z, hz, p2⟩ := PostG.opt p1
    obtain ⟨v, hv, rv⟩ := fget_zip rs hz
    rw [hK] at hl
    exact ⟨l, _, dx, _, v, rfl, hl, h1, h2, hv, p2 H1 O1 (Ext.refl _ _) t1 v rv⟩
  · exact False.elim p1
/-! ### isinstance of an own class -/
def bTys : List String := ["NoneType", "bool", "int", "str", "tuple", "list", "dict"]
def isbB (K : PySem.W.Frag) (y : Str) : Bool := bTys.all fun T => decide (PySem.W.kitOne K (.type T) (.ref (He.ga K y)) = some false)
theorem isOwn_ty {yes no : List Str} {d : D} {k : Bool} (h : isOwn yes no d = some k) : (∃ x ns fs, d = .ins x ns fs ∧ ((k = true ∧ x ∈ yes) ∨ (k = false ∧ x ∈ no))) ∨ (k = false ∧ ∃ n, dTy d = some n ∧ n ∈ bTys) := by
  cases d with
  | ins x ns fs =>
    simp only [isOwn] at h
    split at h
    · rename_i q
      cases h
      exact .inl ⟨x, ns, fs, rfl, .inl ⟨rfl, List.contains_iff_mem.mp q⟩⟩
    · split at h
      · rename_i q
        cases h
        exact .inl ⟨x, ns, fs, rfl, .inr ⟨rfl, List.contains_iff_mem.mp q⟩⟩
      · cases h
  | _ => first | (simp [isOwn] at h; done) | (simp only [isOwn, Option.some.injEq] at h; exact .inr ⟨h.symm, _, rfl, by decide⟩)
theorem r_isio {b : Rf.O} {y : Str} {yes no : List Str} {q q2 : Pos} (hK : S.K = X.K) (hg : Gl X "isinstance") (hm : X.mg "isinstance" = none) (hT : PE X (.Name y q2) (tC (.ref (He.ga X.K y)))) (hb : isbB X.K y = true) (hc : ∀ x, x ∈ yes ∨ x ∈ no → ClsF X.K x []) (hy : ∀ x ∈ yes, PySem.W.kitOne X.K (.ref (He.ga X.K x)) (.ref (He.ga X.K y)) = some true) (hn : ∀ x ∈ no, PySem.W.kitOne X.K (.ref (He.ga X.K x)) (.ref (He.ga X.K y)) = some false)
    (ha : PE X pa (tDv S C W b)) (he : nst pa = true) : PE X (.Call (.Name "isinstance" q) [pa, .Name y q2] [] pos) (tDf S C W (.isio b y yes no)) := by
  refine PE.imp (pe_bt (f := .b "isinstance") call_isi hg hm (by decide +kernel) (pa_cons ha (pa_cons hT pa_nil (star_cons rfl)) (star_cons he)) (by decide) (by decide) he rfl) fun σ H Q ⟨P, env, O, s, p⟩ => ⟨P, env, O, s, PostG.imp (PostG.bind (show PostG S W P H O σ ((evalV C b env).bind _) _ from p)) fun d s1 H1 O1 _ _ _ ⟨x1, t1, p1⟩ v r => ?_⟩
  obtain ⟨z, hz, p3⟩ := PostG.optBind p1
  rw [hK] at r
  rcases isOwn_ty hz with ⟨x, ns, fs, rfl, hor⟩ | ⟨rfl, n, hn', hmem⟩
  · obtain ⟨l, dx, vs, rfl, ⟨hl, _⟩, rs⟩ := r
    have hC : ClsF X.K x [] := hc x (hor.elim (fun h => .inl h.2) fun h => .inr h.2)
    have kt : PySem.W.kitOne X.K (.ref (He.ga X.K x)) (.ref (He.ga X.K y)) = some z := by
      rcases hor with ⟨rfl, h⟩ | ⟨rfl, h⟩
      · exact hy x h
      · exact hn x h
    exact ⟨.ref l, .ref (He.ga X.K y), .ref (He.ga X.K x), .ref (He.ga X.K y), z, rfl, .own _, .base (.ins hl hC.cl hC.ha hC.hn hC.htk hC.hm), kt, post_bl t1 p3⟩
  · have := List.all_eq_true.mp hb n hmem
    exact ⟨v, .ref (He.ga X.K y), .type n, .ref (He.ga X.K y), false, rfl, .own _, tyX r hn', of_decide_eq_true this, post_bl t1 p3⟩
end
end Rf

/-! Rg, part K2: instances made; == and != by an own __eq__. -/
namespace Rf
open PySem PySem.Spec PyProof.Rows L2
/-- only shared things -/
theorem SR.enter0 {K : PySem.W.Frag} {cls : Nat → Option Value} {G : Addr → Prop} {fr : Bool} {H : Hp} {N : List Str} {ds : List D} {vs : List V} (hG : ∀ a, G a → H a ≠ none) (r : Reps K H G ds vs) (hN : vs.length ≤ N.length) :
    SR ⟨K, cls, G, [], fr⟩ [] H (fun _ => False) (enterE [] 0 ds ++ List.replicate (N.length - ds.length) .no) (start N vs) := by
  have hl := r.length
  have m : Mono H G H (Sit.F ⟨K, cls, G, [], fr⟩ fun _ => False) := Mono.sub fun a h => h.elim id False.elim
  refine ⟨?_, fun a h => h.elim (hG a) False.elim, fun a _ h => h, fun i d e => ?_, fun i d e => ?_, fun p hp => (nomatch hp), fun x y v h1 h2 => ?_, fun p hp => (nomatch hp)⟩
  · rw [List.length_append, enterE_len, List.length_replicate, start_len hN]; omega
  · rcases enter_sl e with e | ⟨d', hd, e⟩
    · cases e
    · cases e
      obtain ⟨v, hv, rv⟩ := r.get hd
      exact ⟨v, start_at hv, rv.mono m⟩
  · rcases enter_sl e with e | ⟨d', hd, e⟩
    · cases e
    · cases e
  · cases x with
    | inl i =>
      obtain ⟨d, e, _, _⟩ := rt_inl.mp h1
      rcases enter_sl e with e | ⟨d', hd, e⟩
      · cases e
      · cases e
    | inr i =>
      obtain ⟨d, e, _⟩ := rt_inr.mp h1
      simp at e
/-- how an __init__ ends: the attributes' values -/
def FinI (S : Sit) (x : Str) (ns : List Str) (a dx : Addr) (H : Hp) (r : CR) (Q : VK) (E : XK) : Prop := match r with
  | .ok (.tup fs) [] => fs.length = ns.length ∧ ∀ H' O' us, Ext H (fun _ => False) H' O' → Reps S.K H' (S.F O') fs us → Q .non (upd H' a (.ins (He.ga S.K x) dx (ns.zip us)))
  | .exc y [] => ∀ cls dd H' O', Ext H (fun _ => False) H' O' → RepX S y cls dd H' → E cls dd H'
  | _ => False
/-- an __init__'s promise: the new instance is its first argument -/
def spIn (K : PySem.W.Frag) (cls : Nat → Option Value) (x : Str) (ns : List Str) (g : List D → CR) (n : Nat) (N : List Str) : Sp := fun vs H Q E => vs.length = n ∧ ∃ (a dx : Addr) (ws : List V) (G : Addr → Prop) (ds : List D),
  vs = .ref a :: ws ∧ H a = some (.ins (He.ga K x) dx []) ∧ G a ∧ (∀ b, G b → H b ≠ none) ∧ Reps K H G ds ws ∧ FinI ⟨K, cls, G, [], false⟩ x ns a dx H (g (.fn "" :: ds)) Q E
/-- an own class's __init__ at the level k -/
structure CalleeI (X : Cx) (S : Sit) (C : Calls) (k j : Nat) (x : Str) (ns : List Str) (n : Nat) : Prop where
  ex : ∃ (fd : FuncData) (psN N : List Str), X.mg x = some (.ref (He.ga X.K x)) ∧ Mk X.K (He.ga X.K x) (He.ma X.K (He.ga X.K x) "__init__") ∧ Binds X.K fd psN [] ∧ FnOk X.prog X.w X.K X.mg X.base (L2.CX X.prog X.w) k (He.ma X.K (He.ga X.K x) "__init__") fd psN (spIn X.K S.cls x ns (C.fn j) n N)
section
variable {X : Cx} {CX : CXT} {k : Nat} {f C : Addr} {fd : FuncData} {ps : List Str} {sp : Sp} {E : L2.St → XK} {x : Str} {p pos : Pos} {e : Expr} {es : List Expr} {t : TA}
def tMakeSD (C : Addr) (sp : Sp) (E : L2.St → XK) (t : TA) : TE := fun σ H Q => t σ H fun vs H1 => ∀ x dx, H1 x = none → H1 dx = none → dx ≠ x → sp (.ref x :: vs) (upd (upd H1 dx (.own x)) x (.ins C dx [])) (fun v H2 => v = .non ∧ Q (.ref x) H2) (E σ)
theorem run_makeSD {pins : List (Addr × Obj)} {σ : L2.St} {H : Hp} {s : Shared} {Q : VK} {us : List Value} {vs : List V} (M : Mk X.K C f) (F : FnOk X.prog X.w X.K X.mg X.base CX k f fd ps sp) (hr : Room (k + 1) X.A) (hb : Binds X.K fd ps [])
    (hx : PassesAt CX X σ (E σ)) (I : L2.Inv X pins σ H s) (r : Vals vs us)
    (h : ∀ x dx, H x = none → H dx = none → dx ≠ x → sp (.ref x :: vs) (upd (upd H dx (.own x)) x (.ins C dx [])) (fun v H2 => v = .non ∧ Q (.ref x) H2) (E σ)) :
    wpAny (model X.prog X.w) X.A (call (.ref C) us) (EP X pins σ Q) X.xe s := by
  have hq := h (s.heap.objs.size + 1) s.heap.objs.size (I.hok.fresh (Nat.le_succ _)) (I.hok.fresh (Nat.le_refl _)) (Nat.ne_of_lt (Nat.lt_succ_self _))
  have I2 := Inv.made (C := C) I
  have r2 : Vals (V.ref (s.heap.objs.size + 1) :: vs) (Value.ref (s.heap.objs.size + 1) :: us) := .cons rfl r
  have hl : (Value.ref (s.heap.objs.size + 1) :: us).length = ps.length := by
    have e := r2.length
    rw [F.len _ _ _ _ hq] at e
    exact e.symm
  refine wpAny_call (make_map (f := f) I.kIn M.makes M.init (beq_iff_eq.mp M.fn) (codeAny_mono (F.run _ X.stack _ _ ⟨Value.ref (s.heap.objs.size + 1) :: us, []⟩ (Value.ref (s.heap.objs.size + 1) :: us) _ _ (E σ) (hr.make C us [])
    (I2.env0.make C us []) (by have := hb _ (Value.ref (s.heap.objs.size + 1) :: us) I2.kIn (by simpa using hl); simpa using this) r2 hq) fun r s' hq' => ?_))
  cases r with
  | error e => exact hx pins _ _ e s' I2 hq'
  | ok fl =>
    cases fl with
    | ret u =>
      obtain ⟨v, H', I3, rv, ev, q3⟩ := I2.after hq'
      subst ev
      exact ⟨rv, ⟨V.ref (s.heap.objs.size + 1), H', I3, rfl, q3⟩⟩
    | next => exact False.elim hq'
    | brk => exact False.elim hq'
    | cont => exact False.elim hq'
theorem pe_makeSD (M : Mk X.K C f) (F : FnOk X.prog X.w X.K X.mg X.base CX k f fd ps sp) (hr : Room (k + 1) X.A) (hg : Gl X x) (hm : X.mg x = some (.ref C)) (hb : Binds X.K fd ps []) (hx : ∀ σ, PassesAt CX X σ (E σ))
    (ha : PA X (e :: es) t) (hdb : (x == ("__debug__" : Str)) = false) (he : starEach (e :: es) X.env = (false, eval e X.env) :: starEach es X.env) (hpl : (backTo pos (starEach es X.env)).any (·.1) = false) :
    PE X (.Call (.Name x p) (e :: es) [] pos) (tMakeSD C sp E t) := by
  refine ⟨fun pins s σ H Q I h => ?_⟩
  refine wpAny_Call_Name_kw (ld_glob I hg hm ?_ hdb)
  refine PySem.W.callWith_K (h₀ := X.base) I.ok.mod.kin M.kp (thn (ha.run pos pins s σ H _ I h) fun us s1 ⟨vs, H1, I1, r, q⟩ => ⟨I1.kIn, ?_⟩) he hpl
  exact run_makeSD M F hr hb (hx σ) I1 r q
end
section
variable {X : Cx} {S : Sit} {C : Calls} {W : WX} {pos p : Pos} {as : List E} {ps : List Expr} {k j n : Nat} {x : Str} {ns : List Str}
theorem make_core {P : Pd} {H : Hp} {O : Addr → Prop} {env : Env} {σ : L2.St} {ds : List D} {vs : List V} {N : List Str} {Q : VK} (s : SR S P H O env σ) (r : Reps S.K H (S.F O) ds vs) (hn : vs.length + 1 = n)
    (h : PostF S W P H O σ (match C.fn j (.fn "" :: ds) with
      | .ok (.tup fs) [] => if fs.length = ns.length then R.ok (.ins x ns fs) env else .stuck
      | .exc y [] => .exc y env
      | _ => .stuck) Q) {a dx : Addr} (ha : H a = none) (hdx : H dx = none) (hne : dx ≠ a) :
    spIn S.K S.cls x ns (C.fn j) n N (.ref a :: vs) (upd (upd H dx (.own a)) a (.ins (He.ga S.K x) dx [])) (fun v H2 => v = .non ∧ Q (.ref a) H2) (WE W σ) := by
  have sm : Same H (upd (upd H dx (.own a)) a (.ins (He.ga S.K x) dx [])) := fun b o e => by
    rw [upd_ne (ne_of_none e ha), upd_ne (ne_of_none e hdx)]; exact e
  have g0 : ∀ b, S.F O b → b ≠ a := fun b f e => s.own b f (e ▸ ha)
  refine ⟨by simpa using hn, a, dx, vs, fun b => S.F O b ∨ b = a, ds, rfl, upd_same, .inr rfl, fun b q => ?_, r.mono fun b o e nf => ⟨sm b o e, fun q => ?_⟩, ?_⟩
  · rcases q with q | q
    · cases e : H b with
      | none => exact absurd e (s.own b q)
      | some o => rw [sm b o e]; simp
    · rw [q, upd_same]; simp
  · rcases q with q | q
    · exact nf q
    · rw [q, ha] at e; cases e
  · have keep : ∀ {H' : Hp} {O' : Addr → Prop}, Ext (upd (upd H dx (.own a)) a (.ins (He.ga S.K x) dx [])) (fun _ => False) H' O' → Same H H' := fun xt b o e => xt.keep b o (sm b o e) id
    cases hg : C.fn j (.fn "" :: ds) with
    | stuck => rw [hg] at h; exact False.elim h
    | exc y o =>
      rw [hg] at h
      cases o with
      | cons _ _ => exact False.elim h
      | nil =>
        intro cls dd H' O' xt hx
        have sm2 := keep xt
        refine h cls dd H' O (Ext.same sm2) (s.same sm2) ?_
        unfold RepX at *
        exact hx
    | ok d o =>
      rw [hg] at h
      cases o with
      | cons _ _ => cases d <;> exact False.elim h
      | nil =>
        cases d <;> try exact False.elim h
        rename_i fs
        have h : PostF S W P H O σ (if fs.length = ns.length then R.ok (.ins x ns fs) env else .stuck) Q := h
        split at h
        · rename_i hl
          refine ⟨hl, fun H' O' us xt rs => ⟨rfl, ?_⟩⟩
          have sm2 : Same H (upd H' a (.ins (He.ga S.K x) dx (ns.zip us))) := fun b o e => by
            rw [upd_ne (ne_of_none e ha)]; exact keep xt b o e
          refine h _ O (Ext.same sm2) (s.same sm2) (.ref a) ⟨a, dx, us, rfl, ⟨upd_same, fun q => g0 a q rfl⟩, rs.mono fun b o e nf => ?_⟩ fun c => by cases c
          have hb : b ≠ a := fun q => nf (.inl (.inr q))
          exact ⟨by rw [upd_ne hb]; exact e, fun q => nf (.inl (.inl q))⟩
        · exact False.elim h
theorem r_mk {e : Expr} (hK : S.K = X.K) (tk : Takes X W) (hr : Room (k + 1) X.A) (hg : Gl X x) (hdb : (x == ("__debug__" : Str)) = false) (F : CalleeI X S C k j x ns (as.length + 1)) (ha : PA X (e :: ps) (tDs S C W as)) (hs : (e :: ps).all nst = true) :
    PE X (.Call (.Name x p) (e :: ps) [] pos) (tDf S C W (.mk j x ns as)) := by
  obtain ⟨fd, psN, N, hm, M, hb, F⟩ := F.ex
  rw [List.all_cons, Bool.and_eq_true] at hs
  refine PE.imp (pe_makeSD M F hr hg hm hb (fun σ => passAt tk σ) ha hdb (star_cons hs.1) (star_none hs.2)) fun σ H Q ⟨P, env, O, s, q⟩ => ⟨P, env, O, s, PostG.imp (PostG.bind (show PostG S W P H O σ ((evalEs C as env).bind _) _ from q)) fun ds s1 H1 O1 e1 _ _ ⟨x1, t1, p1⟩ vs rs a dx ha hdx hne => ?_⟩
  have := make_core (N := N) (n := as.length + 1) t1 rs (by rw [← rs.length, evalEs_len e1]) p1 ha hdx hne
  rw [hK] at this
  exact this
end
/-! ### == and != by an own __eq__ -/
def neqB (K : PySem.W.Frag) (C f : Addr) : Bool := match K.lookup C with
  | some ⟨.type "type", _, .cls cd, sl⟩ => (match cd.mro, sl.toList with
    | [.ref C', .type o], [_, _, _, _, some (.builtin _), _] => C' == C && o == "object" && !cd.hasDel && PySem.W.nsOkIn K cd.ns && PySem.W.nsIn K cd.ns "__ne__" == some none && PySem.W.nsIn K cd.ns "__eq__" == some (some (.ref f))
    | _, _ => false)
  | _ => false
/-- what of the text the class must have -/
structure EqC (K : PySem.W.Frag) (C f : Addr) : Prop where
  at_ : PySem.W.findIn K (.ref C) "__eq__" = some (some (.ref f))
  fn : PySem.W.isFn K (.ref f) = true
  ne : neqB K C f = true
theorem fn_obj {K : PySem.W.Frag} {f : Addr} (h : PySem.W.isFn K (.ref f) = true) : ∃ o, K.lookup f = some o ∧ o.cls = .type "function" := by
  unfold PySem.W.isFn at h
  have h := beq_iff_eq.mp h
  exact Option.map_eq_some_iff.mp h
theorem ns_some_of {K : PySem.W.Frag} {h : Heap} {N : Addr} {mg : Str → Option Value} {n : Str} {v : Value} (X : K.In h) (G : h.Ns N mg) (e : PySem.W.nsIn K N n = some (some v)) : mg n = some v := by
  obtain ⟨o, es, ep, ho, hd, _, hf⟩ := G
  unfold PySem.W.nsIn at e
  split at e
  · rename_i c d es' n' sl q
    have := X _ _ q
    rw [ho] at this
    cases this
    cases hd
    rw [← hf]
    unfold nsFind findBy
    rw [← Array.find?_toList]
    split at e
    · rename_i he
      rw [he]
      injection e
    · split at e <;> cases e
  · cases e
theorem own_ne {K : PySem.W.Frag} {h : Heap} {x C f : Addr} {o : Obj} (X : K.In h) (e : neqB K C f = true) (hx : h.get? x = some o) (hc : o.cls = .ref C) (hf : PySem.W.isFn K (.ref f) = true) : h.OwnEqNoNe x C f "object" [.type "object"] := by
  unfold neqB at e
  split at e
  · rename_i dd cd sl ho
    split at e
    · rename_i C' o' k0 k1 k2 k3 n k5 hm hs
      simp only [Bool.and_eq_true, beq_iff_eq, Bool.not_eq_true'] at e
      obtain ⟨⟨⟨⟨⟨rfl, rfl⟩, hdel⟩, hok⟩, hni⟩, heq⟩ := e
      obtain ⟨nm, bs, mro, ns, qn, hd, sn, sub, ab, col, del⟩ := cd
      dsimp only at hm hdel hok hni heq
      subst hm hdel
      have hsl : sl = #[k0, k1, k2, k3, some (.builtin n), k5] := by
        obtain ⟨l⟩ := sl
        simp only at hs
        rw [hs]
      subst hsl
      obtain ⟨of, hfo, hfc⟩ := fn_obj hf
      have G : h.Ns ns (h.nsMap ns) := .of_isNs (PySem.W.isNs_of_in X hok)
      exact ⟨o, of, nm, qn, ns, bs, hd, sn, sub, ab, col, dd, k0, k1, k2, k3, k5, n, _, _, hx, hc, X _ _ ho, G, ns_some_of X G heq, X _ _ hfo, hfc, PySem.F.mro_object,
        PySem.F.cmp_object.eq.lookup, PySem.W.ns_none_of X G hni⟩
    · cases e
  · cases e
/-- an own __eq__ at the level k -/
structure CalleeQ (X : Cx) (S : Sit) (C : Calls) (k j : Nat) (x : Str) : Prop where
  eq : EqC X.K (He.ga X.K x) (He.ma X.K (He.ga X.K x) "__eq__")
  ex : ∃ (fd : FuncData) (psN N : List Str), Binds X.K fd psN [] ∧ 2 ≤ N.length ∧ FnOk X.prog X.w X.K X.mg X.base (L2.CX X.prog X.w) k (He.ma X.K (He.ga X.K x) "__eq__") fd psN (spOf X.K S.cls (C.fn j) [] false 2 N)
def E0 : XK := fun _ _ _ => False
theorem E0.pass {X : Cx} {σ : L2.St} : PassesAt (L2.CX X.prog X.w) X σ E0 := fun _ _ _ _ _ _ ⟨_, _, _, _, _, _, _, _, _, _, _, _, q⟩ => q.elim
/-- what == and != by sp do -/
def rOwn (K : PySem.W.Frag) (C : Addr) (sp : Sp) (ne : Bool) : R2 := fun x y H Q => ∃ a b dx dy fs gs, x = .ref a ∧ y = .ref b ∧ H a = some (.ins C dx fs) ∧ H b = some (.ins C dy gs) ∧ sp [x, y] H (fun v H' => ∃ k, v = .bl k ∧ Q (.bl (k != ne)) H') E0
section
variable {X : Cx} {k : Nat} {C f : Addr} {fd : FuncData} {ps : List Str} {sp : Sp}
theorem op_ownEq (F : FnOk X.prog X.w X.K X.mg X.base (L2.CX X.prog X.w) k f fd ps sp) (hb : Binds X.K fd ps []) (q : EqC X.K C f) (hr : Room (k + 1) X.A) : OpR X (compareOp .Eq) (rOwn X.K C sp false) := by
  intro pins s σ H x y v u Q I rx ry ⟨a, b, dx, dy, fs, gs, ea, eb, ha, hb', hsp⟩
  subst ea eb
  cases rx
  cases ry
  obtain ⟨mA, J, _⟩ := ins_get I.hok ha
  obtain ⟨mB, J', _⟩ := ins_get I.hok hb'
  obtain ⟨od, J, _⟩ := J.look
  obtain ⟨od', J', _⟩ := J'.look
  obtain ⟨m, hF⟩ := I.fr
  show wpAny (model X.prog X.w) X.A (richCompare .Eq (.ref a) (.ref b)) (EP X pins σ Q) X.xe s
  have r2 : Vals [V.ref a, V.ref b] [Value.ref a, Value.ref b] := .cons rfl (.cons rfl .nil)
  refine PySem.W.cmp_K (op := .Eq) (tb := .ref C) hr.units0 hF I.ok.mod.kin J J'.type (by simp [PySem.W.notFirst]) q.at_ q.fn ?_
  refine wpAny_mono (run_fnS (E := fun _ => E0) F (hr.mono (Nat.le_succ k)) hb E0.pass I r2 hsp) (fun r s' z => ?_) fun _ _ e => e
  obtain ⟨v, H', I', rv, k', rfl, hq⟩ := z
  cases rv
  exact ⟨.bl k', H', I', rfl, by simpa using hq⟩
theorem op_ownNe (F : FnOk X.prog X.w X.K X.mg X.base (L2.CX X.prog X.w) k f fd ps sp) (hb : Binds X.K fd ps []) (q : EqC X.K C f) (hr : Room (k + 1) X.A) : OpR X (compareOp .NotEq) (rOwn X.K C sp true) := by
  intro pins s σ H x y v u Q I rx ry ⟨a, b, dx, dy, fs, gs, ea, eb, ha, hb', hsp⟩
  subst ea eb
  cases rx
  cases ry
  obtain ⟨mA, J, _⟩ := ins_get I.hok ha
  obtain ⟨mB, J', _⟩ := ins_get I.hok hb'
  have r2 : Vals [V.ref a, V.ref b] [Value.ref a, Value.ref b] := .cons rfl (.cons rfl .nil)
  have Y := own_ne I.kIn q.ne J.obj rfl q.fn
  have e0 : Env0 X.prog X.w X.K X.mg X.base X.A.in1 X.stack s H := by
    have e := I.env0
    exact ⟨e.frames, e.mod, e.bs, e.bsz, e.funs, e.frf, e.hok, e.bare⟩
  have hl := F.len _ _ _ _ hsp
  have hr' : X.A.units + 1 < cLine := by have := hr.un; omega
  have run : wpAny (model X.prog X.w) X.A.in1 (call (.ref f) [.ref a, .ref b]) (fun v s' => ∃ b, v = .bool b ∧ EP X pins σ Q (.bool (!b)) s') X.xe s := by
    refine wpAny_call (codeAny_mono (F.run X.A.in1 X.stack s H ⟨[.ref a, .ref b], []⟩ [.ref a, .ref b] [.ref a, .ref b] _ E0 hr.in1 e0 (by
      have := hb s [.ref a, .ref b] I.kIn (by simpa using hl)
      simpa using this) r2 hsp) fun r s' hq => ?_)
    cases r with
    | error e => exact E0.pass (σ := σ) pins H s e s' I hq
    | ok fl =>
      cases fl with
      | ret w =>
        obtain ⟨z, H', I', rz, k', ez, hq2⟩ := I.after hq
        subst ez
        cases rz
        exact ⟨k', rfl, .bl (!k'), H', I', rfl, by simpa using hq2⟩
      | next => exact False.elim hq
      | brk => exact False.elim hq
      | cont => exact False.elim hq
  obtain ⟨hh, g, d, t, os⟩ := s
  exact compareOp_ne_ownEq PySem.F.cmp_object Y J'.obj rfl hr' run
end
section
variable {X : Cx} {S : Sit} {C : Calls} {W : WX} {pos : Pos} {a b : E} {pa pb : Expr} {k j : Nat} {x : Str}
theorem ownF_ok {ne : Bool} {P : Pd} {H : Hp} {O : Addr → Prop} {env : Env} {σ : L2.St} {d e : D} {Q : Bool → Env → Hp → (Addr → Prop) → Prop} (h : PostG S W P H O σ (ownF C x j ne d e env) Q) :
    ∃ y ns fs z ms gs k, d = .ins y ns fs ∧ e = .ins z ms gs ∧ y = x ∧ z = x ∧ C.fn j [.ins y ns fs, .ins z ms gs] = .ok (.bl k) [] ∧ PostG S W P H O σ (.ok (k != ne) env) Q := by
  unfold ownF at h
  split at h
  · rename_i y ns fs z ms gs
    split at h
    · rename_i hh
      split at h
      · rename_i k hg
        exact ⟨y, ns, fs, z, ms, gs, k, rfl, rfl, hh.1, hh.2, hg, h⟩
      · exact False.elim h
    · exact False.elim h
  · exact False.elim h
theorem own_core {P : Pd} {H : Hp} {O : Addr → Prop} {env : Env} {σ : L2.St} {d e : D} {v u : V} {ne : Bool} {N : List Str} {Q : VK} (s : SR S P H O env σ) (hN : 2 ≤ N.length) (r1 : Rep S.K H (S.F O) d v) (r2 : Rep S.K H (S.F O) e u)
    (h : ∃ y ns fs z ms gs k, d = .ins y ns fs ∧ e = .ins z ms gs ∧ y = x ∧ z = x ∧ C.fn j [.ins y ns fs, .ins z ms gs] = .ok (.bl k) [] ∧ ∀ H' O', Ext H O H' O' → SR S P H' O' env σ → Q (.bl (k != ne)) H') : rOwn S.K (He.ga S.K x) (spOf S.K S.cls (C.fn j) [] false 2 N) ne v u H Q := by
  obtain ⟨y, ns, fs, z, ms, gs, k, rfl, rfl, e1, e2, hg, h⟩ := h
  subst e1 e2
  have q1 := r1
  have q2 := r2
  obtain ⟨l, dx, vs, rfl, ⟨hl, _⟩, rs⟩ := q1
  obtain ⟨l', dx', vs', rfl, ⟨hl', _⟩, rs'⟩ := q2
  refine ⟨l, l', dx, dx', _, _, rfl, rfl, hl, hl', rfl, fun a => S.F O a, fun _ => False, [.ins z ns fs, .ins z ms gs], rfl, ?_, ?_⟩
  · have := SR.enter0 (K := S.K) (cls := S.cls) (G := fun a => S.F O a) (fr := false) (H := H) (N := N) (ds := [.ins z ns fs, .ins z ms gs]) (vs := [.ref l, .ref l']) (fun a q => s.own a q) (.cons r1 (.cons r2 .nil)) (by simpa using hN)
    exact this
  · unfold FinK
    rw [hg]
    dsimp only
    intro H' O' s' σ' v xt _ _ hv
    have hv : v = .bl k := hv
    subst hv
    have sm : Same H H' := fun b o e => xt.keep b o e id
    exact ⟨k, rfl, h H' O (Ext.same sm) (s.same sm)⟩
theorem r_cmpI {ne : Bool} {op : CmpOp} (hop : op = if ne then .NotEq else .Eq) (hK : S.K = X.K) (hr : Room (k + 1) X.A) (F : CalleeQ X S C k j x) (ha : PE X pa (tD S C W a)) (hb : PE X pb (tD S C W b)) (hm : behindInMarks op pb = false) :
    PE X (.Compare pa [op] [pb] pos) (tDf S C W (.cmpI ne x j a b)) := by
  obtain ⟨q, fd, psN, N, hbs, hN, F⟩ := F
  have ho : OpR X (compareOp op) (rOwn X.K (He.ga X.K x) (spOf X.K S.cls (C.fn j) [] false 2 N) ne) := by
    cases ne with
    | false => subst hop; exact op_ownEq F hbs q hr
    | true => subst hop; exact op_ownNe F hbs q hr
  refine PE.imp (pe_cmpR ho ha hb hm) fun σ H Q ⟨P, env, O, s, p⟩ => ⟨P, env, O, s, PostG.imp (PostG.bind p) fun d1 s1 H1 O1 _ _ _ ⟨x1, t1, p1⟩ v1 r1 => ⟨P, s1, O1, t1, PostG.imp (PostG.bind p1) fun d2 s2 H2 O2 _ _ _ ⟨x2, t2, p2⟩ v2 r2 => ?_⟩⟩
  rw [← hK]
  obtain ⟨y, ns, fs, z, ms, gs, k', e1, e2, e3, e4, hg, p3⟩ := ownF_ok (PostG.bind p2)
  exact own_core (C := C) t2 hN (r1.mono x2.mono) r2 ⟨y, ns, fs, z, ms, gs, k', e1, e2, e3, e4, hg, fun H' O' xt tt => by
    obtain ⟨_, _, p4⟩ := p3 H' O' xt tt
    exact p4 H' O' (Ext.refl _ _) tt (.bl (k' != ne)) rfl fun c => by cases c⟩
theorem rt_cmpI {ne : Bool} {op : CmpOp} (hop : op = if ne then .NotEq else .Eq) (hK : S.K = X.K) (hr : Room (k + 1) X.A) (F : CalleeQ X S C k j x) (ha : PE X pa (tD S C W a)) (hb : PE X pb (tD S C W b)) (hm : behindInMarks op pb = false) :
    PT X (.Compare pa [op] [pb] pos) (tT S C W (.cmpI ne x j a b)) := by
  obtain ⟨q, fd, psN, N, hbs, hN, F⟩ := F
  have ho : OpR X (compareOp op) (rOwn X.K (He.ga X.K x) (spOf X.K S.cls (C.fn j) [] false 2 N) ne) := by
    cases ne with
    | false => subst hop; exact op_ownEq F hbs q hr
    | true => subst hop; exact op_ownNe F hbs q hr
  refine PT.imp (pt_cmpR ho ha hb hm) fun σ H Q ⟨P, env, O, s, p⟩ => ⟨P, env, O, s, PostG.imp (PostG.bind (show PostG S W P H O σ ((evalE C a env).bind _) _ from p)) fun d1 s1 H1 O1 _ _ _ ⟨x1, t1, p1⟩ v1 r1 => ⟨P, s1, O1, t1, PostG.imp (PostG.bind p1) fun d2 s2 H2 O2 _ _ _ ⟨x2, t2, p2⟩ v2 r2 => ?_⟩⟩
  rw [← hK]
  obtain ⟨y, ns, fs, z, ms, gs, k', e1, e2, e3, e4, hg, p3⟩ := ownF_ok p2
  exact own_core (C := C) t2 hN (r1.mono x2.mono) r2 ⟨y, ns, fs, z, ms, gs, k', e1, e2, e3, e4, hg, fun H' O' xt tt => ⟨k' != ne, rfl, p3 H' O' xt tt⟩⟩
end
end Rf

/-! Rg, part L0: enumerate over a tuple. -/
namespace Rf
open PySem PySem.Spec PyProof.Rows L2
/-- the two cells that enumerate makes of a source whose iterator is new -/
abbrev cellIt (h : Heap) (ob : Obj) : Heap := h.push ob
abbrev cellEn (h : Heap) (ob : Obj) : Heap := (h.push ob).push ⟨.type "enumerate", none, .fields #[.none, .bool false, .ref h.objs.size, rawInt 0, .none, .none], #[]⟩
theorem meets_enumV {v : Value} {ob : Obj} {Hy : Heap → Prop} (B : Begins v ob Hy) : Meets (Builtin.«enumerate.__new__» ⟨[.type "enumerate", v], []⟩)
    (fun _ R s => Hy s.heap ∧ R (.ok (.ret (.ref (cellIt s.heap ob).objs.size))) { s with heap := cellEn s.heap ob }) := .of_wp fun P w A R s hs => by
  obtain ⟨hp, gs, dr, tk, os⟩ := s
  obtain ⟨hy, hr⟩ := hs
  have subE := sub_enumerate
  have step : ∀ {A2 : Around} {E2 : Value → Shared → Prop} {Q2 : Value → Shared → Prop}, Q2 (.ref hp.objs.size) ⟨cellIt hp ob, gs, dr, tk, os⟩ → wpAny (model P w) A2 (pyIter v) Q2 E2 ⟨hp, gs, dr, tk, os⟩ := fun q2 => B.iter P w _ _ ⟨hp, gs, dr, tk, os⟩ _ hy q2
  wp_walk using step
  refine wpAny_stack_any fun stk => wpAny_pure ?_
  split
  · rename_i cc _ _ _ _ _
    cases (cc == Value.type "enumerate") <;> (wp_walk using step) <;> exact ⟨_, rfl, hr⟩
  · wp_walk using step
    exact ⟨_, rfl, hr⟩
section
variable {P : Program} {w : World} {A : Around} {E : Value → Shared → Prop} {s : Shared}
theorem enum_made {v : Value} {ob : Obj} {Hy : Heap → Prop} {Q : Value → Shared → Prop} (B : Begins v ob Hy) (hy : Hy s.heap)
    (k : ∀ h2, IsEnum h2 (s.heap.objs.size + 1) s.heap.objs.size 0 .none → h2.get? s.heap.objs.size = some ob → (∀ b o, s.heap.get? b = some o → h2.get? b = some o) → Q (.ref (s.heap.objs.size + 1)) { s with heap := h2 }) :
    wpAny (model P w) A (call (.type "enumerate") [v]) Q E s := by
  have sz : (cellIt s.heap ob).objs.size = s.heap.objs.size + 1 := Heap.size_push ..
  have isE : IsEnum (cellEn s.heap ob) (s.heap.objs.size + 1) s.heap.objs.size 0 .none := by
    have z := Heap.get?_push_size (cellIt s.heap ob) (o := ⟨.type "enumerate", none, .fields #[.none, .bool false, .ref s.heap.objs.size, rawInt 0, .none, .none], #[]⟩) rfl
    rw [sz] at z
    exact z
  refine callType_new F.called_enumerate (by decide) (F.typeCall_enumerate_1 _) (F.newCall_enumerate_1 _) (fun ob2 => F.args_object_init_2 ob2 _) F.entry_enumerate_new (meets_enumV B) ⟨hy, ?_⟩
  show (∃ _, _) ∧ _
  rw [sz]
  exact ⟨⟨_, isE, rfl⟩, k _ isE (Heap.get?_push_of_some _ (Heap.get?_push_size _ B.free)) fun b o e => Heap.get?_push_of_some _ (Heap.get?_push_of_some _ e)⟩
end
/-- the tuple at a as it stands at each turn, each item in a new pair -/
def IteT (K : PySem.W.Frag) (a : Addr) : L2.It where
  go := fun i H => ∃ (xs : List V) (x : V), SqT K H a xs ∧ xs[i]? = some x
  yld := fun i H v H' => ∃ T x, v = .ref T ∧ H T = none ∧ H' = upd H T (.tup [.int (i : Nat), x]) ∧ ∀ xs, SqT K H a xs → xs[i]? = some x
  stop := fun i H => ∃ xs : List V, SqT K H a xs ∧ xs.length ≤ i
theorem in1_handled {A : Around} (h : A.handled = none) : A.in1.handled = none := h
theorem turn_enumT {P : Program} {w : World} {K : PySem.W.Frag} {elts : List Expr} {kk : Nat} {tpos : Pos} (a e it : Addr) :
    Turn P w K (.Tuple elts kk tpos) (IteT K a) [e, it] e (fun i h => (∃ old, IsEnum h e it ((i : Nat) : Int) old) ∧ h.IsTupleIter it a i ∧ e ≠ it ∧ a ≠ it ∧ a ≠ e) where
  mem := List.mem_cons_self
  obj := fun i h ⟨⟨old, he⟩, ⟨o, ho, _, hd⟩, _⟩ b hb => by
    rcases List.mem_cons.mp hb with z | z
    · rw [z]; exact ⟨_, he, fun v q => nomatch q⟩
    · rw [List.mem_singleton.mp z]; exact ⟨o, ho, fun v q => by rw [hd] at q; cases q⟩
  keep := fun i h h' ⟨⟨old, he⟩, hi, hn⟩ k => ⟨⟨old, k e List.mem_cons_self _ he⟩, hi.at fun o q => k it (List.mem_cons_of_mem _ List.mem_cons_self) o q, hn⟩
  item := by
    intro X hP hw hK hc i pins s σ H E I hf ⟨⟨old, he⟩, hit, hne, ha1, ha2⟩ ⟨xs, x, hq, hx⟩
    subst hP hw hK
    obtain ⟨its, rv, p, hz⟩ := I.tuple hq
    obtain ⟨u, hu, ru⟩ := rv.get hx
    have p : s.heap.IsTuple a its.toArray := p
    have hlt : i < its.toArray.size := by
      have := (List.getElem?_eq_some_iff.mp hu).1
      simpa using this
    have lte : e < s.heap.objs.size := Heap.lt_size he
    have lti : it < s.heap.objs.size := by obtain ⟨_, q, _⟩ := hit; exact Heap.lt_size q
    have ee : e ∉ [it, a] := by simp [hne, Ne.symm ha2]
    refine wpAny_pyNext_enum_itemD (Draws.tuple (in1_handled (I.ok.hd hc)) it a ha1 its.toArray) he ⟨hit, p⟩ hlt hne ee fun x' h1 tk hPx ho hst hT hsz hk => ?_
    obtain rfl : x' = u := by
      have : its.toArray[i]? = some u := by simpa using hu
      rw [this] at hPx
      exact (Option.some.inj hPx).symm
    refine ⟨_, rfl, wpAny_letOwnedTupleGo_enum (s := { s with heap := h1, toks := tk + 1 }) ho fun h2 he2 sb => ?_⟩
    have hT2 : h2.get? s.heap.objs.size = some ⟨.type "tuple", none, .seq #[.int i tk, x'] 0, #[]⟩ := (sb.2 _ (Nat.ne_of_gt lte)).trans hT
    have made : ObjOk X.prog X.w (upd H s.heap.objs.size (.tup [.int (i : Nat), x])) h2 s.heap.objs.size (.tup [.int (i : Nat), x]) := ⟨by show 2 ≤ sizeLine; decide, [.int i tk, x'], .cons ⟨_, rfl⟩ (.cons ru .nil), ⟨_, hT2, rfl, _, rfl⟩⟩
    have I1 : Inv X pins σ (upd H s.heap.objs.size (.tup [.int (i : Nat), x])) { s with heap := h2, toks := tk + 1 } :=
      I.turnedNew (ch := [e, it]) (fun b ob hb q => (sb.2 b (fun z => hb (by simp [z]))).trans (hk b ob (fun z => hb (by simp [z])) (fun z => hb (by simp [z])) q)) hf (Nat.le_refl _) made
    refine ⟨.ref s.heap.objs.size, _, I1, rfl, ⟨_, x, rfl, I.hok.fresh (Nat.le_refl _), rfl, fun ys hy => by rw [I.tuple_inj hy hq]; exact hx⟩, ⟨⟨x', ?_⟩, hst.1.at fun o q => (sb.2 it (Ne.symm hne)).trans q, hne, ha1, ha2⟩, fun b hb => ?_⟩
    · rw [show ((i + 1 : Nat) : Int) = (i : Int) + 1 by omega]
      exact he2
    · have lt : b < s.heap.objs.size := by
        rcases List.mem_cons.mp hb with z | z
        · rw [z]; exact lte
        · rw [List.mem_singleton.mp z]; exact lti
      rw [upd_ne (Nat.ne_of_lt lt)]
      exact (hf b hb).1
  done := by
    intro X hP hw hK hc i pins s σ H E I hf ⟨⟨old, he⟩, hit, hne, ha1, ha2⟩ ⟨xs, hq, hx⟩
    subst hP hw hK
    obtain ⟨its, rv, p, hz⟩ := I.tuple hq
    obtain ⟨f0, f1, f2, f3, f4, f5⟩ := hf it (List.mem_cons_of_mem _ List.mem_cons_self)
    have p : s.heap.IsTuple a its.toArray := p
    have len := rv.length
    have none_ : its.toArray[i]? = none := by simp; omega
    have nothing : Draws X.prog X.w X.A.in1 it [it, a] 0 (fun _ _ => True) (fun _ h => h.IsTupleIter it a i ∧ h.IsTuple a its.toArray) := {
      live := fun _ _ st => let ⟨o, ho, _⟩ := st.1; ⟨o, ho⟩
      frame := fun _ _ _ st k => ⟨st.1.at fun o q => k it (by simp) o q, st.2.at fun o q => k a (by simp) o q⟩
      item := fun j _ _ _ hj => absurd hj (Nat.not_lt_zero j)
      done := fun s2 Q2 E2 st hE => wpAny_nextOf_tuple_end (in1_handled (I.ok.hd hc)) st.1 st.2 none_ hE }
    exact wpAny_pyNext_enum_endD nothing he ⟨hit, p⟩ fun h2 eb => ⟨rfl, I.turned (t' := s.toks) (fun b o hb q => eb b o hb q) f0 f1 f3 f4 f5⟩
  self := fun A i s Q E ⟨⟨_, he⟩, _⟩ k => wpAny_pyIter_enum he k
def iEnumA (K : PySem.W.Frag) (ta : TA) : TI := fun σ H R => ta σ H fun vs H1 => ∃ a, vs = [.ref a] ∧ ((∃ xs, SqL K H1 a xs ∧ R (Ite K a) H1) ∨ ∃ xs, SqT K H1 a xs ∧ R (IteT K a) H1)
/-- enumerate of a list or of a tuple -/
theorem pi_enumA {X : Cx} {e : Expr} {ta : TA} {p pos tpos : Pos} {elts : List Expr} {kk : Nat} (hg : Gl X "enumerate") (hm : X.mg "enumerate" = none) (ha : PA X [e] ta) (hs : starEach [e] X.env = [(false, eval e X.env)]) :
    PI X (.Tuple elts kk tpos) (.Call (.Name "enumerate" p) [e] [] pos) (iEnumA X.K ta) := ⟨fun pins s σ H R I h => by
  refine Call_ (ld_blt I hg hm boot_enumerate (PyProof.Rows.callWith_type1 (thn (ha.run pos pins s σ H _ I h) fun us s1 ⟨vs, H1, I1, r1, a, ex, q1⟩ => ?_) hs rfl))
  subst ex
  cases r1 with
  | cons r rr =>
    cases rr
    cases r
    have fresh : ∀ b, b ∈ [s1.heap.objs.size + 1, s1.heap.objs.size] → FpOk X pins H1 b := fun b hb => by
      have le : s1.heap.objs.size ≤ b := by
        rcases List.mem_cons.mp hb with z | z
        · rw [z]; exact Nat.le_add_right _ _
        · rw [List.mem_singleton.mp z]; exact Nat.le_refl _
      exact I1.fpOk le (I1.hok.fresh le)
    rcases q1 with ⟨xs, hq, q⟩ | ⟨xs, hq, q⟩
    · obtain ⟨its, rv, pl, _⟩ := I1.list hq
      refine call_enumerate_list pl.isList fun h2 he hit _ hk => wpAny_pyIter_enum he ?_
      exact ⟨s1.heap.objs.size + 1, _, _, _, H1, rfl, I1.kept (t' := s1.toks) hk, turn_enum a _ _, ⟨⟨.none, he⟩, hit, Nat.succ_ne_self _⟩, fresh, q⟩
    · obtain ⟨its, rv, pl, _⟩ := I1.tuple hq
      have pl : s1.heap.IsTuple a its.toArray := pl
      have lt : a < s1.heap.objs.size := by obtain ⟨o, ho, _⟩ := id pl; exact Heap.lt_size ho
      refine enum_made (begins_tuple a its.toArray) pl fun h2 he hit hk => wpAny_pyIter_enum he ?_
      exact ⟨s1.heap.objs.size + 1, _, _, _, H1, rfl, I1.kept (t' := s1.toks) hk, turn_enumT a _ _, ⟨⟨.none, he⟩, ⟨_, hit, rfl, rfl⟩, Nat.succ_ne_self _, Nat.ne_of_lt lt, Nat.ne_of_lt (Nat.lt_succ_of_lt lt)⟩, fresh, q⟩⟩
end Rf

/-! Rg, part L1: zip of a list and a tuple, in any order. -/
namespace Rz
open PySem
/-- an iterator over a list (true) | a tuple -/
def IsIt : Bool → Heap → Addr → Addr → Nat → Prop
  | true => Heap.IsListIter
  | false => Heap.IsTupleIter
def IsSq : Bool → Heap → Addr → Array Value → Prop
  | true => Heap.IsList
  | false => Heap.IsTuple
def itC : Bool → String
  | true => "list_iterator"
  | false => "tuple_iterator"
section
variable {k : Bool} {h h' : Heap} {a b l : Addr} {i : Nat} {xs : Array Value}
theorem IsIt.ext (x : IsIt k h a l i) (e : Heap.ExtBut b h h') (n : a ≠ b) : IsIt k h' a l i := by cases k; exact Heap.IsTupleIter.extBut x e n; exact Heap.IsListIter.extBut x e n
theorem IsSq.ext (x : IsSq k h a xs) (e : Heap.ExtBut b h h') (n : a ≠ b) : IsSq k h' a xs := by cases k; exact Heap.IsTuple.extBut x e n; exact Heap.IsList.extBut x e n
theorem IsIt.at_ (x : IsIt k h a l i) (e : ∀ o, h.get? a = some o → h'.get? a = some o) : IsIt k h' a l i := by cases k; exact Heap.IsTupleIter.at x e; exact Heap.IsListIter.at x e
theorem IsIt.obj (x : IsIt k h a l i) : ∃ o, h.get? a = some o ∧ o.data = .fields #[.ref l, .int i 0] := by
  cases k
  · obtain ⟨o, e, _, d⟩ := (show h.IsTupleIter a l i from x); exact ⟨o, e, d⟩
  · obtain ⟨o, e, _, d⟩ := (show h.IsListIter a l i from x); exact ⟨o, e, d⟩
theorem IsIt.lt (x : IsIt k h a l i) : a < h.objs.size := let ⟨_, e, _⟩ := x.obj; Heap.lt_size e
theorem IsSq.lt (x : IsSq k h a xs) : a < h.objs.size := by
  cases k
  · obtain ⟨_, e, _⟩ := (show h.IsTuple a xs from x); exact Heap.lt_size e
  · obtain ⟨_, e, _⟩ := (show h.IsList a xs from x); exact Heap.lt_size e
end
section
variable {prog : Program} {w : World} {A : Around} {E : Value → Shared → Prop} {s : Shared}
theorem nxt_item {k : Bool} {it l : Addr} {i : Nat} {items : Array Value} {x : Value} {Q : Value → Shared → Prop} (hit : IsIt k s.heap it l i) (hl : IsSq k s.heap l items) (hx : items[i]? = some x)
    (hQ : ∀ h', IsIt k h' it l (i + 1) → Heap.SameBut it s.heap h' → Q x { s with heap := h' }) : wpAny (model prog w) A (Builtin.SmallTypes.nextOf (.ref it)) Q E s := by
  cases k
  · exact RZ.nextOf_tuple_item hit hl hx hQ
  · exact wpAny_nextOf_list_item hit hl hx hQ
theorem nxt_end {k : Bool} {it l : Addr} {i : Nat} {items : Array Value} {Q : Value → Shared → Prop} (hh : A.handled = none) (hit : IsIt k s.heap it l i) (hl : IsSq k s.heap l items) (hx : items[i]? = none)
    (hE : ∀ h' e, Heap.ExtBut it s.heap h' → (∃ o, h'.get? e = some o ∧ o.cls = .type "StopIteration") → E (.ref e) { s with heap := h' }) : wpAny (model prog w) A (Builtin.SmallTypes.nextOf (.ref it)) Q E s := by
  cases k
  · exact RZ.nextOf_tuple_end hh hit hl hx hE
  · exact wpAny_nextOf_list_end hh hit hl hx hE
variable {p q : Bool} {z TI TO i1 i2 l1 l2 : Addr} {k1 k2 : Nat} {xs ys : Array Value} {x y a b : Value}
theorem zip_item {Q : Value → Shared → Prop} (D : ZipApart z TI TO i1 i2 l1 l2) (hz : IsZip s.heap z TI TO .none) (hTI : IsPair s.heap TI (.ref i1) (.ref i2)) (hTO : IsPair s.heap TO a b)
    (h1 : IsIt p s.heap i1 l1 k1) (h2 : IsIt q s.heap i2 l2 k2) (hl1 : IsSq p s.heap l1 xs) (hl2 : IsSq q s.heap l2 ys) (hx : xs[k1]? = some x) (hy : ys[k2]? = some y)
    (hQ : ∀ h', IsZip h' z TI TO (rawInt s.heap.objs.size) → IsPair h' TO x y → IsIt p h' i1 l1 (k1 + 1) → IsIt q h' i2 l2 (k2 + 1) → IsPair h' s.heap.objs.size x y → h'.objs.size = s.heap.objs.size + 1 →
      (∀ c o, c ≠ z → c ≠ TO → c ≠ i1 → c ≠ i2 → s.heap.get? c = some o → h'.get? c = some o) → Q (.ref s.heap.objs.size) { s with heap := h' }) :
    wpAny (model prog w) A (Builtin.«zip.__next__» ⟨[.ref z], []⟩) (fun fin s' => ∃ v, fin = .done (.ret v) ∧ Q v s') E s := by
  show wpAny _ _ (field (.ref z) 2 >>= _) _ _ _
  refine wpAny_bind (wpAny_field hz rfl (x := .bool false) rfl ?_)
  show wpAny _ _ (field (.ref z) 3 >>= _) _ _ _
  refine wpAny_bind (wpAny_field hz rfl (x := .ref TI) rfl (wpAny_bind (wpAny_seqItems hTI rfl ?_)))
  show wpAny _ _ (Builtin.SmallTypes.ownedTupleIsFree (.ref z) >>= _) _ _ _
  unfold Builtin.SmallTypes.ownedTupleIsFree
  refine wpAny_bind (wpAny_bind (wpAny_field hz rfl (x := .none) rfl (wpAny_pure ?_)))
  simp only [if_true]
  refine wpAny_bind (wpAny_rule (wpAny_bind (wpAny_field hz rfl (x := .ref TO) rfl (wpAny_bind (wpAny_setField_rec hz (by simp) fun g1 zg1 s1 => ?_)))))
  have zg1 : IsZip g1 z TI TO .ellipsis := zg1
  refine wpAny_bind ?_
  simp only [List.zipIdx_cons, List.zipIdx_nil, List.forIn_cons, List.forIn_nil]
  -- the first
  refine wpAny_bind (wpAny_bind (wpAny_onRaise ?_))
  show wpAny _ _ (Builtin.SmallTypes.nextOf (.ref i1) >>= _) _ _ _
  refine wpAny_bind (nxt_item (h1.ext s1.extBut D.i1z) (hl1.ext s1.extBut D.l1z) hx fun g2 a2 s2 => wpAny_pure ?_)
  have o2 : IsPair g2 TO a b := s2.extBut _ _ D.TOi1 (s1.extBut _ _ D.TOz hTO)
  refine wpAny_bind (wpAny_seqItems o2 rfl (wpAny_bind (wpAny_updateSeq_pair o2 fun g3 o3 s3 => ?_)))
  have o3 : IsPair g3 TO x b := o3
  refine wpAny_bind (wpAny_letGo (wpAny_pure ?_))
  -- the second
  refine wpAny_bind (wpAny_bind (wpAny_onRaise ?_))
  show wpAny _ _ (Builtin.SmallTypes.nextOf (.ref i2) >>= _) _ _ _
  refine wpAny_bind (nxt_item (((h2.ext s1.extBut D.i2z).ext s2.extBut D.i12.symm).ext s3.extBut D.TOi2.symm) (((hl2.ext s1.extBut D.l2z).ext s2.extBut D.l2i1).ext s3.extBut D.l2TO) hy fun g4 a4 s4 => wpAny_pure ?_)
  have o4 : IsPair g4 TO x b := s4.extBut _ _ D.TOi2 o3
  refine wpAny_bind (wpAny_seqItems o4 rfl (wpAny_bind (wpAny_updateSeq_pair o4 fun g5 o5 s5 => ?_)))
  have o5 : IsPair g5 TO x y := o5
  refine wpAny_bind (wpAny_letGo (wpAny_pure (wpAny_pure ?_)))
  -- the pair
  refine wpAny_bind (wpAny_seqItems o5 rfl (wpAny_bind (wpAny_newTuple ?_)))
  have sz : g5.objs.size = s.heap.objs.size := by rw [s5.1, s4.1, s3.1, s2.1, s1.1]
  have z5 : IsZip g5 z TI TO .ellipsis := s5.extBut _ _ D.TOz.symm (s4.extBut _ _ D.i2z.symm (s3.extBut _ _ D.TOz.symm (s2.extBut _ _ D.i1z.symm zg1)))
  have keep5 : ∀ c o, c ≠ z → c ≠ TO → c ≠ i1 → c ≠ i2 → s.heap.get? c = some o → g5.get? c = some o := fun c o c1 c2 c3 c4 e => s5.extBut _ _ c2 (s4.extBut _ _ c4 (s3.extBut _ _ c2 (s2.extBut _ _ c3 (s1.extBut _ _ c1 e))))
  have b1 : IsIt p g5 i1 l1 (k1 + 1) := ((a2.ext s3.extBut D.TOi1.symm).ext s4.extBut D.i12).ext s5.extBut D.TOi1.symm
  have b2 : IsIt q g5 i2 l2 (k2 + 1) := a4.ext s5.extBut D.TOi2.symm
  have hzlt : z < g5.objs.size := Heap.lt_size z5
  have hTOlt : TO < g5.objs.size := Heap.lt_size o5
  show wpAny _ _ (Builtin.SmallTypes.ownedTupleHandOut (.ref z) (.ref g5.objs.size) >>= _) _ _ _
  unfold Builtin.SmallTypes.ownedTupleHandOut
  have z6 : IsZip (g5.push { cls := .type "tuple", data := .seq #[x, y] }) z TI TO .ellipsis := Heap.get?_push_of_some _ z5
  refine wpAny_bind (wpAny_bind (wpAny_setField_rec z6 (by simp) fun g7 z7 s7 => ?_))
  have z7 : IsZip g7 z TI TO (rawInt g5.objs.size) := z7
  refine wpAny_setField_rec z7 (by simp) fun g8 z8 s8 => ?_
  have z8 : IsZip g8 z TI TO (rawInt g5.objs.size) := z8
  have up : ∀ c o, c ≠ z → g5.get? c = some o → g8.get? c = some o := fun c o c1 e => s8.extBut _ _ c1 (s7.extBut _ _ c1 (Heap.get?_push_of_some _ e))
  have t8 : IsPair g8 g5.objs.size x y := s8.extBut _ _ (Nat.ne_of_gt hzlt) (s7.extBut _ _ (Nat.ne_of_gt hzlt) (Heap.get?_push_size _ rfl))
  have n8 : g8.objs.size = g5.objs.size + 1 := by rw [s8.1, s7.1, Heap.size_push]
  rw [sz] at z8 t8 n8
  refine wpAny_pure ⟨_, rfl, ?_⟩
  show Q (.ref g5.objs.size) _
  rw [sz]
  exact hQ g8 z8 (up _ _ D.TOz o5) (b1.at_ fun o e => up _ o D.i1z e) (b2.at_ fun o e => up _ o D.i2z e) t8 n8 fun c o c1 c2 c3 c4 e => up c o c1 (keep5 c o c1 c2 c3 c4 e)
theorem zip_end {Q : Fin → Shared → Prop} (hh : A.handled = none) (D : ZipApart z TI TO i1 i2 l1 l2) (hz : IsZip s.heap z TI TO .none) (hTI : IsPair s.heap TI (.ref i1) (.ref i2)) (hTO : IsPair s.heap TO a b)
    (h1 : IsIt p s.heap i1 l1 k1) (h2 : IsIt q s.heap i2 l2 k2) (hl1 : IsSq p s.heap l1 xs) (hl2 : IsSq q s.heap l2 ys) (hend : xs[k1]? = none ∨ ys[k2]? = none)
    (hE : ∀ h' e, (∀ c o, c ≠ z → c ≠ TO → c ≠ i1 → c ≠ i2 → s.heap.get? c = some o → h'.get? c = some o) → (∃ o, h'.get? e = some o ∧ o.cls = .type "StopIteration") → E (.ref e) { s with heap := h' }) :
    wpAny (model prog w) A (Builtin.«zip.__next__» ⟨[.ref z], []⟩) Q E s := by
  show wpAny _ _ (field (.ref z) 2 >>= _) _ _ _
  refine wpAny_bind (wpAny_field hz rfl (x := .bool false) rfl ?_)
  show wpAny _ _ (field (.ref z) 3 >>= _) _ _ _
  refine wpAny_bind (wpAny_field hz rfl (x := .ref TI) rfl (wpAny_bind (wpAny_seqItems hTI rfl ?_)))
  show wpAny _ _ (Builtin.SmallTypes.ownedTupleIsFree (.ref z) >>= _) _ _ _
  unfold Builtin.SmallTypes.ownedTupleIsFree
  refine wpAny_bind (wpAny_bind (wpAny_field hz rfl (x := .none) rfl (wpAny_pure ?_)))
  simp only [if_true]
  refine wpAny_bind (wpAny_rule (wpAny_bind (wpAny_field hz rfl (x := .ref TO) rfl (wpAny_bind (wpAny_setField_rec hz (by simp) fun g1 zg1 s1 => ?_)))))
  have zg1 : IsZip g1 z TI TO .ellipsis := zg1
  refine wpAny_bind ?_
  simp only [List.zipIdx_cons, List.zipIdx_nil, List.forIn_cons, List.forIn_nil]
  -- what is raised goes through the cleaning up
  have raised : ∀ {g : Heap} {e : Addr}, IsZip g z TI TO .ellipsis → (∃ o, g.get? e = some o ∧ o.cls = .type "StopIteration") → (∀ c o, c ≠ z → c ≠ TO → c ≠ i1 → c ≠ i2 → s.heap.get? c = some o → g.get? c = some o) →
      ∀ {g' : Heap}, Heap.SameBut z g g' → E (.ref e) { s with heap := g' } := fun {g e} hg he hk {g'} sb => by
    obtain ⟨oe, hoe, hce⟩ := he
    have hez : e ≠ z := fun x => by subst x; rw [hg] at hoe; cases hoe; simp at hce
    exact hE g' e (fun c o c1 c2 c3 c4 x => sb.extBut _ _ c1 (hk c o c1 c2 c3 c4 x)) ⟨oe, sb.extBut _ _ hez hoe, hce⟩
  refine wpAny_bind (wpAny_bind (wpAny_onRaise ?_))
  show wpAny _ _ (Builtin.SmallTypes.nextOf (.ref i1) >>= _) _ _ _
  cases hx : xs[k1]? with
  | none =>
    refine wpAny_bind (nxt_end hh (h1.ext s1.extBut D.i1z) (hl1.ext s1.extBut D.l1z) hx fun g2 e s2 he => ?_)
    have z2 : IsZip g2 z TI TO .ellipsis := s2 _ _ D.i1z.symm zg1
    exact wpAny_setField_rec z2 (by simp) fun g3 _ s3 => raised z2 he (fun c o c1 _ c3 _ x => s2 _ _ c3 (s1.extBut _ _ c1 x)) s3
  | some x =>
    have hy : ys[k2]? = none := by rcases hend with h | h; rw [hx] at h; cases h; exact h
    refine wpAny_bind (nxt_item (h1.ext s1.extBut D.i1z) (hl1.ext s1.extBut D.l1z) hx fun g2 a2 s2 => wpAny_pure ?_)
    have o2 : IsPair g2 TO a b := s2.extBut _ _ D.TOi1 (s1.extBut _ _ D.TOz hTO)
    refine wpAny_bind (wpAny_seqItems o2 rfl (wpAny_bind (wpAny_updateSeq_pair o2 fun g3 o3 s3 => wpAny_bind (wpAny_letGo (wpAny_pure ?_)))))
    refine wpAny_bind (wpAny_bind (wpAny_onRaise ?_))
    show wpAny _ _ (Builtin.SmallTypes.nextOf (.ref i2) >>= _) _ _ _
    refine wpAny_bind (nxt_end hh (((h2.ext s1.extBut D.i2z).ext s2.extBut D.i12.symm).ext s3.extBut D.TOi2.symm) (((hl2.ext s1.extBut D.l2z).ext s2.extBut D.l2i1).ext s3.extBut D.l2TO) hy fun g4 e s4 he => ?_)
    have z4 : IsZip g4 z TI TO .ellipsis := s4 _ _ D.i2z.symm (s3.extBut _ _ D.TOz.symm (s2.extBut _ _ D.i1z.symm zg1))
    exact wpAny_setField_rec z4 (by simp) fun g5 _ s5 => raised z4 he (fun c o c1 c2 c3 c4 x => s4 _ _ c4 (s3.extBut _ _ c2 (s2.extBut _ _ c3 (s1.extBut _ _ c1 x)))) s5
theorem py_item {Q : Option Value → Shared → Prop} (D : ZipApart z TI TO i1 i2 l1 l2) (hz : IsZip s.heap z TI TO .none) (hTI : IsPair s.heap TI (.ref i1) (.ref i2)) (hTO : IsPair s.heap TO a b)
    (h1 : IsIt p s.heap i1 l1 k1) (h2 : IsIt q s.heap i2 l2 k2) (hl1 : IsSq p s.heap l1 xs) (hl2 : IsSq q s.heap l2 ys) (hx : xs[k1]? = some x) (hy : ys[k2]? = some y)
    (hQ : ∀ h', IsZip h' z TI TO (rawInt s.heap.objs.size) → IsPair h' TO x y → IsIt p h' i1 l1 (k1 + 1) → IsIt q h' i2 l2 (k2 + 1) → IsPair h' s.heap.objs.size x y → h'.objs.size = s.heap.objs.size + 1 →
      (∀ c o, c ≠ z → c ≠ TO → c ≠ i1 → c ≠ i2 → s.heap.get? c = some o → h'.get? c = some o) → Q (some (.ref s.heap.objs.size)) { s with heap := h' }) :
    wpAny (model prog w) A (pyNext (.ref z)) Q E s := by
  have hT : s.TypeIs (.ref z) "zip" := ⟨_, hz, rfl⟩
  unfold pyNext
  exact wpAny_bind (wpAny_attempt (wpAny_callSpecial?_slot (name := Str.ofString "__next__") hT F.slot_zip_next (wpAny_call_entry F.slot_zip_next hT F.entry_zip_next
    (zip_item D hz hTI hTO h1 h2 hl1 hl2 hx hy fun h' a1 a2 a3 a4 a5 a6 a7 => wpAny_pure (hQ h' a1 a2 a3 a4 a5 a6 a7)) (F.args_zip_next_1 _))))
theorem py_end {Q : Option Value → Shared → Prop} (hh : A.handled = none) (D : ZipApart z TI TO i1 i2 l1 l2) (hz : IsZip s.heap z TI TO .none) (hTI : IsPair s.heap TI (.ref i1) (.ref i2)) (hTO : IsPair s.heap TO a b)
    (h1 : IsIt p s.heap i1 l1 k1) (h2 : IsIt q s.heap i2 l2 k2) (hl1 : IsSq p s.heap l1 xs) (hl2 : IsSq q s.heap l2 ys) (hend : xs[k1]? = none ∨ ys[k2]? = none)
    (hQ : ∀ h', (∀ c o, c ≠ z → c ≠ TO → c ≠ i1 → c ≠ i2 → s.heap.get? c = some o → h'.get? c = some o) → Q none { s with heap := h' }) : wpAny (model prog w) A (pyNext (.ref z)) Q E s := by
  have hT : s.TypeIs (.ref z) "zip" := ⟨_, hz, rfl⟩
  unfold pyNext
  refine wpAny_bind (wpAny_attempt (wpAny_callSpecial?_slot (name := Str.ofString "__next__") hT F.slot_zip_next (wpAny_call_entry F.slot_zip_next hT F.entry_zip_next (zip_end hh D hz hTI hTO h1 h2 hl1 hl2 hend fun h' e hk he => ?_) (F.args_zip_next_1 _))))
  obtain ⟨o, ho, hc⟩ := he
  exact wpAny_bind (wpAny_isInstance (T := "StopIteration") (b := true) ⟨o, ho, hc⟩ isSubtype_stop (wpAny_pure (hQ _ hk)))
end
end Rz

/-! Rg, part L2: zip of a list and a tuple: called, walked. -/
namespace Rz
open PySem
def itO (k : Bool) (l : Addr) : Obj := { cls := .type (itC k), data := .fields #[.ref l, .int 0 0] }
abbrev zH (p q : Bool) (h : Heap) (l1 l2 : Addr) : Heap :=
  ((((h.push (itO p l1)).push (itO q l2)).push { cls := .type "tuple", data := .seq #[.ref h.objs.size, .ref (h.objs.size + 1)] }).push { cls := .type "tuple", data := .seq #[.none, .none] }).push
    { cls := .type "zip", data := .fields #[.none, .bool false, .bool false, .ref (h.objs.size + 2), .ref (h.objs.size + 3)] }
theorem IsSq.push {k : Bool} {h : Heap} {a : Addr} {xs : Array Value} (x : IsSq k h a xs) (o : Obj) : IsSq k (h.push o) a xs := by cases k; exact Heap.IsTuple.push x o; exact Heap.IsList.push x o
theorem py_iter {k : Bool} {prog : Program} {w : World} {A : Around} {E : Value → Shared → Prop} {s : Shared} {l : Addr} {xs : Array Value} {Q : Value → Shared → Prop} (hl : IsSq k s.heap l xs) (h : Q (.ref s.heap.objs.size) { s with heap := s.heap.push (itO k l) }) :
    wpAny (model prog w) A (pyIter (.ref l)) Q E s := by
  cases k
  · exact wpAny_pyIter_tuple hl h
  · exact wpAny_pyIter_list hl h
theorem meets_new (p q : Bool) (l1 l2 : Addr) (xs ys : Array Value) :
    Meets (Builtin.«zip.__new__» ⟨[.type "zip", .ref l1, .ref l2], []⟩) (fun _ R s => IsSq p s.heap l1 xs ∧ IsSq q s.heap l2 ys ∧ R (.ok (.ret (.ref (s.heap.objs.size + 4)))) { s with heap := zH p q s.heap l1 l2 }) :=
  .of_wp fun prog w A R s h => by
    obtain ⟨hp, g, d, tk, os⟩ := s; obtain ⟨hl1, hl2, h⟩ := h
    have hsub := sub_zip
    have e1 : IsSq p (Shared.heap ⟨hp, g, d, tk, os⟩) l1 xs := hl1
    have e2 : IsSq q (Shared.heap ⟨hp.push (itO p l1), g, d, tk, os⟩) l2 ys := hl2.push _
    wp_walk using py_iter e1, py_iter e2
    simp only [Heap.size_push] at *
    exact ⟨_, rfl, h⟩
section
variable {prog : Program} {w : World} {A : Around} {E : Value → Shared → Prop} {s : Shared}
theorem call_zip {p q : Bool} {l1 l2 : Addr} {xs ys : Array Value} {Q : Value → Shared → Prop} (hl1 : IsSq p s.heap l1 xs) (hl2 : IsSq q s.heap l2 ys)
    (h : ∀ h', IsZip h' (s.heap.objs.size + 4) (s.heap.objs.size + 2) (s.heap.objs.size + 3) .none → IsPair h' (s.heap.objs.size + 2) (.ref s.heap.objs.size) (.ref (s.heap.objs.size + 1)) →
      IsPair h' (s.heap.objs.size + 3) .none .none → IsIt p h' s.heap.objs.size l1 0 → IsIt q h' (s.heap.objs.size + 1) l2 0 →
      (∀ c o, s.heap.get? c = some o → h'.get? c = some o) → Q (.ref (s.heap.objs.size + 4)) { s with heap := h' }) :
    wpAny (model prog w) A (call (.type "zip") [.ref l1, .ref l2]) Q E s := by
  refine callType_new F.called_zip (by decide) (F.typeCall_zip_2 _ _) (F.newCall_zip_2 _ _) (fun obj => F.args_object_init_3 obj _ _) F.entry_zip_new
    (meets_new p q l1 l2 xs ys) ⟨hl1, hl2, ?_⟩
  have up : ∀ c o, s.heap.get? c = some o → (zH p q s.heap l1 l2).get? c = some o := fun c o x =>
    Heap.get?_push_of_some _ (Heap.get?_push_of_some _ (Heap.get?_push_of_some _ (Heap.get?_push_of_some _ (Heap.get?_push_of_some _ x))))
  have at_ : ∀ {g : Heap} {o : Obj} {n : Nat}, g.objs.size = n → o.isFreed = false → (g.push o).get? n = some o := fun {g o n} e f => by subst e; exact Heap.get?_push_size _ f
  have g1 : (zH p q s.heap l1 l2).get? s.heap.objs.size = some (itO p l1) :=
    Heap.get?_push_of_some _ (Heap.get?_push_of_some _ (Heap.get?_push_of_some _ (Heap.get?_push_of_some _ (at_ rfl rfl))))
  have g2 : (zH p q s.heap l1 l2).get? (s.heap.objs.size + 1) = some (itO q l2) :=
    Heap.get?_push_of_some _ (Heap.get?_push_of_some _ (Heap.get?_push_of_some _ (at_ (by simp only [Heap.size_push]) rfl)))
  have g3 : (zH p q s.heap l1 l2).get? (s.heap.objs.size + 2) = some _ := Heap.get?_push_of_some _ (Heap.get?_push_of_some _ (at_ (by simp only [Heap.size_push]) rfl))
  have g4 : (zH p q s.heap l1 l2).get? (s.heap.objs.size + 3) = some _ := Heap.get?_push_of_some _ (at_ (by simp only [Heap.size_push]) rfl)
  have g5 : (zH p q s.heap l1 l2).get? (s.heap.objs.size + 4) = some _ := at_ (by simp only [Heap.size_push]) rfl
  refine ⟨⟨_, g5, rfl⟩, h _ g5 g3 g4 ?_ ?_ up⟩
  · cases p <;> exact ⟨_, g1, rfl, rfl⟩
  · cases q <;> exact ⟨_, g2, rfl, rfl⟩
end
end Rz
namespace L2
open PySem PySem.Spec PyProof.Rows
/-- a list | a tuple that may be walked -/
def SqB (K : PySem.W.Frag) (H : Hp) : Bool → Addr → List V → Prop
  | true => SqL K H
  | false => SqT K H
theorem Inv.sqB {X : Cx} {pins : List (Addr × Obj)} {σ : St} {H : Hp} {s : Shared} (I : Inv X pins σ H s) {k : Bool} {a : Addr} {xs : List V} (h : SqB X.K H k a xs) : ∃ its : List Value, Vals xs its ∧ Rz.IsSq k s.heap a its.toArray := by
  cases k
  · obtain ⟨its, r, e, _⟩ := I.tuple h; exact ⟨its, r, e⟩
  · obtain ⟨its, r, e, _⟩ := I.list h; exact ⟨its, r, e.isList⟩
/-- the two as they stand at each turn, the items in new pairs -/
def ItzB (K : PySem.W.Frag) (p q : Bool) (a b : Addr) : It :=
  ⟨fun i H => ∃ (xs ys : List V) (x y : V), SqB K H p a xs ∧ SqB K H q b ys ∧ xs[i]? = some x ∧ ys[i]? = some y,
    fun i H v H' => ∃ T x y, v = .ref T ∧ H T = none ∧ H' = upd H T (.tup [x, y]) ∧ (∀ xs, SqB K H p a xs → xs[i]? = some x) ∧ ∀ ys, SqB K H q b ys → ys[i]? = some y,
    fun i H => ∃ xs ys : List V, SqB K H p a xs ∧ SqB K H q b ys ∧ (xs.length ≤ i ∨ ys.length ≤ i)⟩
theorem Inv.sqB_inj {X : Cx} {pins : List (Addr × Obj)} {σ : St} {H : Hp} {s : Shared} (I : Inv X pins σ H s) {k : Bool} {a : Addr} {xs ys : List V} (h : SqB X.K H k a xs) (h' : SqB X.K H k a ys) : xs = ys := by
  cases k
  · exact I.tuple_inj h h'
  · exact I.list_inj h h'
/-- one of five -/
theorem five {P : Addr → Prop} {z TI TO i1 i2 c : Addr} (h : c ∈ [z, TI, TO, i1, i2]) (a1 : P z) (a2 : P TI) (a3 : P TO) (a4 : P i1) (a5 : P i2) : P c := by
  simp only [List.mem_cons, List.not_mem_nil, or_false] at h
  rcases h with rfl | rfl | rfl | rfl | rfl <;> assumption
theorem turn_zipB {P : Program} {w : World} {K : PySem.W.Frag} {elts : List Expr} {kk : Nat} {tpos : Pos} {p q : Bool} {a b z TI TO i1 i2 : Addr} (D : ZipApart z TI TO i1 i2 a b) :
    Turn P w K (.Tuple elts kk tpos) (ItzB K p q a b) [z, TI, TO, i1, i2] z (fun i h => IsZip h z TI TO .none ∧ IsPair h TI (.ref i1) (.ref i2) ∧ (∃ x y, IsPair h TO x y) ∧ Rz.IsIt p h i1 a i ∧ Rz.IsIt q h i2 b i) where
  mem := by simp
  obj := fun i h st c hc => by
    obtain ⟨hz, hTI, ⟨x, y, hTO⟩, h1, h2⟩ := st
    obtain ⟨o1, e1, d1⟩ := h1.obj
    obtain ⟨o2, e2, d2⟩ := h2.obj
    exact five (P := fun c => ∃ o, h.get? c = some o ∧ ∀ v, o.data ≠ .cell v) hc ⟨_, hz, fun v q => nomatch q⟩ ⟨_, hTI, fun v q => nomatch q⟩ ⟨_, hTO, fun v q => nomatch q⟩ ⟨o1, e1, fun v q => by rw [d1] at q; cases q⟩ ⟨o2, e2, fun v q => by rw [d2] at q; cases q⟩
  keep := fun i h h' st k => by
    obtain ⟨hz, hTI, ⟨x, y, hTO⟩, h1, h2⟩ := st
    exact ⟨k z (by simp) _ hz, k TI (by simp) _ hTI, ⟨x, y, k TO (by simp) _ hTO⟩, h1.at_ fun o q => k i1 (by simp) o q, h2.at_ fun o q => k i2 (by simp) o q⟩
  item := by
    intro X hP hw hK hc i pins s σ H E I hf st hg
    subst hP hw hK
    obtain ⟨hz, hTI, ⟨x0, y0, hTO⟩, h1, h2⟩ := st
    obtain ⟨xs, ys, x, y, hqx, hqy, hx, hy⟩ := hg
    obtain ⟨its, rv, e1⟩ := I.sqB hqx
    obtain ⟨its2, rv2, e2⟩ := I.sqB hqy
    obtain ⟨u, hu, ru⟩ := rv.get hx
    obtain ⟨u2, hu2, ru2⟩ := rv2.get hy
    have hzl : z < s.heap.objs.size := Heap.lt_size hz
    refine Rz.py_item D hz hTI hTO h1 h2 e1 e2 (x := u) (y := u2) (by simpa using hu) (by simpa using hu2) fun h' z' TO' h1' h2' hT hsz hk => ?_
    refine ⟨_, rfl, wpAny_letOwnedTupleGo_zip (s := { s with heap := h' }) z' fun h'' z'' sb => ?_⟩
    have hT2 : h''.get? s.heap.objs.size = some { cls := .type "tuple", data := .seq #[u, u2] } := (sb.2 _ (Nat.ne_of_gt hzl)).trans hT
    have new : ObjOk X.prog X.w (upd H s.heap.objs.size (.tup [x, y])) h'' s.heap.objs.size (.tup [x, y]) :=
      ⟨by show 2 ≤ sizeLine; decide, [u, u2], .cons ru (.cons ru2 .nil), ⟨_, hT2, rfl, _, rfl⟩⟩
    have I1 : Inv X pins σ (upd H s.heap.objs.size (.tup [x, y])) { s with heap := h'' } :=
      I.turnedNew (t' := s.toks) (ch := [z, TI, TO, i1, i2]) (fun c o hb q => (sb.2 c (fun q' => hb (by simp [q']))).trans (hk c o (fun q' => hb (by simp [q'])) (fun q' => hb (by simp [q'])) (fun q' => hb (by simp [q'])) (fun q' => hb (by simp [q'])) q)) hf (Nat.le_refl _) new
    refine ⟨.ref s.heap.objs.size, _, I1, rfl, ⟨_, x, y, rfl, I.hok.fresh (Nat.le_refl _), rfl, fun l hl => by rw [I.sqB_inj hl hqx]; exact hx, fun l hl => by rw [I.sqB_inj hl hqy]; exact hy⟩,
      ⟨z'', (sb.2 _ D.TIz).trans (hk _ _ D.TIz D.TITO D.TIi1 D.TIi2 hTI), ⟨u, u2, (sb.2 _ D.TOz).trans TO'⟩, h1'.at_ fun o q => (sb.2 _ D.i1z).trans q, h2'.at_ fun o q => (sb.2 _ D.i2z).trans q⟩, fun c hcm => ?_⟩
    have hlt : c < s.heap.objs.size := five (P := fun c => c < s.heap.objs.size) hcm hzl (Heap.lt_size hTI) (Heap.lt_size hTO) h1.lt h2.lt
    rw [upd_ne (Nat.ne_of_lt hlt)]
    exact (hf c hcm).1
  done := by
    intro X hP hw hK hc i pins s σ H E I hf st hg
    subst hP hw hK
    obtain ⟨hz, hTI, ⟨x0, y0, hTO⟩, h1, h2⟩ := st
    obtain ⟨xs, ys, hqx, hqy, hend⟩ := hg
    obtain ⟨its, rv, e1⟩ := I.sqB hqx
    obtain ⟨its2, rv2, e2⟩ := I.sqB hqy
    have l1 := rv.length
    have l2 := rv2.length
    have he : its.toArray[i]? = none ∨ its2.toArray[i]? = none := by
      rcases hend with q | q
      · exact .inl (by simp; omega)
      · exact .inr (by simp; omega)
    exact Rz.py_end (I.ok.hd hc) D hz hTI hTO h1 h2 e1 e2 he fun h' hk => ⟨rfl, I.turnedL (t' := s.toks) (ch := [z, TI, TO, i1, i2]) (fun c o hb q =>
      hk c o (fun q' => hb (by simp [q'])) (fun q' => hb (by simp [q'])) (fun q' => hb (by simp [q'])) (fun q' => hb (by simp [q'])) q) hf⟩
  self := fun A i s Q E st h => wpAny_pyIter_zip st.1 h
def iZipB (K : PySem.W.Frag) (ta : TA) : TI := fun σ H R => ta σ H fun vs H1 => ∃ p q a b xs ys, vs = [.ref a, .ref b] ∧ SqB K H1 p a xs ∧ SqB K H1 q b ys ∧ R (ItzB K p q a b) H1
theorem pi_zipB {X : Cx} {e e2 : Expr} {ta : TA} {p pos tpos : Pos} {elts : List Expr} {kk : Nat} (hg : Gl X "zip") (hm : X.mg "zip" = none) (ha : PA X [e, e2] ta)
    (hs : starEach [e, e2] X.env = (false, eval e X.env) :: starEach [e2] X.env) (hpl : (backTo pos (starEach [e2] X.env)).any (·.1) = false) :
    PI X (.Tuple elts kk tpos) (.Call (.Name "zip" p) [e, e2] [] pos) (iZipB X.K ta) := by
  refine ⟨fun pins s σ H R I h => ?_⟩
  refine Call_ (ld_blt I hg hm PyProof.Rows.boot_zip (PyProof.Rows.callWith_type1 (thn (ha.run pos pins s σ H _ I h) fun us s1 ⟨vs, H1, I1, r1, q1⟩ => ?_) hs hpl))
  obtain ⟨p, q, a, b, xs, ys, ex, hqx, hqy, q1⟩ := q1
  subst ex
  cases r1 with
  | cons r rr =>
    cases rr with
    | cons r' rr =>
      cases rr
      cases r
      cases r'
      obtain ⟨its, rv, e1⟩ := I1.sqB hqx
      obtain ⟨its2, rv2, e2⟩ := I1.sqB hqy
      refine Rz.call_zip e1 e2 fun h' hz hTI hTO h1 h2 hk => wpAny_pyIter_zip hz ?_
      have I2 : Inv X pins σ H1 { s1 with heap := h' } := I1.kept (t' := s1.toks) hk
      have nw : ∀ n, FpOk X pins H1 (s1.heap.objs.size + n) := fun n => I1.fpOk (Nat.le_add_right _ _) (I1.hok.fresh (Nat.le_add_right _ _))
      exact ⟨s1.heap.objs.size + 4, [s1.heap.objs.size + 4, s1.heap.objs.size + 2, s1.heap.objs.size + 3, s1.heap.objs.size, s1.heap.objs.size + 1], _, _, H1, rfl, I2, turn_zipB (PySem.W.ktu_apart s1.heap.objs.size a b e1.lt e2.lt), ⟨hz, hTI, ⟨_, _, hTO⟩, h1, h2⟩,
        fun c hcm => five (P := fun c => FpOk X pins H1 c) hcm (nw 4) (nw 2) (nw 3) (nw 0) (nw 1), q1⟩
end L2

/-! Rg, part L: what loops and comprehensions walk; list comprehensions. -/
namespace Rf
open PySem PySem.Spec PyProof.Rows L2
/-- the iterator J yields these, whatever is changed that is owned -/
def ItOk (S : Sit) (J : L2.It) (ds : List D) (H1 : Hp) (O1 : Addr → Prop) : Prop := ∀ (i : Nat) (H : Hp) (F' : Addr → Prop), Mono H1 (S.F O1) H F' → (∀ a, F' a → H a ≠ none) →
  (∀ d, ds[i]? = some d → J.go i H ∧ ∀ x H', J.yld i H x H' → Same H H' ∧ Rep S.K H' F' d x) ∧ (ds.length ≤ i → J.stop i H)
def tIt (S : Sit) (C : Calls) (W : WX) (it : Rf.It) : TI := fun σ H R => ∃ P env O, SR S P H O env σ ∧ PostG S W P H O σ (evalI C it env) fun ds _ H' O' => ∀ J, ItOk S J ds H' O' → R J H'
section
variable {X : Cx} {S : Sit} {C : Calls} {W : WX} {pos : Pos} {a b c : E} {pa pb pc tg : Expr}
theorem LsF.inj {H : Hp} {K : PySem.W.Frag} {F : Addr → Prop} {a : Addr} {xs ys : List V} (h : LsF H F a xs) (hk : K.lookup a = none ∨ True) (h2 : H a = some (.lst ys)) : ys = xs := by
  rw [h.1] at h2; cases h2; rfl
/-- a list that is tracked is no known one -/
theorem itOk_list {ds : List D} {vs : List V} {l : Addr} {H1 : Hp} {O1 : Addr → Prop} (hl : LsF H1 (S.F O1) l vs) (rs : Reps S.K H1 (S.F O1) ds vs) : ItOk S (Itl S.K l) ds H1 O1 := fun i H F' m hn => by
  have q := hl.mono m
  have r := rs.mono m
  have sq : SqL S.K H l vs := q.sq
  refine ⟨fun d hd => ?_, fun hle => ⟨vs, sq, by rw [← r.length]; exact hle⟩⟩
  obtain ⟨v, hv, rv⟩ := r.get hd
  refine ⟨⟨vs, v, sq, hv⟩, fun x H' y => ?_⟩
  obtain ⟨e, y⟩ := y
  subst e
  have := y vs sq
  rw [hv] at this; cases this
  exact ⟨Same.refl _, rv⟩
theorem itOk_tup {ds : List D} {vs : List V} {l : Addr} {H1 : Hp} {O1 : Addr → Prop} (hl : TuF S.K H1 (S.F O1) l vs) (rs : Reps S.K H1 (S.F O1) ds vs) : ItOk S (Itt S.K l) ds H1 O1 := fun i H F' m hn => by
  have q := hl.mono m
  have r := rs.mono m
  have sq : SqT S.K H l vs := q.sq
  refine ⟨fun d hd => ?_, fun hle => ⟨vs, sq, by rw [← r.length]; exact hle⟩⟩
  obtain ⟨v, hv, rv⟩ := r.get hd
  refine ⟨⟨vs, v, sq, hv⟩, fun x H' y => ?_⟩
  obtain ⟨e, y⟩ := y
  subst e
  have := y vs sq
  rw [hv] at this; cases this
  exact ⟨Same.refl _, rv⟩
theorem itOk_rng {lo : Int} {n : Nat} {H1 : Hp} {O1 : Addr → Prop} : ItOk S (Itr lo n) (rangeD lo n) H1 O1 := fun i H F' m hn => by
  unfold rangeD
  refine ⟨fun d hd => ?_, fun hle => show n ≤ i by simpa using hle⟩
  rw [List.getElem?_map] at hd
  obtain ⟨j, hj, rfl⟩ := Option.map_eq_some_iff.mp hd
  obtain ⟨h1, h2⟩ := List.getElem?_eq_some_iff.mp hj
  rw [List.length_range] at h1
  have : j = i := by rw [← h2, List.getElem_range]
  subst this
  refine ⟨h1, fun x H' y => ?_⟩
  obtain ⟨e, y⟩ := y
  subst e y
  exact ⟨Same.refl _, rfl⟩
theorem zip_at {xs ys : List D} {i : Nat} {d : D} (h : (List.zipWith (fun x y => D.tup [x, y]) xs ys)[i]? = some d) : ∃ x y, xs[i]? = some x ∧ ys[i]? = some y ∧ d = .tup [x, y] := by
  rw [List.getElem?_zipWith] at h
  split at h
  · rename_i x y h1 h2
    cases h
    exact ⟨x, y, h1, h2, rfl⟩
  · cases h
theorem rep_pair {K : PySem.W.Frag} {H : Hp} {F : Addr → Prop} {d e : D} {v w : V} {T : Addr} (h1 : Rep K H F d v) (h2 : Rep K H F e w) (hT : H T = none) (hn : ∀ a, F a → H a ≠ none) : Rep K (upd H T (.tup [v, w])) F (.tup [d, e]) (.ref T) :=
  ⟨T, [v, w], rfl, ⟨upd_same, fun q => hn T q hT⟩, .cons (h1.mono (Mono.same (same_upd hT))) (.cons (h2.mono (Mono.same (same_upd hT))) .nil)⟩
theorem itOk_zipB {p q : Bool} {ds es : List D} {vs us : List V} {l k : Addr} {H1 : Hp} {O1 : Addr → Prop} (hl : ∀ H' F', Mono H1 (S.F O1) H' F' → SqB S.K H' p l vs) (rs : Reps S.K H1 (S.F O1) ds vs) (hk : ∀ H' F', Mono H1 (S.F O1) H' F' → SqB S.K H' q k us) (rs2 : Reps S.K H1 (S.F O1) es us) :
    ItOk S (ItzB S.K p q l k) (List.zipWith (fun x y => D.tup [x, y]) ds es) H1 O1 := fun i H F' m hn => by
  have r := rs.mono m
  have r2 := rs2.mono m
  have sq := hl H F' m
  have sq2 := hk H F' m
  have l1 := r.length
  have l2 := r2.length
  refine ⟨fun d hd => ?_, fun hle => ⟨vs, us, sq, sq2, by rw [List.length_zipWith] at hle; omega⟩⟩
  obtain ⟨x, y, hx, hy, rfl⟩ := zip_at hd
  obtain ⟨v, hv, rv⟩ := r.get hx
  obtain ⟨u, hu, ru⟩ := r2.get hy
  refine ⟨⟨vs, us, v, u, sq, sq2, hv, hu⟩, fun x H' y => ?_⟩
  obtain ⟨T, v', u', rfl, hT, rfl, y1, y2⟩ := y
  have e1 := y1 vs sq
  rw [hv] at e1; cases e1
  have e2 := y2 us sq2
  rw [hu] at e2; cases e2
  exact ⟨same_upd hT, rep_pair rv ru hT hn⟩
theorem enum_at : ∀ {xs : List D} {n i : Nat} {d : D}, (enumD n xs)[i]? = some d → ∃ x, xs[i]? = some x ∧ d = .tup [.int ((n + i : Nat) : Int), x]
  | [], _, _, _, h => by simp [enumD] at h
  | x :: xs, n, 0, d, h => by simp [enumD] at h; exact ⟨x, rfl, h.symm⟩
  | x :: xs, n, i + 1, d, h => by
    obtain ⟨y, h1, h2⟩ := enum_at (xs := xs) (n := n + 1) (i := i) (by simpa [enumD] using h)
    exact ⟨y, by simpa using h1, by rw [h2, show n + 1 + i = n + (i + 1) by omega]⟩
theorem enum_len : ∀ (xs : List D) (n : Nat), (enumD n xs).length = xs.length
  | [], _ => rfl
  | x :: xs, n => by simp [enumD, enum_len xs]
theorem itOk_enum {ds : List D} {vs : List V} {l : Addr} {H1 : Hp} {O1 : Addr → Prop} (hl : LsF H1 (S.F O1) l vs) (rs : Reps S.K H1 (S.F O1) ds vs) : ItOk S (Ite S.K l) (enumD 0 ds) H1 O1 := fun i H F' m hn => by
  have q := hl.mono m
  have r := rs.mono m
  have sq : SqL S.K H l vs := q.sq
  refine ⟨fun d hd => ?_, fun hle => ⟨vs, sq, by rw [enum_len, r.length] at hle; exact hle⟩⟩
  obtain ⟨x, hx, rfl⟩ := enum_at hd
  obtain ⟨v, hv, rv⟩ := r.get hx
  refine ⟨⟨vs, v, sq, hv⟩, fun y H' z => ?_⟩
  obtain ⟨T, v', rfl, hT, rfl, y1⟩ := z
  have e1 := y1 vs sq
  rw [hv] at e1; cases e1
  exact ⟨same_upd hT, by rw [Nat.zero_add]; exact rep_pair (d := .int i) rfl rv hT hn⟩

/-- a list or a tuple that is walked -/
def iSeq (K : PySem.W.Frag) (tl : TE) : TI := fun σ H R => tl σ H fun x H1 => ∃ a, x = .ref a ∧ ((∃ xs, SqL K H1 a xs ∧ R (Itl K a) H1) ∨ ∃ xs, SqT K H1 a xs ∧ R (Itt K a) H1)
theorem pi_seq {l : Expr} {tl : TE} (hl : PE X l tl) : PI X tg l (iSeq X.K tl) := by
  refine ⟨fun pins s σ H R I h => ?_⟩
  refine thn (hl.run pins s σ H _ I h) fun v s1 ⟨x, H1, I1, r1, q1⟩ => ?_
  obtain ⟨a, e, q⟩ := q1
  subst e
  cases r1
  rcases q with ⟨xs, hq, q⟩ | ⟨xs, hq, q⟩
  · obtain ⟨its, rv, p, hz⟩ := I1.list hq
    refine wpAny_pyIter_list p.isList ?_
    refine ⟨s1.heap.objs.size, [s1.heap.objs.size], _, _, H1, rfl, I1.kept (t' := s1.toks) fun b o e => Heap.get?_push_of_some _ e, turn_list a _, ⟨_, Heap.get?_push_size _ rfl, rfl, rfl⟩, fun b hb => ?_, q⟩
    have e : b = s1.heap.objs.size := by simpa using hb
    subst e
    exact I1.fpOk (Nat.le_refl _) (I1.hok.fresh (Nat.le_refl _))
  · obtain ⟨its, rv, p, hz⟩ := I1.tuple hq
    refine wpAny_pyIter_tuple (show s1.heap.IsTuple a its.toArray from p) ?_
    refine ⟨s1.heap.objs.size, [s1.heap.objs.size], _, _, H1, rfl, I1.kept (t' := s1.toks) fun b o e => Heap.get?_push_of_some _ e, turn_tuple a _, ⟨_, Heap.get?_push_size _ rfl, rfl, rfl⟩, fun b hb => ?_, q⟩
    have e : b = s1.heap.objs.size := by simpa using hb
    subst e
    exact I1.fpOk (Nat.le_refl _) (I1.hok.fresh (Nat.le_refl _))
theorem PI.imp {t t' : TI} {pe : Expr} (h : PI X tg pe t) (i : ∀ σ H Q, t' σ H Q → t σ H Q) : PI X tg pe t' := ⟨fun pins s σ H Q I q => h.run pins s σ H Q I (i σ H Q q)⟩
theorem ri_seq (hK : S.K = X.K) (ha : PE X pa (tD S C W a)) : PI X tg pa (tIt S C W (.seq a)) :=
  PI.imp (pi_seq ha) fun σ H R ⟨P, env, O, s, p⟩ => ⟨P, env, O, s, PostG.imp (PostG.bind (show PostG S W P H O σ ((evalE C a env).bind _) _ from p)) fun d s1 H1 O1 _ _ _ ⟨x1, t1, p1⟩ v r => by
    obtain ⟨z, hz, p2⟩ := PostG.opt p1
    have k := p2 H1 O1 (Ext.refl _ _) t1
    cases d <;> simp only [seqOf] at hz <;> cases hz
    · obtain ⟨l, vs, rfl, t, rs⟩ := r
      have k := k _ (itOk_tup (.inl t) rs)
      rw [hK] at k t
      exact ⟨l, rfl, .inr ⟨vs, t.sq, k⟩⟩
    · obtain ⟨l, vs, rfl, t, rs⟩ := r
      have k := k _ (itOk_list t rs)
      rw [hK] at k
      exact ⟨l, rfl, .inl ⟨vs, t.sq, k⟩⟩
    · obtain ⟨l, vs, rfl, t, rs⟩ := r
      have k := k _ (itOk_tup (.inr t) rs)
      rw [hK] at k
      exact ⟨l, rfl, .inr ⟨vs, t.sq, k⟩⟩⟩
theorem star1 {env : PySem.Env} {p : Expr} (h : nst p = true) : starEach [p] env = [(false, eval p env)] := star_cons h
theorem star2 {env : PySem.Env} {p q : Expr} (h : nst p = true) (h2 : nst q = true) : starEach [p, q] env = [(false, eval p env), (false, eval q env)] := by rw [star_cons h, star_cons h2]; rfl
theorem ri_rng1 {p : Pos} (hg : Gl X "range") (hm : X.mg "range" = none) (ha : PE X pa (tD S C W a)) (hn : nst pa = true) : PI X tg (.Call (.Name "range" p) [pa] [] pos) (tIt S C W (.rng1 a)) :=
  PI.imp (pi_range1 hg hm (pa_cons ha pa_nil (star_cons hn)) (star1 hn)) fun σ H R ⟨P, env, O, s, p⟩ => ⟨P, env, O, s, PostG.imp (PostG.bind (show PostG S W P H O σ ((evalE C a env).bind _) _ from p)) fun d s1 H1 O1 _ _ _ ⟨x1, t1, p1⟩ v r => by
    cases d with
    | int i =>
      cases r
      have p1 : PostG S W P H1 O1 σ (if (decide (-(2 ^ 62) ≤ i) && decide (i < 2 ^ 62)) = true then .ok (rangeD 0 i.toNat) s1 else .stuck) fun ds _ H' O' => ∀ J, ItOk S J ds H' O' → R J H' := p1
      split at p1
      · rename_i hb
        simp only [Bool.and_eq_true, decide_eq_true_eq] at hb
        exact ⟨i, rfl, hb.1, hb.2, p1 H1 O1 (Ext.refl _ _) t1 _ itOk_rng⟩
      · exact False.elim p1
    | _ => exact False.elim p1⟩
theorem ri_rng2 {p : Pos} (hg : Gl X "range") (hm : X.mg "range" = none) (ha : PE X pa (tD S C W a)) (hb : PE X pb (tD S C W b)) (hn : nst pa = true) (hn2 : nst pb = true) : PI X tg (.Call (.Name "range" p) [pa, pb] [] pos) (tIt S C W (.rng2 a b)) :=
  PI.imp (pi_range2 hg hm (pa_cons ha (pa_cons hb pa_nil (star_cons hn2)) (star_cons hn)) (star2 hn hn2) (star1 hn2)) fun σ H R ⟨P, env, O, s, p⟩ => ⟨P, env, O, s, PostG.imp (PostG.bind (show PostG S W P H O σ ((evalE C a env).bind _) _ from p)) fun d s1 H1 O1 _ _ _ ⟨x1, t1, p1⟩ v r =>
   ⟨P, s1, O1, t1, PostG.imp (PostG.bind p1) fun d2 s2 H2 O2 _ _ _ ⟨x2, t2, p2⟩ v2 r2 => by
    cases d with
    | int i =>
      cases d2 with
      | int j =>
        cases r
        cases r2
        have p2 : PostG S W P H2 O2 σ (if (decide (-(2 ^ 62) ≤ i) && decide (i < 2 ^ 62) && decide (-(2 ^ 62) ≤ j) && decide (j < 2 ^ 62)) = true then .ok (rangeD i (j - i).toNat) s2 else .stuck) fun ds _ H' O' => ∀ J, ItOk S J ds H' O' → R J H' := p2
        split at p2
        · rename_i hb
          simp only [Bool.and_eq_true, decide_eq_true_eq] at hb
          exact ⟨i, j, rfl, ⟨hb.1.1.1, hb.1.1.2, hb.1.2, hb.2⟩, p2 H2 O2 (Ext.refl _ _) t2 _ itOk_rng⟩
        · exact False.elim p2
      | _ => exact False.elim p2
    | _ => exact False.elim (by cases d2 <;> exact p2)⟩⟩
/-- a list or a tuple -/
theorem seq_b {d : D} {ds : List D} {v : V} {H : Hp} {O : Addr → Prop} (h : seqOf d = some ds) (r : Rep S.K H (S.F O) d v) : ∃ p l vs, v = .ref l ∧ (∀ H' F', Mono H (S.F O) H' F' → SqB S.K H' p l vs) ∧ Reps S.K H (S.F O) ds vs := by
  cases d <;> simp only [seqOf] at h <;> cases h
  · obtain ⟨l, vs, rfl, t, rs⟩ := r
    exact ⟨false, l, vs, rfl, fun H' F' m => (t.mono m).sq, rs⟩
  · obtain ⟨l, vs, rfl, t, rs⟩ := r
    exact ⟨true, l, vs, rfl, fun H' F' m => (t.mono m).sq, rs⟩
  · obtain ⟨l, vs, rfl, t, rs⟩ := r
    exact ⟨false, l, vs, rfl, fun H' F' m => (t.mono m).sq, rs⟩
theorem ri_zip {p tpos : Pos} {kk : Nat} {elts : List Expr} (hK : S.K = X.K) (hg : Gl X "zip") (hm : X.mg "zip" = none) (ha : PE X pa (tD S C W a)) (hb : PE X pb (tD S C W b)) (hn : nst pa = true) (hn2 : nst pb = true) : PI X (.Tuple elts kk tpos) (.Call (.Name "zip" p) [pa, pb] [] pos) (tIt S C W (.zip a b)) :=
  PI.imp (pi_zipB hg hm (pa_cons ha (pa_cons hb pa_nil (star_cons hn2)) (star_cons hn)) (star_cons hn) (star_none (by rw [List.all_cons, hn2]; rfl))) fun σ H R ⟨P, env, O, s, p⟩ => ⟨P, env, O, s, PostG.imp (PostG.bind (show PostG S W P H O σ ((evalE C a env).bind _) _ from p)) fun d s1 H1 O1 _ _ _ ⟨x1, t1, p1⟩ v r =>
   ⟨P, s1, O1, t1, PostG.imp (PostG.bind p1) fun d2 s2 H2 O2 _ _ _ ⟨x2, t2, p2⟩ v2 r2 => by
    obtain ⟨z, hz, p3⟩ := PostG.opt p2
    obtain ⟨ds, hds, hz⟩ := Option.bind_eq_some_iff.mp hz
    obtain ⟨es, hes, rfl⟩ := Option.map_eq_some_iff.mp hz
    obtain ⟨p, l, vs, rfl, t, rs⟩ := seq_b hds (r.mono x2.mono)
    obtain ⟨q, l2, vs2, rfl, t', rs'⟩ := seq_b hes r2
    have k := p3 H2 O2 (Ext.refl _ _) t2 _ (itOk_zipB t rs t' rs')
    have q1 := t H2 _ (fun a o e n => ⟨e, n⟩)
    have q2 := t' H2 _ (fun a o e n => ⟨e, n⟩)
    rw [hK] at k q1 q2
    exact ⟨p, q, l, l2, vs, vs2, rfl, q1, q2, k⟩⟩⟩
theorem itOk_enumT {ds : List D} {vs : List V} {l : Addr} {H1 : Hp} {O1 : Addr → Prop} (hl : TuF S.K H1 (S.F O1) l vs) (rs : Reps S.K H1 (S.F O1) ds vs) : ItOk S (IteT S.K l) (enumD 0 ds) H1 O1 := fun i H F' m hn => by
  have q := hl.mono m
  have r := rs.mono m
  have sq : SqT S.K H l vs := q.sq
  refine ⟨fun d hd => ?_, fun hle => ⟨vs, sq, by rw [enum_len, r.length] at hle; exact hle⟩⟩
  obtain ⟨x, hx, rfl⟩ := enum_at hd
  obtain ⟨v, hv, rv⟩ := r.get hx
  refine ⟨⟨vs, v, sq, hv⟩, fun y H' z => ?_⟩
  obtain ⟨T, v', rfl, hT, rfl, y1⟩ := z
  have e1 := y1 vs sq
  rw [hv] at e1; cases e1
  exact ⟨same_upd hT, by rw [Nat.zero_add]; exact rep_pair (d := .int i) rfl rv hT hn⟩
theorem ri_enum {p tpos : Pos} {kk : Nat} {elts : List Expr} (hK : S.K = X.K) (hg : Gl X "enumerate") (hm : X.mg "enumerate" = none) (ha : PE X pa (tD S C W a)) (hn : nst pa = true) : PI X (.Tuple elts kk tpos) (.Call (.Name "enumerate" p) [pa] [] pos) (tIt S C W (.enum a)) :=
  PI.imp (pi_enumA hg hm (pa_cons ha pa_nil (star_cons hn)) (star1 hn)) fun σ H R ⟨P, env, O, s, p⟩ => ⟨P, env, O, s, PostG.imp (PostG.bind (show PostG S W P H O σ ((evalE C a env).bind _) _ from p)) fun d s1 H1 O1 _ _ _ ⟨x1, t1, p1⟩ v r => by
    cases d with
    | lst ds =>
      obtain ⟨l, vs, rfl, t, rs⟩ := r
      have k := p1 H1 O1 (Ext.refl _ _) t1 _ (itOk_enum t rs)
      rw [hK] at k
      exact ⟨l, rfl, .inl ⟨vs, t.sq, k⟩⟩
    | tup ds =>
      obtain ⟨l, vs, rfl, t, rs⟩ := r
      have k := p1 H1 O1 (Ext.refl _ _) t1 _ (itOk_enumT (.inl t) rs)
      have sq := t.sq
      rw [hK] at k sq
      exact ⟨l, rfl, .inr ⟨vs, sq, k⟩⟩
    | tpz ds =>
      obtain ⟨l, vs, rfl, t, rs⟩ := r
      have k := p1 H1 O1 (Ext.refl _ _) t1 _ (itOk_enumT (.inr t) rs)
      have sq := TzF.sq (K := S.K) t
      rw [hK] at k sq
      exact ⟨l, rfl, .inr ⟨vs, sq, k⟩⟩
    | _ => exact False.elim p1⟩
end
end Rf

/-! Rg, part M: targets; slots set. -/
namespace Rf
open PySem PySem.Spec PyProof.Rows L2
def ioFree (S : Sit) (i : Nat) : Prop := ∀ p ∈ S.io, p.1 ≠ i
section
variable {S : Sit} {P : Pd} {H : Hp} {O : Addr → Prop} {env : Env} {σ : L2.St} {i : Nat} {d : D} {v : V}
/-- a slot gets a shared value -/
theorem SR.setSh (s : SR S P H O env σ) (hio : ioFree S i) (hi : i < σ.length) (r : Rep S.K H (S.F O) d v) : SR S P H O (env.set i (Sl.sh d)) (σ.set i (some v)) := by
  have hie : i < env.length := by rw [s.len]; exact hi
  have back : ∀ {y w}, rt (env.set i (Sl.sh d)) (σ.set i (some v)) P y = some w → rt env σ P y = some w := fun {y w} h => by
    cases y with
    | inr j => exact h
    | inl j =>
      obtain ⟨d', q1, q2, q3⟩ := rt_inl.mp h
      by_cases hj : j = i
      · subst hj
        rw [List.getElem?_set_self hie] at q1; cases q1
      · rw [List.getElem?_set_ne (Ne.symm hj)] at q1 q3
        exact rt_inl.mpr ⟨d', q1, q2, q3⟩
  refine ⟨by rw [List.length_set, List.length_set]; exact s.len, s.own, s.dis, fun j dj e => ?_, fun j dj e => ?_, s.pd, fun x y w h1 h2 => s.ne x y w (back h1) (back h2), fun p hp => ?_⟩
  · by_cases hj : j = i
    · subst hj
      rw [List.getElem?_set_self hie] at e; cases e
      exact ⟨v, List.getElem?_set_self hi, r⟩
    · rw [List.getElem?_set_ne (Ne.symm hj)] at e ⊢
      exact s.sh j dj e
  · by_cases hj : j = i
    · subst hj
      rw [List.getElem?_set_self hie] at e; cases e
    · rw [List.getElem?_set_ne (Ne.symm hj)] at e ⊢
      exact s.ow j dj e
  · rw [List.getElem?_set_ne (fun q => hio p hp q.symm)]
    exact s.io p hp
/-- a slot gets a fresh value -/
theorem SR.setOw (s : SR S P H O env σ) (hio : ioFree S i) (hi : i < σ.length) (t : Top S H O d v) (n : NewTop env σ P d v) : SR S P H O (env.set i (Sl.ow d)) (σ.set i (some v)) := by
  have hie : i < env.length := by rw [s.len]; exact hi
  have back : ∀ {y w}, rt (env.set i (Sl.ow d)) (σ.set i (some v)) P y = some w → (y = .inl i ∧ w = v ∧ isC d = true) ∨ (y ≠ .inl i ∧ rt env σ P y = some w) := fun {y w} h => by
    cases y with
    | inr j => exact .inr ⟨(fun q => nomatch q), h⟩
    | inl j =>
      obtain ⟨d', q1, q2, q3⟩ := rt_inl.mp h
      by_cases hj : j = i
      · subst hj
        rw [List.getElem?_set_self hie] at q1; cases q1
        rw [List.getElem?_set_self hi] at q3; cases q3
        exact .inl ⟨rfl, rfl, q2⟩
      · rw [List.getElem?_set_ne (Ne.symm hj)] at q1 q3
        exact .inr ⟨fun q => hj (by cases q; rfl), rt_inl.mpr ⟨d', q1, q2, q3⟩⟩
  refine ⟨by rw [List.length_set, List.length_set]; exact s.len, s.own, s.dis, fun j dj e => ?_, fun j dj e => ?_, s.pd, fun x y w h1 h2 => ?_, fun p hp => ?_⟩
  · by_cases hj : j = i
    · subst hj
      rw [List.getElem?_set_self hie] at e; cases e
    · rw [List.getElem?_set_ne (Ne.symm hj)] at e ⊢
      exact s.sh j dj e
  · by_cases hj : j = i
    · subst hj
      rw [List.getElem?_set_self hie] at e; cases e
      exact ⟨v, List.getElem?_set_self hi, t⟩
    · rw [List.getElem?_set_ne (Ne.symm hj)] at e ⊢
      exact s.ow j dj e
  · rcases back h1 with ⟨e1, e2, c⟩ | ⟨n1, g1⟩
    · rcases back h2 with ⟨e3, _, _⟩ | ⟨n2, g2⟩
      · rw [e1, e3]
      · rw [e2] at g2; exact absurd g2 (n c y)
    · rcases back h2 with ⟨e1, e2, c⟩ | ⟨n2, g2⟩
      · rw [e2] at g1; exact absurd g1 (n c x)
      · exact s.ne x y w g1 g2
  · rw [List.getElem?_set_ne (fun q => hio p hp q.symm)]
    exact s.io p hp
/-- a slot gets what an expression gave -/
theorem SR.setMk {fr : Bool} (s : SR S P H O env σ) (hio : ioFree S i) (hi : i < σ.length) (h : FrK S fr P env σ d v H O) : ∃ O', Ext H O H O' ∧ SR S P H O' (env.set i (mkSl fr d)) (σ.set i (some v)) := by
  unfold FrK at h
  unfold mkSl
  cases fr with
  | false => exact ⟨O, Ext.refl _ _, s.setSh hio hi h⟩
  | true =>
    simp only [if_true] at h
    cases hc : isC d with
    | true => exact ⟨O, Ext.refl _ _, s.setOw hio hi h.1 h.2⟩
    | false =>
      have t := h.1
      rw [top_notC hc] at t
      exact ⟨O, Ext.refl _ _, s.setSh hio hi t⟩
end
/-! ### targets -/
mutual
def tgSl : Tg → List Nat
  | .nm i => [i]
  | .tp ts => tgSls ts
def tgSls : List Tg → List Nat
  | [] => []
  | t :: ts => tgSl t ++ tgSls ts
end
def Agree (σ σ' : L2.St) (l : List Nat) : Prop := σ'.length = σ.length ∧ ∀ i, i ∉ l → σ'[i]? = σ[i]?
theorem Agree.trans {σ σ1 σ2 : L2.St} {l l2 : List Nat} (a : Agree σ σ1 l) (b : Agree σ1 σ2 l2) : Agree σ σ2 (l ++ l2) :=
  ⟨b.1.trans a.1, fun i h => by rw [List.mem_append, not_or] at h; rw [b.2 i h.2, a.2 i h.1]⟩
def gD (S : Sit) (tg : Tg) : TG := fun v σ H Q => ∃ P env O d env', SR S P H O env σ ∧ Rep S.K H (S.F O) d v ∧ bindT false tg d env = some env' ∧ ∀ σ', SR S P H O env' σ' → Agree σ σ' (tgSl tg) → Q σ' H
def gDs (S : Sit) (ts : List Tg) : TGs := fun vs σ H Q => ∃ P env O ds env', SR S P H O env σ ∧ Reps S.K H (S.F O) ds vs ∧ ds.length = ts.length ∧ bindTs ts ds env = some env' ∧ ∀ σ', SR S P H O env' σ' → Agree σ σ' (tgSls ts) → Q σ' H
section
variable {X : Cx} {S : Sit} {C : Calls} {W : WX} {pos : Pos}
theorem PG.imp {g g' : TG} {pe : Expr} (h : PG X pe g) (i : ∀ v σ H Q, g' v σ H Q → g v σ H Q) : PG X pe g' := ⟨fun pins s σ H v u Q I r q => h.run pins s σ H v u Q I r (i v σ H Q q)⟩
theorem PGs.imp {g g' : TGs} {pe : List Expr} (h : PGs X pe g) (i : ∀ v σ H Q, g' v σ H Q → g v σ H Q) : PGs X pe g' := ⟨fun pins s σ H v u Q I r q => h.run pins s σ H v u Q I r (i v σ H Q q)⟩
theorem lt_of_ix {N : List Str} {i : Nat} {x : Str} (h : N[i]? = some x) : i < N.length := (List.getElem?_eq_some_iff.mp h).1
theorem rg_name {i : Nat} {x : Str} (hN : X.N.Nodup) (hi : X.N[i]? = some x) (hx : Loc X.env.scope x) (hf : X.fn x = true ∨ X.env.scope.names.lookup x = some .local) (hio : ioFree S i) : PG X (.Name x pos) (gD S (.nm i)) := by
  refine ⟨fun pins s σ H v u Q I r ⟨P, env, O, d, env', t, rp, hb, q⟩ => (pg_name hN hi hx hf).run pins s σ H v u Q I r ?_⟩
  have hl : i < σ.length := by rw [I.len]; exact lt_of_ix hi
  simp only [bindT, Option.some.injEq] at hb
  subst hb
  refine q _ ?_ ⟨List.length_set, fun j hj => List.getElem?_set_ne (fun e => hj (by simp [tgSl, e]))⟩
  show SR S P H O (env.set i (mkSl false d)) _
  exact t.setSh hio hl rp
theorem rg_nil : PGs X [] (gDs S []) := PGs.imp pgs_nil fun vs σ H Q ⟨P, env, O, ds, env', t, r, hl, hb, q⟩ => by
  obtain rfl : ds = [] := List.eq_nil_of_length_eq_zero hl
  simp only [bindTs, Option.some.injEq] at hb
  subst hb
  exact ⟨r, q σ t ⟨rfl, fun _ _ => rfl⟩⟩
theorem asgEach_cons {p : Expr} {ps : List Expr} {env : PySem.Env} (h : nst p = true) : assignEach (p :: ps) env = (false, assign p env) :: assignEach ps env := by
  cases p <;> first | rfl | (simp [nst] at h)
theorem asgEach_len {env : PySem.Env} : ∀ {ps : List Expr}, ps.all nst = true → (assignEach ps env).length = ps.length ∧ (assignEach ps env).findIdx? (·.1) = none
  | [], _ => ⟨rfl, rfl⟩
  | p :: ps, h => by
    rw [List.all_cons, Bool.and_eq_true] at h
    obtain ⟨h1, h2⟩ := asgEach_len (env := env) h.2
    rw [asgEach_cons h.1]
    refine ⟨by rw [List.length_cons, h1, List.length_cons], ?_⟩
    rw [List.findIdx?_cons, h2]; rfl
theorem rg_cons {p : Expr} {ps : List Expr} {t : Tg} {ts : List Tg} (h1 : PG X p (gD S t)) (h2 : PGs X ps (gDs S ts)) (hn : nst p = true) : PGs X (p :: ps) (gDs S (t :: ts)) :=
  PGs.imp (pgs_cons h1 h2 (by rw [asgEach_cons hn]; rfl)) fun vs σ H Q ⟨P, env, O, ds, env', s, r, hl, hb, q⟩ => by
    cases ds with
    | nil => simp at hl
    | cons d ds =>
      obtain ⟨v, vs', rfl, rv, rr⟩ := r
      simp only [bindTs] at hb
      obtain ⟨env1, hb1, hb2⟩ := Option.bind_eq_some_iff.mp hb
      exact ⟨v, vs', rfl, P, env, O, d, env1, s, rv, hb1, fun σ1 s1 a1 => ⟨P, env1, O, ds, env', s1, rr, by simpa using hl, hb2, fun σ2 s2 a2 => q σ2 s2 (a1.trans a2)⟩⟩
theorem rg_tup {ps : List Expr} {ts : List Tg} {k : Nat} (hK : S.K = X.K) (hc : X.calm = true) (h : PGs X ps (gDs S ts)) (hn : ps.all nst = true) (hl : ps.length = ts.length) : PG X (.Tuple ps k pos) (gD S (.tp ts)) :=
  PG.imp (pg_tup (n := ts.length) hc h (by rw [(asgEach_len hn).1, hl]) (asgEach_len hn).2) fun v σ H Q ⟨P, env, O, d, env', s, r, hb, q⟩ => by
    cases d with
    | tup ds =>
      simp only [bindT] at hb
      split at hb
      · rename_i hlen
        obtain ⟨a, vs, rfl, t, rs⟩ := r
        have t' := t.sq
        rw [hK] at t'
        exact ⟨a, vs, rfl, t', by rw [← rs.length, hlen], P, env, O, ds, env', s, rs, hlen.symm, hb, q⟩
      · cases hb
    | _ => simp [bindT] at hb
end
end Rf

/-! Rg, part N: list comprehensions. -/
namespace Rf
open PySem PySem.Spec PyProof.Rows L2
theorem wipeE_len (s : Env) : ∀ l : List Nat, (wipeE s l).length = s.length
  | [] => rfl
  | i :: r => by simp only [wipeE]; rw [List.length_set, wipeE_len s r]
theorem wipeE_out {s : Env} {j : Nat} : ∀ {l : List Nat}, j ∉ l → (wipeE s l)[j]? = s[j]?
  | [], _ => rfl
  | i :: r, h => by
    simp only [List.mem_cons, not_or] at h
    simp only [wipeE]
    rw [List.getElem?_set_ne (Ne.symm h.1), wipeE_out h.2]
theorem wipeE_in {s : Env} {j : Nat} {sl : Sl} : ∀ {l : List Nat}, j ∈ l → (wipeE s l)[j]? = some sl → sl = .no
  | i :: r, h, e => by
    simp only [wipeE] at e
    by_cases hj : i = j
    · subst hj
      have hlt : i < (wipeE s r).length := by
        have := (List.getElem?_eq_some_iff.mp e).1
        simpa using this
      rw [List.getElem?_set_self hlt] at e
      cases e; rfl
    · rw [List.getElem?_set_ne hj] at e
      rcases List.mem_cons.mp h with h | h
      · exact absurd h.symm hj
      · exact wipeE_in h e
theorem backE_len (s0 s : Env) : ∀ l : List Nat, (backE s0 s l).length = s.length
  | [] => rfl
  | i :: r => by simp only [backE]; rw [List.length_set, backE_len s0 s r]
theorem backE_out {s0 s : Env} {j : Nat} : ∀ {l : List Nat}, j ∉ l → (backE s0 s l)[j]? = s[j]?
  | [], _ => rfl
  | i :: r, h => by
    simp only [List.mem_cons, not_or] at h
    simp only [backE]
    rw [List.getElem?_set_ne (Ne.symm h.1), backE_out h.2]
theorem backE_in {s0 s : Env} {j : Nat} {sl : Sl} : ∀ {l : List Nat}, j ∈ l → (backE s0 s l)[j]? = some sl → sl = .no ∨ ∃ d, sl = .sh d ∧ s0[j]? = some (Sl.sh d)
  | i :: r, h, e => by
    simp only [backE] at e
    by_cases hj : i = j
    · subst hj
      have hlt : i < (backE s0 s r).length := by
        have := (List.getElem?_eq_some_iff.mp e).1
        simpa using this
      rw [List.getElem?_set_self hlt] at e
      split at e
      · rename_i d q
        cases e
        exact .inr ⟨d, rfl, q⟩
      · cases e; exact .inl rfl
    · rw [List.getElem?_set_ne hj] at e
      rcases List.mem_cons.mp h with h | h
      · exact absurd h.symm hj
      · exact backE_in h e
theorem wipe_agree {σ σ' : L2.St} : ∀ {l l2 : List Nat}, Agree σ σ' l2 → (∀ i ∈ l2, i ∈ l) → wipe σ' l = wipe σ l := fun {l l2} a h => by
  apply List.ext_getElem?
  intro j
  by_cases hj : j ∈ l
  · have key : ∀ (σ : L2.St), (wipe σ l)[j]? = if j < σ.length then some none else none := fun σ => by
      cases e : (wipe σ l)[j]? with
      | none =>
        have := List.getElem?_eq_none_iff.mp e
        rw [wipe_length] at this
        rw [if_neg (by omega)]
      | some o =>
        have := (List.getElem?_eq_some_iff.mp e).1
        rw [wipe_length] at this
        rw [if_pos this]
        cases o with
        | none => rfl
        | some v => exact absurd hj (wipe_some e).2
    rw [key, key, a.1]
  · rw [wipe_out hj, wipe_out hj, a.2 j fun q => hj (h j q)]
theorem wipe_wipe (σ : L2.St) (l : List Nat) : wipe (wipe σ l) l = wipe σ l :=
  wipe_agree (l2 := l) ⟨wipe_length σ l, fun i hi => wipe_out hi⟩ fun _ h => h
section
variable {S : Sit} {P : Pd} {H : Hp} {O : Addr → Prop} {env : Env} {σ : L2.St}
theorem SR.wipe (s : SR S P H O env σ) {l : List Nat} (hio : ∀ i ∈ l, ioFree S i) : SR S P H O (wipeE env l) (L2.wipe σ l) := by
  have out : ∀ {j : Nat} {d : D}, ((wipeE env l)[j]? = some (Sl.sh d) ∨ (wipeE env l)[j]? = some (Sl.ow d)) → j ∉ l := fun {j d} h hj => by
    rcases h with h | h
    · have := wipeE_in hj h; cases this
    · have := wipeE_in hj h; cases this
  have back : ∀ {y w}, rt (wipeE env l) (L2.wipe σ l) P y = some w → rt env σ P y = some w := fun {y w} h => by
    cases y with
    | inr j => exact h
    | inl j =>
      obtain ⟨d', q1, q2, q3⟩ := rt_inl.mp h
      have hj := out (.inr q1)
      rw [wipeE_out hj] at q1
      rw [wipe_out hj] at q3
      exact rt_inl.mpr ⟨d', q1, q2, q3⟩
  refine ⟨by rw [wipeE_len, wipe_length]; exact s.len, s.own, s.dis, fun j d e => ?_, fun j d e => ?_, s.pd, fun x y w h1 h2 => s.ne x y w (back h1) (back h2), fun p hp => ?_⟩
  · have hj := out (.inl e)
    rw [wipeE_out hj] at e
    rw [wipe_out hj]
    exact s.sh j d e
  · have hj := out (.inr e)
    rw [wipeE_out hj] at e
    rw [wipe_out hj]
    exact s.ow j d e
  · rw [wipe_out fun h => hio _ h p hp rfl]
    exact s.io p hp
/-- one more place is guarded -/
def Sit.guard (S : Sit) (p : Addr) : Sit := { S with G := fun a => S.G a ∨ a = p }
theorem guard_sub {p : Addr} : ∀ a, S.F O a → (S.guard p).F O a := fun a h => h.elim (fun h => .inl (.inl h)) .inr
theorem Top.mono2 {S' : Sit} {H' : Hp} {O' : Addr → Prop} {d : D} {v : V} (hK : S'.K = S.K) (t : Top S H O d v) (m : Mono H (S.F O) H' (S'.F O')) (h : ∀ a o, isC d = true → O a → ¬ S.G a → H a = some o → O' a ∧ ¬ S'.G a ∧ H' a = some o) : Top S' H' O' d v := by
  cases hc : isC d with
  | false => rw [top_notC hc] at t ⊢; rw [hK]; exact t.mono m
  | true =>
    obtain ⟨b, us, rfl, ob, gb, ⟨o, xo, xq⟩, rb⟩ := (top_C hc).mp t
    obtain ⟨h1, h2, h3⟩ := h b o hc ob gb xo
    exact (top_C hc).mpr ⟨b, us, rfl, h1, h2, ⟨o, h3, xq⟩, by rw [hK]; exact rb.mono m⟩
theorem SR.toGuard {p : Addr} {xs : List V} (s : SR S P H O env σ) (hp : H p = none) : SR (S.guard p) P (upd H p (.lst xs)) O env σ := by
  have sm : Same H (upd H p (.lst xs)) := same_upd hp
  have m : Mono H (S.F O) (upd H p (.lst xs)) ((S.guard p).F O) := fun a o e n => ⟨sm a o e, fun h => h.elim (fun h => h.elim (fun h => n (.inl h)) fun h => by rw [h, hp] at e; cases e) fun h => n (.inr h)⟩
  have tm : ∀ {d : D} {v : V}, Top S H O d v → Top (S.guard p) (upd H p (.lst xs)) O d v := fun {d v} t => Top.mono2 (S := S) (S' := S.guard p) rfl t m fun a ds _ ho hg ha => ⟨ho, fun h => h.elim hg (fun h => by rw [h, hp] at ha; cases ha), sm _ _ ha⟩
  refine ⟨s.len, fun a f => ?_, fun a f k => ?_, fun j d e => ?_, fun j d e => ?_, fun q hq => tm (s.pd q hq), s.ne, s.io⟩
  · by_cases ha : a = p
    · rw [ha, upd_same]; simp
    · rw [upd_ne ha]
      exact s.own a (f.elim (fun f => .inl (f.elim id fun f => absurd f ha)) .inr)
  · rcases f with f | f
    · exact s.dis a f k
    · exact s.own a (.inr k) (by rw [f]; exact hp)
  · obtain ⟨w, e1, t⟩ := s.sh j d e
    exact ⟨w, e1, t.mono m⟩
  · obtain ⟨w, e1, t⟩ := s.ow j d e
    exact ⟨w, e1, tm t⟩
theorem mono_guard {p : Addr} {x : HO} : Mono H ((S.guard p).F O) (upd H p x) ((S.guard p).F O) := fun a o e n => ⟨by rw [upd_ne (fun q => n (.inl (.inr q)))]; exact e, n⟩
/-- a guarded place is written -/
theorem SR.guardWrite {p : Addr} {x : HO} (s : SR (S.guard p) P H O env σ) : SR (S.guard p) P (upd H p x) O env σ := by
  have tm : ∀ {d : D} {v : V}, Top (S.guard p) H O d v → Top (S.guard p) (upd H p x) O d v := fun {d v} t => Top.mono2 (S := S.guard p) (S' := S.guard p) rfl t mono_guard fun a ds _ ho hg ha => ⟨ho, hg, by rw [upd_ne (fun q => hg (.inr q))]; exact ha⟩
  refine ⟨s.len, fun a f => ?_, s.dis, fun j d e => ?_, fun j d e => ?_, fun q hq => tm (s.pd q hq), s.ne, s.io⟩
  · by_cases ha : a = p
    · rw [ha, upd_same]; simp
    · rw [upd_ne ha]; exact s.own a f
  · obtain ⟨w, e1, t⟩ := s.sh j d e
    exact ⟨w, e1, t.mono mono_guard⟩
  · obtain ⟨w, e1, t⟩ := s.ow j d e
    exact ⟨w, e1, tm t⟩
end
/-- another picture of the same def -/
structure Sib (S S' : Sit) : Prop where
  K : S'.K = S.K
  cls : S'.cls = S.cls
  io : S'.io = S.io
theorem Sib.refl (S : Sit) : Sib S S := ⟨rfl, rfl, rfl⟩
theorem Sib.guard {S : Sit} {p : Addr} : Sib S (S.guard p) := ⟨rfl, rfl, rfl⟩
def W0 : WX := fun _ _ _ _ => False
def tCo (S : Sit) (C : Calls) (W : WX) (c : Option T) : TT := fun σ H Q => ∃ P env O, SR S P H O env σ ∧ PostT S W P H O σ (evalC C c env) Q
def turnL (C : Calls) (tg : Tg) (cond : Option T) (elt : E) : D → Env → R (Option D) := fun d s => match bindT false tg d s with
  | none => .stuck
  | some s => (evalC C cond s).bind fun k s => if k then (evalE C elt s).bind fun x s => .ok (some x) s else .ok none s
theorem compL_exc {own : List Nat} {f : D → Env → R (Option D)} : ∀ {ds : List D} {s : Env} {x : D} {s' : Env}, compL own f ds s ≠ .exc x s'
  | [], _, _, _ => fun h => nomatch h
  | d :: ds, s, x, s' => fun h => by
    simp only [compL] at h
    split at h
    · rename_i o s1 e
      cases q : compL own f ds (wipeE s1 own) with
      | stuck => rw [q] at h; cases h
      | exc y s2 => exact compL_exc q
      | ok r s2 => rw [q] at h; cases o <;> cases h
    · cases h
section
variable {X : Cx} {S : Sit} {C : Calls} {W : WX} {pos : Pos}
theorem r_lc {elt : E} {tg : Tg} {it : Rf.It} {cond : Option T} {own : List Nat} {pelt ptg pit : Expr} {ifs : List Expr} {scope : Scope} {ownL : List (Str × Nat)} (hc : X.calm = true) (hN : X.N.Nodup) (hi : PI X ptg pit (tIt S C W it)) (ok : BlkOk X.N X.env.scope scope ownL)
    (hg : ∀ S', Sib S S' → ∀ (s : Shared) (H : Hp) (B : Addr) (cl : List (Str × Addr)) (fp : List Addr), PG (X.blk s H scope (compEnvC scope cl B X.env) fp) ptg (gD S' tg))
    (ht : ∀ S', Sib S S' → ∀ (s : Shared) (H : Hp) (B : Addr) (cl : List (Str × Addr)) (fp : List Addr), PTs (X.blk s H scope (compEnvC scope cl B X.env) fp) ifs (tCo S' C W0 cond))
    (he : ∀ S', Sib S S' → ∀ (s : Shared) (H : Hp) (B : Addr) (cl : List (Str × Addr)) (fp : List Addr), PE (X.blk s H scope (compEnvC scope cl B X.env) fp) pelt (tD S' C W0 elt))
    (hown : ∀ i ∈ tgSl tg, i ∈ own) (howns : ownL.map (·.2) = own) (hio : ∀ i ∈ own, ioFree S i) (hs : ∀ x, foldedSetIterable pit X.env x = pure x) (σ : L2.St) (H : Hp) (Q : VK) (h : tDf S C W (.lc elt tg it cond own) σ H Q) :
    tLc (tIt S C W it) (fun v σ H Q => ∃ S', Sib S S' ∧ gD S' tg v σ H Q) (fun σ H Q => ∃ S', Sib S S' ∧ tCo S' C W0 cond σ H Q) (fun σ H Q => ∃ S', Sib S S' ∧ tD S' C W0 elt σ H Q) (ownL.map (·.2)) σ H Q := by
  obtain ⟨P, env, O, s, p⟩ := h
  refine ⟨P, env, O, s, PostG.imp (PostG.bind (show PostG S W P H O σ ((evalI C it env).bind _) _ from p)) fun ds s1 H1 O1 _ _ _ ⟨x1, t1, p1⟩ J jok D hD => ?_⟩
  rw [howns]
  have p1 : PostG S W P H1 O1 σ ((compL own (turnL C tg cond elt) ds (wipeE s1 own)).bind fun r s2 => if r.length ≤ sizeLine then .ok (.lst r) (backE s1 s2 own) else .stuck) (fun d s H' O' => ∀ v, Top S H' O' d v → NewTop s σ P d v → Q v H') := p1
  cases hcl : compL own (turnL C tg cond elt) ds (wipeE s1 own) with
  | stuck => rw [hcl] at p1; exact False.elim p1
  | exc y s2 => exact absurd hcl compL_exc
  | ok r s2 =>
    rw [hcl] at p1
    have p1 : PostG S W P H1 O1 σ (if r.length ≤ sizeLine then .ok (.lst r) (backE s1 s2 own) else .stuck) (fun d s H' O' => ∀ v, Top S H' O' d v → NewTop s σ P d v → Q v H') := p1
    split at p1
    · rename_i hlen
      let S' := S.guard D
      have sb : Sib S S' := Sib.guard
      let St : Nat → Hp → Prop := fun i Hc => ∃ env' O' acc racc rest, compL own (turnL C tg cond elt) (ds.drop i) env' = .ok rest s2 ∧ r = racc ++ rest ∧ Hc D = some (.lst acc) ∧ Reps S'.K Hc (S'.F O') racc acc ∧ Ext H1 O1 Hc O' ∧ SR S' P Hc O' env' (wipe σ own)
      refine ⟨fun i m Hc => m = ds.length - i ∧ i ≤ ds.length ∧ St i Hc, ⟨ds.length, by simp, Nat.zero_le _, wipeE s1 own, O1, [], [], r, by rw [List.drop_zero]; exact hcl, rfl, upd_same, .nil, ⟨fun a o e _ => by rw [upd_ne (ne_of_none e hD)]; exact e, fun a h => .inl h⟩, (t1.wipe hio).toGuard hD⟩, ?_⟩
      rintro i m Hc ⟨rfl, hle, env', O', acc, racc, rest, hrun, hr, hHD, racc_rep, xt, sr⟩
      have hDO : ∀ {O2 : Addr → Prop} {H2 : Hp} {e2 : Env} {σ2 : L2.St}, SR S' P H2 O2 e2 σ2 → ¬ O2 D := fun s2 q => s2.dis D (.inr rfl) q
      have mono1 : Mono H1 (S.F O1) Hc (S'.F O') := fun a o e n => ⟨(xt.mono (S := S) a o e n).1, fun q => by
        rcases q with (q | q) | q
        · exact n (.inl q)
        · rw [q, hD] at e; cases e
        · exact (xt.mono (S := S) a o e n).2 (.inr q)⟩
      have J1 := jok i Hc (S'.F O') mono1 sr.own
      by_cases hlt : i < ds.length
      · have hdrop : ds.drop i = ds[i] :: ds.drop (i + 1) := List.drop_eq_getElem_cons hlt
        rw [hdrop] at hrun
        simp only [compL] at hrun
        obtain ⟨go, yld⟩ := J1.1 ds[i] (by simp [hlt])
        refine .inr ⟨go, St (i + 1), fun H' w => ⟨ds.length - (i + 1), by omega, rfl, hlt, w⟩, fun x H' y => ?_⟩
        obtain ⟨sm, rx⟩ := yld x H' y
        split at hrun
        · rename_i o sa ef
          unfold turnL at ef
          split at ef
          · cases ef
          · rename_i e1 hb
            have sr1 : SR S' P H' O' env' (wipe σ own) := sr.same sm
            refine ⟨S', sb, P, env', O', ds[i], e1, sr1, rx, hb, fun σ2 sr2 ag => ⟨?_, ?_⟩⟩
            · exact (wipe_agree ag hown).trans (wipe_wipe _ _)
            · have wσ2 : wipe σ2 own = wipe σ own := by rw [wipe_agree ag hown, wipe_wipe]
              cases ec : evalC C cond e1 with
              | stuck => rw [ec] at ef; cases ef
              | exc y s3 => rw [ec] at ef; cases ef
              | ok k sk =>
                rw [ec] at ef
                have ef : (if k = true then (evalE C elt sk).bind fun x s => R.ok (some x) s else .ok none sk) = .ok o sa := ef
                refine ⟨S', sb, P, e1, O', sr2, ?_⟩
                unfold PostT
                rw [ec]
                intro H3 O3 x3 sr3
                have ext3 : Ext H1 O1 H3 O3 := (xt.trans (Ext.same sm)).trans x3
                have hD3 : H3 D = some (.lst acc) := x3.keep D _ (sm D _ hHD) (hDO sr1)
                have rep3 : Reps S'.K H3 (S'.F O3) racc acc := (racc_rep.mono (Mono.same sm)).mono x3.mono
                cases k with
                | false =>
                  simp only [Bool.false_eq_true, if_false, R.ok.injEq] at ef ⊢
                  obtain ⟨rfl, rfl⟩ := ef
                  cases q : compL own (turnL C tg cond elt) (ds.drop (i + 1)) (wipeE sk own) with
                  | stuck => rw [q] at hrun; cases hrun
                  | exc y s3 => rw [q] at hrun; cases hrun
                  | ok r2 s3 =>
                    rw [q] at hrun
                    simp only [R.bind, R.ok.injEq] at hrun
                    obtain ⟨rfl, rfl⟩ := hrun
                    exact ⟨wipeE sk own, O3, acc, racc, r2, q, hr, hD3, rep3, ext3, by rw [← wσ2]; exact sr3.wipe hio⟩
                | true =>
                  simp only [if_true] at ef ⊢
                  refine ⟨S', sb, P, sk, O3, sr3, ?_⟩
                  cases ee : evalE C elt sk with
                  | stuck => rw [ee] at ef; cases ef
                  | exc y s3 => rw [ee] at ef; cases ef
                  | ok dx sx =>
                    rw [ee] at ef
                    simp only [R.bind, R.ok.injEq] at ef
                    obtain ⟨rfl, rfl⟩ := ef
                    unfold Post
                    intro H4 O4 x4 sr4 v rv
                    cases q : compL own (turnL C tg cond elt) (ds.drop (i + 1)) (wipeE sx own) with
                    | stuck => rw [q] at hrun; cases hrun
                    | exc y s3 => rw [q] at hrun; cases hrun
                    | ok r2 s3 =>
                      rw [q] at hrun
                      simp only [R.bind, R.ok.injEq] at hrun
                      obtain ⟨rfl, rfl⟩ := hrun
                      have rep4 := rep3.mono x4.mono
                      have l4 := rep4.length
                      refine ⟨acc, x4.keep D _ hD3 (hDO sr3), by rw [hr, List.length_append, List.length_cons] at hlen; omega, wipeE sx own, O4, acc ++ [v], racc ++ [dx], r2, q, by rw [hr, List.append_assoc]; rfl, upd_same, (rep4.append (.one rv)).mono mono_guard, ?_, ?_⟩
                      · have e4 := ext3.trans x4
                        exact ⟨fun a o e n => by rw [upd_ne (ne_of_none e hD)]; exact e4.keep a o e n, e4.new⟩
                      · have := sr4.wipe (l := own) hio
                        rw [wσ2] at this
                        exact this.guardWrite
        · cases hrun
      · have hi2 : i = ds.length := by omega
        subst hi2
        rw [List.drop_length] at hrun
        simp only [compL, R.ok.injEq] at hrun
        obtain ⟨rfl, rfl⟩ := hrun
        rw [List.append_nil] at hr
        subst hr
        refine .inl ⟨J1.2 (Nat.le_refl _), ?_⟩
        have xD : Ext H1 O1 Hc (fun a => O' a ∨ a = D) := ⟨xt.keep, fun a h => h.elim (fun h => xt.new a h) fun h => .inr (by rw [h]; exact hD)⟩
        have fsub : ∀ a, S.F (fun a => O' a ∨ a = D) a → S'.F O' a := fun a h => by
          rcases h with h | h | h
          · exact .inl (.inl h)
          · exact .inr h
          · exact .inl (.inr h)
        have out : ∀ {j : Nat} {d : Rf.D}, (backE s1 env' own)[j]? = some (Sl.ow d) → j ∉ own := fun {j d} e hj => by
          rcases backE_in hj e with q | ⟨_, q, _⟩ <;> cases q
        have tm : ∀ {d v}, Top S' Hc O' d v → Top S Hc (fun a => O' a ∨ a = D) d v := fun {d v} t => Top.mono2 (S := S') (S' := S) rfl t (Mono.sub fsub) fun a ds _ ho hg ha => ⟨.inl ho, fun h => hg (.inl h), ha⟩
        have roots : ∀ {y w}, rt (backE s1 env' own) σ P y = some w → rt env' (wipe σ own) P y = some w := fun {y w} h => by
          cases y with
          | inr j => exact h
          | inl j =>
            obtain ⟨d', q1, q2, q3⟩ := rt_inl.mp h
            have hj := out q1
            rw [backE_out hj] at q1
            exact rt_inl.mpr ⟨d', q1, q2, by rw [wipe_out hj]; exact q3⟩
        refine p1 Hc _ xD ⟨by rw [backE_len]; have := sr.len; rw [wipe_length] at this; exact this, fun a f => ?_, fun a f k => ?_, fun j d e => ?_, fun j d e => ?_, fun q hq => tm (sr.pd q hq), fun x y w h1 h2 => sr.ne x y w (roots h1) (roots h2), t1.io⟩ (.ref D) ⟨D, acc, rfl, .inr rfl, fun h => t1.own D (.inl h) hD, hHD, racc_rep.mono (Mono.sub fsub)⟩ fun _ y hy => ?_
        · rcases f with f | f | f
          · exact sr.own a (.inl (.inl f))
          · exact sr.own a (.inr f)
          · exact sr.own a (.inl (.inr f))
        · rcases k with k | k
          · exact sr.dis a (.inl f) k
          · exact t1.own a (.inl f) (by rw [k]; exact hD)
        · by_cases hj : j ∈ own
          · rcases backE_in hj e with q | ⟨d', q, h1⟩
            · cases q
            · cases q
              obtain ⟨w, e1, t⟩ := t1.sh j d h1
              exact ⟨w, e1, t.mono xD.mono⟩
          · rw [backE_out hj] at e
            obtain ⟨w, e1, t⟩ := sr.sh j d e
            rw [wipe_out hj] at e1
            exact ⟨w, e1, t.mono (Mono.sub fsub)⟩
        · have hj := out e
          rw [backE_out hj] at e
          obtain ⟨w, e1, t⟩ := sr.ow j d e
          rw [wipe_out hj] at e1
          exact ⟨w, e1, tm t⟩
        · obtain ⟨fs, b, us, eb, ob, gb, _⟩ := sr.root (roots hy)
          cases eb
          exact gb (.inr rfl)
    · exact False.elim p1
end
end Rf

/-! Rg, part N1: list comprehensions of two clauses. -/
namespace Rf
open PySem PySem.Spec PyProof.Rows L2
def turnF (C : Calls) (tg : Tg) (it1 : It) (tg1 : Tg) (cond1 : Option T) (elt : E) (own1 : List Nat) : D → Env → R (List D) := fun d s => match bindT false tg d s with
  | none => .stuck
  | some s => (evalI C it1 s).bind fun ds1 s => compL own1 (turnL C tg1 cond1 elt) ds1 (wipeE s own1)
theorem Mono.tr {H H1 H2 : Hp} {F F1 F2 : Addr → Prop} (a : Mono H F H1 F1) (b : Mono H1 F1 H2 F2) : Mono H F H2 F2 := fun x o e n => let ⟨e1, n1⟩ := a x o e n; b x o e1 n1
theorem compF_exc {own : List Nat} {f : D → Env → R (List D)} : ∀ {ds : List D} {s : Env} {x : D} {s' : Env}, compF own f ds s ≠ .exc x s'
  | [], _, _, _ => fun h => nomatch h
  | d :: ds, s, x, s' => fun h => by
    simp only [compF] at h
    split at h
    · rename_i o s1 e
      cases q : compF own f ds (wipeE s1 own) with
      | stuck => rw [q] at h; cases h
      | exc y s2 => exact compF_exc q
      | ok r s2 => rw [q] at h; cases h
    · cases h
def tItX (S : Sit) (C : Calls) (it : Rf.It) : TI := fun σ H R => ∃ S', Sib S S' ∧ tIt S' C W0 it σ H R
section
variable {X : Cx} {S : Sit} {C : Calls} {W : WX} {pos : Pos}
theorem lc_end {P : Pd} {H1 Hc : Hp} {O1 O' : Addr → Prop} {s1 env' : Env} {σ : L2.St} {own : List Nat} {r : List Rf.D} {acc : List V} {D : Addr} {Q : VK} (t1 : SR S P H1 O1 s1 σ) (hD : H1 D = none) (sr : SR (S.guard D) P Hc O' env' (wipe σ own)) (hHD : Hc D = some (.lst acc))
    (racc_rep : Reps (S.guard D).K Hc ((S.guard D).F O') r acc) (xt : Ext H1 O1 Hc O')
    (p1 : PostG S W P H1 O1 σ (.ok (.lst r) (backE s1 env' own)) fun d s H' O' => ∀ v, Top S H' O' d v → NewTop s σ P d v → Q v H') : Q (.ref D) Hc := by
  let S' := S.guard D
  have sb : Sib S S' := Sib.guard
  have xD : Ext H1 O1 Hc (fun a => O' a ∨ a = D) := ⟨xt.keep, fun a h => h.elim (fun h => xt.new a h) fun h => .inr (by rw [h]; exact hD)⟩
  have fsub : ∀ a, S.F (fun a => O' a ∨ a = D) a → S'.F O' a := fun a h => by
    rcases h with h | h | h
    · exact .inl (.inl h)
    · exact .inr h
    · exact .inl (.inr h)
  have out : ∀ {j : Nat} {d : Rf.D}, (backE s1 env' own)[j]? = some (Sl.ow d) → j ∉ own := fun {j d} e hj => by
    rcases backE_in hj e with q | ⟨_, q, _⟩ <;> cases q
  have tm : ∀ {d v}, Top S' Hc O' d v → Top S Hc (fun a => O' a ∨ a = D) d v := fun {d v} t => Top.mono2 (S := S') (S' := S) rfl t (Mono.sub fsub) fun a ds _ ho hg ha => ⟨.inl ho, fun h => hg (.inl h), ha⟩
  have roots : ∀ {y w}, rt (backE s1 env' own) σ P y = some w → rt env' (wipe σ own) P y = some w := fun {y w} h => by
    cases y with
    | inr j => exact h
    | inl j =>
      obtain ⟨d', q1, q2, q3⟩ := rt_inl.mp h
      have hj := out q1
      rw [backE_out hj] at q1
      exact rt_inl.mpr ⟨d', q1, q2, by rw [wipe_out hj]; exact q3⟩
  refine p1 Hc _ xD ⟨by rw [backE_len]; have := sr.len; rw [wipe_length] at this; exact this, fun a f => ?_, fun a f k => ?_, fun j d e => ?_, fun j d e => ?_, fun q hq => tm (sr.pd q hq), fun x y w h1 h2 => sr.ne x y w (roots h1) (roots h2), t1.io⟩ (.ref D) ⟨D, acc, rfl, .inr rfl, fun h => t1.own D (.inl h) hD, hHD, racc_rep.mono (Mono.sub fsub)⟩ fun _ y hy => ?_
  · rcases f with f | f | f
    · exact sr.own a (.inl (.inl f))
    · exact sr.own a (.inr f)
    · exact sr.own a (.inl (.inr f))
  · rcases k with k | k
    · exact sr.dis a (.inl f) k
    · exact t1.own a (.inl f) (by rw [k]; exact hD)
  · by_cases hj : j ∈ own
    · rcases backE_in hj e with q | ⟨d', q, h1⟩
      · cases q
      · cases q
        obtain ⟨w, e1, t⟩ := t1.sh j d h1
        exact ⟨w, e1, t.mono xD.mono⟩
    · rw [backE_out hj] at e
      obtain ⟨w, e1, t⟩ := sr.sh j d e
      rw [wipe_out hj] at e1
      exact ⟨w, e1, t.mono (Mono.sub fsub)⟩
  · have hj := out e
    rw [backE_out hj] at e
    obtain ⟨w, e1, t⟩ := sr.ow j d e
    rw [wipe_out hj] at e1
    exact ⟨w, e1, tm t⟩
  · obtain ⟨fs, b, us, eb, ob, gb, _⟩ := sr.root (roots hy)
    cases eb
    exact gb (.inr rfl)
theorem r_lc2 {elt : E} {tg tg1 : Tg} {it it1 : Rf.It} {cond1 : Option T} {own own1 : List Nat} {ptg pit : Expr} {scope : Scope} {ownL : List (Str × Nat)} (hc : X.calm = true) (hN : X.N.Nodup) (hi : PI X ptg pit (tIt S C W it)) (ok : BlkOk X.N X.env.scope scope ownL)
    (hown : ∀ i ∈ tgSl tg, i ∈ own) (hown1 : ∀ i ∈ tgSl tg1, i ∈ own1) (hsub : ∀ i ∈ own1, i ∈ own) (howns : ownL.map (·.2) = own) (hio : ∀ i ∈ own, ioFree S i) (σ : L2.St) (H : Hp) (Q : VK) (h : tDf S C W (.lc2 elt tg it tg1 it1 cond1 own own1) σ H Q) :
    tLc2 (tIt S C W it) (fun v σ H Q => ∃ S', Sib S S' ∧ gD S' tg v σ H Q) (fun σ H Q => ∃ S', Sib S S' ∧ tCo S' C W0 none σ H Q) (tItX S C it1)
      (fun v σ H Q => ∃ S', Sib S S' ∧ gD S' tg1 v σ H Q) (fun σ H Q => ∃ S', Sib S S' ∧ tCo S' C W0 cond1 σ H Q) (fun σ H Q => ∃ S', Sib S S' ∧ tD S' C W0 elt σ H Q) (ownL.map (·.2)) own1 σ H Q := by
  obtain ⟨P, env, O, s, p⟩ := h
  refine ⟨P, env, O, s, PostG.imp (PostG.bind (show PostG S W P H O σ ((evalI C it env).bind _) _ from p)) fun ds s1 H1 O1 _ _ _ ⟨x1, t1, p1⟩ J jok D hD => ?_⟩
  rw [howns]
  have p1 : PostG S W P H1 O1 σ ((compF own (turnF C tg it1 tg1 cond1 elt own1) ds (wipeE s1 own)).bind fun r s2 => if r.length ≤ sizeLine then .ok (.lst r) (backE s1 s2 own) else .stuck) (fun d s H' O' => ∀ v, Top S H' O' d v → NewTop s σ P d v → Q v H') := p1
  cases hcl : compF own (turnF C tg it1 tg1 cond1 elt own1) ds (wipeE s1 own) with
  | stuck => rw [hcl] at p1; exact False.elim p1
  | exc y s2 => exact absurd hcl compF_exc
  | ok r s2 =>
    rw [hcl] at p1
    have p1 : PostG S W P H1 O1 σ (if r.length ≤ sizeLine then .ok (.lst r) (backE s1 s2 own) else .stuck) (fun d s H' O' => ∀ v, Top S H' O' d v → NewTop s σ P d v → Q v H') := p1
    split at p1
    · rename_i hlen
      let S' := S.guard D
      have sb : Sib S S' := Sib.guard
      let St : Nat → Hp → Prop := fun i Hc => ∃ env' O' acc racc rest, compF own (turnF C tg it1 tg1 cond1 elt own1) (ds.drop i) env' = .ok rest s2 ∧ r = racc ++ rest ∧ Hc D = some (.lst acc) ∧ Reps S'.K Hc (S'.F O') racc acc ∧ Ext H1 O1 Hc O' ∧ SR S' P Hc O' env' (wipe σ own)
      refine ⟨fun i m Hc => m = ds.length - i ∧ i ≤ ds.length ∧ St i Hc, ⟨ds.length, by simp, Nat.zero_le _, wipeE s1 own, O1, [], [], r, by rw [List.drop_zero]; exact hcl, rfl, upd_same, .nil, ⟨fun a o e _ => by rw [upd_ne (ne_of_none e hD)]; exact e, fun a h => .inl h⟩, (t1.wipe hio).toGuard hD⟩, ?_⟩
      rintro i m Hc ⟨rfl, hle, env', O', acc, racc, rest, hrun, hr, hHD, racc_rep, xt, sr⟩
      have hDO : ∀ {O2 : Addr → Prop} {H2 : Hp} {e2 : Env} {σ2 : L2.St}, SR S' P H2 O2 e2 σ2 → ¬ O2 D := fun s2 q => s2.dis D (.inr rfl) q
      have mono1 : Mono H1 (S.F O1) Hc (S'.F O') := fun a o e n => ⟨(xt.mono (S := S) a o e n).1, fun q => by
        rcases q with (q | q) | q
        · exact n (.inl q)
        · rw [q, hD] at e; cases e
        · exact (xt.mono (S := S) a o e n).2 (.inr q)⟩
      have J1 := jok i Hc (S'.F O') mono1 sr.own
      by_cases hlt : i < ds.length
      · have hdrop : ds.drop i = ds[i] :: ds.drop (i + 1) := List.drop_eq_getElem_cons hlt
        rw [hdrop] at hrun
        simp only [compF] at hrun
        obtain ⟨go, yld⟩ := J1.1 ds[i] (by simp [hlt])
        refine .inr ⟨go, St (i + 1), fun H' w => ⟨ds.length - (i + 1), by omega, rfl, hlt, w⟩, fun x H' y => ?_⟩
        obtain ⟨sm, rx⟩ := yld x H' y
        split at hrun
        · rename_i lr sa ef
          cases q : compF own (turnF C tg it1 tg1 cond1 elt own1) (ds.drop (i + 1)) (wipeE sa own) with
          | stuck => rw [q] at hrun; cases hrun
          | exc y s3 => rw [q] at hrun; cases hrun
          | ok r2 s3 =>
          rw [q] at hrun
          simp only [R.bind, R.ok.injEq] at hrun
          obtain ⟨rfl, rfl⟩ := hrun
          unfold turnF at ef
          split at ef
          · cases ef
          · rename_i e1 hb
            have sr1 : SR S' P H' O' env' (wipe σ own) := sr.same sm
            refine ⟨S', sb, P, env', O', ds[i], e1, sr1, rx, hb, fun σ2 sr2 ag => ⟨?_, ?_⟩⟩
            · exact (wipe_agree ag hown).trans (wipe_wipe _ _)
            · have wσ2 : wipe σ2 own = wipe σ own := by rw [wipe_agree ag hown, wipe_wipe]
              refine ⟨S', sb, P, e1, O', sr2, ?_⟩
              unfold PostT
              show PostG _ _ _ _ _ _ (R.ok true e1) _
              intro H2 O2 x2 sr2
              simp only [if_true]
              refine ⟨S', sb, P, e1, O2, sr2, ?_⟩
              cases ei : evalI C it1 e1 with
              | stuck => rw [ei] at ef; cases ef
              | exc y s3 => rw [ei] at ef; cases ef
              | ok ds1 sk =>
                rw [ei] at ef
                have ef : compL own1 (turnL C tg1 cond1 elt) ds1 (wipeE sk own1) = .ok lr sa := ef
                intro H3 O3 x3 sr3 J2 jok2
                have ext3 : Ext H1 O1 H3 O3 := ((xt.trans (Ext.same sm)).trans x2).trans x3
                have hD3 : H3 D = some (.lst acc) := x3.keep D _ (x2.keep D _ (sm D _ hHD) (hDO sr1)) (hDO sr2)
                have rep3 : Reps S'.K H3 (S'.F O3) racc acc := ((racc_rep.mono (Mono.same sm)).mono x2.mono).mono x3.mono
                have hio1 : ∀ i ∈ own1, ioFree S i := fun i hi => hio i (hsub i hi)
                have wσ3 : wipe (wipe σ2 own1) own = wipe σ own := by rw [wipe_agree (σ := σ2) (l := own) (l2 := own1) ⟨wipe_length _ _, fun i hi => wipe_out hi⟩ hsub, wσ2]
                let St1 : Nat → Hp → Prop := fun j Hc => ∃ env' O' acc racc1 rest, compL own1 (turnL C tg1 cond1 elt) (ds1.drop j) env' = .ok rest sa ∧ lr = racc1 ++ rest ∧ Hc D = some (.lst acc) ∧ Reps S'.K Hc (S'.F O') (racc ++ racc1) acc ∧ Ext H1 O1 Hc O' ∧ Mono H3 (S'.F O3) Hc (S'.F O') ∧ SR S' P Hc O' env' (wipe σ2 own1)
                refine ⟨fun j m Hc => m = ds1.length - j ∧ j ≤ ds1.length ∧ St1 j Hc, ⟨ds1.length, by simp, Nat.zero_le _, wipeE sk own1, O3, acc, [], lr, by rw [List.drop_zero]; exact ef, rfl, hD3, by rw [List.append_nil]; exact rep3, ext3, fun a o e n => ⟨e, n⟩, sr3.wipe hio1⟩, ?_⟩
                rintro j n Hd ⟨rfl, hle1, env1, Oj, accj, racc1, rest1, hrun1, hr1, hHD1, rep1, xt1, mo1, srj⟩
                have J3 := jok2 j Hd (S'.F Oj) mo1 srj.own
                by_cases hlt1 : j < ds1.length
                · have hdrop1 : ds1.drop j = ds1[j] :: ds1.drop (j + 1) := List.drop_eq_getElem_cons hlt1
                  rw [hdrop1] at hrun1
                  simp only [compL] at hrun1
                  obtain ⟨go1, yld1⟩ := J3.1 ds1[j] (by simp [hlt1])
                  refine .inr ⟨go1, St1 (j + 1), fun H' w => ⟨ds1.length - (j + 1), by omega, rfl, hlt1, w⟩, fun x4 H4 y4 => ?_⟩
                  obtain ⟨sm4, rx4⟩ := yld1 x4 H4 y4
                  split at hrun1
                  · rename_i o sb' ef1
                    unfold turnL at ef1
                    split at ef1
                    · cases ef1
                    · rename_i e4 hb4
                      have sr4 : SR S' P H4 Oj env1 (wipe σ2 own1) := srj.same sm4
                      refine ⟨S', sb, P, env1, Oj, ds1[j], e4, sr4, rx4, hb4, fun σ5 sr5 ag5 => ⟨?_, ?_⟩⟩
                      · exact (wipe_agree ag5 hown1).trans (wipe_wipe _ _)
                      · have wσ5 : wipe σ5 own1 = wipe σ2 own1 := by rw [wipe_agree ag5 hown1, wipe_wipe]
                        cases ec : evalC C cond1 e4 with
                        | stuck => rw [ec] at ef1; cases ef1
                        | exc y s3 => rw [ec] at ef1; cases ef1
                        | ok k sk5 =>
                          rw [ec] at ef1
                          have ef1 : (if k = true then (evalE C elt sk5).bind fun x s => R.ok (some x) s else .ok none sk5) = .ok o sb' := ef1
                          refine ⟨S', sb, P, e4, Oj, sr5, ?_⟩
                          unfold PostT
                          rw [ec]
                          intro H6 O6 x6 sr6
                          have ext6 : Ext H1 O1 H6 O6 := (xt1.trans (Ext.same sm4)).trans x6
                          have mo6 : Mono H3 (S'.F O3) H6 (S'.F O6) := Mono.tr (Mono.tr mo1 (Mono.same sm4)) x6.mono
                          have hD6 : H6 D = some (.lst accj) := x6.keep D _ (sm4 D _ hHD1) (hDO sr4)
                          have rep6 : Reps S'.K H6 (S'.F O6) (racc ++ racc1) accj := (rep1.mono (Mono.same sm4)).mono x6.mono
                          cases k with
                          | false =>
                            simp only [Bool.false_eq_true, if_false, R.ok.injEq] at ef1 ⊢
                            obtain ⟨rfl, rfl⟩ := ef1
                            cases q1 : compL own1 (turnL C tg1 cond1 elt) (ds1.drop (j + 1)) (wipeE sk5 own1) with
                            | stuck => rw [q1] at hrun1; cases hrun1
                            | exc y s3 => rw [q1] at hrun1; cases hrun1
                            | ok r7 s7 =>
                              rw [q1] at hrun1
                              simp only [R.bind, R.ok.injEq] at hrun1
                              obtain ⟨rfl, rfl⟩ := hrun1
                              exact ⟨wipeE sk5 own1, O6, accj, racc1, r7, q1, hr1, hD6, rep6, ext6, mo6, by rw [← wσ5]; exact sr6.wipe hio1⟩
                          | true =>
                            simp only [if_true] at ef1 ⊢
                            refine ⟨S', sb, P, sk5, O6, sr6, ?_⟩
                            cases ee : evalE C elt sk5 with
                            | stuck => rw [ee] at ef1; cases ef1
                            | exc y s3 => rw [ee] at ef1; cases ef1
                            | ok dx sx =>
                              rw [ee] at ef1
                              simp only [R.bind, R.ok.injEq] at ef1
                              obtain ⟨rfl, rfl⟩ := ef1
                              unfold Post
                              intro H7 O7 x7 sr7 v rv
                              cases q1 : compL own1 (turnL C tg1 cond1 elt) (ds1.drop (j + 1)) (wipeE sx own1) with
                              | stuck => rw [q1] at hrun1; cases hrun1
                              | exc y s3 => rw [q1] at hrun1; cases hrun1
                              | ok r8 s8 =>
                                rw [q1] at hrun1
                                simp only [R.bind, R.ok.injEq] at hrun1
                                obtain ⟨rfl, rfl⟩ := hrun1
                                have rep7 := rep6.mono x7.mono
                                have l7 := rep7.length
                                refine ⟨accj, x7.keep D _ hD6 (hDO sr6), ?_, wipeE sx own1, O7, accj ++ [v], racc1 ++ [dx], r8, q1, by rw [hr1, List.append_assoc]; rfl, upd_same, ?_, ?_, Mono.tr (Mono.tr mo6 x7.mono) mono_guard, ?_⟩
                                · rw [hr, hr1] at hlen
                                  simp only [List.length_append, List.length_cons] at hlen l7
                                  omega
                                · rw [← List.append_assoc]
                                  exact (rep7.append (.one rv)).mono mono_guard
                                · have e7 := ext6.trans x7
                                  exact ⟨fun a o e n => by rw [upd_ne (ne_of_none e hD)]; exact e7.keep a o e n, e7.new⟩
                                · have := sr7.wipe (l := own1) hio1
                                  rw [wσ5] at this
                                  exact this.guardWrite
                  · cases hrun1
                · have hi2 : j = ds1.length := by omega
                  subst hi2
                  rw [List.drop_length] at hrun1
                  simp only [compL, R.ok.injEq] at hrun1
                  obtain ⟨rfl, rfl⟩ := hrun1
                  rw [List.append_nil] at hr1
                  subst hr1
                  refine .inl ⟨J3.2 (Nat.le_refl _), wipeE env1 own, Oj, accj, racc ++ lr, r2, q, by rw [hr, List.append_assoc], hHD1, rep1, xt1, ?_⟩
                  have := srj.wipe (l := own) hio
                  rw [wσ3] at this
                  exact this
        · cases hrun
      · have hi2 : i = ds.length := by omega
        subst hi2
        rw [List.drop_length] at hrun
        simp only [compF, R.ok.injEq] at hrun
        obtain ⟨rfl, rfl⟩ := hrun
        rw [List.append_nil] at hr
        subst hr
        exact .inl ⟨J1.2 (Nat.le_refl _), lc_end t1 hD sr hHD racc_rep xt p1⟩
    · exact False.elim p1
end
end Rf

/-! Rg, part O: statements. -/
namespace Rf
open PySem PySem.Spec PyProof.Rows L2
def PostS (S : Sit) (W : WX) (H : Hp) (O : Addr → Prop) (r : Rf.S) (D : Ends) : Prop := match r with
  | .stuck => False
  | .nx s => ∀ H' O' σ', Ext H O H' O' → SR S [] H' O' s σ' → D.nx σ' H'
  | .bk s => ∀ H' O' σ', Ext H O H' O' → SR S [] H' O' s σ' → D.bk σ' H'
  | .ct s => ∀ H' O' σ', Ext H O H' O' → SR S [] H' O' s σ' → D.ct σ' H'
  | .ret d s => ∀ H' O' σ' v, Ext H O H' O' → SR S [] H' O' s σ' → FrK S S.fr [] s σ' d v H' O' → D.rt v H'
  | .exc x s => ∀ cls dd H' O' σ', Ext H O H' O' → SR S [] H' O' s σ' → RepX S x cls dd H' → W cls dd σ' H'
def tS (S : Sit) (C : Calls) (W : WX) (st : Rf.St) : TS := fun D σ H => ∃ env O, SR S [] H O env σ ∧ PostS S W H O (execS C st env) D
def tSs (S : Sit) (C : Calls) (W : WX) (st : List Rf.St) : TS := fun D σ H => ∃ env O, SR S [] H O env σ ∧ PostS S W H O (execSs C st env) D
section
variable {S : Sit} {W : WX} {H H1 : Hp} {O O1 : Addr → Prop} {r : Rf.S} {D : Ends} {α : Type}
theorem PostS.later (x : Ext H O H1 O1) (h : PostS S W H O r D) : PostS S W H1 O1 r D := by
  cases r with
  | stuck => exact h
  | nx s => exact fun H' O' σ' e => h H' O' σ' (x.trans e)
  | bk s => exact fun H' O' σ' e => h H' O' σ' (x.trans e)
  | ct s => exact fun H' O' σ' e => h H' O' σ' (x.trans e)
  | ret d s => exact fun H' O' σ' v e => h H' O' σ' v (x.trans e)
  | exc y s => exact fun cls dd H' O' σ' e => h cls dd H' O' σ' (x.trans e)
theorem PostS.thn {ra : R α} {f : α → Env → Rf.S} {σ : L2.St} (h : PostS S W H O (ra.thn f) D) : PostG S W [] H O σ ra fun a s H' O' => Ext H O H' O' ∧ SR S [] H' O' s σ ∧ PostS S W H' O' (f a s) D := by
  cases ra with
  | stuck => exact h
  | ok d s => exact fun H' O' e t => ⟨e, t, PostS.later e h⟩
  | exc y s => exact fun cls dd H' O' e t => h cls dd H' O' σ e t
theorem PostS.opt {o : Option α} {f : α → Rf.S} (h : PostS S W H O (optS o f) D) : ∃ a, o = some a ∧ PostS S W H O (f a) D := by
  cases o with
  | none => exact False.elim h
  | some a => exact ⟨a, rfl, h⟩
end
theorem SR.slotS {S : Sit} {W : WX} {P : Pd} {H : Hp} {O : Addr → Prop} {env : Env} {σ : L2.St} {i : Nat} {f : D → Env → Rf.S} {E : Ends} (s : SR S P H O env σ) (h : PostS S W H O ((slotR env i).thn f) E) :
    ∃ d v, σ[i]? = some (some v) ∧ RepV S.K H (S.F O) d v ∧ PostS S W H O (f d env) E := by
  unfold slotR at h
  split at h
  · rename_i d e
    obtain ⟨v, e1, r⟩ := s.sh i d e
    exact ⟨d, v, e1, r.view, h⟩
  · rename_i d e
    obtain ⟨v, e1, t⟩ := s.ow i d e
    exact ⟨d, v, e1, t.view, h⟩
  · exact False.elim h
theorem SR.ownSC {S : Sit} {W : WX} {P : Pd} {H : Hp} {O : Addr → Prop} {env : Env} {σ : L2.St} {i : Nat} {f : D → Env → Rf.S} {E : Ends} (s : SR S P H O env σ) (h : PostS S W H O ((ownC env i).thn f) E) :
    ∃ c l vs, env[i]? = some (Sl.ow c) ∧ isC c = true ∧ σ[i]? = some (some (.ref l)) ∧ CnAt H c l vs ∧ Reps S.K H (S.F O) (kids c) vs ∧ PostS S W H O (f c env) E := by
  unfold ownC at h
  split at h
  · rename_i c e
    split at h
    · rename_i hc
      obtain ⟨l, vs, e1, x, r, k⟩ := s.writeC e hc
      exact ⟨c, l, vs, e, hc, e1, x, r, h⟩
    · exact h.elim
  · exact h.elim
theorem SR.ownS {S : Sit} {W : WX} {P : Pd} {H : Hp} {O : Addr → Prop} {env : Env} {σ : L2.St} {i : Nat} {f : List D → Env → Rf.S} {E : Ends} (s : SR S P H O env σ) (h : PostS S W H O ((ownR env i).thn f) E) :
    ∃ ds l vs, env[i]? = some (Sl.ow (.lst ds)) ∧ σ[i]? = some (some (.ref l)) ∧ H l = some (.lst vs) ∧ Reps S.K H (S.F O) ds vs ∧ PostS S W H O (f ds env) E := by
  unfold ownR at h
  split at h
  · rename_i ds e
    obtain ⟨l, vs, e1, x, r, k⟩ := s.write (es := []) e
    exact ⟨ds, l, vs, e, e1, x, r, h⟩
  · exact False.elim h
section
variable {X : Cx} {S : Sit} {C : Calls} {W : WX} {pos : Pos} {e e2 : E} {pe pe2 : Expr}
theorem PS.impI {t t' : TS} {ps : Stmt} (h : PS X ps t) (i : ∀ D σ H, σ.length = X.N.length → t' D σ H → t D σ H) : PS X ps t' := ⟨fun pins s σ H D I q => h.run pins s σ H D I (i D σ H I.len q)⟩
theorem tDk_of {b : Bool} (h : PE X pe (tD S C W e)) (hf : b = true → PE X pe (tDf S C W e)) : PE X pe (tDk b S C W e) := by
  cases b with
  | false => exact PE.imp h fun σ H Q ⟨P, env, O, s, q⟩ => ⟨P, env, O, s, q⟩
  | true => exact PE.imp (hf rfl) fun σ H Q ⟨P, env, O, s, q⟩ => ⟨P, env, O, s, PostG.imp q fun d s1 H1 O1 _ _ _ k v t n => k v ⟨t, n⟩⟩
/-- is the name a slot that may be set -/
structure Sto (X : Cx) (S : Sit) (x : Str) (i : Nat) : Prop where
  ix : X.N[i]? = some x
  loc : Loc X.env.scope x
  fn : X.fn x = true ∨ X.env.scope.names.lookup x = some .local
  io : ioFree S i
theorem asg_nm {i : Nat} {D : Ends} {σ : L2.St} {H : Hp} (hi : i < X.N.length) (hio : ioFree S i) (hl : σ.length = X.N.length) (h : tS S C W (.asg (.nm i) e) D σ H) : tAsg (tDk (isFresh C e) S C W e) (gName i) D σ H := by
  obtain ⟨env, O, s, p⟩ := h
  have p : PostS S W H O ((evalE C e env).thn fun d s => optS (bindT (isFresh C e) (.nm i) d s) .nx) D := p
  refine ⟨[], env, O, s, PostG.imp (PostS.thn p) fun d s1 H1 O1 _ _ _ ⟨x1, t1, p1⟩ v r => ?_⟩
  obtain ⟨O2, x2, t2⟩ := t1.setMk hio (by rw [hl]; exact hi) r
  exact p1 H1 O2 _ x2 t2
theorem rs_set {i : Nat} {x : Str} {p : Pos} (hN : X.N.Nodup) (st : Sto X S x i) (he : PE X pe (tDk (isFresh C e) S C W e)) (hs : swapsWith pe (some (.Name x p)) pos.line X.env = pure false) : PS X (.Assign [.Name x p] pe pos) (tS S C W (.asg (.nm i) e)) :=
  PS.impI (ps_set hN st.ix st.loc he hs st.fn) fun D σ H hl h => asg_nm (lt_of_ix st.ix) st.io hl h
theorem rs_tup {tg : Tg} {ptg : Expr} (he : PE X pe (tD S C W e)) (hg : PG X ptg (gD S tg)) (hn : ∀ i, tg ≠ .nm i) (h1 : swapsWithSole [ptg] pe pos.line X.env = pure false) (h2 : swappedStores [ptg] pe X.env = pure none) (h3 : (assignEach [ptg] X.env).map (·.2) = [assign ptg X.env]) : PS X (.Assign [ptg] pe pos) (tS S C W (.asg tg e)) :=
  PS.impI (ps_asg he hg h1 h2 h3) fun D σ H hl ⟨env, O, s, p⟩ => by
    have p : PostS S W H O ((evalE C e env).thn fun d s => optS (bindT (isFresh C e) tg d s) .nx) D := p
    refine ⟨[], env, O, s, PostG.imp (PostS.thn p) fun d s1 H1 O1 _ _ _ ⟨x1, t1, p1⟩ v r => ?_⟩
    obtain ⟨env', hb, p2⟩ := PostS.opt p1
    have hb' : bindT false tg d s1 = some env' := by
      cases tg with
      | nm i => exact absurd rfl (hn i)
      | tp ts => cases d <;> exact hb
    exact ⟨[], s1, O1, d, env', t1, r, hb', fun σ' t' _ => p2 H1 O1 σ' (Ext.refl _ _) t'⟩
/-! ### several names at once -/
/-- fresh values wait for their slots -/
def Vs (S : Sit) (H : Hp) (O : Addr → Prop) (env : Env) (σ : L2.St) : Pd → List Bool → List D → List V → Prop
  | P, f :: fs, d :: ds, v :: vs => if f && isC d then Top S H O d v ∧ NewTop env σ P d v ∧ Vs S H O env σ ((d, v) :: P) fs ds vs else Rep S.K H (S.F O) d v ∧ Vs S H O env σ P fs ds vs
  | _, [], [], [] => True
  | _, _, _, _ => False
def tFs (S : Sit) (C : Calls) (W : WX) (es : List E) : TA := fun σ H Q => ∃ P env O, SR S P H O env σ ∧ PostG S W P H O σ (evalEs C es env) fun ds s H' O' => ∀ vs, Vs S H' O' s σ P (es.map (isFresh C)) ds vs → Q vs H'
def up : Nat ⊕ Nat → Nat ⊕ Nat
  | .inl i => .inl i
  | .inr j => .inr (j + 1)
theorem up_inj {x y : Nat ⊕ Nat} (h : up x = up y) : x = y := by
  cases x <;> cases y <;> simp [up] at h <;> rw [h]
theorem up_ne {x : Nat ⊕ Nat} : up x ≠ .inr 0 := by cases x <;> simp [up]
theorem rt_up {env : Env} {σ : L2.St} {P : Pd} {p : D × V} {x : Nat ⊕ Nat} : rt env σ (p :: P) (up x) = rt env σ P x := by cases x <;> rfl
theorem up_or (x : Nat ⊕ Nat) : x = .inr 0 ∨ ∃ z, x = up z := by
  cases x with
  | inl i => exact .inr ⟨.inl i, rfl⟩
  | inr j => cases j with
    | zero => exact .inl rfl
    | succ j => exact .inr ⟨.inr j, rfl⟩
theorem rt_top {env : Env} {σ : L2.St} {P : Pd} {d : D} {v w : V} : rt env σ ((d, v) :: P) (.inr 0) = some w ↔ w = v ∧ isC d = true := by
  rw [rt_inr]
  constructor
  · rintro ⟨d', e, c⟩
    simp at e
    obtain ⟨rfl, rfl⟩ := e
    exact ⟨rfl, c⟩
  · rintro ⟨rfl, c⟩
    exact ⟨d, rfl, c⟩
section
variable {P : Pd} {H : Hp} {O : Addr → Prop} {env : Env} {σ : L2.St} {d : D} {v : V}
theorem SR.push (s : SR S P H O env σ) (t : Top S H O d v) (n : NewTop env σ P d v) : SR S ((d, v) :: P) H O env σ := by
  refine ⟨s.len, s.own, s.dis, s.sh, s.ow, fun p hp => ?_, fun x y w h1 h2 => ?_, s.io⟩
  · rcases List.mem_cons.mp hp with rfl | hp
    · exact t
    · exact s.pd p hp
  · rcases up_or x with rfl | ⟨z, rfl⟩
    · rcases up_or y with rfl | ⟨z', rfl⟩
      · rfl
      · obtain ⟨rfl, c⟩ := rt_top.mp h1
        rw [rt_up] at h2
        exact absurd h2 (n c z')
    · rw [rt_up] at h1
      rcases up_or y with rfl | ⟨z', rfl⟩
      · obtain ⟨rfl, c⟩ := rt_top.mp h2
        exact absurd h1 (n c z)
      · rw [rt_up] at h2
        rw [s.ne _ _ _ h1 h2]
theorem SR.unpush (t : SR S ((d, v) :: P) H O env σ) : SR S P H O env σ ∧ Top S H O d v ∧ NewTop env σ P d v := by
  refine ⟨⟨t.len, t.own, t.dis, t.sh, t.ow, fun p hp => t.pd p (List.mem_cons_of_mem _ hp), fun x y w h1 h2 => ?_, t.io⟩, t.pd (d, v) List.mem_cons_self, fun c y hy => ?_⟩
  · rw [← rt_up (p := (d, v))] at h1 h2
    exact up_inj (t.ne _ _ _ h1 h2)
  · rw [← rt_up (p := (d, v))] at hy
    exact up_ne (t.ne _ _ _ hy (rt_top.mpr ⟨rfl, c⟩))
theorem fs_lift {e : E} {es : List E} {Q : List V → Hp → Prop} (hc : (isFresh C e && isC d) = true) {r : R (List D)} (p : PostG S W P H O σ (r.bind fun ds s => .ok (d :: ds) s) (fun ds s H' O' => ∀ vs, Vs S H' O' s σ P (isFresh C e :: es.map (isFresh C)) ds vs → Q vs H')) :
    PostG S W ((d, v) :: P) H O σ r fun ds s H' O' => ∀ vs, Vs S H' O' s σ ((d, v) :: P) (es.map (isFresh C)) ds vs → Q (v :: vs) H' := by
  cases r with
  | stuck => exact p
  | exc y s' => exact fun cls dd H' O' x t => p cls dd H' O' x t.unpush.1
  | ok ds s' =>
    intro H' O' x t vs hv
    obtain ⟨t', tp, nt⟩ := t.unpush
    refine p H' O' x t' (v :: vs) ?_
    unfold Vs
    rw [if_pos hc]
    exact ⟨tp, nt, hv⟩
end
theorem r_fs_nil : PA X [] (tFs S C W []) := PA.imp pa_nil fun σ H Q ⟨P, env, O, s, p⟩ => p H O (Ext.refl _ _) s [] trivial
theorem r_fs_cons {es : List E} {ps : List Expr} (ha : PE X pe (tDk (isFresh C e) S C W e)) (hr : PA X ps (tFs S C W es)) (hn : nst pe = true) : PA X (pe :: ps) (tFs S C W (e :: es)) :=
  PA.imp (pa_cons ha hr (star_cons hn)) fun σ H Q ⟨P, env, O, s, p⟩ => ⟨P, env, O, s, PostG.imp (PostG.bind (show PostG S W P H O σ ((evalE C e env).bind _) _ from p)) fun d s1 H1 O1 _ _ _ ⟨x1, t1, p1⟩ v r => by
    have p1 : PostG S W P H1 O1 σ ((evalEs C es s1).bind fun ds s => .ok (d :: ds) s) fun ds s H' O' => ∀ vs, Vs S H' O' s σ P ((e :: es).map (isFresh C)) ds vs → Q vs H' := p1
    by_cases hc : (isFresh C e && isC d) = true
    · have hc2 := hc
      rw [Bool.and_eq_true] at hc2
      unfold FrK at r
      rw [if_pos hc2.1] at r
      have t2 := t1.push r.1 r.2
      refine ⟨(d, v) :: P, s1, O1, t2, ?_⟩
      exact fs_lift hc p1
    · have rp : ∃ O2, Ext H1 O1 H1 O2 ∧ SR S P H1 O2 s1 σ ∧ Rep S.K H1 (S.F O2) d v := by
        unfold FrK at r
        cases hf : isFresh C e with
        | false => rw [hf] at r; exact ⟨O1, Ext.refl _ _, t1, r⟩
        | true =>
          rw [hf] at r hc
          simp only [if_true] at r
          have : isC d = false := by simpa using hc
          have t := r.1
          rw [top_notC this] at t
          exact ⟨O1, Ext.refl _ _, t1, t⟩
      obtain ⟨O2, x2, t2, rp⟩ := rp
      refine ⟨P, s1, O2, t2, PostG.imp (PostG.bind (PostG.later x2 p1)) fun ds s2 H2 O3 _ _ _ ⟨x3, t3, p3⟩ vs hv => p3 H2 O3 (Ext.refl _ _) t3 (v :: vs) ?_⟩
      show Vs S H2 O3 s2 σ P (isFresh C e :: es.map (isFresh C)) (d :: ds) (v :: vs)
      unfold Vs
      rw [if_neg hc]
      exact ⟨rp.mono x3.mono, hv⟩⟩
/-- the values are stored, the last first -/
def setAll : List Nat → List V → L2.St → L2.St
  | i :: is, v :: vs, σ => (setAll is vs σ).set i (some v)
  | _, _, σ => σ
theorem setAll_len : ∀ (is : List Nat) (vs : List V) (σ : L2.St), (setAll is vs σ).length = σ.length
  | i :: is, v :: vs, σ => by simp only [setAll]; rw [List.length_set, setAll_len is vs σ]
  | [], _, _ => by simp only [setAll]
  | _ :: _, [], _ => by simp only [setAll]
theorem store_vs {H : Hp} {O : Addr → Prop} {σ : L2.St} {env : Env} : ∀ {is : List Nat} {es : List E} {ds : List D} {vs : List V} {P : Pd}, SR S P H O env σ → Vs S H O env σ P (es.map (isFresh C)) ds vs → is.length = es.length → (∀ i ∈ is, i < σ.length ∧ ioFree S i) →
    SR S P H O (putP C is es ds env) (setAll is vs σ)
  | [], [], ds, vs, P, s, h, _, _ => by
    cases ds <;> cases vs <;> first | exact s | (simp only [List.map_nil, Vs] at h)
  | [], _ :: _, _, _, _, _, _, hl, _ => by simp at hl
  | _ :: _, [], _, _, _, _, _, hl, _ => by simp at hl
  | i :: is, e :: es, [], vs, P, s, h, hl, hi => by cases vs <;> simp only [List.map_cons, Vs] at h
  | i :: is, e :: es, d :: ds, [], P, s, h, hl, hi => by simp only [List.map_cons, Vs] at h
  | i :: is, e :: es, d :: ds, v :: vs, P, s, h, hl, hi => by
    simp only [List.map_cons] at h
    unfold Vs at h
    have hi' : ∀ j ∈ is, j < σ.length ∧ ioFree S j := fun j hj => hi j (List.mem_cons_of_mem _ hj)
    have hl' : is.length = es.length := by simpa using hl
    obtain ⟨b1, b2⟩ := hi i List.mem_cons_self
    have b1' : i < (setAll is vs σ).length := by rw [setAll_len]; exact b1
    simp only [putP, setAll]
    unfold mkSl
    split at h
    · rename_i hc
      rw [if_pos hc]
      have s2 := store_vs (s.push h.1 h.2.1) h.2.2 hl' hi'
      obtain ⟨s3, t3, n3⟩ := s2.unpush
      exact s3.setOw b2 b1' t3 n3
    · rename_i hc
      rw [if_neg hc]
      have s2 := store_vs s h.2 hl' hi'
      exact s2.setSh b2 b1' h.1
theorem vs_len {H : Hp} {O : Addr → Prop} {σ : L2.St} {env : Env} : ∀ {fs : List Bool} {ds : List D} {vs : List V} {P : Pd}, Vs S H O env σ P fs ds vs → vs.length = fs.length
  | [], [], [], _, _ => rfl
  | [], _ :: _, vs, _, h => by cases vs <;> simp only [Vs] at h
  | [], [], _ :: _, _, h => by simp only [Vs] at h
  | _ :: _, [], vs, _, h => by cases vs <;> simp only [Vs] at h
  | _ :: _, _ :: _, [], _, h => by simp only [Vs] at h
  | f :: fs, d :: ds, v :: vs, P, h => by
    unfold Vs at h
    split at h
    · rw [List.length_cons, List.length_cons, vs_len h.2.2]
    · rw [List.length_cons, List.length_cons, vs_len h.2]
theorem par_core {is : List Nat} {es : List E} {D : Ends} {σ : L2.St} {H : Hp} (hl : σ.length = X.N.length) (hlen : is.length = es.length) (hi : ∀ i ∈ is, i < X.N.length ∧ ioFree S i) (h : tS S C W (.par is es) D σ H) :
    tFs S C W es σ H fun vs H1 => vs.length = es.length ∧ D.nx (setAll is vs σ) H1 := by
  obtain ⟨env, O, s, p⟩ := h
  have p : PostS S W H O ((evalEs C es env).thn fun ds s => .nx (putP C is es ds s)) D := p
  refine ⟨[], env, O, s, PostG.imp (PostS.thn p) fun ds s1 H1 O1 e _ _ ⟨x1, t1, p1⟩ vs hv => ⟨by rw [vs_len hv, List.length_map], ?_⟩⟩
  exact p1 H1 O1 _ (Ext.refl _ _) (store_vs t1 hv hlen fun i h => by rw [hl]; exact hi i h)
theorem rs_par2 {i j : Nat} {x y : Str} {a b : E} {pa pb : Expr} {px py pt : Pos} {kt k2 : Nat} {pt2 : Pos} (hc : X.calm = true) (hN : X.N.Nodup) (s1 : Sto X S x i) (s2 : Sto X S y j) (hij : i ≠ j) (hx : X.env.scope.names.lookup x = some .local) (hy : X.env.scope.names.lookup y = some .local)
    (ha : PA X [pa, pb] (tFs S C W [a, b])) (hw : swappedStores [.Tuple [.Name x px, .Name y py] kt pt] (.Tuple [pa, pb] k2 pt2) X.env = pure (some [x, y])) :
    PS X (.Assign [.Tuple [.Name x px, .Name y py] kt pt] (.Tuple [pa, pb] k2 pt2) pos) (tS S C W (.par [i, j] [a, b])) :=
  PS.impI (ps_par hc hN s1.ix s2.ix hij hx hy ha hw) fun D σ H hl h => by
    have k := par_core (is := [i, j]) hl rfl (fun n hn => by
      rcases List.mem_cons.mp hn with rfl | hn
      · exact ⟨lt_of_ix s1.ix, s1.io⟩
      · obtain rfl := List.mem_singleton.mp hn
        exact ⟨lt_of_ix s2.ix, s2.io⟩) h
    obtain ⟨P, env, O, s, q⟩ := k
    refine ⟨P, env, O, s, PostG.imp q fun ds s1 H1 O1 _ _ _ k vs hv => ?_⟩
    obtain ⟨hlen, k⟩ := k vs hv
    match vs, hlen, k with
    | [v, w], _, k => exact ⟨v, w, rfl, by rw [List.set_comm _ _ hij]; exact k⟩
theorem rs_par3 {i j l : Nat} {x y z : Str} {a b c : E} {pa pb pc : Expr} {px py pz pt : Pos} {kt k2 : Nat} {pt2 : Pos} (hc : X.calm = true) (hN : X.N.Nodup) (s1 : Sto X S x i) (s2 : Sto X S y j) (s3 : Sto X S z l) (hij : i ≠ j) (hil : i ≠ l) (hjl : j ≠ l)
    (hx : X.env.scope.names.lookup x = some .local) (hy : X.env.scope.names.lookup y = some .local) (hz : X.env.scope.names.lookup z = some .local)
    (ha : PA X [pa, pb, pc] (tFs S C W [a, b, c])) (hw : swappedStores [.Tuple [.Name x px, .Name y py, .Name z pz] kt pt] (.Tuple [pa, pb, pc] k2 pt2) X.env = pure (some [x, y, z])) :
    PS X (.Assign [.Tuple [.Name x px, .Name y py, .Name z pz] kt pt] (.Tuple [pa, pb, pc] k2 pt2) pos) (tS S C W (.par [i, j, l] [a, b, c])) :=
  PS.impI (L2.ps_par3 hc hN s1.ix s2.ix s3.ix hij hil hjl hx hy hz ha hw) fun D σ H hl h => by
    have k := par_core (is := [i, j, l]) hl rfl (fun n hn => by
      rcases List.mem_cons.mp hn with rfl | hn
      · exact ⟨lt_of_ix s1.ix, s1.io⟩
      · rcases List.mem_cons.mp hn with rfl | hn
        · exact ⟨lt_of_ix s2.ix, s2.io⟩
        · obtain rfl := List.mem_singleton.mp hn
          exact ⟨lt_of_ix s3.ix, s3.io⟩) h
    obtain ⟨P, env, O, s, q⟩ := k
    refine ⟨P, env, O, s, PostG.imp q fun ds s1 H1 O1 _ _ _ k vs hv => ?_⟩
    obtain ⟨hlen, k⟩ := k vs hv
    match vs, hlen, k with
    | [u, v, w], _, k =>
      refine ⟨u, v, w, rfl, ?_⟩
      have e : ((σ.set i (some u)).set j (some v)).set l (some w) = ((σ.set l (some w)).set j (some v)).set i (some u) := by
        rw [List.set_comm _ _ hij, List.set_comm _ _ hil, List.set_comm _ _ hjl]
      rw [e]; exact k
end
/-! a, b = .., one of the names at least a cell: stored from the left; the tuple is not tracked -/
theorem tup_stands {X : Cx} {pins : List (Addr × Obj)} {σ : L2.St} {H : Hp} {s : Shared} {us : List Value} (I : L2.Inv X pins σ H s) :
    L2.Inv X pins σ H { s with heap := s.heap.push { cls := .type "tuple", data := .seq us.toArray } } := I.kept (t' := s.toks) fun b o e => Heap.get?_push_of_some _ e
theorem ps_parC2 {X : Cx} {pos : Pos} {i j : Nat} {x y : Str} {a b : Expr} {ta : TA} {px py pt : Pos} {kt k2 pt2} (hc : X.calm = true) (hN : X.N.Nodup) (hi : X.N[i]? = some x) (hj : X.N[j]? = some y)
    (hx : Loc X.env.scope x) (hy : Loc X.env.scope y) (fx : X.fn x = true ∨ X.env.scope.names.lookup x = some .local) (fy : X.fn y = true ∨ X.env.scope.names.lookup y = some .local) (ha : PA X [a, b] ta)
    (hw : swappedStores [.Tuple [.Name x px, .Name y py] kt pt] (.Tuple [a, b] k2 pt2) X.env = pure none)
    (hs : swapsWithSole [.Tuple [.Name x px, .Name y py] kt pt] (.Tuple [a, b] k2 pt2) pos.line X.env = pure false := by rfl) :
    PS X (.Assign [.Tuple [.Name x px, .Name y py] kt pt] (.Tuple [a, b] k2 pt2) pos) (tPar i j ta) := by
  refine ⟨fun pins s σ H D I h => ?_⟩
  refine wpAny_Assign_stores (Tuple_ (thn (ha.run _ pins s σ H _ I h) fun us s1 ⟨vs, H1, I1, r1, v, w, e1, q1⟩ => ?_)) hs hw
  subst e1
  obtain ⟨u1, u2, rfl, rv, rw'⟩ : ∃ u1 u2, us = [u1, u2] ∧ RelV v u1 ∧ RelV w u2 := by
    cases r1 with
    | cons p q => cases q with
      | cons p' q' => cases q'; exact ⟨_, _, rfl, p, p'⟩
  refine wpAny_newObj_type ?_ (by show 2 ≤ sizeLine; decide)
  have I2 := tup_stands (us := [u1, u2]) I1
  show wpAny _ _ (assign (.Tuple [.Name x px, .Name y py] kt pt) X.env (.ref s1.heap.objs.size)) _ _ _
  refine assign_Tuple_tuple (I2.ok.hd hc) (IsTup.new s1.heap #[u1, u2]) (by rfl) (by rfl) fun h' hx' => ?_
  have I3 := I2.kept (h' := h') (t' := s1.toks) fun b o e => hx' b o (Nat.ne_of_lt (Heap.lt_size e)) e
  show wpAny _ _ (assignInOrder [assign (.Name x px) X.env, assign (.Name y py) X.env] [u1, u2]) _ _ _
  refine assignInOrder_cons (wpAny_assign_Name (store_ok I3 hN hi hx rv (fun s2 I4 => ?_) fx))
  exact assignInOrder_cons (wpAny_assign_Name (store_ok I4 hN hj hy rw' (fun s3 I5 => assignInOrder_nil ⟨_, H1, I5, q1⟩) fy))
theorem ps_parC3 {X : Cx} {pos : Pos} {i j l : Nat} {x y z : Str} {a b c : Expr} {ta : TA} {px py pz pt : Pos} {kt k2 pt2} (hc : X.calm = true) (hN : X.N.Nodup) (hi : X.N[i]? = some x) (hj : X.N[j]? = some y) (hl : X.N[l]? = some z)
    (hx : Loc X.env.scope x) (hy : Loc X.env.scope y) (hz : Loc X.env.scope z) (fx : X.fn x = true ∨ X.env.scope.names.lookup x = some .local) (fy : X.fn y = true ∨ X.env.scope.names.lookup y = some .local) (fz : X.fn z = true ∨ X.env.scope.names.lookup z = some .local) (ha : PA X [a, b, c] ta)
    (hw : swappedStores [.Tuple [.Name x px, .Name y py, .Name z pz] kt pt] (.Tuple [a, b, c] k2 pt2) X.env = pure none)
    (hs : swapsWithSole [.Tuple [.Name x px, .Name y py, .Name z pz] kt pt] (.Tuple [a, b, c] k2 pt2) pos.line X.env = pure false := by rfl) :
    PS X (.Assign [.Tuple [.Name x px, .Name y py, .Name z pz] kt pt] (.Tuple [a, b, c] k2 pt2) pos) (tPar3 i j l ta) := by
  refine ⟨fun pins s σ H D I h => ?_⟩
  refine wpAny_Assign_stores (Tuple_ (thn (ha.run _ pins s σ H _ I h) fun us s1 ⟨vs, H1, I1, r1, v, w, t, e1, q1⟩ => ?_)) hs hw
  subst e1
  obtain ⟨u1, u2, u3, rfl, rv, rw', rz⟩ : ∃ u1 u2 u3, us = [u1, u2, u3] ∧ RelV v u1 ∧ RelV w u2 ∧ RelV t u3 := by
    cases r1 with
    | cons p q => cases q with
      | cons p' q' => cases q' with
        | cons p'' q'' => cases q''; exact ⟨_, _, _, rfl, p, p', p''⟩
  refine wpAny_newObj_type ?_ (by show 3 ≤ sizeLine; decide)
  have I2 := tup_stands (us := [u1, u2, u3]) I1
  show wpAny _ _ (assign (.Tuple [.Name x px, .Name y py, .Name z pz] kt pt) X.env (.ref s1.heap.objs.size)) _ _ _
  refine assign_Tuple_tuple (I2.ok.hd hc) (IsTup.new s1.heap #[u1, u2, u3]) (by rfl) (by rfl) fun h' hx' => ?_
  have I3 := I2.kept (h' := h') (t' := s1.toks) fun b o e => hx' b o (Nat.ne_of_lt (Heap.lt_size e)) e
  show wpAny _ _ (assignInOrder [assign (.Name x px) X.env, assign (.Name y py) X.env, assign (.Name z pz) X.env] [u1, u2, u3]) _ _ _
  refine assignInOrder_cons (wpAny_assign_Name (store_ok I3 hN hi hx rv (fun s2 I4 => ?_) fx))
  refine assignInOrder_cons (wpAny_assign_Name (store_ok I4 hN hj hy rw' (fun s3 I5 => ?_) fy))
  exact assignInOrder_cons (wpAny_assign_Name (store_ok I5 hN hl hz rz (fun s4 I6 => assignInOrder_nil ⟨_, H1, I6, q1⟩) fz))
section
variable {X : Cx} {S : Sit} {C : Calls} {W : WX} {pos : Pos}
theorem par2_end {i j : Nat} {x y : Str} {a b : E} {D : Ends} {σ : L2.St} {H : Hp} (s1 : Sto X S x i) (s2 : Sto X S y j) (hij : i ≠ j) (hl : σ.length = X.N.length) (h : tS S C W (.par [i, j] [a, b]) D σ H) : tPar i j (tFs S C W [a, b]) D σ H := by
  have k := par_core (is := [i, j]) hl rfl (fun n hn => by
    rcases List.mem_cons.mp hn with rfl | hn
    · exact ⟨lt_of_ix s1.ix, s1.io⟩
    · obtain rfl := List.mem_singleton.mp hn
      exact ⟨lt_of_ix s2.ix, s2.io⟩) h
  obtain ⟨P, env, O, s, q⟩ := k
  refine ⟨P, env, O, s, PostG.imp q fun ds s1 H1 O1 _ _ _ k vs hv => ?_⟩
  obtain ⟨hlen, k⟩ := k vs hv
  match vs, hlen, k with
  | [v, w], _, k => exact ⟨v, w, rfl, by rw [List.set_comm _ _ hij]; exact k⟩
theorem par3_end {i j l : Nat} {x y z : Str} {a b c : E} {D : Ends} {σ : L2.St} {H : Hp} (s1 : Sto X S x i) (s2 : Sto X S y j) (s3 : Sto X S z l) (hij : i ≠ j) (hil : i ≠ l) (hjl : j ≠ l) (hl : σ.length = X.N.length) (h : tS S C W (.par [i, j, l] [a, b, c]) D σ H) : tPar3 i j l (tFs S C W [a, b, c]) D σ H := by
  have k := par_core (is := [i, j, l]) hl rfl (fun n hn => by
    rcases List.mem_cons.mp hn with rfl | hn
    · exact ⟨lt_of_ix s1.ix, s1.io⟩
    · rcases List.mem_cons.mp hn with rfl | hn
      · exact ⟨lt_of_ix s2.ix, s2.io⟩
      · obtain rfl := List.mem_singleton.mp hn
        exact ⟨lt_of_ix s3.ix, s3.io⟩) h
  obtain ⟨P, env, O, s, q⟩ := k
  refine ⟨P, env, O, s, PostG.imp q fun ds s1 H1 O1 _ _ _ k vs hv => ?_⟩
  obtain ⟨hlen, k⟩ := k vs hv
  match vs, hlen, k with
  | [u, v, w], _, k =>
    refine ⟨u, v, w, rfl, ?_⟩
    have e : ((σ.set i (some u)).set j (some v)).set l (some w) = ((σ.set l (some w)).set j (some v)).set i (some u) := by
      rw [List.set_comm _ _ hij, List.set_comm _ _ hil, List.set_comm _ _ hjl]
    rw [e]; exact k
theorem rs_parC2 {i j : Nat} {x y : Str} {a b : E} {pa pb : Expr} {px py pt : Pos} {kt k2 : Nat} {pt2 : Pos} (hc : X.calm = true) (hN : X.N.Nodup) (s1 : Sto X S x i) (s2 : Sto X S y j) (hij : i ≠ j)
    (ha : PA X [pa, pb] (tFs S C W [a, b])) (hw : swappedStores [.Tuple [.Name x px, .Name y py] kt pt] (.Tuple [pa, pb] k2 pt2) X.env = pure none) :
    PS X (.Assign [.Tuple [.Name x px, .Name y py] kt pt] (.Tuple [pa, pb] k2 pt2) pos) (tS S C W (.par [i, j] [a, b])) :=
  PS.impI (ps_parC2 hc hN s1.ix s2.ix s1.loc s2.loc s1.fn s2.fn ha hw) fun D σ H hl h => par2_end s1 s2 hij hl h
theorem rs_parC3 {i j l : Nat} {x y z : Str} {a b c : E} {pa pb pc : Expr} {px py pz pt : Pos} {kt k2 : Nat} {pt2 : Pos} (hc : X.calm = true) (hN : X.N.Nodup) (s1 : Sto X S x i) (s2 : Sto X S y j) (s3 : Sto X S z l) (hij : i ≠ j) (hil : i ≠ l) (hjl : j ≠ l)
    (ha : PA X [pa, pb, pc] (tFs S C W [a, b, c])) (hw : swappedStores [.Tuple [.Name x px, .Name y py, .Name z pz] kt pt] (.Tuple [pa, pb, pc] k2 pt2) X.env = pure none) :
    PS X (.Assign [.Tuple [.Name x px, .Name y py, .Name z pz] kt pt] (.Tuple [pa, pb, pc] k2 pt2) pos) (tS S C W (.par [i, j, l] [a, b, c])) :=
  PS.impI (ps_parC3 hc hN s1.ix s2.ix s3.ix s1.loc s2.loc s3.loc s1.fn s2.fn s3.fn ha hw) fun D σ H hl h => par3_end s1 s2 s3 hij hil hjl hl h
end
end Rf

/-! Rg, part P: .. more statements, loops, blocks, raise. -/
namespace Rf
open PySem PySem.Spec PyProof.Rows L2
def isLC : Expr → Bool
  | .ListComp _ _ _ _ => true
  | .SetComp _ _ _ _ => true
  | .DictComp _ _ _ _ _ => true
  | _ => false
theorem noSwap {pe : Expr} {t : Option Expr} {l : Nat} {env : PySem.Env} (h : isLC pe = false) : swapsWith pe t l env = pure false := by
  cases pe <;> first | rfl | (simp [isLC] at h)
theorem noSwapSole {pe tg : Expr} {l : Nat} {env : PySem.Env} (h : isLC pe = false) : swapsWithSole [tg] pe l env = pure false := noSwap h
section
variable {X : Cx} {S : Sit} {C : Calls} {W : WX} {pos : Pos} {e e2 i : E} {pe pe2 pi : Expr}
def rGetL : V → V → Hp → VK → Prop := fun o i H Q => ∃ p xs k v, o = .ref p ∧ i = .int k ∧ H p = some (.lst xs) ∧ atI xs k = some v ∧ Q v H
theorem get_list : PGet X rGetL := by
  intro pins s σ H o i ov iv Q I ro ri h
  obtain ⟨p, xs, k, v, rfl, rfl, hp, hv, q⟩ := h
  cases ro
  obtain ⟨t, rfl⟩ := ri
  obtain ⟨its, r, pl, hz⟩ := I.list (SqL.of hp)
  obtain ⟨j, h1, h2, h3, h4, h5⟩ := atI_get hv
  obtain ⟨w, ew, rw'⟩ := r.get h2
  have hl := r.length
  have hn := line63
  have fin : EP X pins σ Q w s := ⟨v, H, I, rw', q⟩
  by_cases h0 : 0 ≤ k
  · have hj : k.toNat = j := by
      rw [seqIndex_of h0 h5] at h1
      exact Option.some.inj h1
    exact wpAny_getItem_list pl.isList h0 (by omega) (by rw [hj]; simpa using ew) fin
  · have hj : (k + (its.toArray.size : Int)).toNat = j := by
      rw [seqIndex_neg (by omega) h4] at h1
      rw [List.size_toArray, ← hl]
      exact Option.some.inj h1
    exact wpAny_getItem_list_neg pl.isList (by omega) (by rw [List.size_toArray] <;> omega) (by omega) (by rw [hj]; simpa using ew) fin
/-- op= by data -/
theorem iopD (o : BOp) (op : Operator) (h : op = (match o with | .add => Operator.Add | .sub => .Sub | .mul => .Mult | .fdiv => .FloorDiv | .mod => .Mod | .pow => .Pow)) : PIp X op (fun x y H Q => ∃ d e z F, RepV X.K H F d x ∧ RepV X.K H F e y ∧ iop o d e = some z ∧ ∀ v, (∀ H F, Rep X.K H F z v) → isC z = false → Q v H) := by
  subst h
  intro pins s σ H x y v u Q I rx ry h
  obtain ⟨d, e, z, F, rd, re, hz, k⟩ := h
  cases o <;> cases d <;> cases e <;> try (simp [iop] at hz; done)
  · cases rd; cases re
    simp only [iop, Option.some.injEq] at hz; subst hz
    exact iop_add pins s σ H _ _ v u Q I rx ry ⟨_, _, rfl, rfl, k _ (fun _ _ => rfl) rfl⟩
  · cases rd; cases re
    simp only [iop] at hz
    split at hz
    · rename_i hl
      cases hz
      exact iop_add_str pins s σ H _ _ v u Q I rx ry ⟨_, _, rfl, rfl, hl, k _ (fun _ _ => rfl) rfl⟩
    · cases hz
  · cases rd; cases re
    simp only [iop, Option.some.injEq] at hz; subst hz
    exact iop_sub pins s σ H _ _ v u Q I rx ry ⟨_, _, rfl, rfl, k _ (fun _ _ => rfl) rfl⟩
  · rename_i a b
    cases rd; cases re
    simp only [iop] at hz
    split at hz
    · rename_i hl
      cases hz
      simp only [Bool.or_eq_true, decide_eq_true_eq] at hl
      refine iop_mul pins s σ H _ _ v u Q I rx ry ⟨_, _, rfl, rfl, ?_, k _ (fun _ _ => rfl) rfl⟩
      rcases hl with hl | hl
      · exact .inl ⟨by omega, by omega⟩
      · exact .inr ⟨by omega, by omega⟩
    · cases hz
  · cases rd; cases re
    simp only [iop] at hz
    split at hz
    · rename_i hl
      cases hz
      simp only [Bool.and_eq_true, decide_eq_true_eq] at hl
      exact iop_fdiv pins s σ H _ _ v u Q I rx ry ⟨_, _, rfl, rfl, hl, k _ (fun _ _ => rfl) rfl⟩
    · cases hz
  · cases rd; cases re
    simp only [iop] at hz
    split at hz
    · rename_i hl
      cases hz
      exact iop_mod pins s σ H _ _ v u Q I rx ry ⟨_, _, rfl, rfl, hl, k _ (fun _ _ => rfl) rfl⟩
    · cases hz
def opOf : BOp → Operator
  | .add => .Add | .sub => .Sub | .mul => .Mult | .fdiv => .FloorDiv | .mod => .Mod | .pow => .Pow
theorem iop_stable {o : BOp} {d e z : D} (h : iop o d e = some z) : (∀ K H F v, RepV K H F d v → ∀ H' F', RepV K H' F' d v) := fun K H F v r H' F' => by
  cases o <;> cases d <;> cases e <;> first | exact r | (simp [iop] at h; done)
theorem rs_aug {o : BOp} {j : Nat} {x : Str} {p : Pos} (hK : S.K = X.K) (hN : X.N.Nodup) (st : Sto X S x j) (he : PE X pe (tD S C W e)) : PS X (.AugAssign (.Name x p) (opOf o) pe pos) (tS S C W (.aug j o e)) :=
  PS.impI (ps_aug hN st.ix st.loc he (iopD o _ (by cases o <;> rfl)) st.fn) fun D σ H hl ⟨env, O, s, q⟩ => by
    obtain ⟨d, v, e1, r, q⟩ := s.slotS (show PostS S W H O ((slotR env j).thn fun x s => (evalE C e s).thn fun y s => optS (iop o x y) fun z => .nx (s.set j (.sh z))) D from q)
    refine ⟨v, e1, [], env, O, s, PostG.imp (PostS.thn q) fun d2 s1 H1 O1 _ _ _ ⟨x1, t1, p1⟩ v2 r2 => ?_⟩
    obtain ⟨z, hz, p2⟩ := PostS.opt p1
    have r1 := iop_stable hz _ _ _ _ r H1 (S.F O1)
    rw [hK] at r1 r2
    exact ⟨d, d2, z, S.F O1, r1, r2.view, hz, fun w hw hc => p2 H1 O1 _ (Ext.refl _ _) (t1.setSh st.io (by rw [hl]; exact lt_of_ix st.ix) (by rw [hK]; exact hw _ _))⟩
theorem rs_setI {j : Nat} {px : Expr} {p1 : Pos} (hK : S.K = X.K) (hu : X.A.units + 100 < cLine) (ho : PE X px (tVar j)) (hi : PE X pi (tD S C W i)) (he : PE X pe (tD S C W e)) (hn : nsl pi = true) (hlc : isLC pe = false) (h2 : swappedStores [.Subscript px pi p1] pe X.env = pure none) : PS X (.Assign [.Subscript px pi p1] pe pos) (tS S C W (.setI j i e)) := by
  have hsub : ∀ v, assign (.Subscript px pi p1) X.env v = (do
      let ov ← holding [v] (eval px X.env)
      let iv ← holding [v, ov] (eval pi X.env)
      standAt p1
      holding [v, ov, iv] (setItem ov iv v)
      release [v, ov, iv] []) := fun v => by
    cases pi <;> first | rfl | (simp [nsl] at hn)
  refine PS.impI (ps_asg he (pg_sub ho hi (set_Dc (by omega)) hsub) (noSwapSole hlc) h2) fun D σ H hl ⟨env, O, s, q⟩ => ?_
  have q : PostS S W H O ((evalE C e env).thn fun d s => (ownC s j).thn fun _ s => (evalE C i s).thn fun k s => (ownC s j).thn fun c s => optS (setD c k d) fun c => .nx (s.set j (.ow c))) D := q
  refine ⟨[], env, O, s, PostG.imp (PostS.thn q) fun d s1 H1 O1 _ _ _ ⟨x1, t1, p1⟩ v r => ?_⟩
  obtain ⟨c0, l, vs0, e0, hc0, e1, _, _, p1⟩ := t1.ownSC p1
  refine ⟨.ref l, e1, [], s1, O1, t1, PostG.imp (PostS.thn p1) fun k s2 H2 O2 _ _ _ ⟨x2, t2, p2⟩ v2 r2 => ?_⟩
  obtain ⟨c, l2, vs, e2, hc, e3, xl2, rs, p2⟩ := t2.ownSC p2
  rw [e1] at e3; cases e3
  obtain ⟨c', hs, p3⟩ := PostS.opt p2
  have rv := r.mono x2.mono
  cases c with
  | lst ds =>
    cases k with
    | int k =>
      cases r2
      simp only [setD, Option.map_eq_some_iff] at hs
      obtain ⟨m, hk, rfl⟩ := hs
      obtain ⟨l3, vs3, e3, x3, r3, k3⟩ := t2.write (es := ds.set m d) e2
      rw [e1] at e3; cases e3
      obtain ⟨xt, t3, m3⟩ := k3 (vs3.set m v) (r3.set m rv)
      exact .inl ⟨l, vs3, k, m, rfl, rfl, x3, by rw [← r3.length]; exact hk, p3 _ _ _ xt t3⟩
    | _ => simp [setD] at hs
  | dic ks ds =>
    simp only [setD] at hs
    split at hs
    · rename_i hk
      cases hs
      rw [Bool.and_eq_true, decide_eq_true_eq] at hk
      obtain ⟨l3, vs3, e3, ⟨o, x3, c3⟩, r3, k3⟩ := t2.writeC e2 hc
      rw [e1] at e3; cases e3
      have c3 : DcO o ks vs3 := c3
      rw [hK] at r2
      refine .inr ⟨l, o, ks, vs3, k, S.F O2, rfl, x3, c3, hk.1, hk.2, r2, fun o' ho' => ?_⟩
      obtain ⟨xt, t3, m3⟩ := k3 (.dic (dputK ks k) (dputV ks ds k d)) o' _ rfl ho' (reps_put r3 rv)
      exact p3 _ _ _ xt t3
    · cases hs
  | _ => simp [isC] at hc
theorem rs_augI {o : BOp} {j : Nat} {px : Expr} {p1 : Pos} (hK : S.K = X.K) (ho : PE X px (tVar j)) (hi : PE X pi (tD S C W i)) (he : PE X pe (tD S C W e)) (hn : nsl pi = true) : PS X (.AugAssign (.Subscript px pi p1) (opOf o) pe pos) (tS S C W (.augI j i o e)) := by
  have hst : ∀ ov iv new, augStore pi ov iv new = (do holding [new, ov, iv] (setItem ov iv new); release [new, ov, iv] []; pure .next) := by
    intros
    cases pi <;> first | rfl | (simp [nsl] at hn)
  refine PS.impI (ps_augS ho hi get_list he (iopD o _ (by cases o <;> rfl)) set_list hst) fun D σ H hl ⟨env, O, s, q⟩ => ?_
  have q : PostS S W H O ((ownR env j).thn fun _ s => (evalE C i s).thn fun k s => (ownR s j).thn fun ds s => match k with
    | .int k => match ixN ds.length k with
      | some m => match ds[m]? with
        | some a => (evalE C e s).thn fun b s => optS (iop o a b) fun z => (ownR s j).thn fun ds s => match ixN ds.length k with
          | some m => .nx (s.set j (.ow (.lst (ds.set m z))))
          | none => .stuck
        | none => .stuck
      | none => .stuck
    | _ => .stuck) D := q
  obtain ⟨ds0, l, vs0, e0, e1, xl, rs0, q⟩ := s.ownS q
  refine ⟨.ref l, e1, [], env, O, s, PostG.imp (PostS.thn q) fun k s1 H1 O1 _ _ _ ⟨x1, t1, p1⟩ v1 r1 => ?_⟩
  obtain ⟨ds, l2, vs, e2, e3, xl2, rs, p1⟩ := t1.ownS p1
  rw [e1] at e3; cases e3
  cases k with
  | int k =>
    cases r1
    cases hk : ixN ds.length k with
    | none => simp only [hk] at p1; exact False.elim p1
    | some m =>
      cases ha : ds[m]? with
      | none => simp only [hk, ha] at p1; exact False.elim p1
      | some a =>
        simp only [hk, ha] at p1
        obtain ⟨va, hva, ra⟩ := rs.get ha
        refine ⟨l, vs, k, va, rfl, rfl, xl2, by unfold atI; rw [← rs.length, show L2.ixN ds.length k = some m from hk]; exact hva, ?_⟩
        refine ⟨[], s1, O1, t1, PostG.imp (PostS.thn p1) fun b s2 H2 O2 _ _ _ ⟨x2, t2, p2⟩ v2 r2 => ?_⟩
        obtain ⟨z, hz, p3⟩ := PostS.opt p2
        obtain ⟨ds2, l3, vs2, e4, e5, xl3, rs2, p3⟩ := t2.ownS p3
        rw [e1] at e5; cases e5
        cases hk2 : ixN ds2.length k with
        | none => simp only [hk2] at p3; exact False.elim p3
        | some m2 =>
          simp only [hk2] at p3
          have ra2 := ra.mono x2.mono
          have hK' := hK
          rw [hK] at ra2 r2
          refine ⟨a, b, z, S.F O2, ra2.view, r2.view, hz, fun w hw hc => ?_⟩
          obtain ⟨l4, vs4, e6, x4, r4, k4⟩ := t2.write (es := ds2.set m2 z) e4
          rw [e1] at e6; cases e6
          obtain ⟨xt, t3, m3⟩ := k4 (vs4.set m2 w) (r4.set m2 (by rw [hK]; exact hw _ _))
          exact ⟨l, vs4, k, m2, rfl, rfl, x4, by rw [← r4.length]; exact hk2, p3 _ _ _ xt t3⟩
  | _ => exact False.elim p1
/-! methods of an owned list, as statements -/
theorem rs_app {j : Nat} {x : Str} {p apos cpos : Pos} (ha : PE X (.Name x p) (tVar j)) (he : PE X pe (tD S C W e)) (hl : (apos.endLine == cpos.line) = true) (hn : nst pe = true) : PS X (.Expr (.Call (.Attribute (.Name x p) "append" apos) [pe] [] cpos) pos) (tS S C W (.app j e)) := by
  refine PS.impI (ps_expr (pe_bm PySem.F.plainAttrs_list PySem.F.slot_list_append PySem.F.type_list_append mt_append ha (pa_cons he pa_nil (star_cons hn)) base_name (few1 _ _ hn) hl (star_cons hn) rfl)) fun D σ H hl ⟨env, O, s, q⟩ => ?_
  obtain ⟨ds0, l, vs0, e0, e1, xl, rs0, q⟩ := s.ownS (show PostS S W H O ((ownR env j).thn fun _ s => (evalE C e s).thn fun d s => (ownR s j).thn fun ds s => if ds.length < sizeLine then .nx (s.set j (.ow (.lst (ds ++ [d])))) else .stuck) D from q)
  refine ⟨.ref l, e1, .inl ⟨rfl, vs0, SqL.of xl⟩, [], env, O, s, PostG.imp (PostS.thn q) fun d s1 H1 O1 _ _ _ ⟨x1, t1, p1⟩ v1 r1 => ?_⟩
  obtain ⟨ds, l2, vs, e2, e3, xl2, rs, p1⟩ := t1.ownS p1
  rw [e1] at e3; cases e3
  split at p1
  · rename_i hlt
    obtain ⟨l4, vs4, e6, x4, r4, k4⟩ := t1.write (es := ds ++ [d]) e2
    rw [e1] at e6; cases e6
    obtain ⟨xt, t3, m3⟩ := k4 (vs4 ++ [v1]) (r4.append (.one r1))
    exact ⟨l, vs4, v1, rfl, rfl, x4, by rw [← r4.length]; exact hlt, p1 _ _ _ xt t3⟩
  · exact False.elim p1
theorem rs_ext {j : Nat} {x : Str} {p apos cpos : Pos} (ha : PE X (.Name x p) (tVar j)) (he : PE X pe (tD S C W e)) (hl : (apos.endLine == cpos.line) = true) (hn : nst pe = true) : PS X (.Expr (.Call (.Attribute (.Name x p) "extend" apos) [pe] [] cpos) pos) (tS S C W (.ext j e)) := by
  refine PS.impI (ps_expr (pe_bm PySem.F.plainAttrs_list PySem.F.slot_list_extend PySem.F.type_list_extend mt_extend ha (pa_cons he pa_nil (star_cons hn)) base_name (few1 _ _ hn) hl (star_cons hn) rfl)) fun D σ H hl ⟨env, O, s, q⟩ => ?_
  obtain ⟨ds0, l, vs0, e0, e1, xl, rs0, q⟩ := s.ownS (show PostS S W H O ((ownR env j).thn fun _ s => (evalE C e s).thn fun d s => (ownR s j).thn fun ds s => match d with
    | .lst es => if ds.length + es.length ≤ sizeLine then .nx (s.set j (.ow (.lst (ds ++ es)))) else .stuck
    | _ => .stuck) D from q)
  refine ⟨.ref l, e1, .inl ⟨rfl, vs0, SqL.of xl⟩, [], env, O, s, PostG.imp (PostS.thn q) fun d s1 H1 O1 _ _ _ ⟨x1, t1, p1⟩ v1 r1 => ?_⟩
  obtain ⟨ds, l2, vs, e2, e3, xl2, rs, p1⟩ := t1.ownS p1
  rw [e1] at e3; cases e3
  cases d with
  | lst es =>
    have p1 : PostS S W H1 O1 (if ds.length + es.length ≤ sizeLine then .nx (s1.set j (.ow (.lst (ds ++ es)))) else .stuck) D := p1
    split at p1
    · rename_i hlt
      obtain ⟨b, us, rfl, hb, rb⟩ := r1
      obtain ⟨l4, vs4, e6, x4, r4, k4⟩ := t1.write (es := ds ++ es) e2
      rw [e1] at e6; cases e6
      obtain ⟨xt, t3, m3⟩ := k4 (vs4 ++ us) (r4.append rb)
      exact ⟨l, b, vs4, us, rfl, rfl, x4, hb.1, by rw [← r4.length, ← rb.length]; exact hlt, p1 _ _ _ xt t3⟩
    · exact False.elim p1
  | _ => exact False.elim p1
theorem rs_expr (he : PE X pe (tD S C W e)) (hlc : isLC pe = false) : PS X (.Expr pe pos) (tS S C W (.expr e)) :=
  PS.impI (ps_expr he (noSwap hlc)) fun D σ H hl ⟨env, O, s, q⟩ => ⟨[], env, O, s, PostG.imp (PostS.thn (show PostS S W H O ((evalE C e env).thn fun _ s => .nx s) D from q)) fun d s1 H1 O1 _ _ _ ⟨x1, t1, p1⟩ v r => p1 H1 O1 σ (Ext.refl _ _) t1⟩
theorem rs_ret (he : PE X pe (tDk S.fr S C W e)) : PS X (.Return (some pe) pos) (tS S C W (.ret e)) :=
  PS.impI (ps_ret he) fun D σ H hl ⟨env, O, s, q⟩ => ⟨[], env, O, s, PostG.imp (PostS.thn (show PostS S W H O ((evalE C e env).thn fun d s => .ret d s) D from q)) fun d s1 H1 O1 _ _ _ ⟨x1, t1, p1⟩ v r => p1 H1 O1 σ v (Ext.refl _ _) t1 r⟩
theorem rs_retN : PS X (.Return none pos) (tS S C W .retN) :=
  PS.impI ps_retN fun D σ H hl ⟨env, O, s, q⟩ => by
    refine (show PostS S W H O (.ret .non env) D from q) H O σ .non (Ext.refl _ _) s ?_
    unfold FrK
    split
    · exact ⟨rfl, fun c => by cases c⟩
    · rfl
theorem rs_pass : PS X (.Pass pos) (tS S C W .pass) := PS.impI ps_pass fun D σ H hl ⟨env, O, s, q⟩ => (show PostS S W H O (.nx env) D from q) H O σ (Ext.refl _ _) s
theorem rs_brk : PS X (.Break pos) (tS S C W .brk) := PS.impI ps_break fun D σ H hl ⟨env, O, s, q⟩ => (show PostS S W H O (.bk env) D from q) H O σ (Ext.refl _ _) s
theorem rs_cnt : PS X (.Continue pos) (tS S C W .cnt) := PS.impI ps_continue fun D σ H hl ⟨env, O, s, q⟩ => (show PostS S W H O (.ct env) D from q) H O σ (Ext.refl _ _) s
theorem PSs.impI {t t' : TS} {ps : List Stmt} (h : PSs X ps t) (i : ∀ D σ H, σ.length = X.N.length → t' D σ H → t D σ H) : PSs X ps t' := ⟨fun pins s σ H D I q => h.run pins s σ H D I (i D σ H I.len q)⟩
theorem rss_nil : PSs X [] (tSs S C W []) := PSs.impI pss_nil fun D σ H hl ⟨env, O, s, q⟩ => (show PostS S W H O (.nx env) D from q) H O σ (Ext.refl _ _) s
theorem rss_cons {st : Rf.St} {sts : List Rf.St} {p : Stmt} {ps : List Stmt} (h1 : PS X p (tS S C W st)) (h2 : PSs X ps (tSs S C W sts)) : PSs X (p :: ps) (tSs S C W (st :: sts)) :=
  PSs.impI (pss_cons h1 h2) fun D σ H hl ⟨env, O, s, q⟩ => by
    have q : PostS S W H O (match execS C st env with
      | .nx s1 => execSs C sts s1
      | x => x) D := q
    refine ⟨env, O, s, ?_⟩
    cases hr : execS C st env with
    | stuck => rw [hr] at q; exact False.elim q
    | nx s1 => rw [hr] at q; exact fun H' O' σ' x t => ⟨s1, O', t, PostS.later x q⟩
    | bk s1 => rw [hr] at q; exact q
    | ct s1 => rw [hr] at q; exact q
    | ret d s1 => rw [hr] at q; exact q
    | exc y s1 => rw [hr] at q; exact q
/-- a docstring, a bare name of a thing: nothing -/
theorem rs_if {t : Rf.T} {pt : Expr} {a b : List Rf.St} {pa pb : List Stmt} (ht : PT X pt (tT S C W t)) (ha : PSs X pa (tSs S C W a)) (hb : PSs X pb (tSs S C W b)) : PS X (.If pt pa pb pos) (tS S C W (.ifS t a b)) :=
  PS.impI (ps_if ht ha hb) fun D σ H hl ⟨env, O, s, q⟩ => ⟨[], env, O, s, PostG.imp (PostS.thn (show PostS S W H O ((evalT C t env).thn fun k s => if k then execSs C a s else execSs C b s) D from q)) fun k s1 H1 O1 _ _ _ ⟨x1, t1, p1⟩ => by
    cases k with
    | true => exact ⟨s1, O1, t1, p1⟩
    | false => exact ⟨s1, O1, t1, p1⟩⟩
theorem rs_whl {t : Rf.T} {pt : Expr} {a : List Rf.St} {pa : List Stmt} (hp : PassesOwn (model X.prog X.w) X.A X.env X.xe) (ht : PT X pt (tT S C W t)) (ha : PSs X pa (tSs S C W a)) : PS X (.While pt pa [] pos) (tS S C W (.whl t a)) :=
  PS.impI (ps_while hp ht ha) fun D σ H hl ⟨env, O, s, q⟩ => by
    refine ⟨fun m σ H => ∃ env O, SR S [] H O env σ ∧ PostS S W H O (whileL (fun s => evalT C t s) (fun s => execSs C a s) m env) D, ⟨C.fuel, env, O, s, q⟩, ?_⟩
    rintro m σ H ⟨env, O, s, q⟩
    cases m with
    | zero => exact False.elim q
    | succ m =>
      refine ⟨[], env, O, s, PostG.imp (PostS.thn (show PostS S W H O ((evalT C t env).thn fun b s1 => if b then (match execSs C a s1 with
        | .nx s2 => whileL (fun s => evalT C t s) (fun s => execSs C a s) m s2
        | .ct s2 => whileL (fun s => evalT C t s) (fun s => execSs C a s) m s2
        | .bk s2 => .nx s2
        | r => r) else .nx s1) D from q)) fun k s1 H1 O1 _ _ _ ⟨x1, t1, p1⟩ => ?_⟩
      cases k with
      | false => exact p1 H1 O1 σ (Ext.refl _ _) t1
      | true =>
        simp only [if_true] at p1 ⊢
        refine ⟨fun σ H => ∃ env O, SR S [] H O env σ ∧ PostS S W H O (whileL (fun s => evalT C t s) (fun s => execSs C a s) m env) D, fun σ' H' h => ⟨m, Nat.lt_succ_self _, h⟩, s1, O1, t1, ?_⟩
        cases hr : execSs C a s1 with
        | stuck => rw [hr] at p1; exact False.elim p1
        | nx s2 => rw [hr] at p1; exact fun H' O' σ' x t => ⟨s2, O', t, PostS.later x p1⟩
        | ct s2 => rw [hr] at p1; exact fun H' O' σ' x t => ⟨s2, O', t, PostS.later x p1⟩
        | bk s2 => rw [hr] at p1; exact fun H' O' σ' x t => p1 H' O' σ' x t
        | ret d s2 => rw [hr] at p1; exact p1
        | exc y s2 => rw [hr] at p1; exact p1
theorem rs_for {it : Rf.It} {tg : Tg} {pit ptg : Expr} {a : List Rf.St} {pa : List Stmt} (hp : PassesOwn (model X.prog X.w) X.A X.env X.xe) (hc : X.calm = true) (hi : PI X ptg pit (tIt S C W it)) (hg : PG X ptg (gD S tg)) (ha : PSs X pa (tSs S C W a)) (hs : ∀ x, foldedSetIterable pit X.env x = pure x) :
    PS X (.For ptg pit pa [] pos) (tS S C W (.forS tg it a)) :=
  PS.impI (ps_for hp hc hi hg ha hs) fun D σ H hl ⟨env, O, s, q⟩ => by
    refine ⟨[], env, O, s, PostG.imp (PostS.thn (show PostS S W H O ((evalI C it env).thn fun ds s => forL (fun d s => optS (bindT false tg d s) fun s => execSs C a s) ds s) D from q)) fun ds s1 H1 O1 _ _ _ ⟨x1, t1, p1⟩ J jok => ?_⟩
    refine ⟨fun i m σ H => m = ds.length - i ∧ i ≤ ds.length ∧ ∃ env O, Ext H1 O1 H O ∧ SR S [] H O env σ ∧ PostS S W H O (forL (fun d s => optS (bindT false tg d s) fun s => execSs C a s) (ds.drop i) env) D, ⟨ds.length, by simp, Nat.zero_le _, s1, O1, Ext.refl _ _, t1, by rw [List.drop_zero]; exact p1⟩, ?_⟩
    rintro i m σ H ⟨rfl, hle, env, O, xt, s, q⟩
    have J1 := jok i H (S.F O) xt.mono s.own
    by_cases hlt : i < ds.length
    · rw [List.drop_eq_getElem_cons hlt] at q
      obtain ⟨go, yld⟩ := J1.1 ds[i] (by simp [hlt])
      refine .inr ⟨go, fun σ H => ∃ env O, Ext H1 O1 H O ∧ SR S [] H O env σ ∧ PostS S W H O (forL (fun d s => optS (bindT false tg d s) fun s => execSs C a s) (ds.drop (i + 1)) env) D, fun σ' H' h => ⟨ds.length - (i + 1), by omega, rfl, hlt, h⟩, fun x H' y => ?_⟩
      obtain ⟨sm, rx⟩ := yld x H' y
      have q : PostS S W H O (match optS (bindT false tg ds[i] env) fun s => execSs C a s with
        | .nx s1 => forL (fun d s => optS (bindT false tg d s) fun s => execSs C a s) (ds.drop (i + 1)) s1
        | .ct s1 => forL (fun d s => optS (bindT false tg d s) fun s => execSs C a s) (ds.drop (i + 1)) s1
        | .bk s1 => .nx s1
        | r => r) D := q
      cases hb : bindT false tg ds[i] env with
      | none => rw [hb] at q; exact False.elim q
      | some env1 =>
        rw [hb] at q
        simp only [optS] at q
        refine ⟨[], env, O, ds[i], env1, s.same sm, rx, hb, fun σ2 t2 _ => ⟨env1, O, t2, ?_⟩⟩
        cases hr : execSs C a env1 with
        | stuck => rw [hr] at q; exact False.elim q
        | nx s2 => rw [hr] at q; exact fun H' O' σ' x t => ⟨s2, O', (xt.trans (Ext.same sm)).trans x, t, PostS.later ((Ext.same sm).trans x) q⟩
        | ct s2 => rw [hr] at q; exact fun H' O' σ' x t => ⟨s2, O', (xt.trans (Ext.same sm)).trans x, t, PostS.later ((Ext.same sm).trans x) q⟩
        | bk s2 => rw [hr] at q; exact fun H' O' σ' x t => q H' O' σ' ((Ext.same sm).trans x) t
        | ret d s2 => rw [hr] at q; exact PostS.later (Ext.same sm) q
        | exc y s2 => rw [hr] at q; exact PostS.later (Ext.same sm) q
    · have hi2 : i = ds.length := by omega
      subst hi2
      rw [List.drop_length] at q
      exact .inl ⟨J1.2 (Nat.le_refl _), (show PostS S W H O (.nx env) D from q) H O σ (Ext.refl _ _) s⟩
/-! ### raise C() -/
structure ExcC (X : Cx) (x : Str) : Prop where
  mg : X.mg x = some (.ref (He.ga X.K x))
  ex : PySem.W.excIn X.K (He.ga X.K x) He.veBase "ValueError.__new__" = true
  kp : PySem.W.keepIn X.K (.ref (He.ga X.K x)) = true
  rs : Raises X (.ref (He.ga X.K x))
theorem pmk0 {x : Str} {a : Addr} {p cpos : Pos} (gC : X.mg x = some (.ref a)) (q : PySem.W.excIn X.K a He.veBase "ValueError.__new__" = true) (kC : PySem.W.keepIn X.K (.ref a) = true) (r : Raises X (.ref a)) (hg : Gl X x) (hdb : (x == ("__debug__" : Str)) = false) :
    PMk X (.Call (.Name x p) [] [] cpos) (fun _ H Q => Q (.ref a) none H) := by
  intro pins s σ H Q I h
  refine wpAny_Call_Name_kw (ld_glob I hg gC ?_ hdb)
  refine PySem.W.callWith_K0 I.kIn kC ?_
  obtain ⟨bm, N, nm, qn, bs, hdct, sn, sub, ab, col, dd, k0, k1, k2, k3, k5, mN, hC, hN, hni, T⟩ := exc_obj I.kIn q
  refine wpAny_call_exc_subT (rest := []) PySem.F.excBase_ValueError T hC hN hni (fun h' e hm => ?_) (by show 0 ≤ sizeLine; exact Nat.zero_le _)
  exact mk_of I hm r h (I.hok.gone hm.new)
theorem rs_raise {x : Str} {p cpos : Pos} (hK : S.K = X.K) (hc : X.calm = true) (tk : Takes X W) (ec : ExcC X x) (hg : Gl X x) (hdb : (x == ("__debug__" : Str)) = false) : PS X (.Raise (some (.Call (.Name x p) [] [] cpos)) none pos) (tS S C W (.raise x)) :=
  PS.impI (ps_raise hc tk (pmk0 ec.mg ec.ex ec.kp ec.rs hg hdb)) fun D σ H hl ⟨env, O, s, q⟩ => (show PostS S W H O (.exc (.err x [] []) env) D from q) _ none H O σ (Ext.refl _ _) s ⟨by rw [hK], rfl⟩
/-- never reached -/
theorem rs_nev {p : Stmt} : PS X p (tS S C W .nev) := ⟨fun pins s σ H D I ⟨env, O, _, q⟩ => False.elim q⟩
end
end Rf

/-! Rg, part Q: is this text that tree? A test that the kernel runs. -/
namespace Rf
open PySem PySem.Spec PyProof.Rows L2
/-- a def; a class's __init__ (its attributes, the slots that they are set from); a class's __eq__; a class's method -/
inductive Kd where
  | fn | ini (x : Str) (ns : List Str) | eq (x : Str) | meth (x m : Str)
  deriving DecidableEq
structure Sig where
  name : Str
  n : Nat
  io : List Nat
  fr : Bool
  kd : Kd
structure Cfg where
  sc : Scope
  raw : Scope
  N : List Str
  io : List Nat
  fr : Bool
  free : List Str
  fns : List Sig
  globs : List (Str × D)
  excs : List Str
  /-- own classes and their attributes; what class is below what; classes that no built-in thing is of -/
  clss : List (Str × List Str)
  isas : List (Str × Str × Bool)
  isbs : List Str
def vis (c : Cfg) (x : Str) : Bool := (match c.sc.names.lookup x with
  | some .local => true
  | some .cell => true
  | some .free => true
  | _ => false) && !(x == ("__debug__" : Str)) && !(x == ("__classdict__" : Str))
def gl (c : Cfg) (x : Str) : Bool := decide (c.sc.names.lookup x = some .globalImplicit) && !(x == ("__debug__" : Str)) && !(x == ("__name__" : Str))
def frB (c : Cfg) (x : Str) : Bool := gl c x && c.free.contains x
def stoB (c : Cfg) (x : Str) (i : Nat) : Bool := (match c.raw.names.lookup x with
  | some .local => true
  | some .cell => true
  | _ => false) && decide (c.N[i]? = some x) && !(c.io.contains i)
def cVar (c : Cfg) (i : Nat) : Expr → Bool
  | .Name x _ => vis c x && decide (c.N[i]? = some x)
  | _ => false
def cCst : D → Expr → Bool
  | .non, .Constant .none _ _ => true
  | .bl b, .Constant (.bool a) _ _ => a == b
  | .int i, .Constant (.int j) _ _ => i == j
  | .str x, .Constant (.str y) _ _ => decide (x = y)
  | _, _ => false
def sclEq : D → D → Bool
  | .non, .non => true
  | .bl b, .bl a => a == b
  | .int i, .int j => i == j
  | .str x, .str y => decide (x = y)
  | _, _ => false
def cGlob (c : Cfg) (x : Str) (d : D) : Expr → Bool
  | .Name y _ => (x == y) && gl c y && (match c.globs.lookup y with
    | some e => sclEq d e
    | none => false)
  | _ => false
def nset : Expr → Bool
  | .Set _ _ _ => false
  | _ => true
/-- its truth is its value's truth -/
def plainT : Expr → Bool
  | .UnaryOp .Not _ _ => false
  | .BoolOp _ _ _ => false
  | .IfExp _ _ _ _ => false
  | .Compare _ _ _ _ => false
  | _ => true
def tys (c : Cfg) (ts : List Ty) : Expr → Bool
  | .Tuple ps _ _ => tyC ts ps && decide (ts ≠ []) && decide (ts.length ≤ 1000) && ts.all fun t => match tyName t with
    | some m => frB c (m : Str)
    | none => false
  | .Name x q => (match ts with
    | [t] => tyC [t] [.Name x q] && frB c x
    | _ => false)
  | _ => false
def ownL (c : Cfg) (own : List Nat) : List (Str × Nat) := own.map fun i => ((c.N[i]?).getD "", i)
def blkCfg (c : Cfg) (scope : Scope) : Cfg := { c with sc := relS scope c.sc, raw := scope }
mutual
def chkTg (c : Cfg) : Tg → Expr → Bool
  | .nm i, p => (match p with
    | .Name x _ => stoB c x i
    | _ => false)
  | .tp ts, p => (match p with
    | .Tuple ps _ _ => chkTgs c ts ps
    | _ => false)
def chkTgs (c : Cfg) : List Tg → List Expr → Bool
  | [], ps => ps.isEmpty
  | t :: ts, ps => (match ps with
    | p :: ps => nst p && chkTg c t p && chkTgs c ts ps
    | [] => false)
end
mutual
def chkE : E → Cfg → Expr → Bool
  | .cst d, c, pe => cCst d pe
  | .var i, c, pe => cVar c i pe
  | .mov i, c, pe => cVar c i pe
  | .glob x d, c, pe => cGlob c x d pe
  | .sh a, c, pe => chkE a c pe
  | .tup es, c, pe => (match pe with
    | .Tuple ps _ _ => decide (es.length ≤ 1000) && chkEs es c ps
    | _ => false)
  | .tupz es, c, pe => (match pe with
    | .Tuple ps _ _ => decide (es ≠ []) && decide (es.length ≤ 1000) && chkEs es c ps
    | _ => false)
  | .lst es, c, pe => (match pe with
    | .List ps _ => decide (es.length ≤ 1000) && chkEs es c ps
    | _ => false)
  | .bin o a b, c, pe => (match pe with
    | .BinOp p op q _ => decide (op = opOf o) && chkE a c p && chkV b c q
    | _ => false)
  | .binv o i b, c, pe => (match pe with
    | .BinOp p op q _ => decide (op = opOf o) && cVar c i p && chkE b c q
    | _ => false)
  | .neg a, c, pe => (match pe with
    | .UnaryOp .USub p _ => chkE a c p
    | _ => false)
  | .cmp o a b, c, pe => (match pe with
    | .Compare p [op] [q] _ => decide (op = cop o) && !behindInMarks op q && chkE a c p && chkV b c q
    | _ => false)
  | .cmpv o i b, c, pe => (match pe with
    | .Compare p [op] [q] _ => decide (op = cop o) && !behindInMarks op q && cVar c i p && chkE b c q
    | _ => false)
  | .chain o o2 a b d, c, pe => (match pe with
    | .Compare p [op, op2] [q, r] _ => decide (op = cop o) && decide (op2 = cop o2) && !lastMarks [op, op2] [q, r] && chkE a c p && chkE b c q && chkE d c r
    | _ => false)
  | .and a b, c, pe => (match pe with
    | .BoolOp .And [p, q] _ => chkE a c p && chkE b c q
    | .BoolOp .And (p :: q :: r :: rest) pos => chkE a c p && chkE b c (.BoolOp .And (q :: r :: rest) pos)
    | _ => false)
  | .or a b, c, pe => (match pe with
    | .BoolOp .Or [p, q] _ => chkE a c p && chkE b c q
    | .BoolOp .Or (p :: q :: r :: rest) pos => chkE a c p && chkE b c (.BoolOp .Or (q :: r :: rest) pos)
    | _ => false)
  | .not a, c, pe => (match pe with
    | .UnaryOp .Not p _ => chkV a c p
    | _ => false)
  | .ite t a b, c, pe => (match pe with
    | .IfExp pt p q _ => chkT t c pt && chkE a c p && chkE b c q
    | _ => false)
  | .call f as, c, pe => (match pe with
    | .Call (.Name x _) ps [] _ => (match c.fns[f]? with
      | some sg => decide (sg.kd = .fn) && decide (sg.name = x) && gl c x && decide (sg.n = as.length) && decide (sg.io = ioPos 0 as) && decide ((ioSl as).Nodup) && chkA as c ps
      | none => false)
    | _ => false)
  | .p1 p a, c, pe => if p = .lenset then (match pe with
    | .Call (.Name x _) [.Call (.Name y _) [q] [] _] [] _ => decide (x = "len") && decide (y = "set") && frB c x && frB c y && nst q && chkV a c q
    | _ => false) else (match pe with
    | .Call (.Name x _) [q] [] _ => decide (x = p1Name p) && (p1Val p).isSome && frB c x && nst q && chkV a c q
    | _ => false)
  | .p2 p a b, c, pe => (match pe with
    | .Call (.Name x _) [q, r] [] _ => (decide (p = .min) || decide (p = .max)) && decide (x = p2Name p) && frB c x && nst q && nst r && chkE a c q && chkE b c r
    | _ => false)
  | .isi a ts, c, pe => (match pe with
    | .Call (.Name x _) [q, t] [] _ => decide (x = "isinstance") && frB c x && nst q && tys c ts t && chkV a c q
    | _ => false)
  | .sub a i, c, pe => (match pe with
    | .Subscript p q _ => nsl q && chkE a c p && chkE i c q
    | _ => false)
  | .subv v i, c, pe => (match pe with
    | .Subscript p q _ => nsl q && cVar c v p && chkE i c q
    | _ => false)
  | .slc a lo hi, c, pe => (match pe with
    | .Subscript p (.Slice l h none _) _ => chkE a c p && chkO lo c l && chkO hi c h
    | _ => false)
  | .slcv v lo hi, c, pe => (match pe with
    | .Subscript p (.Slice l h none _) _ => cVar c v p && chkO lo c l && chkO hi c h
    | _ => false)
  | .rev a, c, pe => (match pe with
    | .Subscript p (.Slice none none (some (.UnaryOp .USub (.Constant (.int 1) _ _) _)) _) _ => chkV a c p
    | _ => false)
  | .lc elt tg it cond own, c, pe => (match pe with
    | .ListComp pe [⟨pt, pi, ifs, 0⟩] scope _ => blkC c.N c.sc scope (ownL c own) && (own.all fun i => !(c.io.contains i)) && ((tgSl tg).all fun i => own.contains i) && nset pi && chkI it c pt pi && chkTg (blkCfg c scope) tg pt && chkC cond (blkCfg c scope) ifs && chkE elt (blkCfg c scope) pe
    | _ => false)
  | .pop v, c, pe => (match pe with
    | .Call (.Attribute (.Name x p) m ap) [] [] cp => decide (m = "pop") && cVar c v (.Name x p) && (ap.endLine == cp.line)
    | _ => false)
  | .popAt v i, c, pe => (match pe with
    | .Call (.Attribute (.Name x p) m ap) [q] [] cp => decide (m = "pop") && cVar c v (.Name x p) && (ap.endLine == cp.line) && nst q && chkE i c q
    | _ => false)
  | .dnew, c, pe => (match pe with
    | .Dict [] [] _ => true
    | _ => false)
  | .lrg t (.rng1 a), c, pe => (match pe with
    | .Call (.Name x _) [.Call (.Name y yp) [p] [] yq] [] _ => decide (x = if t then "tuple" else "list") && frB c x && decide (y = "range") && frB c y && nst p && chkE a c p
    | _ => false)
  | .lrg t (.rng2 a b), c, pe => (match pe with
    | .Call (.Name x _) [.Call (.Name y yp) [p, q] [] yq] [] _ => decide (x = if t then "tuple" else "list") && frB c x && decide (y = "range") && frB c y && nst p && nst q && chkE a c p && chkE b c q
    | _ => false)
  | .lrg _ _, c, pe => false
  | .idx a b, c, pe => (match pe with
    | .Call (.Attribute p m ap) [q] [] cp => decide (m = "index") && nbase p && (ap.endLine == cp.line) && nst q && chkE a c p && chkE b c q
    | _ => false)
  | .cnt a b, c, pe => (match pe with
    | .Call (.Attribute p m ap) [q] [] cp => decide (m = "count") && nbase p && (ap.endLine == cp.line) && nst q && chkE a c p && chkE b c q
    | _ => false)
  | .nev, c, pe => true
  | .mk j x ns as, c, pe => (match pe with
    | .Call (.Name y _) (p :: ps) [] _ => (match c.fns[j]? with
      | some sg => decide (sg.kd = .ini x ns) && decide (y = x) && gl c x && decide (sg.n = as.length + 1) && chkEs as c (p :: ps)
      | none => false)
    | _ => false)
  | .fld a xs f, c, pe => (match pe with
    | .Attribute p g _ => decide (g = f) && nbase p && (xs.all fun x => match c.clss.lookup x with
      | some ns => ns.contains f
      | none => false) && chkV a c p
    | _ => false)
  | .isio a y yes no, c, pe => (match pe with
    | .Call (.Name x _) [p, .Name z _] [] _ => decide (x = "isinstance") && frB c x && decide (z = y) && gl c y && c.isbs.contains y && nst p && ((yes ++ no).all fun x => (c.clss.lookup x).isSome) &&
      (yes.all fun x => c.isas.contains (x, y, true)) && (no.all fun x => c.isas.contains (x, y, false)) && chkV a c p
    | _ => false)
  | .cmpI ne x j a b, c, pe => (match pe with
    | .Compare p [op] [q] _ => (match c.fns[j]? with
      | some sg => decide (sg.kd = .eq x) && decide (sg.n = 2) && decide (sg.io = []) && !sg.fr && decide (op = if ne then .NotEq else .Eq) && !behindInMarks op q && chkE a c p && chkE b c q
      | none => false)
    | _ => false)
  | .lc2 elt tg it tg1 it1 cond1 own own1, c, pe => (match pe with
    | .ListComp pe [⟨pt, pi, [], 0⟩, ⟨pt1, pi1, ifs1, 0⟩] scope _ => blkC c.N c.sc scope (ownL c own) && (own.all fun i => !(c.io.contains i)) && ((tgSl tg).all fun i => own.contains i) && ((tgSl tg1).all fun i => own1.contains i) && (own1.all fun i => own.contains i) && nset pi && nset pi1 &&
      chkI it c pt pi && chkTg (blkCfg c scope) tg pt && chkI it1 (blkCfg c scope) pt1 pi1 && chkTg (blkCfg c scope) tg1 pt1 && chkC cond1 (blkCfg c scope) ifs1 && chkE elt (blkCfg c scope) pe
    | _ => false)
def chkV : O → Cfg → Expr → Bool
  | .vw i, c, pe => cVar c i pe
  | .e e, c, pe => chkE e c pe
def chkT : T → Cfg → Expr → Bool
  | .and a b, c, pe => (match pe with
    | .BoolOp .And [p, q] _ => chkT a c p && chkT b c q
    | .BoolOp .And (p :: q :: r :: rest) pos => chkT a c p && chkT b c (.BoolOp .And (q :: r :: rest) pos)
    | _ => false)
  | .or a b, c, pe => (match pe with
    | .BoolOp .Or [p, q] _ => chkT a c p && chkT b c q
    | .BoolOp .Or (p :: q :: r :: rest) pos => chkT a c p && chkT b c (.BoolOp .Or (q :: r :: rest) pos)
    | _ => false)
  | .not a, c, pe => (match pe with
    | .UnaryOp .Not p _ => chkT a c p
    | _ => false)
  | .ite t a b, c, pe => (match pe with
    | .IfExp pt p q _ => chkT t c pt && chkT a c p && chkT b c q
    | _ => false)
  | .o a, c, pe => plainT pe && chkV a c pe
  | .cmp o a b, c, pe => (match pe with
    | .Compare p [op] [q] _ => decide (op = cop o) && !behindInMarks op q && chkE a c p && chkV b c q
    | _ => false)
  | .cmpv o i b, c, pe => (match pe with
    | .Compare p [op] [q] _ => decide (op = cop o) && !behindInMarks op q && cVar c i p && chkE b c q
    | _ => false)
  | .chain o o2 a b d, c, pe => (match pe with
    | .Compare p [op, op2] [q, r] _ => decide (op = cop o) && decide (op2 = cop o2) && !lastMarks [op, op2] [q, r] && chkE a c p && chkE b c q && chkE d c r
    | _ => false)
  | .cmpI ne x j a b, c, pe => (match pe with
    | .Compare p [op] [q] _ => (match c.fns[j]? with
      | some sg => decide (sg.kd = .eq x) && decide (sg.n = 2) && decide (sg.io = []) && !sg.fr && decide (op = if ne then .NotEq else .Eq) && !behindInMarks op q && chkE a c p && chkE b c q
      | none => false)
    | _ => false)
def chkEs : List E → Cfg → List Expr → Bool
  | [], c, ps => ps.isEmpty
  | e :: es, c, ps => (match ps with
    | p :: ps => nst p && chkE e c p && chkEs es c ps
    | [] => false)
def chkA1 : Arg → Cfg → Expr → Bool
  | .io i, c, p => cVar c i p
  | .e e, c, p => chkE e c p
def chkA : List Arg → Cfg → List Expr → Bool
  | [], c, ps => ps.isEmpty
  | a :: as, c, ps => (match ps with
    | p :: ps => nst p && chkA1 a c p && chkA as c ps
    | [] => false)
def chkO : Option E → Cfg → Option Expr → Bool
  | none, c, p => p.isNone
  | some e, c, p => (match p with
    | some p => chkE e c p
    | none => false)
def chkC : Option T → Cfg → List Expr → Bool
  | none, c, ps => ps.isEmpty
  | some t, c, ps => (match ps with
    | [p] => chkT t c p
    | _ => false)
def chkI : It → Cfg → Expr → Expr → Bool
  | .seq e, c, pt, pi => chkE e c pi
  | .rng1 a, c, pt, pi => (match pi with
    | .Call (.Name x _) [p] [] _ => decide (x = "range") && frB c x && nst p && chkE a c p
    | _ => false)
  | .rng2 a b, c, pt, pi => (match pi with
    | .Call (.Name x _) [p, q] [] _ => decide (x = "range") && frB c x && nst p && nst q && chkE a c p && chkE b c q
    | _ => false)
  | .rng3 _ _ _, _, _, _ => false
  | .zip a b, c, pt, pi => (match pt, pi with
    | .Tuple _ _ _, .Call (.Name x _) [p, q] [] _ => decide (x = "zip") && frB c x && nst p && nst q && chkE a c p && chkE b c q
    | _, _ => false)
  | .enum a, c, pt, pi => (match pt, pi with
    | .Tuple _ _ _, .Call (.Name x _) [p] [] _ => decide (x = "enumerate") && frB c x && nst p && chkE a c p
    | _, _ => false)
end
/-- the names of a pair of targets on one line -/
def noSwapSt (pt pe : Expr) : Bool := match pt, pe with
  | .Tuple _ _ _, .Tuple vs _ _ => !(vs.length == 2 || vs.length == 3) || vs.all (foldedForSure 8)
  | .List _ _, .Tuple _ _ _ => false
  | _, _ => true
def swapC (c : Cfg) (xs : List (Str × Pos)) (vs : List Expr) : Bool :=
  (match xs with
    | (_, p) :: r => r.all fun q => q.2.line == p.line
    | [] => false) && (xs.all fun q => decide (c.sc.names.lookup q.1 = some .local)) && (xs.map (·.1)).eraseDups.length == xs.length && vs.all nst && !(vs.all (foldedForSure 8)) && !(vs.all (constantsAlone 8))
/-- one of the names is a cell: the pair is built and taken apart -/
def cellC (c : Cfg) (xs : List Str) (vs : List Expr) : Bool := (xs.any fun x => decide (c.sc.names.lookup x ≠ some .local)) && vs.all nst
def isLc : E → Bool
  | .lc _ _ _ _ _ => true
  | .sh (.lc _ _ _ _ _) => true
  | .lc2 _ _ _ _ _ _ _ _ => true
  | .sh (.lc2 _ _ _ _ _ _ _ _) => true
  | _ => false
mutual
def chkS : St → Cfg → Stmt → Bool
  | .asg tg e, c, p => (match p with
    | .Assign [pt] pe pos => chkE e c pe && (match tg, pt with
      | .nm i, .Name x px => stoB c x i && (match pe with
        | .ListComp _ _ scope lp => (isLc e && (px.line == lp.line) && decide (c.sc.names.lookup x = some .local) && !(scope.names.any fun (n, k) => n == x && (k == .local || k == .cell))) || decide (c.sc.names.lookup x ≠ some .local)
        | _ => !isLC pe)
      | .tp _, .Tuple _ _ _ => chkTg c tg pt && !isLC pe && noSwapSt pt pe
      | _, _ => false)
    | _ => false)
  | .par is es, c, p => (match p with
    | .Assign [.Tuple [.Name x px, .Name y py] _ _] (.Tuple [pa, pb] _ _) _ => (match is, es with
      | [i, j], [_, _] => stoB c x i && stoB c y j && decide (i ≠ j) && (swapC c [(x, px), (y, py)] [pa, pb] || cellC c [x, y] [pa, pb]) && chkEs es c [pa, pb]
      | _, _ => false)
    | .Assign [.Tuple [.Name x px, .Name y py, .Name z pz] _ _] (.Tuple [pa, pb, pc] _ _) _ => (match is, es with
      | [i, j, k], [_, _, _] => stoB c x i && stoB c y j && stoB c z k && decide (i ≠ j) && decide (i ≠ k) && decide (j ≠ k) && (swapC c [(x, px), (y, py), (z, pz)] [pa, pb, pc] || cellC c [x, y, z] [pa, pb, pc]) && chkEs es c [pa, pb, pc]
      | _, _ => false)
    | _ => false)
  | .aug i o e, c, p => (match p with
    | .AugAssign (.Name x _) op pe _ => stoB c x i && decide (op = opOf o) && chkE e c pe
    | _ => false)
  | .setI v i e, c, p => (match p with
    | .Assign [.Subscript px pi _] pe _ => cVar c v px && nsl pi && !isLC pe && chkE i c pi && chkE e c pe
    | _ => false)
  | .augI v i o e, c, p => (match p with
    | .AugAssign (.Subscript px pi _) op pe _ => cVar c v px && nsl pi && decide (op = opOf o) && chkE i c pi && chkE e c pe
    | _ => false)
  | .app v e, c, p => (match p with
    | .Expr (.Call (.Attribute (.Name x q) m ap) [pe] [] cp) _ => decide (m = "append") && cVar c v (.Name x q) && (ap.endLine == cp.line) && nst pe && chkE e c pe
    | _ => false)
  | .ext v e, c, p => (match p with
    | .Expr (.Call (.Attribute (.Name x q) m ap) [pe] [] cp) _ => decide (m = "extend") && cVar c v (.Name x q) && (ap.endLine == cp.line) && nst pe && chkE e c pe
    | _ => false)
  | .expr e, c, p => (match p with
    | .Expr pe _ => !isLC pe && chkE e c pe
    | _ => false)
  | .ret e, c, p => (match p with
    | .Return (some pe) _ => chkE e c pe && (!c.fr || isFreshF (fun j => ((c.fns[j]?).map (·.fr)).getD false) e)
    | _ => false)
  | .retN, c, p => (match p with
    | .Return none _ => true
    | _ => false)
  | .pass, c, p => (match p with
    | .Pass _ => true
    | _ => false)
  | .brk, c, p => (match p with
    | .Break _ => true
    | _ => false)
  | .cnt, c, p => (match p with
    | .Continue _ => true
    | _ => false)
  | .ifS t a b, c, p => (match p with
    | .If pt pa pb _ => chkT t c pt && chkSs a c pa && chkSs b c pb
    | _ => false)
  | .forS tg it body, c, p => (match p with
    | .For pt pi pb [] _ => nset pi && chkI it c pt pi && chkTg c tg pt && chkSs body c pb
    | _ => false)
  | .whl t body, c, p => (match p with
    | .While pt pb [] _ => chkT t c pt && chkSs body c pb
    | _ => false)
  | .raise x, c, p => (match p with
    | .Raise (some (.Call (.Name y _) [] [] _)) none _ => decide (y = x) && c.excs.contains x && gl c x
    | _ => false)
  | .nev, c, p => true
def chkSs : List St → Cfg → List Stmt → Bool
  | [], c, ps => ps.isEmpty
  | st :: sts, c, ps => (match ps with
    | p :: ps => chkS st c p && chkSs sts c ps
    | [] => false)
end
end Rf

/-! Rg, part R: the test is sound: expressions. -/
namespace Rf
open PySem PySem.Spec PyProof.Rows L2
/-- what stands behind a place of the table -/
def CalleeK (X : Cx) (S : Sit) (C : Calls) (k j : Nat) (sg : Sig) : Prop := match sg.kd with
  | .fn => Callee X S C k j sg.name sg.n sg.io sg.fr
  | .ini x ns => CalleeI X S C k j x ns sg.n
  | .eq x => sg.n = 2 → sg.io = [] → sg.fr = false → CalleeQ X S C k j x
  | .meth _ _ => True
structure Good (c : Cfg) (X : Cx) (S : Sit) (C : Calls) (W : WX) (k : Nat) : Prop where
  K : S.K = X.K
  calm : X.calm = true
  nd : X.N.Nodup
  N : X.N = c.N
  sc : X.env.scope = c.sc
  st : ∀ x, Loc c.raw x → Loc c.sc x ∧ (X.fn x = true ∨ c.sc.names.lookup x = some .local)
  io : ∀ p ∈ S.io, p.1 ∈ c.io
  room : Room (k + 1) X.A
  tk : Takes X W
  free : ∀ x, x ∈ c.free → X.mg x = none
  glob : ∀ x d, c.globs.lookup x = some d → ∃ u v, X.mg x = some u ∧ scl d = some v ∧ RelV v u
  fns : ∀ (j : Nat) sg, c.fns[j]? = some sg → CalleeK X S C k j sg
  frs : ∀ j, C.fr j = ((c.fns[j]?).map (·.fr)).getD false
  excs : ∀ x ∈ c.excs, ExcC X x
  clss : ∀ x ns, c.clss.lookup x = some ns → ClsF X.K x ns
  isas : ∀ x y b, (x, y, b) ∈ c.isas → PySem.W.kitOne X.K (.ref (He.ga X.K x)) (.ref (He.ga X.K y)) = some b
  isbs : ∀ y ∈ c.isbs, isbB X.K y = true ∧ X.mg y = some (.ref (He.ga X.K y))
section
variable {c : Cfg} {X : Cx} {S S' : Sit} {C : Calls} {W : WX} {k : Nat}
theorem CalleeK.sib {sg : Sig} {j : Nat} (h : CalleeK X S C k j sg) (s : Sib S S') : CalleeK X S' C k j sg := by
  unfold CalleeK at *
  split at h
  · exact ⟨by rw [s.cls]; exact h.ex⟩
  · exact ⟨by rw [s.cls]; exact h.ex⟩
  · exact fun a b d => ⟨(h a b d).eq, by rw [s.cls]; exact (h a b d).ex⟩
  · trivial
theorem CalleeK.blk {sg : Sig} {j : Nat} {s : Shared} {H : Hp} {sc : Scope} {e : PySem.Env} {fp : List Addr} (h : CalleeK X S C k j sg) : CalleeK (X.blk s H sc e fp) S C k j sg := by
  unfold CalleeK at *
  split at h
  · exact ⟨h.ex⟩
  · exact ⟨h.ex⟩
  · exact fun a b d => ⟨(h a b d).eq, (h a b d).ex⟩
  · trivial
theorem Good.units (g : Good c X S C W k) : X.A.units + 100 < cLine := by have := g.room.un; omega
theorem Good.sib (g : Good c X S C W k) (s : Sib S S') : Good c X S' C W k where
  K := s.K.trans g.K
  calm := g.calm
  nd := g.nd
  N := g.N
  sc := g.sc
  st := g.st
  io := by rw [s.io]; exact g.io
  room := g.room
  tk := g.tk
  free := g.free
  glob := g.glob
  fns := fun j sg h => (g.fns j sg h).sib s
  frs := g.frs
  excs := g.excs
  clss := g.clss
  isas := g.isas
  isbs := g.isbs
theorem lookup_cell {scope sc : Scope} {x : Str} {kd : NameKind} (h : scope.names.lookup x = some kd) (hk : kd ≠ .free) : (relS scope sc).names.lookup x = some kd := lookup_relS_keep hk h
theorem Good.blk (g : Good c X S C W k) {s : Shared} {H : Hp} {scope : Scope} {B : Addr} {cl : List (Str × Addr)} {fp : List Addr} : Good (blkCfg c scope) (X.blk s H scope (compEnvC scope cl B X.env) fp) S C W0 k where
  K := g.K
  calm := g.calm
  nd := g.nd
  N := g.N
  sc := by show relS scope X.env.scope = relS scope c.sc; rw [g.sc]
  st := fun x h => by
    have h : Loc scope x := h
    rcases h with h | h
    · exact ⟨.inl (lookup_cell h (by decide)), .inr (lookup_cell h (by decide))⟩
    · refine ⟨.inr (lookup_cell h (by decide)), .inl ?_⟩
      show (scope.names.lookup x == some .cell) = true
      rw [h]; rfl
  io := g.io
  room := g.room
  tk := takes0
  free := g.free
  glob := g.glob
  fns := fun j sg h => (g.fns j sg h).blk
  frs := g.frs
  excs := fun x h => ⟨(g.excs x h).mg, (g.excs x h).ex, (g.excs x h).kp, (g.excs x h).rs⟩
  clss := g.clss
  isas := g.isas
  isbs := g.isbs
theorem notB {b : Bool} (h : (!b) = true) : b = false := by cases b <;> simp_all
theorem vis_ok (g : Good c X S C W k) {x : Str} (h : vis c x = true) : Vis X.env.scope x ∧ (x == ("__debug__" : Str)) = false ∧ (x == ("__classdict__" : Str)) = false := by
  unfold vis at h
  simp only [Bool.and_eq_true] at h
  obtain ⟨⟨h1, h2⟩, h3⟩ := h
  refine ⟨?_, notB h2, notB h3⟩
  rw [g.sc]
  split at h1
  · rename_i e; exact .inl e
  · rename_i e; exact .inr (.inl e)
  · rename_i e; exact .inr (.inr e)
  · cases h1
theorem gl_ok (g : Good c X S C W k) {x : Str} (h : gl c x = true) : Gl X x ∧ (x == ("__debug__" : Str)) = false ∧ x ≠ "__name__" := by
  unfold gl at h
  simp only [Bool.and_eq_true, decide_eq_true_eq] at h
  obtain ⟨⟨h1, h2⟩, h3⟩ := h
  refine ⟨?_, notB h2, fun e => ?_⟩
  · show X.env.scope.names.lookup x = some .globalImplicit
    rw [g.sc]; exact h1
  · rw [e] at h3; exact absurd h3 (by decide)
theorem free_ok (g : Good c X S C W k) {x : Str} (h : frB c x = true) : Gl X x ∧ X.mg x = none ∧ x ≠ "__name__" ∧ (x == ("__debug__" : Str)) = false := by
  unfold frB at h
  rw [Bool.and_eq_true] at h
  obtain ⟨h1, h2, h3⟩ := gl_ok g h.1
  exact ⟨h1, g.free x (List.contains_iff_mem.mp h.2), h3, h2⟩
theorem var_ok (g : Good c X S C W k) {i : Nat} {pe : Expr} (h : cVar c i pe = true) : ∃ x p, pe = .Name x p ∧ X.N[i]? = some x ∧ Vis X.env.scope x ∧ (x == ("__debug__" : Str)) = false ∧ (x == ("__classdict__" : Str)) = false := by
  unfold cVar at h
  split at h
  · rename_i x p
    rw [Bool.and_eq_true, decide_eq_true_eq] at h
    obtain ⟨h1, h2, h3⟩ := vis_ok g h.1
    exact ⟨x, p, rfl, by rw [g.N]; exact h.2, h1, h2, h3⟩
  · cases h
theorem pe_slot (g : Good c X S C W k) {i : Nat} {pe : Expr} (h : cVar c i pe = true) : PE X pe (tVar i) := by
  obtain ⟨x, p, rfl, h1, h2, h3, h4⟩ := var_ok g h
  exact pe_var h1 h2 h3 h4
theorem pe_slotV (g : Good c X S C W k) {i : Nat} {pe : Expr} (h : cVar c i pe = true) : PE X pe (tDv S C W (.vw i)) := by
  obtain ⟨x, p, rfl, h1, h2, h3, h4⟩ := var_ok g h
  exact r_vw h1 h2 h3 h4
theorem sto_ok (g : Good c X S C W k) {x : Str} {i : Nat} (h : stoB c x i = true) : Sto X S x i := by
  unfold stoB at h
  simp only [Bool.and_eq_true, decide_eq_true_eq] at h
  obtain ⟨⟨h1, h2⟩, h3⟩ := h
  have hl : Loc c.raw x := by
    split at h1
    · rename_i e; exact .inl e
    · rename_i e; exact .inr e
    · cases h1
  obtain ⟨h4, h5⟩ := g.st x hl
  refine ⟨by rw [g.N]; exact h2, by rw [g.sc]; exact h4, by rw [g.sc]; exact h5, fun p hp e => ?_⟩
  have := g.io p hp
  rw [e] at this
  rw [List.contains_iff_mem.mpr this] at h3
  cases h3
theorem cst_ok {d : D} {pe : Expr} (h : cCst d pe = true) : ∃ v, scl d = some v ∧ PE X pe (tC v) := by
  unfold cCst at h
  split at h
  · exact ⟨.non, rfl, pe_non⟩
  · rename_i b a _ _
    exact ⟨.bl b, rfl, by rw [← eq_of_beq h]; exact pe_bl⟩
  · rename_i i j _ _
    exact ⟨.int i, rfl, by rw [eq_of_beq h]; exact pe_int⟩
  · rename_i x y _ _
    exact ⟨.str x, rfl, by rw [of_decide_eq_true h]; exact pe_str⟩
  · cases h
theorem sclEq_ok {d e : D} (h : sclEq d e = true) : d = e := by
  unfold sclEq at h
  split at h
  · rfl
  · rw [eq_of_beq h]
  · rw [eq_of_beq h]
  · rw [of_decide_eq_true h]
  · cases h
theorem glob_ok (g : Good c X S C W k) {x : Str} {d : D} {pe : Expr} (h : cGlob c x d pe = true) : ∃ v, scl d = some v ∧ PE X pe (tC v) := by
  unfold cGlob at h
  split at h
  · rename_i y p
    simp only [Bool.and_eq_true] at h
    obtain ⟨⟨_, h1⟩, h2⟩ := h
    obtain ⟨h3, h4, h5⟩ := gl_ok g h1
    split at h2
    · rename_i e he
      obtain ⟨u, v, m, s, r⟩ := g.glob y e he
      rw [sclEq_ok h2]
      exact ⟨v, s, pe_glob h3 m r h4⟩
    · cases h2
  · cases h
theorem ty_pe (g : Good c X S C W k) {t : Ty} {m : String} (e : tyName t = some m) (h : frB c (m : Str) = true) (p : Pos) : PE X (.Name (m : Str) p) (tC (.ty m)) := by
  obtain ⟨h1, h2, h3, h4⟩ := free_ok g h
  exact pe_bltn h1 h2 (ty_boot e) rfl h3 h4
variable {e : E} {pe : Expr}
theorem dk_f (h : PE X pe (tDf S C W e)) : PE X pe (tDk true S C W e) := PE.imp h fun σ H Q ⟨P, env, O, s, q⟩ => ⟨P, env, O, s, PostG.imp q fun d s1 H1 O1 _ _ _ k v t n => k v ⟨t, n⟩⟩
theorem dk_s (h : PE X pe (tD S C W e)) : PE X pe (tDk false S C W e) := PE.imp h fun σ H Q ⟨P, env, O, s, q⟩ => ⟨P, env, O, s, q⟩
theorem dk_uf (h : PE X pe (tDk true S C W e)) : PE X pe (tDf S C W e) := PE.imp h fun σ H Q ⟨P, env, O, s, q⟩ => ⟨P, env, O, s, PostG.imp q fun d s1 H1 O1 _ _ _ k v t => k v t.1 t.2⟩
theorem dk_D {b : Bool} (h : PE X pe (tDk b S C W e)) : PE X pe (tD S C W e) := by
  cases b with
  | false => exact PE.imp h fun σ H Q ⟨P, env, O, s, q⟩ => ⟨P, env, O, s, q⟩
  | true => exact Rf.PE.unfresh (dk_uf h)
theorem dk_any {b : Bool} (h : PE X pe (tD S C W e)) (hf : b = true → PE X pe (tDf S C W e)) : PE X pe (tDk b S C W e) := by
  cases b with
  | false => exact dk_s h
  | true => exact dk_f (hf rfl)
theorem opD_all {o : BOp} : OpD X (binaryOp (opOf o)) (bin o) := by
  cases o
  · exact opD_add
  · exact opD_sub
  · exact opD_mul
  · exact opD_fdiv
  · exact opD_mod
  · exact opD_pow
theorem pw_one_and {p : Expr} {pos : Pos} {t : Rf.T} (h : PT X p (tT S C W t)) : PW X (.BoolOp .And [p] pos) (tT S C W t) := pw_and1 h
theorem nset_ok {p : Expr} {env : PySem.Env} (h : nset p = true) (x : Value) : foldedSetIterable p env x = pure x := by
  cases p <;> first | rfl | (simp [nset] at h)
theorem plain_ok {p : Expr} {env : PySem.Env} (h : plainT p = true) (whole : Sem Value) : isTrue p env whole = (do let v ← whole; standAt p.pos; holding [v] (truthy v)) := by
  cases p with
  | UnaryOp op _ _ => cases op <;> first | rfl | (simp [plainT] at h)
  | _ => first | rfl | (simp [plainT] at h)
variable {pa pb : Expr} {a b : E} {pos : Pos}
theorem rf_and {rest : List Expr} (hK : S.K = X.K) (ha : PE X pa (tDf S C W a)) (hb : PE X (.BoolOp .And (pb :: rest) pos) (tDf S C W b)) : PE X (.BoolOp .And (pa :: pb :: rest) pos) (tDf S C W (.and a b)) :=
  PE.imp (pe_andT ha hb) fun σ H Q ⟨P, env, O, s, q⟩ => ⟨P, env, O, s, PostG.imp (PostG.bind (show PostG S W P H O σ ((evalE C a env).bind _) _ from q)) fun d s1 H1 O1 _ _ _ ⟨x1, t1, p1⟩ v t n => by
    obtain ⟨z, hz, p3⟩ := PostG.optBind p1
    have r' := t.view
    rw [hK] at r'
    refine ⟨z, truD r' hz, ?_⟩
    cases z with
    | true => exact ⟨P, s1, O1, t1, p3⟩
    | false => exact p3 H1 O1 (Ext.refl _ _) t1 v t n⟩
theorem rf_or {rest : List Expr} (hK : S.K = X.K) (ha : PE X pa (tDf S C W a)) (hb : PE X (.BoolOp .Or (pb :: rest) pos) (tDf S C W b)) : PE X (.BoolOp .Or (pa :: pb :: rest) pos) (tDf S C W (.or a b)) :=
  PE.imp (pe_orT ha hb) fun σ H Q ⟨P, env, O, s, q⟩ => ⟨P, env, O, s, PostG.imp (PostG.bind (show PostG S W P H O σ ((evalE C a env).bind _) _ from q)) fun d s1 H1 O1 _ _ _ ⟨x1, t1, p1⟩ v t n => by
    obtain ⟨z, hz, p3⟩ := PostG.optBind p1
    have r' := t.view
    rw [hK] at r'
    refine ⟨z, truD r' hz, ?_⟩
    cases z with
    | false => exact ⟨P, s1, O1, t1, p3⟩
    | true => exact p3 H1 O1 (Ext.refl _ _) t1 v t n⟩
theorem and_all {rest : List Expr} (hK : S.K = X.K) (ha : PE X pa (tDk (isFresh C a) S C W a)) (hb : PE X (.BoolOp .And (pb :: rest) pos) (tDk (isFresh C b) S C W b)) : PE X (.BoolOp .And (pa :: pb :: rest) pos) (tDk (isFresh C (.and a b)) S C W (.and a b)) :=
  dk_any (r_and hK (dk_D ha) (dk_D hb)) fun h => by
    have h : (isFresh C a && isFresh C b) = true := h
    rw [Bool.and_eq_true] at h
    rw [h.1] at ha
    rw [h.2] at hb
    exact rf_and hK (dk_uf ha) (dk_uf hb)
theorem or_all {rest : List Expr} (hK : S.K = X.K) (ha : PE X pa (tDk (isFresh C a) S C W a)) (hb : PE X (.BoolOp .Or (pb :: rest) pos) (tDk (isFresh C b) S C W b)) : PE X (.BoolOp .Or (pa :: pb :: rest) pos) (tDk (isFresh C (.or a b)) S C W (.or a b)) :=
  dk_any (r_or hK (dk_D ha) (dk_D hb)) fun h => by
    have h : (isFresh C a && isFresh C b) = true := h
    rw [Bool.and_eq_true] at h
    rw [h.1] at ha
    rw [h.2] at hb
    exact rf_or hK (dk_uf ha) (dk_uf hb)
end
/-! ### targets -/
mutual
theorem soundTg : ∀ (t : Tg) {c : Cfg} {X : Cx} {S : Sit} {C : Calls} {W : WX} {k : Nat} {p : Expr}, Good c X S C W k → chkTg c t p = true → PG X p (gD S t)
  | .nm i, c, X, S, C, W, k, p, g, h => by
    simp only [chkTg] at h
    split at h
    · have s := sto_ok g h
      exact rg_name g.nd s.ix s.loc s.fn s.io
    · cases h
  | .tp ts, c, X, S, C, W, k, p, g, h => by
    simp only [chkTg] at h
    split at h
    · obtain ⟨h1, h2, h3⟩ := soundTgs ts g h
      exact rg_tup g.K g.calm h1 h2 h3
    · cases h
theorem soundTgs : ∀ (ts : List Tg) {c : Cfg} {X : Cx} {S : Sit} {C : Calls} {W : WX} {k : Nat} {ps : List Expr}, Good c X S C W k → chkTgs c ts ps = true → PGs X ps (gDs S ts) ∧ ps.all nst = true ∧ ps.length = ts.length
  | [], c, X, S, C, W, k, ps, g, h => by
    simp only [chkTgs, List.isEmpty_iff] at h
    subst h
    exact ⟨rg_nil, rfl, rfl⟩
  | t :: ts, c, X, S, C, W, k, ps, g, h => by
    simp only [chkTgs] at h
    split at h
    · rename_i p ps
      simp only [Bool.and_eq_true] at h
      obtain ⟨⟨h1, h2⟩, h3⟩ := h
      obtain ⟨a1, a2, a3⟩ := soundTgs ts g h3
      exact ⟨rg_cons (soundTg t g h2) a1 h1, by rw [List.all_cons, h1, a2]; rfl, by rw [List.length_cons, List.length_cons, a3]⟩
    · cases h
end
end Rf

/-! Rg, part S: the test is sound: expressions. -/
namespace Rf
open PySem PySem.Spec PyProof.Rows L2
theorem pw_of {X : Cx} {S : Sit} {C : Calls} {W : WX} {op : BoolOp} {vs : List Expr} {pos : Pos} {t : Rf.T} (h : PT X (.BoolOp op vs pos) (tT S C W t)) : PW X (.BoolOp op vs pos) (tT S C W t) := Rf.PT.pw h
theorem sound_none {X : Cx} {S : Sit} {C : Calls} {W : WX} : PTs X [] (tCo S C W none) := ⟨fun pins s σ H Q I ⟨P, env, O, t, q⟩ => pts_nil.run pins s σ H Q I (q H O (Ext.refl _ _) t)⟩
mutual
theorem soundE : ∀ (e : E) {c : Cfg} {X : Cx} {S : Sit} {C : Calls} {W : WX} {k : Nat} {pe : Expr}, Good c X S C W k → chkE e c pe = true → PE X pe (tDk (isFresh C e) S C W e)
  | .cst d, c, X, S, C, W, k, pe, g, h => by
    simp only [chkE] at h
    obtain ⟨v, h1, h2⟩ := cst_ok h
    exact dk_s (r_cst h1 h2 fun s => rfl)
  | .var i, c, X, S, C, W, k, pe, g, h => by
    simp only [chkE] at h
    obtain ⟨x, p, rfl, h1, h2, h3, h4⟩ := var_ok g h
    exact dk_s (r_var h1 h2 h3 h4)
  | .mov i, c, X, S, C, W, k, pe, g, h => by
    simp only [chkE] at h
    obtain ⟨x, p, rfl, h1, h2, h3, h4⟩ := var_ok g h
    exact dk_f (r_mov h1 h2 h3 h4)
  | .glob x d, c, X, S, C, W, k, pe, g, h => by
    simp only [chkE] at h
    obtain ⟨v, h1, h2⟩ := glob_ok g h
    exact dk_s (r_cst h1 h2 fun s => rfl)
  | .sh a, c, X, S, C, W, k, pe, g, h => by
    simp only [chkE] at h
    exact dk_s (PE.imp (dk_D (soundE a g h)) fun σ H Q q => q)
  | .tup es, c, X, S, C, W, k, pe, g, h => by
    simp only [chkE] at h
    split at h
    · simp only [Bool.and_eq_true, decide_eq_true_eq] at h
      exact dk_f (r_tup (soundEs es g h.2).1 h.1)
    · cases h
  | .tupz es, c, X, S, C, W, k, pe, g, h => by
    simp only [chkE] at h
    split at h
    · simp only [Bool.and_eq_true, decide_eq_true_eq] at h
      exact dk_f (r_tupz (soundEs es g h.2).1 h.1.2)
    · cases h
  | .lst es, c, X, S, C, W, k, pe, g, h => by
    simp only [chkE] at h
    split at h
    · simp only [Bool.and_eq_true, decide_eq_true_eq] at h
      exact dk_f (r_lst (soundEs es g h.2).1 h.1)
    · cases h
  | .bin o a b, c, X, S, C, W, k, pe, g, h => by
    simp only [chkE] at h
    split at h
    · simp only [Bool.and_eq_true, decide_eq_true_eq] at h
      obtain ⟨⟨rfl, h1⟩, h2⟩ := h
      exact dk_f (r_bin g.K opD_all (dk_D (soundE a g h1)) (soundV b g h2))
    · cases h
  | .binv o i b, c, X, S, C, W, k, pe, g, h => by
    simp only [chkE] at h
    split at h
    · simp only [Bool.and_eq_true, decide_eq_true_eq] at h
      obtain ⟨⟨rfl, h1⟩, h2⟩ := h
      exact dk_f (r_binv g.K opD_all (pe_slot g h1) (dk_D (soundE b g h2)))
    · cases h
  | .neg a, c, X, S, C, W, k, pe, g, h => by
    simp only [chkE] at h
    split at h
    · exact dk_f (r_neg (dk_D (soundE a g h)))
    · cases h
  | .cmp o a b, c, X, S, C, W, k, pe, g, h => by
    simp only [chkE] at h
    split at h
    · simp only [Bool.and_eq_true, decide_eq_true_eq] at h
      obtain ⟨⟨⟨rfl, h1⟩, h2⟩, h3⟩ := h
      exact dk_f (r_cmp g.K g.units (dk_D (soundE a g h2)) (soundV b g h3) (notB h1))
    · cases h
  | .cmpv o i b, c, X, S, C, W, k, pe, g, h => by
    simp only [chkE] at h
    split at h
    · simp only [Bool.and_eq_true, decide_eq_true_eq] at h
      obtain ⟨⟨⟨rfl, h1⟩, h2⟩, h3⟩ := h
      exact dk_f (r_cmpv g.K g.units (pe_slot g h2) (dk_D (soundE b g h3)) (notB h1))
    · cases h
  | .chain o o2 a b d, c, X, S, C, W, k, pe, g, h => by
    simp only [chkE] at h
    split at h
    · simp only [Bool.and_eq_true, decide_eq_true_eq] at h
      obtain ⟨⟨⟨⟨⟨rfl, rfl⟩, h1⟩, h2⟩, h3⟩, h4⟩ := h
      exact dk_f (r_chain g.K g.units (dk_D (soundE a g h2)) (dk_D (soundE b g h3)) (dk_D (soundE d g h4)) (notB h1))
    · cases h
  | .and a b, c, X, S, C, W, k, pe, g, h => by
    simp only [chkE] at h
    split at h
    · simp only [Bool.and_eq_true] at h
      have hb := soundE b g h.2
      exact and_all g.K (soundE a g h.1) (pe_one hb)
    · simp only [Bool.and_eq_true] at h
      exact and_all g.K (soundE a g h.1) (soundE b g h.2)
    · cases h
  | .or a b, c, X, S, C, W, k, pe, g, h => by
    simp only [chkE] at h
    split at h
    · simp only [Bool.and_eq_true] at h
      have hb := soundE b g h.2
      exact or_all g.K (soundE a g h.1) (pe_one hb)
    · simp only [Bool.and_eq_true] at h
      exact or_all g.K (soundE a g h.1) (soundE b g h.2)
    · cases h
  | .not a, c, X, S, C, W, k, pe, g, h => by
    simp only [chkE] at h
    split at h
    · exact dk_f (r_not g.K (soundV a g h))
    · cases h
  | .ite t a b, c, X, S, C, W, k, pe, g, h => by
    simp only [chkE] at h
    split at h
    · simp only [Bool.and_eq_true] at h
      have ht := soundT t g h.1.1
      have ha := soundE a g h.1.2
      have hb := soundE b g h.2
      refine dk_any (r_ite ht (dk_D ha) (dk_D hb)) fun hf => ?_
      have hf : (isFresh C a && isFresh C b) = true := hf
      rw [Bool.and_eq_true] at hf
      rw [hf.1] at ha
      rw [hf.2] at hb
      exact rf_ite ht (dk_uf ha) (dk_uf hb)
    · cases h
  | .call f as, c, X, S, C, W, k, pe, g, h => by
    simp only [chkE] at h
    split at h
    · rename_i x p ps pos
      split at h
      · rename_i sg hsg
        simp only [Bool.and_eq_true, decide_eq_true_eq] at h
        obtain ⟨⟨⟨⟨⟨⟨h0, rfl⟩, h1⟩, h2⟩, h3⟩, h4⟩, h5⟩ := h
        obtain ⟨h6, h7, h8⟩ := soundA as g h5
        obtain ⟨g1, g2, _⟩ := gl_ok g h1
        have fr : isFresh C (.call f as) = sg.fr := by
          show C.fr f = sg.fr
          rw [g.frs f, hsg]; rfl
        rw [fr]
        have F := g.fns f sg hsg
        unfold CalleeK at F
        rw [h0] at F
        have F : Callee X S C k f sg.name sg.n sg.io sg.fr := F
        have rm : Room k X.A := g.room.mono (Nat.le_succ k)
        cases ps with
        | nil =>
          have : as = [] := List.eq_nil_of_length_eq_zero (by simpa using h8.symm)
          subst this
          have h2 : sg.n = 0 := h2
          rw [h2] at F
          exact r_call0 g.K g.tk rm g1 g2 F h3
        | cons q qs => exact r_call g.K g.tk rm g1 g2 F h2 h3 h4 h6 h7
      · cases h
    · cases h
  | .p1 p a, c, X, S, C, W, k, pe, g, h => by
    simp only [chkE] at h
    split at h
    · rename_i hp
      subst hp
      split at h
      · simp only [Bool.and_eq_true, decide_eq_true_eq] at h
        obtain ⟨⟨⟨⟨⟨rfl, rfl⟩, h3⟩, h4⟩, h5⟩, h6⟩ := h
        obtain ⟨f1, f2, f3, f4⟩ := free_ok g h3
        obtain ⟨f5, f6, f7, f8⟩ := free_ok g h4
        exact dk_f (r_lenset g.K g.calm f1 f2 f5 f6 (soundV a g h6) h5)
      · cases h
    split at h
    · simp only [Bool.and_eq_true, decide_eq_true_eq] at h
      obtain ⟨⟨⟨⟨h1, h2⟩, h3⟩, h4⟩, h5⟩ := h
      obtain ⟨f, hf⟩ := Option.isSome_iff_exists.mp h2
      obtain ⟨f1, f2, f3, f4⟩ := free_ok g h3
      exact dk_f (r_p1 g.K g.calm hf h1 f1 f2 f3 f4 (soundV a g h5) h4)
    · cases h
  | .p2 p a b, c, X, S, C, W, k, pe, g, h => by
    simp only [chkE] at h
    split at h
    · simp only [Bool.and_eq_true, Bool.or_eq_true, decide_eq_true_eq] at h
      obtain ⟨⟨⟨⟨⟨⟨h0, h1⟩, h2⟩, h3⟩, h4⟩, h5⟩, h6⟩ := h
      obtain ⟨f1, f2, f3, f4⟩ := free_ok g h2
      exact dk_f (r_p2 h0 g.K g.calm h1 f1 f2 f3 f4 (dk_D (soundE a g h5)) (dk_D (soundE b g h6)) h3 h4)
    · cases h
  | .isi a ts, c, X, S, C, W, k, pe, g, h => by
    simp only [chkE] at h
    split at h
    · rename_i x p q t pos
      simp only [Bool.and_eq_true, decide_eq_true_eq] at h
      obtain ⟨⟨⟨⟨rfl, h1⟩, h2⟩, h3⟩, h4⟩ := h
      obtain ⟨f1, f2, f3, f4⟩ := free_ok g h1
      unfold tys at h3
      split at h3
      · rename_i ps k1 q2
        simp only [Bool.and_eq_true, decide_eq_true_eq] at h3
        obtain ⟨⟨⟨t1, t2⟩, t3⟩, t4⟩ := h3
        refine dk_f (r_isiT g.K f1 f2 t2 t1 (fun t ht {m} e p => ty_pe g e ?_ p) t3 (soundV a g h4) h2)
        have := List.all_eq_true.mp t4 t ht
        rw [e] at this
        exact this
      · rename_i y q2
        split at h3
        · rename_i t
          rw [Bool.and_eq_true] at h3
          have h5 := h3.1
          simp only [tyC, Bool.and_eq_true] at h5
          cases e : tyName t with
          | none => rw [e] at h5; cases h5.1
          | some m =>
            rw [e] at h5
            obtain rfl := of_decide_eq_true h5.1
            exact dk_f (r_isi1 g.K f1 f2 e (ty_pe g e h3.2 q2) (soundV a g h4) h2)
        · cases h3
      · cases h3
    · cases h
  | .sub a i, c, X, S, C, W, k, pe, g, h => by
    simp only [chkE] at h
    split at h
    · simp only [Bool.and_eq_true] at h
      exact dk_s (r_sub g.K g.units (dk_D (soundE a g h.1.2)) (dk_D (soundE i g h.2)) h.1.1)
    · cases h
  | .subv v i, c, X, S, C, W, k, pe, g, h => by
    simp only [chkE] at h
    split at h
    · simp only [Bool.and_eq_true] at h
      exact dk_s (r_subv g.K g.units (pe_slot g h.1.2) (dk_D (soundE i g h.2)) h.1.1)
    · cases h
  | .slc a lo hi, c, X, S, C, W, k, pe, g, h => by
    simp only [chkE] at h
    split at h
    · simp only [Bool.and_eq_true] at h
      exact dk_f (r_slc g.K (dk_D (soundE a g h.1.1)) (soundO lo g h.1.2) (soundO hi g h.2))
    · cases h
  | .slcv v lo hi, c, X, S, C, W, k, pe, g, h => by
    simp only [chkE] at h
    split at h
    · simp only [Bool.and_eq_true] at h
      exact dk_f (r_slcv g.K (pe_slot g h.1.1) (soundO lo g h.1.2) (soundO hi g h.2))
    · cases h
  | .rev a, c, X, S, C, W, k, pe, g, h => by
    simp only [chkE] at h
    split at h
    · exact dk_f (r_rev g.K (soundV a g h))
    · cases h
  | .lc elt tg it cond own, c, X, S, C, W, k, pe, g, h => by
    simp only [chkE] at h
    split at h
    · rename_i pel pt pi ifs scope pos
      simp only [Bool.and_eq_true] at h
      obtain ⟨⟨⟨⟨⟨⟨⟨h1, h2⟩, h3⟩, h4⟩, h5⟩, h6⟩, h7⟩, h8⟩ := h
      have ok : BlkOk X.N X.env.scope scope (ownL c own) := by rw [g.N, g.sc]; exact blkOk_by h1
      have ex : ∀ {t : TG} {p : Expr} {Y : Cx}, True := fun {_ _ _} => trivial
      refine dk_f (PE.imp (pe_lc (g := fun v σ H Q => ∃ S', Sib S S' ∧ gD S' tg v σ H Q) (tt := fun σ H Q => ∃ S', Sib S S' ∧ tCo S' C W0 cond σ H Q) (te := fun σ H Q => ∃ S', Sib S S' ∧ tD S' C W0 elt σ H Q) g.calm g.nd (soundI it g h5) ok
        (fun s H B cl fp => ⟨fun pins s σ H v u Q I r ⟨S', hS, q⟩ => (soundTg tg (g.sib hS).blk h6).run pins s σ H v u Q I r q⟩)
        (fun s H B cl fp => ⟨fun pins s σ H Q I ⟨S', hS, q⟩ => (soundC cond (g.sib hS).blk h7).run pins s σ H Q I q⟩)
        (fun s H B cl fp => ⟨fun pins s σ H Q I ⟨S', hS, q⟩ => (dk_D (soundE elt (g.sib hS).blk h8)).run pins s σ H Q I q⟩) (nset_ok h4)) ?_)
      have hown : (ownL c own).map (·.2) = own := by unfold ownL; rw [List.map_map]; exact List.map_id own
      refine fun σ H Q q => r_lc g.calm g.nd (soundI it g h5) ok (fun S' hS s H B cl fp => soundTg tg (g.sib hS).blk h6) (fun S' hS s H B cl fp => soundC cond (g.sib hS).blk h7) (fun S' hS s H B cl fp => dk_D (soundE elt (g.sib hS).blk h8)) (fun i hi => ?_) hown (fun i hi p hp e => ?_) (nset_ok h4) σ H Q q
      · exact List.contains_iff_mem.mp (List.all_eq_true.mp h3 i hi)
      · have := List.all_eq_true.mp h2 i hi
        have h9 := g.io p hp
        rw [e] at h9
        rw [List.contains_iff_mem.mpr h9] at this
        cases this
    · cases h
  | .pop v, c, X, S, C, W, k, pe, g, h => by
    simp only [chkE] at h
    split at h
    · simp only [Bool.and_eq_true, decide_eq_true_eq] at h
      obtain ⟨⟨rfl, h1⟩, h2⟩ := h
      exact dk_s (r_pop (pe_slot g h1) h2)
    · cases h
  | .popAt v i, c, X, S, C, W, k, pe, g, h => by
    simp only [chkE] at h
    split at h
    · simp only [Bool.and_eq_true, decide_eq_true_eq] at h
      obtain ⟨⟨⟨⟨rfl, h1⟩, h2⟩, h3⟩, h4⟩ := h
      exact dk_s (r_popAt (pe_slot g h1) (dk_D (soundE i g h4)) h2 h3)
    · cases h
  | .dnew, c, X, S, C, W, k, pe, g, h => by
    simp only [chkE] at h
    split at h
    · exact dk_f r_dnew
    · cases h
  | .lrg t (.rng1 a), c, X, S, C, W, k, pe, g, h => by
    simp only [chkE] at h
    split at h
    · simp only [Bool.and_eq_true, decide_eq_true_eq] at h
      obtain ⟨⟨⟨⟨⟨h1, h2⟩, rfl⟩, h3⟩, h4⟩, h5⟩ := h
      obtain ⟨f1, f2, f3, f4⟩ := free_ok g h2
      obtain ⟨f5, f6, f7, f8⟩ := free_ok g h3
      cases t with
      | true => cases h1; exact dk_f (r_lrgT g.calm f1 f2 (prg1 f5 f6 (dk_D (soundE a g h5)) h4) rfl)
      | false => cases h1; exact dk_f (r_lrgL g.calm f1 f2 (prg1 f5 f6 (dk_D (soundE a g h5)) h4) rfl)
    · cases h
  | .lrg t (.rng2 a b), c, X, S, C, W, k, pe, g, h => by
    simp only [chkE] at h
    split at h
    · simp only [Bool.and_eq_true, decide_eq_true_eq] at h
      obtain ⟨⟨⟨⟨⟨⟨⟨h1, h2⟩, rfl⟩, h3⟩, h4⟩, h5⟩, h6⟩, h7⟩ := h
      obtain ⟨f1, f2, f3, f4⟩ := free_ok g h2
      obtain ⟨f5, f6, f7, f8⟩ := free_ok g h3
      cases t with
      | true => cases h1; exact dk_f (r_lrgT g.calm f1 f2 (prg2 f5 f6 (dk_D (soundE a g h6)) (dk_D (soundE b g h7)) h4 h5) rfl)
      | false => cases h1; exact dk_f (r_lrgL g.calm f1 f2 (prg2 f5 f6 (dk_D (soundE a g h6)) (dk_D (soundE b g h7)) h4 h5) rfl)
    · cases h
  | .lrg t (.seq _), c, X, S, C, W, k, pe, g, h => by simp only [chkE] at h; cases h
  | .lrg t (.rng3 _ _ _), c, X, S, C, W, k, pe, g, h => by simp only [chkE] at h; cases h
  | .lrg t (.zip _ _), c, X, S, C, W, k, pe, g, h => by simp only [chkE] at h; cases h
  | .lrg t (.enum _), c, X, S, C, W, k, pe, g, h => by simp only [chkE] at h; cases h
  | .idx a b, c, X, S, C, W, k, pe, g, h => by
    simp only [chkE] at h
    split at h
    · simp only [Bool.and_eq_true, decide_eq_true_eq] at h
      obtain ⟨⟨⟨⟨⟨rfl, h0⟩, h1⟩, h2⟩, h3⟩, h4⟩ := h
      exact dk_f (r_idx g.K g.units (dk_D (soundE a g h3)) (dk_D (soundE b g h4)) h1 h2 h0)
    · cases h
  | .cnt a b, c, X, S, C, W, k, pe, g, h => by
    simp only [chkE] at h
    split at h
    · simp only [Bool.and_eq_true, decide_eq_true_eq] at h
      obtain ⟨⟨⟨⟨⟨rfl, h0⟩, h1⟩, h2⟩, h3⟩, h4⟩ := h
      exact dk_f (r_cnt g.K g.units (dk_D (soundE a g h3)) (dk_D (soundE b g h4)) h1 h2 h0)
    · cases h
  | .nev, c, X, S, C, W, k, pe, g, h => ⟨fun pins s σ H Q I ⟨P, env, O, t, q⟩ => False.elim q⟩
  | .mk j x ns as, c, X, S, C, W, k, pe, g, h => by
    simp only [chkE] at h
    split at h
    · rename_i y yp p ps pos
      split at h
      · rename_i sg hsg
        simp only [Bool.and_eq_true, decide_eq_true_eq] at h
        obtain ⟨⟨⟨⟨h0, rfl⟩, h1⟩, h2⟩, h3⟩ := h
        have F := g.fns j sg hsg
        unfold CalleeK at F
        rw [h0] at F
        have F : CalleeI X S C k j y ns sg.n := F
        rw [h2] at F
        obtain ⟨g1, g2, _⟩ := gl_ok g h1
        obtain ⟨a1, a2⟩ := soundEs as g h3
        exact dk_f (r_mk g.K g.tk g.room g1 g2 F a1 a2)
      · cases h
    · cases h
  | .fld a xs f, c, X, S, C, W, k, pe, g, h => by
    simp only [chkE] at h
    split at h
    · simp only [Bool.and_eq_true, decide_eq_true_eq] at h
      obtain ⟨⟨⟨rfl, h1⟩, h2⟩, h3⟩ := h
      refine dk_s (r_fld g.K (fun x hx => ?_) (soundV a g h3) h1)
      have := List.all_eq_true.mp h2 x hx
      split at this
      · rename_i ns e
        have q := g.clss x ns e
        exact ⟨q.cl, q.no _ (List.contains_iff_mem.mp this)⟩
      · cases this
    · cases h
  | .isio a y yes no, c, X, S, C, W, k, pe, g, h => by
    simp only [chkE] at h
    split at h
    · rename_i x xp p z zp pos
      simp only [Bool.and_eq_true, decide_eq_true_eq] at h
      obtain ⟨⟨⟨⟨⟨⟨⟨⟨⟨rfl, h1⟩, rfl⟩, h2⟩, h3⟩, h4⟩, h5⟩, h6⟩, h7⟩, h8⟩ := h
      obtain ⟨f1, f2, f3, f4⟩ := free_ok g h1
      obtain ⟨g1, g2, _⟩ := gl_ok g h2
      obtain ⟨b1, b2⟩ := g.isbs z (List.contains_iff_mem.mp h3)
      refine dk_f (r_isio g.K f1 f2 (pe_glob g1 b2 rfl g2) b1 (fun x hx => ?_) (fun x hx => g.isas _ _ _ (List.contains_iff_mem.mp (List.all_eq_true.mp h6 x hx))) (fun x hx => g.isas _ _ _ (List.contains_iff_mem.mp (List.all_eq_true.mp h7 x hx))) (soundV a g h8) h4)
      have := List.all_eq_true.mp h5 x (List.mem_append.mpr hx)
      obtain ⟨ns, e⟩ := Option.isSome_iff_exists.mp this
      have q := g.clss x ns e
      exact ⟨q.cl, fun f hf => (nomatch hf), q.ha, q.hn, q.htk, q.hm⟩
    · cases h
  | .cmpI ne x j a b, c, X, S, C, W, k, pe, g, h => by
    simp only [chkE] at h
    split at h
    · split at h
      · rename_i sg hsg
        simp only [Bool.and_eq_true, decide_eq_true_eq] at h
        obtain ⟨⟨⟨⟨⟨⟨⟨h0, h1⟩, h2⟩, h3⟩, h4⟩, h5⟩, h6⟩, h7⟩ := h
        have F := g.fns j sg hsg
        unfold CalleeK at F
        rw [h0] at F
        have F : CalleeQ X S C k j x := F h1 h2 (notB h3)
        exact dk_f (r_cmpI h4 g.K g.room F (dk_D (soundE a g h6)) (dk_D (soundE b g h7)) (notB h5))
      · cases h
    · cases h
  | .lc2 elt tg it tg1 it1 cond1 own own1, c, X, S, C, W, k, pe, g, h => by
    simp only [chkE] at h
    split at h
    · rename_i pel pt pi pt1 pi1 ifs1 scope pos
      simp only [Bool.and_eq_true] at h
      obtain ⟨⟨⟨⟨⟨⟨⟨⟨⟨⟨⟨⟨h1, h2⟩, h3⟩, h4⟩, h5⟩, h6⟩, h7⟩, h8⟩, h9⟩, h10⟩, h11⟩, h12⟩, h13⟩ := h
      have ok : BlkOk X.N X.env.scope scope (ownL c own) := by rw [g.N, g.sc]; exact blkOk_by h1
      have hown : (ownL c own).map (·.2) = own := by unfold ownL; rw [List.map_map]; exact List.map_id own
      have hsub : ∀ i ∈ own1, i ∈ own := fun i hi => List.contains_iff_mem.mp (List.all_eq_true.mp h5 i hi)
      refine dk_f (PE.imp (pe_lc2 (wi1 := tItX S C it1) (g := fun v σ H Q => ∃ S', Sib S S' ∧ gD S' tg v σ H Q) (tt := fun σ H Q => ∃ S', Sib S S' ∧ tCo S' C W0 none σ H Q) (g1 := fun v σ H Q => ∃ S', Sib S S' ∧ gD S' tg1 v σ H Q) (tt1 := fun σ H Q => ∃ S', Sib S S' ∧ tCo S' C W0 cond1 σ H Q) (te := fun σ H Q => ∃ S', Sib S S' ∧ tD S' C W0 elt σ H Q) (vs1 := own1) g.calm g.nd (soundI it g h8) ok
        (fun i hi => by rw [hown]; exact hsub i hi)
        (fun s H B cl fp => ⟨fun pins s σ H v u Q I r ⟨S', hS, q⟩ => (soundTg tg (g.sib hS).blk h9).run pins s σ H v u Q I r q⟩)
        (fun s H B cl fp => ⟨fun pins s σ H Q I ⟨S', hS, q⟩ => sound_none.run pins s σ H Q I q⟩)
        (fun s H B cl fp => ⟨fun pins s σ H Q I ⟨S', hS, q⟩ => (soundI it1 (g.sib hS).blk h10).run pins s σ H Q I q⟩)
        (fun s H B cl fp => ⟨fun pins s σ H v u Q I r ⟨S', hS, q⟩ => (soundTg tg1 (g.sib hS).blk h11).run pins s σ H v u Q I r q⟩)
        (fun s H B cl fp => ⟨fun pins s σ H Q I ⟨S', hS, q⟩ => (soundC cond1 (g.sib hS).blk h12).run pins s σ H Q I q⟩)
        (fun s H B cl fp => ⟨fun pins s σ H Q I ⟨S', hS, q⟩ => (dk_D (soundE elt (g.sib hS).blk h13)).run pins s σ H Q I q⟩) (nset_ok h6) (fun env => nset_ok h7)) ?_)
      refine fun σ H Q q => r_lc2 g.calm g.nd (soundI it g h8) ok (fun i hi => List.contains_iff_mem.mp (List.all_eq_true.mp h3 i hi)) (fun i hi => List.contains_iff_mem.mp (List.all_eq_true.mp h4 i hi)) hsub hown (fun i hi p hp e => ?_) σ H Q q
      have := List.all_eq_true.mp h2 i hi
      have h9 := g.io p hp
      rw [e] at h9
      rw [List.contains_iff_mem.mpr h9] at this
      cases this
    · cases h
theorem soundV : ∀ (a : O) {c : Cfg} {X : Cx} {S : Sit} {C : Calls} {W : WX} {k : Nat} {pe : Expr}, Good c X S C W k → chkV a c pe = true → PE X pe (tDv S C W a)
  | .vw i, c, X, S, C, W, k, pe, g, h => by
    simp only [chkV] at h
    exact pe_slotV g h
  | .e e, c, X, S, C, W, k, pe, g, h => by
    simp only [chkV] at h
    exact r_opd (dk_D (soundE e g h))
theorem soundT : ∀ (t : T) {c : Cfg} {X : Cx} {S : Sit} {C : Calls} {W : WX} {k : Nat} {pe : Expr}, Good c X S C W k → chkT t c pe = true → PT X pe (tT S C W t)
  | .and a b, c, X, S, C, W, k, pe, g, h => by
    simp only [chkT] at h
    split at h
    · simp only [Bool.and_eq_true] at h
      exact (rt_and (soundT a g h.1) (pw_and1 (soundT b g h.2))).pt
    · simp only [Bool.and_eq_true] at h
      exact (rt_and (soundT a g h.1) (pw_of (soundT b g h.2))).pt
    · cases h
  | .or a b, c, X, S, C, W, k, pe, g, h => by
    simp only [chkT] at h
    split at h
    · simp only [Bool.and_eq_true] at h
      exact (rt_or (soundT a g h.1) (pw_or1 (soundT b g h.2))).pt
    · simp only [Bool.and_eq_true] at h
      exact (rt_or (soundT a g h.1) (pw_of (soundT b g h.2))).pt
    · cases h
  | .not a, c, X, S, C, W, k, pe, g, h => by
    simp only [chkT] at h
    split at h
    · exact rt_not (soundT a g h)
    · cases h
  | .ite t a b, c, X, S, C, W, k, pe, g, h => by
    simp only [chkT] at h
    split at h
    · simp only [Bool.and_eq_true] at h
      exact rt_ite (soundT t g h.1.1) (soundT a g h.1.2) (soundT b g h.2)
    · cases h
  | .o a, c, X, S, C, W, k, pe, g, h => by
    simp only [chkT, Bool.and_eq_true] at h
    exact rt_o g.K (soundV a g h.2) (plain_ok h.1)
  | .cmp o a b, c, X, S, C, W, k, pe, g, h => by
    simp only [chkT] at h
    split at h
    · simp only [Bool.and_eq_true, decide_eq_true_eq] at h
      obtain ⟨⟨⟨rfl, h1⟩, h2⟩, h3⟩ := h
      exact rt_cmp g.K g.units (dk_D (soundE a g h2)) (soundV b g h3) (notB h1)
    · cases h
  | .cmpv o i b, c, X, S, C, W, k, pe, g, h => by
    simp only [chkT] at h
    split at h
    · simp only [Bool.and_eq_true, decide_eq_true_eq] at h
      obtain ⟨⟨⟨rfl, h1⟩, h2⟩, h3⟩ := h
      exact rt_cmpv g.K g.units (pe_slot g h2) (dk_D (soundE b g h3)) (notB h1)
    · cases h
  | .chain o o2 a b d, c, X, S, C, W, k, pe, g, h => by
    simp only [chkT] at h
    split at h
    · simp only [Bool.and_eq_true, decide_eq_true_eq] at h
      obtain ⟨⟨⟨⟨⟨rfl, rfl⟩, h1⟩, h2⟩, h3⟩, h4⟩ := h
      exact rt_chain g.K g.units (dk_D (soundE a g h2)) (dk_D (soundE b g h3)) (dk_D (soundE d g h4)) (notB h1)
    · cases h
  | .cmpI ne x j a b, c, X, S, C, W, k, pe, g, h => by
    simp only [chkT] at h
    split at h
    · split at h
      · rename_i sg hsg
        simp only [Bool.and_eq_true, decide_eq_true_eq] at h
        obtain ⟨⟨⟨⟨⟨⟨⟨h0, h1⟩, h2⟩, h3⟩, h4⟩, h5⟩, h6⟩, h7⟩ := h
        have F := g.fns j sg hsg
        unfold CalleeK at F
        rw [h0] at F
        have F : CalleeQ X S C k j x := F h1 h2 (notB h3)
        exact rt_cmpI h4 g.K g.room F (dk_D (soundE a g h6)) (dk_D (soundE b g h7)) (notB h5)
      · cases h
    · cases h
theorem soundEs : ∀ (es : List E) {c : Cfg} {X : Cx} {S : Sit} {C : Calls} {W : WX} {k : Nat} {ps : List Expr}, Good c X S C W k → chkEs es c ps = true → PA X ps (tDs S C W es) ∧ ps.all nst = true
  | [], c, X, S, C, W, k, ps, g, h => by
    simp only [chkEs, List.isEmpty_iff] at h
    subst h
    exact ⟨r_ds_nil, rfl⟩
  | e :: es, c, X, S, C, W, k, ps, g, h => by
    simp only [chkEs] at h
    split at h
    · simp only [Bool.and_eq_true] at h
      obtain ⟨⟨h1, h2⟩, h3⟩ := h
      obtain ⟨a1, a2⟩ := soundEs es g h3
      exact ⟨r_ds_cons (dk_D (soundE e g h2)) a1 h1, by rw [List.all_cons, h1, a2]; rfl⟩
    · cases h
theorem soundA : ∀ (as : List Arg) {c : Cfg} {X : Cx} {S : Sit} {C : Calls} {W : WX} {k : Nat} {ps : List Expr}, Good c X S C W k → chkA as c ps = true → PA X ps (tAr S C W as) ∧ ps.all nst = true ∧ ps.length = as.length
  | [], c, X, S, C, W, k, ps, g, h => by
    simp only [chkA, List.isEmpty_iff] at h
    subst h
    exact ⟨r_ar_nil, rfl, rfl⟩
  | .io i :: as, c, X, S, C, W, k, ps, g, h => by
    simp only [chkA] at h
    split at h
    · simp only [Bool.and_eq_true, chkA1] at h
      obtain ⟨⟨h1, h2⟩, h3⟩ := h
      obtain ⟨a1, a2, a3⟩ := soundA as g h3
      exact ⟨r_ar_io (pe_slot g h2) a1 h1, by rw [List.all_cons, h1, a2]; rfl, by rw [List.length_cons, List.length_cons, a3]⟩
    · cases h
  | .e e :: as, c, X, S, C, W, k, ps, g, h => by
    simp only [chkA] at h
    split at h
    · simp only [Bool.and_eq_true, chkA1] at h
      obtain ⟨⟨h1, h2⟩, h3⟩ := h
      obtain ⟨a1, a2, a3⟩ := soundA as g h3
      exact ⟨r_ar_e (dk_D (soundE e g h2)) a1 h1, by rw [List.all_cons, h1, a2]; rfl, by rw [List.length_cons, List.length_cons, a3]⟩
    · cases h
theorem soundO : ∀ (o : Option E) {c : Cfg} {X : Cx} {S : Sit} {C : Calls} {W : WX} {k : Nat} {p : Option Expr}, Good c X S C W k → chkO o c p = true → PO X p (tDo S C W o)
  | none, c, X, S, C, W, k, p, g, h => by
    simp only [chkO, Option.isNone_iff_eq_none] at h
    subst h
    exact r_po_none
  | some e, c, X, S, C, W, k, p, g, h => by
    simp only [chkO] at h
    split at h
    · exact r_po_some (dk_D (soundE e g h))
    · cases h
theorem soundC : ∀ (o : Option T) {c : Cfg} {X : Cx} {S : Sit} {C : Calls} {W : WX} {k : Nat} {ps : List Expr}, Good c X S C W k → chkC o c ps = true → PTs X ps (tCo S C W o)
  | none, c, X, S, C, W, k, ps, g, h => by
    simp only [chkC, List.isEmpty_iff] at h
    subst h
    exact ⟨fun pins s σ H Q I ⟨P, env, O, t, q⟩ => pts_nil.run pins s σ H Q I (q H O (Ext.refl _ _) t)⟩
  | some e, c, X, S, C, W, k, ps, g, h => by
    simp only [chkC] at h
    split at h
    · exact ⟨fun pins s σ H Q I q => (pts_one (soundT e g h)).run pins s σ H Q I q⟩
    · cases h
theorem soundI : ∀ (it : It) {c : Cfg} {X : Cx} {S : Sit} {C : Calls} {W : WX} {k : Nat} {pt pi : Expr}, Good c X S C W k → chkI it c pt pi = true → PI X pt pi (tIt S C W it)
  | .seq e, c, X, S, C, W, k, pt, pi, g, h => by
    simp only [chkI] at h
    exact ri_seq g.K (dk_D (soundE e g h))
  | .rng1 a, c, X, S, C, W, k, pt, pi, g, h => by
    simp only [chkI] at h
    split at h
    · simp only [Bool.and_eq_true, decide_eq_true_eq] at h
      obtain ⟨⟨⟨rfl, h1⟩, h2⟩, h3⟩ := h
      obtain ⟨f1, f2, f3, f4⟩ := free_ok g h1
      exact ri_rng1 f1 f2 (dk_D (soundE a g h3)) h2
    · cases h
  | .rng2 a b, c, X, S, C, W, k, pt, pi, g, h => by
    simp only [chkI] at h
    split at h
    · simp only [Bool.and_eq_true, decide_eq_true_eq] at h
      obtain ⟨⟨⟨⟨⟨rfl, h1⟩, h2⟩, h3⟩, h4⟩, h5⟩ := h
      obtain ⟨f1, f2, f3, f4⟩ := free_ok g h1
      exact ri_rng2 f1 f2 (dk_D (soundE a g h4)) (dk_D (soundE b g h5)) h2 h3
    · cases h
  | .rng3 _ _ _, c, X, S, C, W, k, pt, pi, g, h => by
    simp only [chkI] at h
    cases h
  | .zip a b, c, X, S, C, W, k, pt, pi, g, h => by
    simp only [chkI] at h
    split at h
    · simp only [Bool.and_eq_true, decide_eq_true_eq] at h
      obtain ⟨⟨⟨⟨⟨rfl, h1⟩, h2⟩, h3⟩, h4⟩, h5⟩ := h
      obtain ⟨f1, f2, f3, f4⟩ := free_ok g h1
      exact ri_zip g.K f1 f2 (dk_D (soundE a g h4)) (dk_D (soundE b g h5)) h2 h3
    · cases h
  | .enum a, c, X, S, C, W, k, pt, pi, g, h => by
    simp only [chkI] at h
    split at h
    · simp only [Bool.and_eq_true, decide_eq_true_eq] at h
      obtain ⟨⟨⟨rfl, h1⟩, h2⟩, h3⟩ := h
      obtain ⟨f1, f2, f3, f4⟩ := free_ok g h1
      exact ri_enum g.K f1 f2 (dk_D (soundE a g h3)) h2
    · cases h
end
end Rf

/-! Rg, part T: the test is sound: statements. -/
namespace Rf
open PySem PySem.Spec PyProof.Rows L2
theorem soundFs : ∀ (es : List E) {c : Cfg} {X : Cx} {S : Sit} {C : Calls} {W : WX} {k : Nat} {ps : List Expr}, Good c X S C W k → chkEs es c ps = true → PA X ps (tFs S C W es)
  | [], c, X, S, C, W, k, ps, g, h => by
    simp only [chkEs, List.isEmpty_iff] at h
    subst h
    exact r_fs_nil
  | e :: es, c, X, S, C, W, k, ps, g, h => by
    simp only [chkEs] at h
    split at h
    · simp only [Bool.and_eq_true] at h
      obtain ⟨⟨h1, h2⟩, h3⟩ := h
      exact r_fs_cons (soundE e g h2) (soundFs es g h3) h1
    · cases h
structure GoodS (c : Cfg) (X : Cx) (S : Sit) (C : Calls) (W : WX) (k : Nat) : Prop extends Good c X S C W k where
  kind : X.env.scope.kind = .function
  own : PassesOwn (model X.prog X.w) X.A X.env X.xe
  fr : S.fr = c.fr
section
variable {c : Cfg} {X : Cx} {S S' : Sit} {C : Calls} {W : WX} {k : Nat}
theorem blockK (h : X.env.scope.kind = .function) : X.env.blockKind = .function := by unfold Env.blockKind; rw [h]; rfl
theorem noStar {vs : List Expr} (h : vs.all nst = true) : (vs.any fun | .Starred .. => true | _ => false) = false := by
  induction vs with
  | nil => rfl
  | cons v vs ih =>
    rw [List.all_cons, Bool.and_eq_true] at h
    rw [List.any_cons, ih h.2]
    cases v <;> first | rfl | (simp [nst] at h)
theorem swap2 (hk : X.env.scope.kind = .function) (hs : X.env.scope = c.sc) {x y : Str} {px py pt pt2 : Pos} {pa pb : Expr} {kt k2 : Nat} (h : swapC c [(x, px), (y, py)] [pa, pb] = true) :
    swappedStores [.Tuple [.Name x px, .Name y py] kt pt] (.Tuple [pa, pb] k2 pt2) X.env = pure (some [x, y]) ∧ X.env.scope.names.lookup x = some .local ∧ X.env.scope.names.lookup y = some .local := by
  unfold swapC at h
  simp only [Bool.and_eq_true, List.all_cons, List.all_nil, decide_eq_true_eq, and_true, List.map_cons, List.map_nil] at h
  obtain ⟨⟨⟨⟨⟨h1, h2, h3⟩, h4⟩, h5, h5'⟩, h6⟩, h7⟩ := h
  rw [← hs] at h2 h3
  refine ⟨?_, h2, h3⟩
  have kx : X.env.kindOf x = some .local := h2
  have ky : X.env.kindOf y = some .local := h3
  have starF : ∀ {p : Expr}, nst p = true → ∀ {α : Prop}, (match p with | .Starred .. => true | _ => false) = true → α := fun {p} h {α} q => by cases p <;> first | (cases h; done) | (cases q; done)
  unfold swappedStores
  simp only [List.length_cons, List.length_nil, blockK hk, List.head?_cons, Option.map_some, Option.getD_some, Expr.pos, List.filterMap_cons, List.filterMap_nil, kx, ky, h1, List.all_cons, List.all_nil]
  have e4 : [x, y].eraseDups.length = 2 := eq_of_beq h4
  have h6' : (foldedForSure 8 pa && (foldedForSure 8 pb && true)) = false := notB h6
  have h7' : (constantsAlone 8 pa && (constantsAlone 8 pb && true)) = false := notB h7
  simp [h6', h7', e4]
  rw [if_neg (fun q => q.elim (fun q => starF h5 q) (fun q => starF h5' q)), if_neg (fun q => by rw [q.1, q.2] at h6'; simp at h6'), if_neg (fun q => by rw [q.1, q.2] at h7'; simp at h7')]
theorem swap3 (hk : X.env.scope.kind = .function) (hs : X.env.scope = c.sc) {x y z : Str} {px py pz pt pt2 : Pos} {pa pb pc : Expr} {kt k2 : Nat} (h : swapC c [(x, px), (y, py), (z, pz)] [pa, pb, pc] = true) :
    swappedStores [.Tuple [.Name x px, .Name y py, .Name z pz] kt pt] (.Tuple [pa, pb, pc] k2 pt2) X.env = pure (some [x, y, z]) ∧ X.env.scope.names.lookup x = some .local ∧ X.env.scope.names.lookup y = some .local ∧ X.env.scope.names.lookup z = some .local := by
  unfold swapC at h
  simp only [Bool.and_eq_true, List.all_cons, List.all_nil, decide_eq_true_eq, and_true, List.map_cons, List.map_nil] at h
  obtain ⟨⟨⟨⟨⟨⟨h1, h1'⟩, h2, h3, h3'⟩, h4⟩, h5, h5', h5''⟩, h6⟩, h7⟩ := h
  rw [← hs] at h2 h3 h3'
  refine ⟨?_, h2, h3, h3'⟩
  have kx : X.env.kindOf x = some .local := h2
  have ky : X.env.kindOf y = some .local := h3
  have kz : X.env.kindOf z = some .local := h3'
  have starF : ∀ {p : Expr}, nst p = true → ∀ {α : Prop}, (match p with | .Starred .. => true | _ => false) = true → α := fun {p} h {α} q => by cases p <;> first | (cases h; done) | (cases q; done)
  unfold swappedStores
  simp only [List.length_cons, List.length_nil, blockK hk, List.head?_cons, Option.map_some, Option.getD_some, Expr.pos, List.filterMap_cons, List.filterMap_nil, kx, ky, kz, h1, h1', List.all_cons, List.all_nil]
  have e4 : [x, y, z].eraseDups.length = 3 := eq_of_beq h4
  have h6' : (foldedForSure 8 pa && (foldedForSure 8 pb && (foldedForSure 8 pc && true))) = false := notB h6
  have h7' : (constantsAlone 8 pa && (constantsAlone 8 pb && (constantsAlone 8 pc && true))) = false := notB h7
  simp [h6', h7', e4]
  rw [if_neg (fun q => q.elim (fun q => starF h5 q) (fun q => q.elim (fun q => starF h5' q) (fun q => starF h5'' q))), if_neg (fun q => by rw [q.1, q.2.1, q.2.2] at h6'; simp at h6'), if_neg (fun q => by rw [q.1, q.2.1, q.2.2] at h7'; simp at h7')]
theorem cell2 (hs : X.env.scope = c.sc) {x y : Str} {px py pt pt2 : Pos} {pa pb : Expr} {kt k2 : Nat} (h : cellC c [x, y] [pa, pb] = true) :
    swappedStores [.Tuple [.Name x px, .Name y py] kt pt] (.Tuple [pa, pb] k2 pt2) X.env = pure none := by
  unfold cellC at h
  simp only [Bool.and_eq_true, List.any_cons, List.any_nil, Bool.or_false, Bool.or_eq_true, decide_eq_true_eq, List.all_cons, List.all_nil] at h
  obtain ⟨h1, h2, h2', _⟩ := h
  rw [← hs] at h1
  have h1 : ¬ (X.env.kindOf x = some .local ∧ X.env.kindOf y = some .local) := fun q => by rcases h1 with h | h; exact h q.1; exact h q.2
  unfold swappedStores
  by_cases e1 : X.env.kindOf x = some .local <;> by_cases e2 : X.env.kindOf y = some .local <;> by_cases e3 : py.line = px.line <;> simp_all [List.filterMap_cons, Expr.pos]
theorem cell3 (hs : X.env.scope = c.sc) {x y z : Str} {px py pz pt pt2 : Pos} {pa pb pc : Expr} {kt k2 : Nat} (h : cellC c [x, y, z] [pa, pb, pc] = true) :
    swappedStores [.Tuple [.Name x px, .Name y py, .Name z pz] kt pt] (.Tuple [pa, pb, pc] k2 pt2) X.env = pure none := by
  unfold cellC at h
  simp only [Bool.and_eq_true, List.any_cons, List.any_nil, Bool.or_false, Bool.or_eq_true, decide_eq_true_eq, List.all_cons, List.all_nil] at h
  obtain ⟨h1, h2, h2', _⟩ := h
  rw [← hs] at h1
  have h1 : ¬ (X.env.kindOf x = some .local ∧ X.env.kindOf y = some .local ∧ X.env.kindOf z = some .local) := fun q => by rcases h1 with h | h | h; exact h q.1; exact h q.2.1; exact h q.2.2
  unfold swappedStores
  by_cases e1 : X.env.kindOf x = some .local <;> by_cases e2 : X.env.kindOf y = some .local <;> by_cases e4 : X.env.kindOf z = some .local <;> by_cases e3 : py.line = px.line <;> by_cases e5 : pz.line = px.line <;> simp_all [List.filterMap_cons, Expr.pos]
theorem noSwapT {pt pe : Expr} {env : PySem.Env} (h : noSwapSt pt pe = true) : swappedStores [pt] pe env = pure none := by
  have other : ∀ {pt pe : Expr}, (∀ ts k p vs k2 p2, pt = .Tuple ts k p → pe ≠ .Tuple vs k2 p2) → (∀ ts p vs k2 p2, pt = .List ts p → pe ≠ .Tuple vs k2 p2) → swappedStores [pt] pe env = pure none := fun {pt pe} h1 h2 => by
    cases pe <;> first | (unfold swappedStores; cases pt <;> rfl; done) | skip
    rename_i vs k2 p2
    cases pt with
    | Tuple ts k p => exact absurd rfl (h1 ts k p vs k2 p2 rfl)
    | List ts p => exact absurd rfl (h2 ts p vs k2 p2 rfl)
    | _ => rfl
  unfold noSwapSt at h
  split at h
  · rename_i ts k p vs k2 p2
    unfold swappedStores
    simp only [Bool.or_eq_true] at h
    dsimp only
    split
    · rfl
    · rename_i c1
      split
      · rfl
      · split
        · rfl
        · split
          · rfl
          · rename_i c4
            exfalso
            rcases h with h | h
            · simp only [Bool.or_eq_true, not_or, Bool.not_eq_true, bne, Bool.not_eq_false] at c1
              have e : vs.length = ts.length := by simpa using c1.1.2
              rw [e] at h
              have c2 := c1.1.1
              rw [h] at c2
              cases c2
            · exact c4 h
  · cases h
  · rename_i n1 n2
    exact other (fun ts k p vs k2 p2 e e2 => n1 ts k p vs k2 p2 e e2) (fun ts p vs k2 p2 e e2 => n2 ts p vs k2 p2 e e2)
/-- name = [..] -/
theorem rs_setLc {e0 : E} {elt : E} {tg : Tg} {it : Rf.It} {cond : Option T} {own : List Nat} {pelt ptg pit : Expr} {ifs : List Expr} {scope : Scope} {i : Nat} {x : Str} {px lp pos : Pos} (g : GoodS c X S C W k) (hx : stoB c x i = true) (hxl : c.sc.names.lookup x = some .local) (hl : (px.line == lp.line) = true) (ha : (scope.names.any fun (n, k) => n == x && (k == .local || k == .cell)) = false)
    (h : chkE (.lc elt tg it cond own) c (.ListComp pelt [⟨ptg, pit, ifs, 0⟩] scope lp) = true) (he0 : ∀ σ H Q, tDk (isFresh C e0) S C W e0 σ H Q → tDf S C W (.lc elt tg it cond own) σ H Q) : PS X (.Assign [.Name x px] (.ListComp pelt [⟨ptg, pit, ifs, 0⟩] scope lp) pos) (tS S C W (.asg (.nm i) e0)) := by
  simp only [chkE, Bool.and_eq_true] at h
  obtain ⟨⟨⟨⟨⟨⟨⟨h1, h2⟩, h3⟩, h4⟩, h5⟩, h6⟩, h7⟩, h8⟩ := h
  have st := sto_ok g.toGood hx
  have ok : BlkOk X.N X.env.scope scope (ownL c own) := by rw [g.N, g.sc]; exact blkOk_by h1
  have hxl' : X.env.scope.names.lookup x = some .local := by rw [g.sc]; exact hxl
  have hown : (ownL c own).map (·.2) = own := by unfold ownL; rw [List.map_map]; exact List.map_id own
  refine PS.impI (ps_setLc (g := fun v σ H Q => ∃ S', Sib S S' ∧ gD S' tg v σ H Q) (tt := fun σ H Q => ∃ S', Sib S S' ∧ tCo S' C W0 cond σ H Q) (te := fun σ H Q => ∃ S', Sib S S' ∧ tD S' C W0 elt σ H Q) g.calm g.nd st.ix hxl' (sw_true g.kind hxl' hl ha) (soundI it g.toGood h5) ok
    (fun s H B cl fp => ⟨fun pins s σ H v u Q I r ⟨S', hS, q⟩ => (soundTg tg (g.toGood.sib hS).blk h6).run pins s σ H v u Q I r q⟩)
    (fun s H B cl fp => ⟨fun pins s σ H Q I ⟨S', hS, q⟩ => (soundC cond (g.toGood.sib hS).blk h7).run pins s σ H Q I q⟩)
    (fun s H B cl fp => ⟨fun pins s σ H Q I ⟨S', hS, q⟩ => (dk_D (soundE elt (g.toGood.sib hS).blk h8)).run pins s σ H Q I q⟩) (nset_ok h4)) fun D σ H hlen q => ?_
  have q := he0 _ _ _ (asg_nm (lt_of_ix st.ix) st.io hlen q)
  refine r_lc g.calm g.nd (soundI it g.toGood h5) ok (fun S' hS s H B cl fp => soundTg tg (g.toGood.sib hS).blk h6) (fun S' hS s H B cl fp => soundC cond (g.toGood.sib hS).blk h7) (fun S' hS s H B cl fp => dk_D (soundE elt (g.toGood.sib hS).blk h8)) (fun i hi => ?_) hown (fun i hi p hp e => ?_) (nset_ok h4) σ H _ q
  · exact List.contains_iff_mem.mp (List.all_eq_true.mp h3 i hi)
  · have := List.all_eq_true.mp h2 i hi
    have h9 := g.io p hp
    rw [e] at h9
    rw [List.contains_iff_mem.mpr h9] at this
    cases this
/-- name = [.. for .. for ..] -/
theorem rs_setLc2 {e0 : E} {elt : E} {tg tg1 : Tg} {it it1 : Rf.It} {cond1 : Option T} {own own1 : List Nat} {pelt ptg pit ptg1 pit1 : Expr} {ifs1 : List Expr} {scope : Scope} {i : Nat} {x : Str} {px lp pos : Pos} (g : GoodS c X S C W k) (hx : stoB c x i = true) (hxl : c.sc.names.lookup x = some .local) (hl : (px.line == lp.line) = true) (ha : (scope.names.any fun (n, k) => n == x && (k == .local || k == .cell)) = false)
    (h : chkE (.lc2 elt tg it tg1 it1 cond1 own own1) c (.ListComp pelt [⟨ptg, pit, [], 0⟩, ⟨ptg1, pit1, ifs1, 0⟩] scope lp) = true) (he0 : ∀ σ H Q, tDk (isFresh C e0) S C W e0 σ H Q → tDf S C W (.lc2 elt tg it tg1 it1 cond1 own own1) σ H Q) : PS X (.Assign [.Name x px] (.ListComp pelt [⟨ptg, pit, [], 0⟩, ⟨ptg1, pit1, ifs1, 0⟩] scope lp) pos) (tS S C W (.asg (.nm i) e0)) := by
  simp only [chkE, Bool.and_eq_true] at h
  obtain ⟨⟨⟨⟨⟨⟨⟨⟨⟨⟨⟨⟨h1, h2⟩, h3⟩, h4⟩, h5⟩, h6⟩, h7⟩, h8⟩, h9⟩, h10⟩, h11⟩, h12⟩, h13⟩ := h
  have st := sto_ok g.toGood hx
  have ok : BlkOk X.N X.env.scope scope (ownL c own) := by rw [g.N, g.sc]; exact blkOk_by h1
  have hxl' : X.env.scope.names.lookup x = some .local := by rw [g.sc]; exact hxl
  have hown : (ownL c own).map (·.2) = own := by unfold ownL; rw [List.map_map]; exact List.map_id own
  have hsub : ∀ i ∈ own1, i ∈ own := fun i hi => List.contains_iff_mem.mp (List.all_eq_true.mp h5 i hi)
  refine PS.impI (ps_setLc2 (wi1 := tItX S C it1) (g := fun v σ H Q => ∃ S', Sib S S' ∧ gD S' tg v σ H Q) (tt := fun σ H Q => ∃ S', Sib S S' ∧ tCo S' C W0 none σ H Q) (g1 := fun v σ H Q => ∃ S', Sib S S' ∧ gD S' tg1 v σ H Q) (tt1 := fun σ H Q => ∃ S', Sib S S' ∧ tCo S' C W0 cond1 σ H Q) (te := fun σ H Q => ∃ S', Sib S S' ∧ tD S' C W0 elt σ H Q) (vs1 := own1) g.calm g.nd st.ix hxl' (sw_true g.kind hxl' hl ha) (soundI it g.toGood h8) ok
    (fun i hi => by rw [hown]; exact hsub i hi)
    (fun s H B cl fp => ⟨fun pins s σ H v u Q I r ⟨S', hS, q⟩ => (soundTg tg (g.toGood.sib hS).blk h9).run pins s σ H v u Q I r q⟩)
    (fun s H B cl fp => ⟨fun pins s σ H Q I ⟨S', hS, q⟩ => sound_none.run pins s σ H Q I q⟩)
    (fun s H B cl fp => ⟨fun pins s σ H Q I ⟨S', hS, q⟩ => (soundI it1 (g.toGood.sib hS).blk h10).run pins s σ H Q I q⟩)
    (fun s H B cl fp => ⟨fun pins s σ H v u Q I r ⟨S', hS, q⟩ => (soundTg tg1 (g.toGood.sib hS).blk h11).run pins s σ H v u Q I r q⟩)
    (fun s H B cl fp => ⟨fun pins s σ H Q I ⟨S', hS, q⟩ => (soundC cond1 (g.toGood.sib hS).blk h12).run pins s σ H Q I q⟩)
    (fun s H B cl fp => ⟨fun pins s σ H Q I ⟨S', hS, q⟩ => (dk_D (soundE elt (g.toGood.sib hS).blk h13)).run pins s σ H Q I q⟩) (nset_ok h6) (fun env => nset_ok h7)) fun D σ H hlen q => ?_
  have q := he0 _ _ _ (asg_nm (lt_of_ix st.ix) st.io hlen q)
  refine r_lc2 g.calm g.nd (soundI it g.toGood h8) ok (fun i hi => List.contains_iff_mem.mp (List.all_eq_true.mp h3 i hi)) (fun i hi => List.contains_iff_mem.mp (List.all_eq_true.mp h4 i hi)) hsub hown (fun i hi p hp e => ?_) σ H _ q
  have := List.all_eq_true.mp h2 i hi
  have h9 := g.io p hp
  rw [e] at h9
  rw [List.contains_iff_mem.mpr h9] at this
  cases this
theorem isFresh_ok (g : Good c X S C W k) {e : E} (h : isFreshF (fun j => ((c.fns[j]?).map (·.fr)).getD false) e = true) : isFresh C e = true := by
  have e1 : C.fr = fun j => ((c.fns[j]?).map (·.fr)).getD false := funext g.frs
  show isFreshF C.fr e = true
  rw [e1]; exact h
end
mutual
theorem soundS : ∀ (st : Rf.St) {c : Cfg} {X : Cx} {S : Sit} {C : Calls} {W : WX} {k : Nat} {p : Stmt}, GoodS c X S C W k → chkS st c p = true → PS X p (tS S C W st)
  | .asg tg e, c, X, S, C, W, k, p, g, h => by
    simp only [chkS] at h
    split at h
    · rename_i pt pe pos
      rw [Bool.and_eq_true] at h
      obtain ⟨he, h⟩ := h
      split at h
      · rename_i i x px
        rw [Bool.and_eq_true] at h
        obtain ⟨h1, h2⟩ := h
        split at h2
        · rename_i pel gens scope lp
          rcases Bool.or_eq_true _ _ ▸ h2 with h2 | h2
          rotate_left
          · have hne : c.sc.names.lookup x ≠ some .local := of_decide_eq_true h2
            have hne : X.env.kindOf x ≠ some .local := by rw [← g.sc] at hne; exact hne
            refine rs_set g.nd (sto_ok g.toGood h1) (soundE e g.toGood he) ?_
            unfold swapsWith
            show (pure (X.env.blockKind == .function && X.env.kindOf x == some .local && _ && _) : Sem Bool) = pure false
            rw [show (X.env.kindOf x == some .local) = false from beq_eq_false_iff_ne.mpr hne, Bool.and_false, Bool.false_and, Bool.false_and]
          simp only [Bool.and_eq_true, decide_eq_true_eq] at h2
          obtain ⟨⟨⟨h0, h3⟩, h4⟩, h5⟩ := h2
          have key : ∀ (elt tg it cond own) (e0 : E), chkE (.lc elt tg it cond own) c (.ListComp pel gens scope lp) = true → (∀ σ H Q, tDk (isFresh C e0) S C W e0 σ H Q → tDf S C W (.lc elt tg it cond own) σ H Q) → PS X (.Assign [.Name x px] (.ListComp pel gens scope lp) pos) (tS S C W (.asg (.nm i) e0)) := fun elt tg it cond own e0 he h0 => by
            have he2 := he
            simp only [chkE] at he2
            split at he2
            · rename_i heq
              cases heq
              exact rs_setLc g h1 h4 h3 (notB h5) he h0
            · cases he2
          have key2 : ∀ (elt tg it tg1 it1 cond1 own own1) (e0 : E), chkE (.lc2 elt tg it tg1 it1 cond1 own own1) c (.ListComp pel gens scope lp) = true → (∀ σ H Q, tDk (isFresh C e0) S C W e0 σ H Q → tDf S C W (.lc2 elt tg it tg1 it1 cond1 own own1) σ H Q) → PS X (.Assign [.Name x px] (.ListComp pel gens scope lp) pos) (tS S C W (.asg (.nm i) e0)) := fun elt tg it tg1 it1 cond1 own own1 e0 he h0 => by
            have he2 := he
            simp only [chkE] at he2
            split at he2
            · rename_i heq
              cases heq
              exact rs_setLc2 g h1 h4 h3 (notB h5) he h0
            · cases he2
          unfold isLc at h0
          split at h0
          · rename_i elt tg it cond own
            exact key elt tg it cond own _ he fun σ H Q ⟨P, env, O, t, q⟩ => ⟨P, env, O, t, PostG.imp q fun d s1 H1 O1 _ _ _ k v t n => k v ⟨t, n⟩⟩
          · rename_i elt tg it cond own
            exact key elt tg it cond own _ (by simpa only [chkE] using he) fun σ H Q ⟨P, env, O, t, q⟩ => ⟨P, env, O, t, post_fresh (show Post S W P H O σ (evalE C (.lc elt tg it cond own) env) Q from q)⟩
          · rename_i elt tg it tg1 it1 cond1 own own1
            exact key2 elt tg it tg1 it1 cond1 own own1 _ he fun σ H Q ⟨P, env, O, t, q⟩ => ⟨P, env, O, t, PostG.imp q fun d s1 H1 O1 _ _ _ k v t n => k v ⟨t, n⟩⟩
          · rename_i elt tg it tg1 it1 cond1 own own1
            exact key2 elt tg it tg1 it1 cond1 own own1 _ (by simpa only [chkE] using he) fun σ H Q ⟨P, env, O, t, q⟩ => ⟨P, env, O, t, post_fresh (show Post S W P H O σ (evalE C (.lc2 elt tg it tg1 it1 cond1 own own1) env) Q from q)⟩
          · cases h0
        · exact rs_set g.nd (sto_ok g.toGood h1) (soundE e g.toGood he) (noSwap (notB h2))
      · simp only [Bool.and_eq_true] at h
        obtain ⟨⟨h1, h2⟩, h3⟩ := h
        exact rs_tup (dk_D (soundE e g.toGood he)) (soundTg _ g.toGood h1) (fun i q => by cases q) (noSwapSole (notB h2)) (noSwapT h3) rfl
      · cases h
    · cases h
  | .par is es, c, X, S, C, W, k, p, g, h => by
    simp only [chkS] at h
    split at h
    · split at h
      · simp only [Bool.and_eq_true, decide_eq_true_eq] at h
        obtain ⟨⟨⟨⟨h1, h2⟩, h3⟩, h4⟩, h5⟩ := h
        rcases Bool.or_eq_true _ _ ▸ h4 with h4 | h4
        · obtain ⟨w1, w2, w3⟩ := swap2 g.kind g.sc h4
          exact rs_par2 g.calm g.nd (sto_ok g.toGood h1) (sto_ok g.toGood h2) h3 w2 w3 (soundFs _ g.toGood h5) w1
        · exact rs_parC2 g.calm g.nd (sto_ok g.toGood h1) (sto_ok g.toGood h2) h3 (soundFs _ g.toGood h5) (cell2 g.sc h4)
      · cases h
    · split at h
      · simp only [Bool.and_eq_true, decide_eq_true_eq] at h
        obtain ⟨⟨⟨⟨⟨⟨⟨h1, h2⟩, h2'⟩, h3⟩, h3'⟩, h3''⟩, h4⟩, h5⟩ := h
        rcases Bool.or_eq_true _ _ ▸ h4 with h4 | h4
        · obtain ⟨w1, w2, w3, w4⟩ := swap3 g.kind g.sc h4
          exact rs_par3 g.calm g.nd (sto_ok g.toGood h1) (sto_ok g.toGood h2) (sto_ok g.toGood h2') h3 h3' h3'' w2 w3 w4 (soundFs _ g.toGood h5) w1
        · exact rs_parC3 g.calm g.nd (sto_ok g.toGood h1) (sto_ok g.toGood h2) (sto_ok g.toGood h2') h3 h3' h3'' (soundFs _ g.toGood h5) (cell3 g.sc h4)
      · cases h
    · cases h
  | .aug i o e, c, X, S, C, W, k, p, g, h => by
    simp only [chkS] at h
    split at h
    · simp only [Bool.and_eq_true, decide_eq_true_eq] at h
      obtain ⟨⟨h1, rfl⟩, h2⟩ := h
      exact rs_aug g.K g.nd (sto_ok g.toGood h1) (dk_D (soundE e g.toGood h2))
    · cases h
  | .setI v i e, c, X, S, C, W, k, p, g, h => by
    simp only [chkS] at h
    split at h
    · simp only [Bool.and_eq_true] at h
      obtain ⟨⟨⟨⟨h1, h2⟩, h3⟩, h4⟩, h5⟩ := h
      exact rs_setI g.K g.toGood.units (pe_slot g.toGood h1) (dk_D (soundE i g.toGood h4)) (dk_D (soundE e g.toGood h5)) h2 (notB h3) rfl
    · cases h
  | .augI v i o e, c, X, S, C, W, k, p, g, h => by
    simp only [chkS] at h
    split at h
    · simp only [Bool.and_eq_true, decide_eq_true_eq] at h
      obtain ⟨⟨⟨⟨h1, h2⟩, rfl⟩, h4⟩, h5⟩ := h
      exact rs_augI g.K (pe_slot g.toGood h1) (dk_D (soundE i g.toGood h4)) (dk_D (soundE e g.toGood h5)) h2
    · cases h
  | .app v e, c, X, S, C, W, k, p, g, h => by
    simp only [chkS] at h
    split at h
    · simp only [Bool.and_eq_true, decide_eq_true_eq] at h
      obtain ⟨⟨⟨⟨rfl, h1⟩, h2⟩, h3⟩, h4⟩ := h
      exact rs_app (pe_slot g.toGood h1) (dk_D (soundE e g.toGood h4)) h2 h3
    · cases h
  | .ext v e, c, X, S, C, W, k, p, g, h => by
    simp only [chkS] at h
    split at h
    · simp only [Bool.and_eq_true, decide_eq_true_eq] at h
      obtain ⟨⟨⟨⟨rfl, h1⟩, h2⟩, h3⟩, h4⟩ := h
      exact rs_ext (pe_slot g.toGood h1) (dk_D (soundE e g.toGood h4)) h2 h3
    · cases h
  | .expr e, c, X, S, C, W, k, p, g, h => by
    simp only [chkS] at h
    split at h
    · rw [Bool.and_eq_true] at h
      exact rs_expr (dk_D (soundE e g.toGood h.2)) (notB h.1)
    · cases h
  | .ret e, c, X, S, C, W, k, p, g, h => by
    simp only [chkS] at h
    split at h
    · rw [Bool.and_eq_true, Bool.or_eq_true] at h
      have he := soundE e g.toGood h.1
      refine rs_ret (dk_any (dk_D he) fun hf => ?_)
      rcases h.2 with q | q
      · rw [← g.fr, hf] at q; cases q
      · rw [isFresh_ok g.toGood q] at he
        exact dk_uf he
    · cases h
  | .retN, c, X, S, C, W, k, p, g, h => by
    simp only [chkS] at h
    split at h
    · exact rs_retN
    · cases h
  | .pass, c, X, S, C, W, k, p, g, h => by
    simp only [chkS] at h
    split at h
    · exact rs_pass
    · cases h
  | .brk, c, X, S, C, W, k, p, g, h => by
    simp only [chkS] at h
    split at h
    · exact rs_brk
    · cases h
  | .cnt, c, X, S, C, W, k, p, g, h => by
    simp only [chkS] at h
    split at h
    · exact rs_cnt
    · cases h
  | .ifS t a b, c, X, S, C, W, k, p, g, h => by
    simp only [chkS] at h
    split at h
    · simp only [Bool.and_eq_true] at h
      exact rs_if (soundT t g.toGood h.1.1) (soundSs a g h.1.2) (soundSs b g h.2)
    · cases h
  | .forS tg it body, c, X, S, C, W, k, p, g, h => by
    simp only [chkS] at h
    split at h
    · simp only [Bool.and_eq_true] at h
      obtain ⟨⟨⟨h1, h2⟩, h3⟩, h4⟩ := h
      exact rs_for g.own g.calm (soundI it g.toGood h2) (soundTg tg g.toGood h3) (soundSs body g h4) (nset_ok h1)
    · cases h
  | .whl t body, c, X, S, C, W, k, p, g, h => by
    simp only [chkS] at h
    split at h
    · simp only [Bool.and_eq_true] at h
      exact rs_whl g.own (soundT t g.toGood h.1) (soundSs body g h.2)
    · cases h
  | .raise x, c, X, S, C, W, k, p, g, h => by
    simp only [chkS] at h
    split at h
    · simp only [Bool.and_eq_true, decide_eq_true_eq] at h
      obtain ⟨⟨rfl, h1⟩, h2⟩ := h
      obtain ⟨g1, g2, _⟩ := gl_ok g.toGood h2
      exact rs_raise g.K g.calm g.tk (g.excs _ (List.contains_iff_mem.mp h1)) g1 g2
    · cases h
  | .nev, c, X, S, C, W, k, p, g, h => rs_nev
theorem soundSs : ∀ (sts : List Rf.St) {c : Cfg} {X : Cx} {S : Sit} {C : Calls} {W : WX} {k : Nat} {ps : List Stmt}, GoodS c X S C W k → chkSs sts c ps = true → PSs X ps (tSs S C W sts)
  | [], c, X, S, C, W, k, ps, g, h => by
    simp only [chkSs, List.isEmpty_iff] at h
    subst h
    exact rss_nil
  | st :: sts, c, X, S, C, W, k, ps, g, h => by
    simp only [chkSs] at h
    split at h
    · rw [Bool.and_eq_true] at h
      exact rss_cons (soundS st g h.1) (soundSs sts g h.2)
    · cases h
end
end Rf

/-! Rg, part U: how arguments bind; a def keeps its promise; the table. -/
namespace Rf
open PySem PySem.Spec PyProof.Rows L2
theorem lookup_zip {ns : List Str} {us : List Value} {n : Str} (hl : us.length = ns.length) (h : n ∈ ns) : ((ns.zip us).lookup n).isSome = true := by
  induction ns generalizing us with
  | nil => cases h
  | cons m ns ih =>
    cases us with
    | nil => simp at hl
    | cons u us =>
      rw [List.zip_cons_cons, List.lookup_cons]
      by_cases e : n = m
      · subst e; simp
      · rw [show (n == m) = false from beq_eq_false_iff_ne.mpr e]
        exact ih (by simpa using hl) (by rcases List.mem_cons.mp h with h | h; exact absurd h e; exact h)
theorem filterMap_eq {α β : Type} {f g : α → Option β} : ∀ {l : List α}, (∀ a ∈ l, f a = g a) → l.filterMap f = l.filterMap g
  | [], _ => rfl
  | a :: l, h => by
    rw [List.filterMap_cons, List.filterMap_cons, h a List.mem_cons_self, filterMap_eq fun b hb => h b (List.mem_cons_of_mem _ hb)]
theorem binds_zip {ns : List Str} {us : List Value} (hl : us.length = ns.length) (hn : ns.Nodup) : (ns.filterMap fun n => ((ns.zip us).lookup n).map fun v => (n, v)) = ns.zip us := by
  induction ns generalizing us with
  | nil => rfl
  | cons m ns ih =>
    cases us with
    | nil => simp at hl
    | cons u us =>
      have hn := List.nodup_cons.mp hn
      rw [List.zip_cons_cons, List.filterMap_cons]
      have e0 : (((m, u) :: ns.zip us).lookup m) = some u := by rw [List.lookup_cons]; simp
      rw [e0]
      simp only [Option.map_some]
      congr 1
      rw [← ih (us := us) (by simpa using hl) hn.2]
      refine filterMap_eq fun n h => ?_
      have : n ≠ m := fun e => hn.1 (e ▸ h)
      rw [List.lookup_cons, show (n == m) = false from beq_eq_false_iff_ne.mpr this, ih (us := us) (by simpa using hl) hn.2]
theorem bind_simple (x qual : Str) (as : List PySem.Arg) (body : List Stmt) (scope : Scope) (kV doc pm : Value) (an : Option Addr) (cdv ct : Value) (us : List Value) (hl : us.length = as.length) (hn : (as.map (·.arg)).Nodup) :
    bindArgs (PySem.W.fnOf x qual ⟨[], as, none, [], [], none, []⟩ body scope .none kV doc pm an cdv ct) ⟨us, []⟩ = pure ((as.map (·.arg)).zip us) := by
  have hm : ((List.take as.length (as.map (·.arg))).filter fun n => (((as.map (·.arg)).zip us).lookup n).isNone) = [] := by
    rw [show as.length = (as.map (·.arg)).length by simp, List.take_length, List.filter_eq_nil_iff]
    intro n hn
    have := lookup_zip (us := us) (by rw [List.length_map]; exact hl) hn
    cases e : ((as.map (·.arg)).zip us).lookup n with
    | none => rw [e] at this; cases this
    | some v => simp
  have hs : seqItems? Value.none = pure none := rfl
  have hb := binds_zip (us := us) (ns := as.map (·.arg)) (by rw [List.length_map]; exact hl) hn
  unfold bindArgs
  simp [PySem.W.fnOf, hs, hl]
  rw [if_neg (by simp [hm])]
  congr 1
  rw [List.filterMap_map] at hb
  exact hb
theorem bind_args {x qual : Str} {params : Arguments} {ps : List Str} {body : List Stmt} {scope : Scope} (hp : (match params with
    | ⟨[], as, none, [], [], none, []⟩ => decide (as.map (·.arg) = ps)
    | _ => false) = true) (hn : ps.Nodup) (kV doc pm : Value) (an : Option Addr) (cdv ct : Value) (us : List Value) (hl : us.length = ps.length) :
    bindArgs (PySem.W.fnOf x qual params body scope .none kV doc pm an cdv ct) ⟨us, []⟩ = pure (ps.zip us) := by
  split at hp
  · rename_i as
    obtain rfl := of_decide_eq_true hp
    exact bind_simple x qual as body scope kV doc pm an cdv ct us (by rw [hl, List.length_map]) hn
  · cases hp
/-! ### a def, the table -/
def Kd.at_ (nm : Str) : Kd → Str × Option Str
  | .fn => (nm, none)
  | .ini x _ => (x, some "__init__")
  | .eq x => (x, some "__eq__")
  | .meth x m => (x, some m)
structure TD where
  nm : Str
  st : Stmt
  N : List Str
  ps : List Str
  fd : Fn
  qual : Str := nm
  kd : Kd := .fn
  /-- the slots that an __init__'s attributes are set from -/
  is : List Nat := []
def TD.at_ (t : TD) : Str × Option Str := t.kd.at_ t.nm
def TD.sig (t : TD) : Sig := ⟨t.nm, t.fd.ps, t.fd.io, t.fd.fr, t.kd⟩
structure Lib where
  tds : List TD
  free : List Str
  globs : List (Str × D)
  excs : List Str
  clss : List (Str × List Str) := []
  isas : List (Str × Str × Bool) := []
  isbs : List Str := []
def Lib.tab (L : Lib) : Tab := L.tds.map (·.fd)
def TD.io (t : TD) : List Nat := match t.kd with
  | .ini _ _ => [0]
  | _ => t.fd.io
def Lib.cfg (L : Lib) (t : TD) : Cfg := ⟨defScope t.st, defScope t.st, t.N, t.io, t.fd.fr, L.free, L.tds.map TD.sig, L.globs, L.excs, L.clss, L.isas, L.isbs⟩
/-! ### an __init__ -/
mutual
def noRet : Rf.St → Bool
  | .ret _ => false
  | .retN => false
  | .ifS _ a b => noRets a && noRets b
  | .forS _ _ a => noRets a
  | .whl _ a => noRets a
  | _ => true
def noRets : List Rf.St → Bool
  | [] => true
  | s :: r => noRet s && noRets r
end
def isRet : S → Bool
  | .ret _ _ => true
  | _ => false
theorem thn_noRet {α : Type} {r : R α} {f : α → Env → S} (h : ∀ a s, isRet (f a s) = false) : isRet (r.thn f) = false := by
  cases r <;> first | rfl | exact h _ _
theorem optS_noRet {α : Type} {r : Option α} {f : α → S} (h : ∀ a, isRet (f a) = false) : isRet (optS r f) = false := by
  cases r <;> first | rfl | exact h _
theorem forL_noRet {f : D → Env → S} (h : ∀ d s, isRet (f d s) = false) : ∀ (ds : List D) (s : Env), isRet (forL f ds s) = false
  | [], _ => rfl
  | d :: ds, s => by
    have q := h d s
    simp only [forL]
    cases e : f d s with
    | nx s1 => exact forL_noRet h ds s1
    | ct s1 => exact forL_noRet h ds s1
    | bk s1 => rfl
    | ret d s1 => rw [e] at q; cases q
    | stuck => rfl
    | exc y s1 => rfl
theorem whileL_noRet {t : Env → R Bool} {f : Env → S} (h : ∀ s, isRet (f s) = false) : ∀ (n : Nat) (s : Env), isRet (whileL t f n s) = false
  | 0, _ => rfl
  | n + 1, s => by
    simp only [whileL]
    refine thn_noRet fun b s1 => ?_
    split
    · have q := h s1
      cases e : f s1 with
      | nx s1 => exact whileL_noRet h n s1
      | ct s1 => exact whileL_noRet h n s1
      | bk s1 => rfl
      | ret d s1 => rw [e] at q; cases q
      | stuck => rfl
      | exc y s1 => rfl
    · rfl
mutual
theorem noRet_ok {C : Calls} : ∀ (st : Rf.St) (s : Env), noRet st = true → isRet (execS C st s) = false
  | .asg tg e, s, _ => by simp only [execS]; exact thn_noRet fun _ _ => optS_noRet fun _ => rfl
  | .par is es, s, _ => by simp only [execS]; exact thn_noRet fun _ _ => rfl
  | .aug i o e, s, _ => by simp only [execS]; exact thn_noRet fun _ _ => thn_noRet fun _ _ => optS_noRet fun _ => rfl
  | .setI v i e, s, _ => by simp only [execS]; exact thn_noRet fun _ _ => thn_noRet fun _ _ => thn_noRet fun _ _ => thn_noRet fun _ _ => optS_noRet fun _ => rfl
  | .augI v i o e, s, _ => by
    simp only [execS]
    refine thn_noRet fun _ _ => thn_noRet fun _ _ => thn_noRet fun _ _ => ?_
    split
    · split
      · split
        · refine thn_noRet fun _ _ => optS_noRet fun _ => thn_noRet fun _ _ => ?_
          split <;> rfl
        · rfl
      · rfl
    · rfl
  | .app v e, s, _ => by
    simp only [execS]
    refine thn_noRet fun _ _ => thn_noRet fun _ _ => thn_noRet fun _ _ => ?_
    split <;> rfl
  | .ext v e, s, _ => by
    simp only [execS]
    refine thn_noRet fun _ _ => thn_noRet fun _ _ => thn_noRet fun _ _ => ?_
    split
    · split <;> rfl
    · rfl
  | .expr e, s, _ => by simp only [execS]; exact thn_noRet fun _ _ => rfl
  | .ret e, s, h => by simp [noRet] at h
  | .retN, s, h => by simp [noRet] at h
  | .pass, s, _ => rfl
  | .brk, s, _ => rfl
  | .cnt, s, _ => rfl
  | .ifS t a b, s, h => by
    simp only [noRet, Bool.and_eq_true] at h
    simp only [execS]
    refine thn_noRet fun k s1 => ?_
    split
    · exact noRets_ok a s1 h.1
    · exact noRets_ok b s1 h.2
  | .forS tg it a, s, h => by
    simp only [noRet] at h
    simp only [execS]
    exact thn_noRet fun ds s1 => forL_noRet (fun d s2 => optS_noRet fun s3 => noRets_ok a s3 h) ds s1
  | .whl t a, s, h => by
    simp only [noRet] at h
    simp only [execS]
    exact whileL_noRet (fun s2 => noRets_ok a s2 h) _ _
  | .raise x, s, _ => rfl
  | .nev, s, _ => rfl
theorem noRets_ok {C : Calls} : ∀ (sts : List Rf.St) (s : Env), noRets sts = true → isRet (execSs C sts s) = false
  | [], _, _ => rfl
  | st :: r, s, h => by
    simp only [noRets, Bool.and_eq_true] at h
    simp only [execSs]
    have q := noRet_ok (C := C) st s h.1
    cases e : execS C st s with
    | nx s1 => exact noRets_ok r s1 h.2
    | ct s1 => rfl
    | bk s1 => rfl
    | ret d s1 => rw [e] at q; cases q
    | stuck => rfl
    | exc y s1 => rfl
end
theorem execSs_app {C : Calls} : ∀ (a b : List Rf.St) (s : Env), execSs C (a ++ b) s = match execSs C a s with
    | .nx s1 => execSs C b s1
    | x => x
  | [], b, s => rfl
  | st :: a, b, s => by
    simp only [List.cons_append, execSs]
    cases e : execS C st s with
    | nx s1 => exact execSs_app a b s1
    | _ => rfl
/-- self.f = name, one behind another -/
def chkSets (c : Cfg) : List Str → List Nat → List Stmt → Bool
  | [], [], [] => true
  | f :: fs, i :: is, p :: ps => (match p with
    | .Assign [.Attribute (.Name s sp) g _] (.Name y yp) _ => cVar c 0 (.Name s sp) && decide (g = f) && cVar c i (.Name y yp) && chkSets c fs is ps
    | _ => false)
  | _, _, _ => false
def tSets (K : PySem.W.Frag) : List Str → List Nat → TS
  | f :: fs, i :: is => fun D σ H => sFld K (tVar 0) (tVar i) f { D with nx := fun σ' H' => tSets K fs is D σ' H' } σ H
  | _, _ => fun D σ H => D.nx σ H
section
variable {c : Cfg} {X : Cx} {S : Sit} {C : Calls} {W : WX} {k : Nat}
theorem rss_sets (g : Good c X S C W k) : ∀ {fs : List Str} {is : List Nat} {ps : List Stmt}, chkSets c fs is ps = true → PSs X ps (tSets X.K fs is)
  | [], [], [], _ => pss_nil
  | f :: fs, i :: is, p :: ps, h => by
    simp only [chkSets] at h
    split at h
    · simp only [Bool.and_eq_true, decide_eq_true_eq] at h
      obtain ⟨⟨⟨h1, rfl⟩, h2⟩, h3⟩ := h
      exact pss_cons (ps_fld (pe_slot g h1) (pe_slot g h2) rfl) (rss_sets g h3)
    · cases h
  | [], [], _ :: _, h => by simp [chkSets] at h
  | [], _ :: _, _, h => by simp [chkSets] at h
  | _ :: _, [], _, h => by simp [chkSets] at h
  | _ :: _, _ :: _, [], h => by simp [chkSets] at h
/-- statements, then another part -/
def tApp (S : Sit) (C : Calls) (W : WX) (sts : List Rf.St) (t : TS) : TS := fun D σ H => ∃ env O, SR S [] H O env σ ∧ PostS S W H O (execSs C sts env) { D with nx := fun σ' H' => t D σ' H' }
theorem soundApp {pb : List Stmt} {t : TS} (hb : PSs X pb t) : ∀ (sts : List Rf.St) {pa : List Stmt}, GoodS c X S C W k → chkSs sts c pa = true → PSs X (pa ++ pb) (tApp S C W sts t)
  | [], pa, g, h => by
    simp only [chkSs, List.isEmpty_iff] at h
    subst h
    exact PSs.impI hb fun D σ H hl ⟨env, O, s, q⟩ => (show PostS S W H O (.nx env) { D with nx := fun σ' H' => t D σ' H' } from q) H O σ (Ext.refl _ _) s
  | st :: sts, pa, g, h => by
    simp only [chkSs] at h
    split at h
    · rename_i p ps
      rw [Bool.and_eq_true] at h
      refine PSs.impI (pss_cons (soundS st g h.1) (soundApp hb sts g h.2)) fun D σ H hl ⟨env, O, s, q⟩ => ?_
      have q : PostS S W H O (match execS C st env with
        | .nx s1 => execSs C sts s1
        | x => x) { D with nx := fun σ' H' => t D σ' H' } := q
      refine ⟨env, O, s, ?_⟩
      cases hr : execS C st env with
      | stuck => rw [hr] at q; exact False.elim q
      | nx s1 => rw [hr] at q; exact fun H' O' σ' x t => ⟨s1, O', t, PostS.later x q⟩
      | bk s1 => rw [hr] at q; exact q
      | ct s1 => rw [hr] at q; exact q
      | ret d s1 => rw [hr] at q; exact q
      | exc y s1 => rw [hr] at q; exact q
    · cases h
end
def varsOf : List E → Option (List Nat)
  | [] => some []
  | .var i :: r => (varsOf r).map (i :: ·)
  | _ :: _ => none
/-- what stands behind the statements -/
def retIs (is : List Nat) : List Rf.St → Bool
  | [.ret (.tup es)] => decide (varsOf es = some is)
  | _ => false
def slotsV (σ : L2.St) : List Nat → List V → Prop
  | [], us => us = []
  | i :: is, us => ∃ u r, us = u :: r ∧ σ[i]? = some (some u) ∧ slotsV σ is r
theorem varsOf_var : ∀ {e : E} {es : List E} {is : List Nat}, varsOf (e :: es) = some is → ∃ i is', e = .var i ∧ is = i :: is' ∧ varsOf es = some is'
  | .var i, es, is, h => by
    simp only [varsOf] at h
    obtain ⟨is', hv, rfl⟩ := Option.map_eq_some_iff.mp h
    exact ⟨i, is', rfl, rfl, hv⟩
  | .cst _, es, is, h => by simp [varsOf] at h
  | .mov _, es, is, h => by simp [varsOf] at h
  | .glob _ _, es, is, h => by simp [varsOf] at h
  | .sh _, es, is, h => by simp [varsOf] at h
  | .tup _, es, is, h => by simp [varsOf] at h
  | .tupz _, es, is, h => by simp [varsOf] at h
  | .lst _, es, is, h => by simp [varsOf] at h
  | .bin _ _ _, es, is, h => by simp [varsOf] at h
  | .binv _ _ _, es, is, h => by simp [varsOf] at h
  | .neg _, es, is, h => by simp [varsOf] at h
  | .cmp _ _ _, es, is, h => by simp [varsOf] at h
  | .cmpv _ _ _, es, is, h => by simp [varsOf] at h
  | .chain _ _ _ _ _, es, is, h => by simp [varsOf] at h
  | .and _ _, es, is, h => by simp [varsOf] at h
  | .or _ _, es, is, h => by simp [varsOf] at h
  | .not _, es, is, h => by simp [varsOf] at h
  | .ite _ _ _, es, is, h => by simp [varsOf] at h
  | .call _ _, es, is, h => by simp [varsOf] at h
  | .p1 _ _, es, is, h => by simp [varsOf] at h
  | .p2 _ _ _, es, is, h => by simp [varsOf] at h
  | .isi _ _, es, is, h => by simp [varsOf] at h
  | .sub _ _, es, is, h => by simp [varsOf] at h
  | .subv _ _, es, is, h => by simp [varsOf] at h
  | .slc _ _ _, es, is, h => by simp [varsOf] at h
  | .slcv _ _ _, es, is, h => by simp [varsOf] at h
  | .rev _, es, is, h => by simp [varsOf] at h
  | .lc _ _ _ _ _, es, is, h => by simp [varsOf] at h
  | .pop _, es, is, h => by simp [varsOf] at h
  | .popAt _ _, es, is, h => by simp [varsOf] at h
  | .dnew, es, is, h => by simp [varsOf] at h
  | .lrg _ _, es, is, h => by simp [varsOf] at h
  | .idx _ _, es, is, h => by simp [varsOf] at h
  | .nev, es, is, h => by simp [varsOf] at h
  | .mk _ _ _ _, es, is, h => by simp [varsOf] at h
  | .fld _ _ _, es, is, h => by simp [varsOf] at h
  | .isio _ _ _ _, es, is, h => by simp [varsOf] at h
  | .cmpI _ _ _ _ _, es, is, h => by simp [varsOf] at h
  | .lc2 _ _ _ _ _ _ _ _, es, is, h => by simp [varsOf] at h
  | .cnt _ _, es, is, h => by simp [varsOf] at h
theorem vars_ok {S : Sit} {C : Calls} {H : Hp} {σ : L2.St} : ∀ {es : List E} {is : List Nat} {O : Addr → Prop} {env s2 : Env} {fs : List D}, varsOf es = some is → SR S [] H O env σ → evalEs C es env = .ok fs s2 → ∃ O' us, Ext H O H O' ∧ slotsV σ is us ∧ Reps S.K H (S.F O') fs us ∧ fs.length = is.length
  | [], is, O, env, s2, fs, hv, s, h => by
    simp only [varsOf, Option.some.injEq] at hv
    simp only [evalEs, R.ok.injEq] at h
    obtain ⟨rfl, rfl⟩ := h
    subst hv
    exact ⟨O, [], Ext.refl _ _, rfl, .nil, rfl⟩
  | e :: es, is, O, env, s2, fs, hv, s, h => by
    obtain ⟨i, is', rfl, rfl, hv'⟩ := varsOf_var hv
    simp only [evalEs] at h
    have key : ∃ d s1 O1 v, evalE C (.var i) env = .ok d s1 ∧ σ[i]? = some (some v) ∧ Ext H O H O1 ∧ SR S [] H O1 s1 σ ∧ Rep S.K H (S.F O1) d v := by
      show ∃ d s1 O1 v, readR env i = .ok d s1 ∧ _
      have h : (readR env i).bind (fun d s => (evalEs C es s).bind fun ds s => .ok (d :: ds) s) = .ok fs s2 := h
      unfold readR at h ⊢
      split at h
      · rename_i d e
        obtain ⟨v, e1, r⟩ := s.sh i d e
        exact ⟨d, env, O, v, rfl, e1, Ext.refl _ _, s, r⟩
      · rename_i d e
        obtain ⟨v, O', e1, x, s', r⟩ := s.freeze e
        exact ⟨d, _, O', v, rfl, e1, x, s', r⟩
      · cases h
    obtain ⟨d, s1, O1, v, e1, e2, x1, t1, r1⟩ := key
    rw [e1] at h
    have h : (evalEs C es s1).bind (fun ds s => .ok (d :: ds) s) = R.ok fs s2 := h
    cases q : evalEs C es s1 with
    | stuck => rw [q] at h; cases h
    | exc y s3 => rw [q] at h; cases h
    | ok ds s3 =>
      rw [q] at h
      simp only [R.bind, R.ok.injEq] at h
      obtain ⟨rfl, rfl⟩ := h
      obtain ⟨O2, us, x2, sl, rs, hl⟩ := vars_ok hv' t1 q
      exact ⟨O2, v :: us, x1.trans x2, ⟨v, us, rfl, e2, sl⟩, .cons (r1.mono x2.mono) rs, by simp [hl]⟩
theorem vars_noexc {C : Calls} {y : D} {s2 : Env} : ∀ {es : List E} {is : List Nat} {env : Env}, varsOf es = some is → evalEs C es env ≠ .exc y s2
  | [], is, env, hv => fun h => by simp only [evalEs] at h; cases h
  | e :: es, is, env, hv => fun h => by
    obtain ⟨i, is', rfl, rfl, hv'⟩ := varsOf_var hv
    have h : (readR env i).bind (fun d s => (evalEs C es s).bind fun ds s => .ok (d :: ds) s) = .exc y s2 := h
    have key : ∀ d s, ((evalEs C es s).bind fun ds s => R.ok (d :: ds) s) ≠ .exc y s2 := fun d s h => by
      cases q : evalEs C es s with
      | stuck => rw [q] at h; cases h
      | ok ds s3 => rw [q] at h; cases h
      | exc z s3 =>
        rw [q] at h
        cases h
        exact vars_noexc hv' q
    unfold readR at h
    split at h
    · exact key _ _ h
    · exact key _ _ h
    · cases h
theorem putF_new {f : Str} {v : V} : ∀ {fs : List (Str × V)}, f ∉ fs.map (·.1) → putF f v fs = fs ++ [(f, v)]
  | [], _ => rfl
  | (g, x) :: r, h => by
    simp only [List.map_cons, List.mem_cons, not_or] at h
    show (if g = f then (g, v) :: r else (g, x) :: putF f v r) = _
    rw [if_neg (fun e => h.1 e.symm), putF_new h.2]; rfl
theorem upd_upd {H : Hp} {a : Addr} {x y : HO} : upd (upd H a x) a y = upd H a y := by
  funext b
  by_cases hb : b = a
  · subst hb; rw [upd_same, upd_same]
  · rw [upd_ne hb, upd_ne hb, upd_ne hb]
/-- the attributes are set -/
theorem sets_ok {K : PySem.W.Frag} {C a dx : Addr} {D : Ends} {σ : L2.St} {H : Hp} (h0 : σ[0]? = some (some (.ref a))) (hc : Cls K C) : ∀ {fs : List Str} {is : List Nat} {us : List V} {H1 : Hp} {pre : List (Str × V)}, H1 = upd H a (.ins C dx pre) →
    slotsV σ is us → (∀ f ∈ fs, NoAttr K C f) → fs.length = is.length → (pre.map (·.1) ++ fs).Nodup → pre.length + fs.length ≤ 1000 → D.nx σ (upd H a (.ins C dx (pre ++ fs.zip us))) → tSets K fs is D σ H1
  | [], [], us, H1, pre, e, hs, hn, hl, nd, hz, q => by
    obtain rfl : us = [] := hs
    subst e
    show D.nx σ (upd H a (.ins C dx pre))
    simpa using q
  | f :: fs, i :: is, us, H1, pre, e, hs, hn, hl, nd, hz, q => by
    obtain ⟨u, r, rfl, hu, hr⟩ := hs
    subst e
    have hf : f ∉ pre.map (·.1) := fun m => (List.nodup_append.mp nd).2.2 f m f List.mem_cons_self rfl
    refine ⟨u, hu, .ref a, h0, a, C, dx, pre, rfl, upd_same, hc, hn f List.mem_cons_self, by simp at hz; omega, ?_⟩
    refine sets_ok h0 hc (pre := putF f u pre) (us := r) upd_upd hr (fun g hg => hn g (List.mem_cons_of_mem _ hg)) (by simpa using hl) ?_ ?_ ?_
    · rw [putF_new hf, List.map_append, List.append_assoc]; exact nd
    · rw [putF_new hf, List.length_append]; simp at hz ⊢; omega
    · rw [putF_new hf, List.append_assoc]
      simpa using q
  | [], _ :: _, us, H1, pre, e, hs, hn, hl, nd, hz, q => by simp at hl
  | _ :: _, [], us, H1, pre, e, hs, hn, hl, nd, hz, q => by simp at hl
/-! ### the test of a def -/
/-- is the def's body its tree -/
def Lib.okB (L : Lib) (t : TD) : Bool := match t.kd with
  | .ini x ns => decide (t.fd.io = []) && !t.fd.fr && noRets t.fd.body.dropLast && retIs t.is (t.fd.body.drop (t.fd.body.length - 1)) && chkSs t.fd.body.dropLast (L.cfg t) ((defBody t.st).take ((defBody t.st).length - ns.length)) &&
      chkSets (L.cfg t) ns t.is ((defBody t.st).drop ((defBody t.st).length - ns.length)) && decide (ns.length = t.is.length) && decide ns.Nodup && decide (ns.length ≤ 1000) && decide (L.clss.lookup x = some ns) && decide (0 < t.fd.ps)
  | _ => chkSs t.fd.body (L.cfg t) (defBody t.st)
def Lib.ok (L : Lib) (t : TD) : Bool := L.okB t && (match defArgs t.st with
    | ⟨[], as, none, [], [], none, []⟩ => decide (as.map (·.arg) = t.ps)
    | _ => false) && decide (t.fd.n = t.N.length) && decide (t.fd.ps = t.ps.length) && decide (t.N.take t.ps.length = t.ps) && decide ((defScope t.st).kind = .function) && !(defScope t.st).isCoroutine && !(defScope t.st).isGenerator && decide t.N.Nodup &&
  (t.ps.all fun x => decide ((defScope t.st).names.lookup x = some .local) || decide ((defScope t.st).names.lookup x = some .cell)) && ((defScope t.st).names.all fun y => decide (y.2 ≠ .free)) && (t.fd.io.all fun i => decide (i < t.ps.length))
/-- what the module holds -/
structure Facts (L : Lib) (K : PySem.W.Frag) (mg : Str → Option Value) : Prop where
  defs : ∀ t ∈ L.tds, ∃ fd, FunD K t.nm t.qual (defArgs t.st) (defBody t.st) (defScope t.st) [] [] (He.fAd K t.at_) fd
  glo : ∀ t ∈ L.tds, t.kd = .fn → mg t.nm = some (.ref (He.ga K t.nm))
  ini : ∀ t ∈ L.tds, ∀ x ns, t.kd = .ini x ns → mg x = some (.ref (He.ga K x)) ∧ Mk K (He.ga K x) (He.ma K (He.ga K x) "__init__")
  eqs : ∀ t ∈ L.tds, ∀ x, t.kd = .eq x → EqC K (He.ga K x) (He.ma K (He.ga K x) "__eq__")
  free : ∀ x ∈ L.free, mg x = none
  glob : ∀ x d, L.globs.lookup x = some d → ∃ u v, mg x = some u ∧ scl d = some v ∧ RelV v u
  excs : ∀ x ∈ L.excs, mg x = some (.ref (He.ga K x)) ∧ PySem.W.excIn K (He.ga K x) He.veBase "ValueError.__new__" = true ∧ PySem.W.keepIn K (.ref (He.ga K x)) = true ∧ PySem.W.subIn K (.ref (He.ga K x)) (.type "BaseException") = some true ∧ PySem.W.typeIn K (.ref (He.ga K x)) = some (.type "type")
  clss : ∀ x ns, L.clss.lookup x = some ns → ClsF K x ns
  isas : ∀ x y b, (x, y, b) ∈ L.isas → PySem.W.kitOne K (.ref (He.ga K x)) (.ref (He.ga K y)) = some b
  isbs : ∀ y ∈ L.isbs, isbB K y = true ∧ mg y = some (.ref (He.ga K y))
/-- what a def of this kind promises -/
def Kd.sp (kd : Kd) (K : PySem.W.Frag) (cls : Nat → Option Value) (g : List D → CR) (io : List Nat) (fr : Bool) (n : Nat) (N : List Str) : Sp := match kd with
  | .ini x ns => spIn K cls x ns g n N
  | _ => spOf K cls g io fr n N
section
variable {L : Lib} {P : Program} {w : World} {K : PySem.W.Frag} {mg : Str → Option Value} {base : Heap} {cls : Nat → Option Value}
theorem td_scope {t : TD} (h : L.ok t = true) : FnScope t.N t.ps (defScope t.st) := by
  unfold Lib.ok at h
  simp only [Bool.and_eq_true, decide_eq_true_eq] at h
  obtain ⟨⟨⟨⟨⟨⟨⟨⟨⟨⟨⟨h1, h2⟩, h3⟩, h4⟩, h5⟩, h6⟩, h7⟩, h8⟩, h9⟩, h10⟩, h11⟩, h12⟩ := h
  refine ⟨h6, notB h7, notB h8, h9, h5, fun x hx => ?_, fun y hy => of_decide_eq_true (List.all_eq_true.mp h11 y hy)⟩
  have := List.all_eq_true.mp h10 x hx
  simp only [Bool.or_eq_true, decide_eq_true_eq] at this
  exact this
theorem sp_len {kd : Kd} {g : List D → CR} {io : List Nat} {fr : Bool} {n : Nat} {N : List Str} {vs : List V} {H : Hp} {Q : VK} {E : XK} (h : kd.sp K cls g io fr n N vs H Q E) : vs.length = n := by
  cases kd <;> exact h.1
/-- what the def of the place j reckons is what it does -/
theorem table_ok (F : Facts L K mg) (hL : ∀ t ∈ L.tds, L.ok t = true) (wf : Nat) : ∀ (k : Nat) (j : Nat) (t : TD) (fd : FuncData), L.tds[j]? = some t → FunD K t.nm t.qual (defArgs t.st) (defBody t.st) (defScope t.st) [] [] (He.fAd K t.at_) fd → Binds K fd t.ps [] ∧ PySem.W.keepIn K (.ref (He.fAd K t.at_)) = true ∧
    FnOk P w K mg base (L2.CX P w) (2 * k) (He.fAd K t.at_) fd t.ps (t.kd.sp K cls (run L.tab wf k j) t.fd.io t.fd.fr t.fd.ps t.N)
  | k, j, t, fd, hj, hfd => by
    have ht : t ∈ L.tds := List.mem_of_getElem? hj
    have hok := hL t ht
    have hsc := td_scope hok
    have hok2 := hok
    unfold Lib.ok at hok2
    simp only [Bool.and_eq_true, decide_eq_true_eq] at hok2
    obtain ⟨⟨⟨⟨⟨⟨⟨⟨⟨⟨⟨h1, h2⟩, h3⟩, h4⟩, h5⟩, h6⟩, h7⟩, h8⟩, h9⟩, h10⟩, h11⟩, h12⟩ := hok2
    have hps : t.ps.Nodup := by rw [← h5]; exact h9.sublist (List.take_sublist _ _)
    refine ⟨hfd.bindsN (bind_args h2 hps), hfd.kp, ?_⟩
    cases k with
    | zero =>
      exact ⟨fun vs H Q E h => by rw [sp_len h, h4], fun A outer s H args us vs Q E hr he hb hv h => by
        have key : ∀ {kd : Kd}, kd.sp K cls (run L.tab wf 0 j) t.fd.io t.fd.fr t.fd.ps t.N vs H Q E → False := fun {kd} h => by
          cases kd with
          | ini x ns => obtain ⟨_, a, dx, ws, G, ds, _, _, _, _, _, h⟩ := h; exact False.elim h
          | _ => obtain ⟨_, G, O, ds, _, _, h⟩ := h; exact False.elim h
        exact (key h).elim⟩
    | succ k =>
      refine hfd.ok hsc (fun vs H Q E h => by rw [sp_len h, h4]) fun cdv A outer s H vs Q E hr h => ?_
      let C : Calls := ⟨run L.tab wf k, frOf L.tab, wf⟩
      let W : WX := fun c d _ H => E c d H
      have hT : L.tab[j]? = some t.fd := by unfold Lib.tab; rw [List.getElem?_map, hj]; rfl
      have hrun : ∀ ds : List D, ds.length = t.fd.ps → run L.tab wf (k + 1) j ds = finish t.fd (execSs C t.fd.body (enterE t.fd.io 0 ds ++ List.replicate (t.fd.n - t.fd.ps) Sl.no)) := fun ds hds => by
        show (match L.tab[j]? with
          | none => CR.stuck
          | some fd => if ds.length = fd.ps then finish fd (execSs ⟨run L.tab wf k, frOf L.tab, wf⟩ fd.body (enterE fd.io 0 ds ++ List.replicate (fd.n - fd.ps) Sl.no)) else .stuck) = _
        rw [hT]
        simp only [hds, if_true]
        rfl
      have good : ∀ (G : Addr → Prop) (io : List (Nat × V)) (fr : Bool), (∀ p ∈ io, p.1 ∈ t.io) → fr = t.fd.fr → GoodS (L.cfg t) (cxOf (L2.CX P w) P w K mg base t.N t.qual (defScope t.st) (He.fAd K t.at_) cdv A outer s H E) ⟨K, cls, G, io, fr⟩ C W (2 * k) := fun G io fr hio hfr => by
        have tk : Takes (cxOf (L2.CX P w) P w K mg base t.N t.qual (defScope t.st) (He.fAd K t.at_) cdv A outer s H E) W := takes_of rfl rfl rfl rfl
        refine ⟨⟨rfl, rfl, h9, rfl, rfl, fun x h => ⟨h, .inl rfl⟩, hio, hr, tk, F.free, F.glob, fun i sg hi => ?_, fun i => ?_, fun x hx => ?_, F.clss, F.isas, F.isbs⟩, h6, ?_, hfr⟩
        · have hi : (L.tds.map TD.sig)[i]? = some sg := hi
          rw [List.getElem?_map] at hi
          obtain ⟨u, hu, rfl⟩ := Option.map_eq_some_iff.mp hi
          have hum := List.mem_of_getElem? hu
          obtain ⟨fdu, hfu⟩ := F.defs u hum
          obtain ⟨b1, b2, b3⟩ := table_ok F hL wf k i u fdu hu hfu
          have hu2 := hL u hum
          have scu := td_scope hu2
          have hle : u.fd.ps ≤ u.N.length := by
            unfold Lib.ok at hu2
            simp only [Bool.and_eq_true, decide_eq_true_eq] at hu2
            obtain ⟨⟨⟨⟨⟨⟨⟨⟨⟨⟨⟨_, _⟩, _⟩, q4⟩, q5⟩, _⟩, _⟩, _⟩, _⟩, _⟩, _⟩, _⟩ := hu2
            have := congrArg List.length q5
            rw [List.length_take] at this
            omega
          show CalleeK _ _ _ _ _ u.sig
          unfold CalleeK
          have hat : u.at_ = u.kd.at_ u.nm := rfl
          rw [hat] at b2 b3
          show match u.kd with
            | .fn => _
            | .ini x ns => _
            | .eq x => _
            | .meth _ _ => True
          cases hkd : u.kd with
          | fn =>
            rw [hkd] at b2 b3
            exact ⟨_, fdu, u.ps, u.N, F.glo u hum hkd, b2, b1, hle, b3⟩
          | ini x ns =>
            rw [hkd] at b2 b3
            obtain ⟨q1, q2⟩ := F.ini u hum x ns hkd
            exact ⟨fdu, u.ps, u.N, q1, q2, b1, b3⟩
          | eq x =>
            rw [hkd] at b2 b3
            intro z1 z2 z3
            have z1 : u.fd.ps = 2 := z1
            have z2 : u.fd.io = [] := z2
            have z3 : u.fd.fr = false := z3
            have b3 : FnOk P w K mg base (L2.CX P w) (2 * k) (He.ma K (He.ga K x) "__eq__") fdu u.ps (spOf K cls (run L.tab wf k i) u.fd.io u.fd.fr u.fd.ps u.N) := b3
            rw [z1, z2, z3] at b3
            exact ⟨F.eqs u hum x hkd, fdu, u.ps, u.N, b1, by rw [← z1]; exact hle, b3⟩
          | meth x m => trivial
        · show frOf L.tab i = (((L.tds.map TD.sig)[i]?).map (·.fr)).getD false
          unfold frOf Lib.tab
          rw [List.getElem?_map, List.getElem?_map]
          cases L.tds[i]? <;> rfl
        · obtain ⟨a1, a3, a4, a5, a6⟩ := F.excs x hx
          exact ⟨a1, a3, a4, raises_own a5 a6⟩
        · exact passes_of rfl
      have norm : ∀ (hio : t.io = t.fd.io), chkSs t.fd.body (L.cfg t) (defBody t.st) = true → spOf K cls (run L.tab wf (k + 1) j) t.fd.io t.fd.fr t.fd.ps t.N vs H Q E → ∃ t_1, PSs (cxOf (L2.CX P w) P w K mg base t.N t.qual (defScope t.st) (He.fAd K t.at_) cdv A outer s H E) (defBody t.st) t_1 ∧ t_1 { nx := fun _ H' => Q .non H', rt := Q } (start t.N vs) H := fun hio hch h => by
        obtain ⟨hl, G, O, ds, hds, sr, fin⟩ := h
        let S : Sit := ⟨K, cls, G, ioV t.fd.io vs, t.fd.fr⟩
        refine ⟨tSs S C W t.fd.body, soundSs t.fd.body (good G _ _ (fun p hp => ?_) rfl) hch, ?_⟩
        · obtain ⟨i, hi, e⟩ := List.mem_filterMap.mp hp
          obtain ⟨v, hv, rfl⟩ := Option.map_eq_some_iff.mp e
          rw [hio]
          exact hi
        · have hlen : t.N.length - t.fd.ps = t.fd.n - t.fd.ps := by rw [h3]
          rw [hlen] at sr
          refine ⟨_, O, sr, ?_⟩
          rw [hrun ds hds] at fin
          generalize execSs C t.fd.body (enterE t.fd.io 0 ds ++ List.replicate (t.fd.n - t.fd.ps) Sl.no) = r at fin
          cases r with
          | stuck => exact False.elim fin
          | bk s => exact False.elim fin
          | ct s => exact False.elim fin
          | nx s' =>
            unfold finish at fin
            cases ho : outs t.fd.io s' with
            | none => simp only [ho] at fin; exact False.elim fin
            | some o =>
              simp only [ho] at fin
              intro H' O' σ' x tt
              refine fin H' O' s' σ' .non x tt ho ?_
              show if t.fd.fr = true then _ else _
              split
              · exact ⟨rfl, fun c => by cases c⟩
              · rfl
          | ret d s' =>
            unfold finish at fin
            cases ho : outs t.fd.io s' with
            | none => simp only [ho] at fin; exact False.elim fin
            | some o =>
              simp only [ho] at fin
              exact fun H' O' σ' v x tt hv => fin H' O' s' σ' v x tt ho hv
          | exc y s' =>
            unfold finish at fin
            cases ho : outs t.fd.io s' with
            | none => simp only [ho] at fin; exact False.elim fin
            | some o =>
              simp only [ho] at fin
              exact fun c dd H' O' σ' x tt hx => fin c dd H' O' s' σ' x tt ho hx
      cases hkd : t.kd with
      | ini x ns =>
        rw [hkd] at h
        unfold Lib.okB at h1
        rw [hkd] at h1
        simp only [Bool.and_eq_true, decide_eq_true_eq] at h1
        obtain ⟨⟨⟨⟨⟨⟨⟨⟨⟨⟨k1, k2⟩, k3⟩, k4⟩, k5⟩, k6⟩, k7⟩, k8⟩, k9⟩, k10⟩, k11⟩ := h1
        obtain ⟨hl, a, dx, ws, G, ds, rfl, hHa, hGa, hG, rs, fin⟩ := h
        let S : Sit := ⟨K, cls, G, [(0, .ref a)], false⟩
        have cf := F.clss x ns k10
        have hds : (D.fn "" :: ds).length = t.fd.ps := by rw [← hl, List.length_cons, List.length_cons, rs.length]
        have hNl : (V.ref a :: ws).length ≤ t.N.length := by
          have := congrArg List.length h5
          rw [List.length_take] at this
          omega
        have sr0 := SR.enter0 (K := K) (cls := cls) (G := G) (fr := false) (H := H) (N := t.N) (ds := .fn "" :: ds) (vs := .ref a :: ws) hG (.cons trivial rs) hNl
        have sr : SR S [] H (fun _ => False) (enterE [] 0 (.fn "" :: ds) ++ List.replicate (t.N.length - (D.fn "" :: ds).length) .no) (start t.N (.ref a :: ws)) :=
          ⟨sr0.len, sr0.own, sr0.dis, sr0.sh, sr0.ow, sr0.pd, sr0.ne, fun p hp => by
            rcases List.mem_singleton.mp hp with rfl
            exact start_at rfl⟩
        have gd := good G [(0, .ref a)] false (fun p hp => by
          rcases List.mem_singleton.mp hp with rfl
          unfold TD.io
          rw [hkd]
          exact List.mem_singleton.mpr rfl) (notB k2).symm
        refine ⟨tApp S C W t.fd.body.dropLast (tSets K ns t.is), ?_, ?_⟩
        · have := soundApp (rss_sets gd.toGood k6) t.fd.body.dropLast gd k5
          rw [List.take_append_drop] at this
          exact this
        · have hlen : t.N.length - (D.fn "" :: ds).length = t.fd.n - t.fd.ps := by rw [h3, hds]
          rw [hlen] at sr
          refine ⟨_, fun _ => False, sr, ?_⟩
          rw [hrun _ hds, k1] at fin
          -- the body: the statements, the return
          have hbody : ∃ es, t.fd.body = t.fd.body.dropLast ++ [.ret (.tup es)] ∧ varsOf es = some t.is := by
            unfold retIs at k4
            split at k4
            · rename_i es e
              refine ⟨es, ?_, of_decide_eq_true k4⟩
              rw [← e, List.dropLast_eq_take, List.take_append_drop]
            · cases k4
          obtain ⟨es, hb, hv⟩ := hbody
          have nr := noRets_ok (C := C) t.fd.body.dropLast (enterE [] 0 (.fn "" :: ds) ++ List.replicate (t.fd.n - t.fd.ps) Sl.no) k3
          rw [hb, execSs_app] at fin
          generalize execSs C t.fd.body.dropLast (enterE [] 0 (.fn "" :: ds) ++ List.replicate (t.fd.n - t.fd.ps) Sl.no) = r at fin nr
          have ho : ∀ s : Env, outs t.fd.io s = some [] := fun s => by rw [k1]; rfl
          cases r with
          | stuck => exact False.elim fin
          | bk s => exact False.elim fin
          | ct s => exact False.elim fin
          | ret d s' => cases nr
          | exc y s' =>
            have fin : FinI S x ns a dx H (finish t.fd (.exc y s')) Q E := fin
            unfold finish at fin
            simp only [ho] at fin
            exact fun c dd H' O' σ' x tt hx => fin c dd H' O' x (by unfold RepX at *; exact hx)
          | nx s' =>
            have fin : FinI S x ns a dx H (finish t.fd (match (evalE C (.tup es) s').thn fun d s => .ret d s with
              | .nx s1 => .nx s1
              | x => x)) Q E := fin
            have ev : evalE C (.tup es) s' = (evalEs C es s').bind fun ds s => .ok (.tup ds) s := rfl
            rw [ev] at fin
            cases he : evalEs C es s' with
            | stuck => rw [he] at fin; exact False.elim fin
            | exc y s2 =>
              exact absurd he (vars_noexc hv)
            | ok fs s2 =>
              rw [he] at fin
              have fin : FinI S x ns a dx H (finish t.fd (.ret (.tup fs) s2)) Q E := fin
              unfold finish at fin
              simp only [ho] at fin
              obtain ⟨f1, f2⟩ := fin
              intro H' O' σ' xt tt
              obtain ⟨O2, us, x2, sl, rs2, hl2⟩ := vars_ok hv tt he
              have h0 : σ'[0]? = some (some (.ref a)) := tt.io (0, .ref a) (List.mem_singleton.mpr rfl)
              have hHa' : H' a = some (.ins (He.ga K x) dx []) := xt.keep a _ hHa id
              refine sets_ok (D := { nx := fun _ H' => Q .non H', rt := Q }) (dx := dx) (H := H') (pre := []) h0 cf.cl ?_ sl cf.no k7 (by simpa using k8) (by simpa using k9) ?_
              · funext b
                by_cases hb : b = a
                · subst hb; rw [upd_same, hHa']
                · rw [upd_ne hb]
              · exact f2 H' O2 us (xt.trans x2) rs2
      | fn => rw [hkd] at h; unfold Lib.okB at h1; rw [hkd] at h1; exact norm (by unfold TD.io; rw [hkd]) h1 h
      | eq x => rw [hkd] at h; unfold Lib.okB at h1; rw [hkd] at h1; exact norm (by unfold TD.io; rw [hkd]) h1 h
      | meth x m => rw [hkd] at h; unfold Lib.okB at h1; rw [hkd] at h1; exact norm (by unfold TD.io; rw [hkd]) h1 h
end
end Rf

/-! Rg, part V: a law's end. -/
namespace Rf
open PySem PySem.Spec PyProof.Rows L2
theorem fn_cx0 {P : Program} {w : World} {K : PySem.W.Frag} {mg : Str → Option Value} {base : Heap} {k : Nat} {f : Addr} {fd : FuncData} {ps : List Str} {sp : Sp} (F : FnOk P w K mg base (L2.CX P w) k f fd ps sp) :
    FnOk P w K mg base CX0 k f fd ps (fun vs H Q _ => sp vs H Q E0) :=
  ⟨fun vs H Q E h => F.len vs H Q E0 h, fun A outer s H args us vs Q E hr he hb hv h => codeAny_mono (F.run A outer s H args us vs Q E0 hr he hb hv h) fun r s' q => by
    cases r with
    | error e =>
      obtain ⟨_, _, _, _, _, _, _, _, _, _, _, _, z⟩ := q
      exact False.elim z
    | ok fl => cases fl <;> exact q⟩
/-- the head's facts of a lib -/
def Lib.fn (L : Lib) : List He.DefD := L.tds.map fun t => ⟨t.at_, t.nm, t.qual, defArgs t.st, defBody t.st, defScope t.st, [], []⟩
def gFa : Str × D → List He.Fa
  | (x, .int i) => [.int x i]
  | (x, .str z) => [.str x z]
  | _ => []
def tFa (t : TD) : List He.Fa := match t.kd with
  | .fn => [.glo t.nm]
  | .ini x _ => [.glo x, .mkr x]
  | _ => []
def Lib.fa (L : Lib) : List He.Fa := L.tds.flatMap tFa ++ ((L.free.map He.Fa.free) ++ (L.globs.flatMap gFa ++ ((L.excs.flatMap fun x => [He.Fa.glo x, He.Fa.exc x]) ++ L.isbs.map He.Fa.glo)))
def eqB (K : PySem.W.Frag) (t : TD) : Bool := match t.kd with
  | .eq x => He.eqO (PySem.W.findIn K (.ref (He.ga K x)) "__eq__") (some (some (.ref (He.ma K (He.ga K x) "__eq__")))) && PySem.W.isFn K (.ref (He.ma K (He.ga K x) "__eq__")) && neqB K (He.ga K x) (He.ma K (He.ga K x) "__eq__")
  | _ => true
/-- what else is looked at -/
def Lib.ex (L : Lib) (K : PySem.W.Frag) : Bool := (L.clss.all fun p => clsB K p.1 p.2) && (L.isas.all fun p => decide (PySem.W.kitOne K (.ref (He.ga K p.1)) (.ref (He.ga K p.2.1)) = some p.2.2)) && (L.isbs.all fun y => isbB K y) && L.tds.all (eqB K)
def gOk : Str × D → Bool
  | (_, .int _) => true
  | (_, .str _) => true
  | _ => false
theorem lookup_mem {α : Type} {x : Str} {d : α} : ∀ {l : List (Str × α)}, l.lookup x = some d → (x, d) ∈ l
  | [], h => by cases h
  | (y, e) :: l, h => by
    rw [List.lookup_cons] at h
    cases q : (x == y) with
    | true =>
      rw [q] at h
      cases h
      rw [eq_of_beq q]; exact List.mem_cons_self
    | false =>
      rw [q] at h
      exact List.mem_cons_of_mem _ (lookup_mem h)
section
variable {L : Lib} {f : He.Fa}
theorem Lib.fa_eq : L.fa = L.tds.flatMap tFa ++ ((L.free.map He.Fa.free) ++ (L.globs.flatMap gFa ++ ((L.excs.flatMap fun x => [He.Fa.glo x, He.Fa.exc x]) ++ L.isbs.map He.Fa.glo))) := rfl
theorem fa_td {t : TD} (ht : t ∈ L.tds) (h : f ∈ tFa t) : f ∈ L.fa := by
  rw [Lib.fa_eq]; exact List.mem_append_left _ (List.mem_flatMap.mpr ⟨t, ht, h⟩)
theorem fa_free {x : Str} (hx : x ∈ L.free) : He.Fa.free x ∈ L.fa := by
  rw [Lib.fa_eq]; exact List.mem_append_right _ (List.mem_append_left _ (List.mem_map.mpr ⟨x, hx, rfl⟩))
theorem fa_glob {q : Str × D} (hx : q ∈ L.globs) (h : f ∈ gFa q) : f ∈ L.fa := by
  rw [Lib.fa_eq]; exact List.mem_append_right _ (List.mem_append_right _ (List.mem_append_left _ (List.mem_flatMap.mpr ⟨q, hx, h⟩)))
theorem fa_exc {x : Str} (hx : x ∈ L.excs) (h : f ∈ [He.Fa.glo x, He.Fa.exc x]) : f ∈ L.fa := by
  rw [Lib.fa_eq]; exact List.mem_append_right _ (List.mem_append_right _ (List.mem_append_right _ (List.mem_append_left _ (List.mem_flatMap.mpr ⟨x, hx, h⟩))))
theorem fa_isb {x : Str} (hx : x ∈ L.isbs) : He.Fa.glo x ∈ L.fa := by
  rw [Lib.fa_eq]; exact List.mem_append_right _ (List.mem_append_right _ (List.mem_append_right _ (List.mem_append_right _ (List.mem_map.mpr ⟨x, hx, rfl⟩))))
end
theorem lib_facts {L : Lib} {K : PySem.W.Frag} {h : Heap} {mg : Str → Option Value} (X : K.In h) (G : h.Ns mainGlobals mg) (c : He.SaysD L.fa L.fn K) (cx : L.ex K = true) (hg : L.globs.all gOk = true) : Facts L K mg where
  defs := fun t ht => c.defs (d := ⟨t.at_, t.nm, t.qual, defArgs t.st, defBody t.st, defScope t.st, [], []⟩) (List.mem_map.mpr ⟨t, ht, rfl⟩)
  glo := fun t ht hk => He.glo_ok X G (c.facts (fa_td (f := .glo t.nm) ht (by unfold tFa; rw [hk]; exact List.mem_singleton.mpr rfl)))
  ini := fun t ht x ns hk => ⟨He.glo_ok X G (c.facts (fa_td (f := .glo x) ht (by unfold tFa; rw [hk]; exact List.mem_cons_self))), He.mkr_ok (c.facts (fa_td (f := .mkr x) ht (by unfold tFa; rw [hk]; exact List.mem_cons_of_mem _ List.mem_cons_self)))⟩
  eqs := fun t ht x hk => by
    unfold Lib.ex at cx
    simp only [Bool.and_eq_true] at cx
    have := List.all_eq_true.mp cx.2 t ht
    unfold eqB at this
    rw [hk] at this
    simp only [Bool.and_eq_true] at this
    exact ⟨He.eqO_ok this.1.1, this.1.2, this.2⟩
  free := fun x hx => He.free_ok X G (c.facts (fa_free hx))
  glob := fun x d hd => by
    have hm := lookup_mem hd
    have ho := List.all_eq_true.mp hg _ hm
    cases d <;> try (cases ho; done)
    · rename_i i
      obtain ⟨t, e⟩ := He.int_ok X G (c.facts (fa_glob (f := .int x i) hm (List.mem_singleton.mpr rfl)))
      exact ⟨_, _, e, rfl, t, rfl⟩
    · rename_i z
      obtain ⟨t, e⟩ := He.str_ok X G (c.facts (fa_glob (f := .str x z) hm (List.mem_singleton.mpr rfl)))
      exact ⟨_, _, e, rfl, t, rfl⟩
  excs := fun x hx => by
    have h1 := He.glo_ok X G (c.facts (fa_exc (f := .glo x) hx List.mem_cons_self))
    obtain ⟨h2, h3, h4, h5⟩ := He.exc_ok (c.facts (fa_exc (f := .exc x) hx (List.mem_cons_of_mem _ List.mem_cons_self)))
    exact ⟨h1, h2, h3, h4, h5⟩
  clss := fun x ns hx => by
    unfold Lib.ex at cx
    simp only [Bool.and_eq_true] at cx
    have e := List.all_eq_true.mp cx.1.1.1 (x, ns) (lookup_mem hx)
    dsimp only at e
    exact clsB_ok e
  isas := fun x y b hx => by
    unfold Lib.ex at cx
    simp only [Bool.and_eq_true] at cx
    have e := List.all_eq_true.mp cx.1.1.2 (x, y, b) hx
    dsimp only at e
    exact of_decide_eq_true e
  isbs := fun y hy => by
    refine ⟨?_, He.glo_ok X G (c.facts (fa_isb hy))⟩
    unfold Lib.ex at cx
    simp only [Bool.and_eq_true] at cx
    exact List.all_eq_true.mp cx.1.2 y hy
/-- the law's def at the place j: told true -/
theorem law_fn {L : Lib} {P : Program} {w : World} {K : PySem.W.Frag} {h : Heap} {mg : Str → Option Value} {f : Addr} {j k wf : Nat} {t : TD} {n : Nat} {x : Str} (X : K.In h) (G : h.Ns mainGlobals mg) (c : He.SaysD L.fa L.fn K) (cx : L.ex K = true) (hg : L.globs.all gOk = true) (hL : (L.tds.all fun t => L.ok t) = true)
    (hj : L.tds[j]? = some t) (hkd : t.kd = .fn) (hp : t.ps = [x]) (hio : t.fd.io = []) (hfr : t.fd.fr = false) (hn : t.fd.ps = 1) (hmg : mg t.nm = some (.ref f)) (hrun : ∀ ns : List Int, ns.length ≤ n → run L.tab wf k j [.scr ns] = .ok (.bl true) []) :
    ∃ (fd : FuncData) (sp : Sp), (∀ (s : Shared) (u : Value), BindsTo s fd ⟨[u], []⟩ [(x, u)]) ∧
      (∀ (H : Hp) (a : Addr) (ns : List Int), ns.length ≤ n → L2.Only H → SqL K H a (ns.map V.int) → sp [.ref a] H (fun v _ => v = .bl true) fun _ _ _ => False) ∧
      ∀ base : Heap, K.In base → base.Ns mainGlobals mg → FnOk P w K mg base CX0 (2 * k) f fd [x] sp := by
  have hL' : ∀ t ∈ L.tds, L.ok t = true := fun t ht => List.all_eq_true.mp hL t ht
  have F := lib_facts X G c cx hg
  have ht : t ∈ L.tds := List.mem_of_getElem? hj
  have e := hmg.symm.trans (F.glo t ht hkd)
  cases e
  obtain ⟨fd, hfd⟩ := F.defs t ht
  have hok := hL' t ht
  have hb : (match defArgs t.st with
    | ⟨[], as, none, [], [], none, []⟩ => decide (as.map (·.arg) = t.ps)
    | _ => false) = true := by
    unfold Lib.ok at hok
    simp only [Bool.and_eq_true] at hok
    exact hok.1.1.1.1.1.1.1.1.1.1.2
  have sc := td_scope hok
  have hps : t.ps.Nodup := by rw [← sc.pre]; exact sc.nd.sublist (List.take_sublist _ _)
  refine ⟨fd, fun vs H Q _ => spOf K (fun _ => none) (run L.tab wf k j) [] false 1 t.N vs H Q E0, fun s u => ?_, fun H a ns hlen hO hS => ?_, fun base hKb hGb => ?_⟩
  · have := hfd.bindsA (ps := t.ps) (bind_args hb hps) s [u] (by rw [hp]; rfl)
    rw [hp] at this
    exact this
  · refine ⟨rfl, fun _ => False, fun _ => False, [.scr ns], rfl, ⟨?_, fun a h => by rcases h with h | h <;> exact False.elim h, fun a h => False.elim h, fun i d e => ?_, fun i d e => ?_, fun p hp => (nomatch hp), fun x y v h1 h2 => ?_, fun p hp => (nomatch hp)⟩, ?_⟩
    · have hle : 1 ≤ t.N.length := by
        have := congrArg List.length sc.pre
        rw [List.length_take, hp] at this
        simp at this
        omega
      rw [List.length_append, enterE_len, List.length_replicate, start_len (by simpa using hle)]
      simp; omega
    · rcases enter_sl e with e | ⟨d', hd, e⟩
      · cases e
      · cases i with
        | zero =>
          simp at hd
          subst hd
          cases e
          exact ⟨_, start_at rfl, a, rfl, hS.elim (fun r => .inl ⟨r, fun h => h.elim id id⟩) .inr⟩
        | succ i => simp at hd
    · rcases enter_sl e with e | ⟨d', hd, e⟩
      · cases e
      · cases e
    · cases x with
      | inl i =>
        obtain ⟨d, e, _, _⟩ := rt_inl.mp h1
        rcases enter_sl e with e | ⟨d', hd, e⟩
        · cases e
        · cases e
      | inr i =>
        obtain ⟨d, e, _⟩ := rt_inr.mp h1
        simp at e
    · rw [hrun ns hlen]
      intro H' O' s σ' v xt tt ho hv
      exact hv
  · obtain ⟨b1, b2, FK⟩ := table_ok (cls := fun _ => none) (P := P) (w := w) (base := base) F hL' wf k j t fd hj hfd
    rw [hkd, hp, hio, hfr, hn] at FK
    have hat : t.at_ = (t.nm, none) := by unfold TD.at_; rw [hkd]; rfl
    rw [hat] at FK
    exact fn_cx0 FK
end Rf

/-! Rg, part W: reckoning runs. -/
namespace Rf
open PySem
/-- ties a part of a term, so that rewriting leaves it as it stands -/
inductive Tag {α : Type} (a : α) : Type where
  | mk
/-- `bind`, its second part tied -/
def R.bnd {α β : Type} (r : R α) (f : α → Env → R β) (_ : Tag f := .mk) : R β := r.bind f
/-- `thn`, its second part tied -/
def R.tho {α : Type} (r : R α) (f : α → Env → Rf.S) (_ : Tag f := .mk) : Rf.S := r.thn f
/-- `finish`, its function tied -/
def finW (fd : Fn) (r : Rf.S) (_ : Tag fd := .mk) : CR := Rf.finish fd r
/-- the calls of a table at a level -/
def cl (T : Tab) (w k : Nat) : Calls := ⟨run T w k, frOf T, w⟩
theorem run_def {T : Tab} {w k f : Nat} {fd : Fn} {ds : List D} (hT : T[f]? = some fd) (hl : ds.length = fd.ps) :
    run T w (k + 1) f ds = Rf.finW fd (execSs (cl T w k) fd.body (enterE fd.io 0 ds ++ List.replicate (fd.n - fd.ps) Sl.no)) := by
  show (match T[f]? with
    | none => CR.stuck
    | some fd => if ds.length = fd.ps then Rf.finish fd (execSs ⟨run T w k, frOf T, w⟩ fd.body (enterE fd.io 0 ds ++ List.replicate (fd.n - fd.ps) Sl.no)) else .stuck) = _
  rw [hT]
  simp only [hl, if_true]
  rfl
@[simp] theorem cl_fn {T : Tab} {w k : Nat} : (cl T w k).fn = run T w k := rfl
@[simp] theorem cl_fr {T : Tab} {w k : Nat} : (cl T w k).fr = frOf T := rfl
@[simp] theorem cl_fuel {T : Tab} {w k : Nat} : (cl T w k).fuel = w := rfl
theorem fr_of {T : Tab} {f : Nat} {fd : Fn} (hT : T[f]? = some fd) : frOf T f = fd.fr := by unfold frOf; rw [hT]
section
variable {α β : Type} {a : α} {s : Env} {x : D} {f : α → Env → R β} {g : α → Env → Rf.S} {h : α → Rf.S}
@[simp] theorem bind_ok : (R.ok a s).bind f = f a s := Eq.trans rfl rfl
@[simp] theorem bind_exc : (R.exc x s : R α).bind f = .exc x s := Eq.trans rfl rfl
@[simp] theorem bind_stuck : (R.stuck : R α).bind f = .stuck := Eq.trans rfl rfl
@[simp] theorem thn_ok : (R.ok a s).thn g = g a s := Eq.trans rfl rfl
@[simp] theorem thn_exc : (R.exc x s : R α).thn g = .exc x s := Eq.trans rfl rfl
@[simp] theorem thn_stuck : (R.stuck : R α).thn g = .stuck := Eq.trans rfl rfl
@[simp] theorem bnd_ok : (R.ok a s).bnd f = f a s := Eq.trans rfl rfl
@[simp] theorem bnd_exc : (R.exc x s : R α).bnd f = .exc x s := Eq.trans rfl rfl
@[simp] theorem bnd_stuck : (R.stuck : R α).bnd f = .stuck := Eq.trans rfl rfl
@[simp] theorem tho_ok : (R.ok a s).tho g = g a s := Eq.trans rfl rfl
@[simp] theorem tho_exc : (R.exc x s : R α).tho g = .exc x s := Eq.trans rfl rfl
@[simp] theorem tho_stuck : (R.stuck : R α).tho g = .stuck := Eq.trans rfl rfl
@[simp] theorem optR_some : optR (some a) s = .ok a s := Eq.trans rfl rfl
@[simp] theorem optR_none : optR (none : Option α) s = .stuck := Eq.trans rfl rfl
@[simp] theorem optS_some : optS (some a) h = h a := Eq.trans rfl rfl
@[simp] theorem optS_none : optS (none : Option α) h = .stuck := Eq.trans rfl rfl
end
section
variable {C : Calls} {s s1 : Env} {st : Rf.St} {r : List Rf.St} {d x : D}
/-- first this, then that -/
def seqS (r : Rf.S) (f : Env → Rf.S) (_ : Tag f := .mk) : Rf.S := match r with
  | .nx s1 => f s1
  | x => x
theorem ss_nil : execSs C [] s = .nx s := Eq.trans rfl rfl
theorem ss_cons : execSs C (st :: r) s = seqS (execS C st s) (execSs C r) := Eq.trans rfl rfl
variable {f : Env → Rf.S} {cls : D}
@[simp] theorem seq_nx : seqS (.nx s) f = f s := Eq.trans rfl rfl
@[simp] theorem seq_bk : seqS (.bk s) f = .bk s := Eq.trans rfl rfl
@[simp] theorem seq_ct : seqS (.ct s) f = .ct s := Eq.trans rfl rfl
@[simp] theorem seq_ret : seqS (.ret d s) f = .ret d s := Eq.trans rfl rfl
@[simp] theorem seq_exc : seqS (.exc d s) f = .exc d s := Eq.trans rfl rfl
@[simp] theorem seq_stuck : seqS .stuck f = .stuck := Eq.trans rfl rfl
end
section
variable {a b : Int} {p q : Bool} {ds es : List D} {x : Str} {d : D}
@[simp] theorem isTy_non_int : isTy .non .int = some false := rfl
@[simp] theorem isTy_non_bool : isTy .non .bool = some false := rfl
@[simp] theorem isTy_non_str : isTy .non .str = some false := rfl
@[simp] theorem isTy_non_tuple : isTy .non .tuple = some false := rfl
@[simp] theorem isTy_non_list : isTy .non .list = some false := rfl
@[simp] theorem isTy_non_dict : isTy .non .dict = some false := rfl
@[simp] theorem isTy_bl_int : isTy (.bl p) .int = some true := rfl
@[simp] theorem isTy_bl_bool : isTy (.bl p) .bool = some true := rfl
@[simp] theorem isTy_bl_str : isTy (.bl p) .str = some false := rfl
@[simp] theorem isTy_bl_tuple : isTy (.bl p) .tuple = some false := rfl
@[simp] theorem isTy_bl_list : isTy (.bl p) .list = some false := rfl
@[simp] theorem isTy_bl_dict : isTy (.bl p) .dict = some false := rfl
@[simp] theorem isTy_int_int : isTy (.int a) .int = some true := rfl
@[simp] theorem isTy_int_bool : isTy (.int a) .bool = some false := rfl
@[simp] theorem isTy_int_str : isTy (.int a) .str = some false := rfl
@[simp] theorem isTy_int_tuple : isTy (.int a) .tuple = some false := rfl
@[simp] theorem isTy_int_list : isTy (.int a) .list = some false := rfl
@[simp] theorem isTy_int_dict : isTy (.int a) .dict = some false := rfl
@[simp] theorem isTy_str_int : isTy (.str x) .int = some false := rfl
@[simp] theorem isTy_str_bool : isTy (.str x) .bool = some false := rfl
@[simp] theorem isTy_str_str : isTy (.str x) .str = some true := rfl
@[simp] theorem isTy_str_tuple : isTy (.str x) .tuple = some false := rfl
@[simp] theorem isTy_str_list : isTy (.str x) .list = some false := rfl
@[simp] theorem isTy_str_dict : isTy (.str x) .dict = some false := rfl
@[simp] theorem isTy_tup_int : isTy (.tup ds) .int = some false := rfl
@[simp] theorem isTy_tup_bool : isTy (.tup ds) .bool = some false := rfl
@[simp] theorem isTy_tup_str : isTy (.tup ds) .str = some false := rfl
@[simp] theorem isTy_tup_tuple : isTy (.tup ds) .tuple = some true := rfl
@[simp] theorem isTy_tup_list : isTy (.tup ds) .list = some false := rfl
@[simp] theorem isTy_tup_dict : isTy (.tup ds) .dict = some false := rfl
@[simp] theorem isTy_lst_int : isTy (.lst ds) .int = some false := rfl
@[simp] theorem isTy_lst_bool : isTy (.lst ds) .bool = some false := rfl
@[simp] theorem isTy_lst_str : isTy (.lst ds) .str = some false := rfl
@[simp] theorem isTy_lst_tuple : isTy (.lst ds) .tuple = some false := rfl
@[simp] theorem isTy_lst_list : isTy (.lst ds) .list = some true := rfl
@[simp] theorem isTy_lst_dict : isTy (.lst ds) .dict = some false := rfl
@[simp] theorem isTys_nil : isTys d [] = some false := Eq.trans rfl rfl
theorem isTys_cons {t : Ty} {r : List Ty} : isTys d (t :: r) = (match isTy d t with
    | some true => some true
    | some false => isTys d r
    | none => none) := rfl
@[simp] theorem truth_non : truth .non = some false := Eq.trans rfl rfl
@[simp] theorem truth_bl : truth (.bl p) = some p := Eq.trans rfl rfl
@[simp] theorem truth_int : truth (.int a) = some (decide (a ≠ 0)) := Eq.trans rfl rfl
@[simp] theorem truth_tup : truth (.tup ds) = some (!ds.isEmpty) := Eq.trans rfl rfl
@[simp] theorem truth_lst : truth (.lst ds) = some (!ds.isEmpty) := Eq.trans rfl rfl
@[simp] theorem bin_add : bin .add (.int a) (.int b) = some (.int (a + b)) := Eq.trans rfl rfl
@[simp] theorem bin_sub : bin .sub (.int a) (.int b) = some (.int (a - b)) := Eq.trans rfl rfl
theorem bin_mul (h : mulOk a b = true) : bin .mul (.int a) (.int b) = some (.int (a * b)) := by simp only [bin, h, if_true]
theorem bin_fdiv (h : divOk b = true) : bin .fdiv (.int a) (.int b) = some (.int (a / b)) := by simp only [bin, h, if_true]
theorem bin_mod (h : 0 < b) : bin .mod (.int a) (.int b) = some (.int (a % b)) := by simp only [bin, h, if_true]
theorem bin_catL (h : ds.length + es.length ≤ sizeLine) : bin .add (.lst ds) (.lst es) = some (.lst (ds ++ es)) := by simp only [bin, h, if_true]
theorem bin_catT (h : ds.length + es.length ≤ sizeLine) : bin .add (.tup ds) (.tup es) = some (.tup (ds ++ es)) := by simp only [bin, h, if_true]
theorem mulOk_r (h : b.natAbs < 2 ^ 64) : mulOk a b = true := by simp [mulOk, h]
theorem mulOk_l (h : a.natAbs < 2 ^ 64) : mulOk a b = true := by simp [mulOk, h]
theorem divOk_s (h : 0 < b) (h2 : b < 1073741824) : divOk b = true := by simp [divOk, h, h2]
@[simp] theorem iop_add' : iop .add (.int a) (.int b) = some (.int (a + b)) := Eq.trans rfl rfl
@[simp] theorem iop_sub' : iop .sub (.int a) (.int b) = some (.int (a - b)) := Eq.trans rfl rfl
@[simp] theorem cmp_lt : cmp .lt (.int a) (.int b) = some (decide (a < b)) := Eq.trans rfl rfl
@[simp] theorem cmp_le : cmp .le (.int a) (.int b) = some (decide (a ≤ b)) := Eq.trans rfl rfl
@[simp] theorem cmp_gt : cmp .gt (.int a) (.int b) = some (decide (b < a)) := Eq.trans rfl rfl
@[simp] theorem cmp_ge : cmp .ge (.int a) (.int b) = some (decide (b ≤ a)) := Eq.trans rfl rfl
theorem dep0 : decide ((0 : Nat) ≤ 60) = true := rfl
@[simp] theorem cmpb_int : cmpb (.int a) = true := rfl
@[simp] theorem cmpb_bl : cmpb (.bl p) = true := rfl
@[simp] theorem cmpb_non : cmpb .non = true := rfl
@[simp] theorem cmp_eq_int : cmp .eq (.int a) (.int b) = some (decide (a = b)) := Eq.trans rfl rfl
@[simp] theorem cmp_ne_int : cmp .ne (.int a) (.int b) = some (!decide (a = b)) := Eq.trans rfl rfl
@[simp] theorem cmp_eq_bl : cmp .eq (.bl p) (.bl q) = some (p == q) := Eq.trans rfl rfl
@[simp] theorem cmp_ne_bl : cmp .ne (.bl p) (.bl q) = some (!(p == q)) := Eq.trans rfl rfl
@[simp] theorem cmp_is_bl2 : cmp .is (.bl p) (.bl q) = some (decide (p = q)) := Eq.trans rfl rfl
@[simp] theorem cmp_isnot_bl2 : cmp .isnot (.bl p) (.bl q) = some (!decide (p = q)) := Eq.trans rfl rfl
@[simp] theorem cmp_isnot_non : cmp .isnot .non .non = some false := Eq.trans rfl rfl
@[simp] theorem cmp_isnot_int : cmp .isnot (.int a) .non = some true := Eq.trans rfl rfl
@[simp] theorem cmp_is_non : cmp .is .non .non = some true := Eq.trans rfl rfl
@[simp] theorem cmp_is_int : cmp .is (.int a) .non = some false := Eq.trans rfl rfl
@[simp] theorem cmp_is_bl : cmp .is (.bl p) .non = some false := Eq.trans rfl rfl
@[simp] theorem cmp_is_str : cmp .is (.str x) .non = some false := Eq.trans rfl rfl
@[simp] theorem cmp_is_tup : cmp .is (.tup ds) .non = some false := Eq.trans rfl rfl
@[simp] theorem cmp_is_lst : cmp .is (.lst ds) .non = some false := Eq.trans rfl rfl
@[simp] theorem p1_len_lst : p1 .len (.lst ds) = some (.int ds.length) := Eq.trans rfl rfl
@[simp] theorem p1_len_tup : p1 .len (.tup ds) = some (.int ds.length) := Eq.trans rfl rfl
@[simp] theorem p1_int_int : p1 .int (.int a) = some (.int a) := Eq.trans rfl rfl
@[simp] theorem p1_abs_int : p1 .abs (.int a) = some (.int (if a < 0 then -a else a)) := Eq.trans rfl rfl
@[simp] theorem p1_tuple_lst : p1 .tuple (.lst ds) = some (.tup ds) := Eq.trans rfl rfl
@[simp] theorem p1_tuple_tup : p1 .tuple (.tup ds) = some (.tup ds) := Eq.trans rfl rfl
@[simp] theorem p1_list_lst : p1 .list (.lst ds) = some (.lst ds) := Eq.trans rfl rfl
@[simp] theorem p1_list_tup : p1 .list (.tup ds) = some (.lst ds) := Eq.trans rfl rfl
@[simp] theorem p2_min_int : p2 .min (.int a) (.int b) = some (.int (if b < a then b else a)) := Eq.trans rfl rfl
@[simp] theorem p2_max_int : p2 .max (.int a) (.int b) = some (.int (if b > a then b else a)) := Eq.trans rfl rfl
@[simp] theorem isC_non : isC .non = false := rfl
@[simp] theorem isC_bl : isC (.bl p) = false := rfl
@[simp] theorem isC_int : isC (.int a) = false := rfl
@[simp] theorem isC_str : isC (.str x) = false := rfl
@[simp] theorem isC_tup : isC (.tup ds) = false := rfl
@[simp] theorem isC_lst' : isC (.lst ds) = true := rfl
@[simp] theorem mkSl_f : mkSl false d = .sh d := Eq.trans rfl rfl
@[simp] theorem mkSl_non {b : Bool} : mkSl b .non = .sh .non := by cases b <;> rfl
@[simp] theorem mkSl_bl {b : Bool} : mkSl b (.bl p) = .sh (.bl p) := by cases b <;> rfl
@[simp] theorem mkSl_int {b : Bool} : mkSl b (.int a) = .sh (.int a) := by cases b <;> rfl
@[simp] theorem mkSl_str {b : Bool} : mkSl b (.str x) = .sh (.str x) := by cases b <;> rfl
@[simp] theorem mkSl_tup {b : Bool} : mkSl b (.tup ds) = .sh (.tup ds) := by cases b <;> rfl
@[simp] theorem mkSl_lst : mkSl true (.lst ds) = .ow (.lst ds) := Eq.trans rfl rfl
@[simp] theorem seqOf_lst : seqOf (.lst ds) = some ds := Eq.trans rfl rfl
@[simp] theorem seqOf_tup : seqOf (.tup ds) = some ds := Eq.trans rfl rfl
@[simp] theorem bindT_nm {fr : Bool} {i : Nat} {s : Env} : bindT fr (.nm i) d s = some (s.set i (mkSl fr d)) := Eq.trans rfl rfl
@[simp] theorem fin_nx {fd : Fn} {s : Env} : Rf.finW fd (.nx s) = (match outs fd.io s with
    | some o => .ok .non o
    | none => .stuck) := Eq.trans rfl rfl
@[simp] theorem fin_ret {fd : Fn} {s : Env} : Rf.finW fd (.ret d s) = (match outs fd.io s with
    | some o => .ok d o
    | none => .stuck) := Eq.trans rfl rfl
@[simp] theorem fin_exc {fd : Fn} {s : Env} : Rf.finW fd (.exc d s) = (match outs fd.io s with
    | some o => .exc d o
    | none => .stuck) := Eq.trans rfl rfl
/-! items -/
@[simp] theorem item_lst_ {i : Int} : item (.lst ds) (.int i) = L2.atI ds i := Eq.trans rfl rfl
@[simp] theorem item_tup_ {i : Int} : item (.tup ds) (.int i) = L2.atI ds i := Eq.trans rfl rfl
theorem ixN_nat {n i : Nat} (h : i < n) : ixN n (i : Int) = some i := by
  show L2.ixN n (i : Int) = some i
  unfold L2.ixN
  rw [if_pos (by omega), if_pos (by omega)]
  simp
theorem item_lst {i : Nat} (h : ds[i]? = some d) : item (.lst ds) (.int (i : Int)) = some d := L2.atI_nat h
theorem item_tup {i : Nat} (h : ds[i]? = some d) : item (.tup ds) (.int (i : Int)) = some d := L2.atI_nat h
@[simp] theorem isTy_tpz_int : isTy (.tpz ds) .int = some false := rfl
@[simp] theorem isTy_tpz_bool : isTy (.tpz ds) .bool = some false := rfl
@[simp] theorem isTy_tpz_str : isTy (.tpz ds) .str = some false := rfl
@[simp] theorem isTy_tpz_tuple : isTy (.tpz ds) .tuple = some true := rfl
@[simp] theorem isTy_tpz_list : isTy (.tpz ds) .list = some false := rfl
@[simp] theorem isTy_tpz_dict : isTy (.tpz ds) .dict = some false := rfl
@[simp] theorem truth_tpz : truth (.tpz ds) = some (!ds.isEmpty) := Eq.trans rfl rfl
@[simp] theorem cmp_is_tpz : cmp .is (.tpz ds) .non = some false := Eq.trans rfl rfl
@[simp] theorem p1_len_tpz : p1 .len (.tpz ds) = some (.int ds.length) := Eq.trans rfl rfl
@[simp] theorem p1_tuple_tpz : p1 .tuple (.tpz ds) = some (.tpz ds) := Eq.trans rfl rfl
@[simp] theorem p1_tuplez_lst : p1 .tuplez (.lst ds) = some (.tpz ds) := Eq.trans rfl rfl
@[simp] theorem p1_tuplez_tpz : p1 .tuplez (.tpz ds) = some (.tpz ds) := Eq.trans rfl rfl
@[simp] theorem p1_list_tpz : p1 .list (.tpz ds) = some (.lst ds) := Eq.trans rfl rfl
@[simp] theorem isC_tpz : isC (.tpz ds) = false := rfl
@[simp] theorem isC_ins {ns : List Str} : isC (.ins x ns ds) = false := rfl
@[simp] theorem isC_fn : isC (.fn x) = false := rfl
@[simp] theorem isC_dic : isC (.dic ds es) = true := rfl
@[simp] theorem mkSl_tpz {b : Bool} : mkSl b (.tpz ds) = .sh (.tpz ds) := by cases b <;> rfl
@[simp] theorem mkSl_ins {b : Bool} {ns : List Str} : mkSl b (.ins x ns ds) = .sh (.ins x ns ds) := by cases b <;> rfl
@[simp] theorem seqOf_tpz : seqOf (.tpz ds) = some ds := Eq.trans rfl rfl
@[simp] theorem item_tpz_ {i : Int} : item (.tpz ds) (.int i) = L2.atI ds i := Eq.trans rfl rfl
theorem item_tpz {i : Nat} (h : ds[i]? = some d) : item (.tpz ds) (.int (i : Int)) = some d := L2.atI_nat h
end
end Rf

/-! Rg, part X: loops; what all laws share: the hand, draws. -/
namespace Rf
open PySem
/-! ### each step -/
theorem ev_cst {C : Calls} {d : D} {s : Env} : evalE C (.cst d) s = (.ok d s) := Eq.trans rfl rfl
theorem ev_var {C : Calls} {i : Nat} {s : Env} : evalE C (.var i) s = (readR s i) := Eq.trans rfl rfl
theorem ev_mov {C : Calls} {i : Nat} {s : Env} : evalE C (.mov i) s = (moveR s i) := Eq.trans rfl rfl
theorem ev_glob {C : Calls} {z0 : Str} {d : D} {s : Env} : evalE C (.glob z0 d) s = (.ok d s) := Eq.trans rfl rfl
theorem ev_sh {C : Calls} {a : E} {s : Env} : evalE C (.sh a) s = (evalE C a s) := Eq.trans rfl rfl
theorem ev_tup {C : Calls} {es : List E} {s : Env} : evalE C (.tup es) s = ((evalEs C es s).bnd fun ds s => .ok (.tup ds) s) := Eq.trans rfl rfl
theorem ev_lst {C : Calls} {es : List E} {s : Env} : evalE C (.lst es) s = ((evalEs C es s).bnd fun ds s => .ok (.lst ds) s) := Eq.trans rfl rfl
theorem ev_bin {C : Calls} {o : BOp} {a : E} {b : Rf.O} {s : Env} : evalE C (.bin o a b) s = ((evalE C a s).bnd fun x s => (evalV C b s).bnd fun y s => optR (bin o x y) s) := Eq.trans rfl rfl
theorem ev_binv {C : Calls} {o : BOp} {i : Nat} {b : E} {s : Env} : evalE C (.binv o i b) s = ((slotR s i).bnd fun _ s => (evalE C b s).bnd fun y s => (slotR s i).bnd fun x s => optR (bin o x y) s) := Eq.trans rfl rfl
theorem ev_neg {C : Calls} {a : E} {s : Env} : evalE C (.neg a) s = ((evalE C a s).bnd fun x s => match x with
    | .int i => .ok (.int (-i)) s
    | _ => .stuck) := Eq.trans rfl rfl
theorem ev_cmp {C : Calls} {o : COp} {a : E} {b : Rf.O} {s : Env} : evalE C (.cmp o a b) s = ((evalE C a s).bnd fun x s => (evalV C b s).bnd fun y s => (optR (cmp o x y) s).bnd fun k s => .ok (.bl k) s) := Eq.trans rfl rfl
theorem ev_cmpv {C : Calls} {o : COp} {i : Nat} {b : E} {s : Env} : evalE C (.cmpv o i b) s = ((slotR s i).bnd fun _ s => (evalE C b s).bnd fun y s => (slotR s i).bnd fun x s => (optR (cmp o x y) s).bnd fun k s => .ok (.bl k) s) := Eq.trans rfl rfl
theorem ev_chain {C : Calls} {o : COp} {p : COp} {a : E} {b : E} {c : E} {s : Env} : evalE C (.chain o p a b c) s = ((evalE C a s).bnd fun x s => (evalE C b s).bnd fun y s => (optR (cmp o x y) s).bnd fun k s =>
      if k then (evalE C c s).bnd fun z s => (optR (cmp p y z) s).bnd fun k s => .ok (.bl k) s else .ok (.bl false) s) := Eq.trans rfl rfl
theorem ev_and {C : Calls} {a : E} {b : E} {s : Env} : evalE C (.and a b) s = ((evalE C a s).bnd fun x s => (optR (truth x) s).bnd fun k s => if k then evalE C b s else .ok x s) := Eq.trans rfl rfl
theorem ev_or {C : Calls} {a : E} {b : E} {s : Env} : evalE C (.or a b) s = ((evalE C a s).bnd fun x s => (optR (truth x) s).bnd fun k s => if k then .ok x s else evalE C b s) := Eq.trans rfl rfl
theorem ev_not {C : Calls} {a : Rf.O} {s : Env} : evalE C (.not a) s = ((evalV C a s).bnd fun x s => (optR (truth x) s).bnd fun k s => .ok (.bl (!k)) s) := Eq.trans rfl rfl
theorem ev_ite {C : Calls} {t : Rf.T} {a : E} {b : E} {s : Env} : evalE C (.ite t a b) s = ((evalT C t s).bnd fun k s => if k then evalE C a s else evalE C b s) := Eq.trans rfl rfl
theorem ev_call {C : Calls} {f : Nat} {as : List Arg} {s : Env} : evalE C (.call f as) s = ((evalA C as s).bnd fun ds s => (optR (fillA as ds s) s).bnd fun ds s => match C.fn f ds with
    | .ok d outs => .ok d (putA as outs s)
    | .exc x outs => .exc x (putA as outs s)
    | .stuck => .stuck) := Eq.trans rfl rfl
theorem ev_p1 {C : Calls} {p : P1} {a : Rf.O} {s : Env} : evalE C (.p1 p a) s = ((evalV C a s).bnd fun x s => optR (p1 p x) s) := Eq.trans rfl rfl
theorem ev_p2 {C : Calls} {p : P2} {a : E} {b : E} {s : Env} : evalE C (.p2 p a b) s = ((evalE C a s).bnd fun x s => (evalE C b s).bnd fun y s => optR (p2 p x y) s) := Eq.trans rfl rfl
theorem ev_isi {C : Calls} {a : Rf.O} {ts : List Ty} {s : Env} : evalE C (.isi a ts) s = ((evalV C a s).bnd fun x s => (optR (isTys x ts) s).bnd fun k s => .ok (.bl k) s) := Eq.trans rfl rfl
theorem ev_sub {C : Calls} {a : E} {i : E} {s : Env} : evalE C (.sub a i) s = ((evalE C a s).bnd fun x s => (evalE C i s).bnd fun y s => optR (item x y) s) := Eq.trans rfl rfl
theorem ev_subv {C : Calls} {v : Nat} {i : E} {s : Env} : evalE C (.subv v i) s = ((slotR s v).bnd fun _ s => (evalE C i s).bnd fun y s => (slotR s v).bnd fun x s => optR (item x y) s) := Eq.trans rfl rfl
theorem ev_slc {C : Calls} {a : E} {lo : Option E} {hi : Option E} {s : Env} : evalE C (.slc a lo hi) s = ((evalE C a s).bnd fun x s => (evalO C lo s).bnd fun l s => (evalO C hi s).bnd fun h s => optR (slice x l h) s) := Eq.trans rfl rfl
theorem ev_slcv {C : Calls} {v : Nat} {lo : Option E} {hi : Option E} {s : Env} : evalE C (.slcv v lo hi) s = ((slotR s v).bnd fun _ s => (evalO C lo s).bnd fun l s => (evalO C hi s).bnd fun h s => (slotR s v).bnd fun x s => optR (slice x l h) s) := Eq.trans rfl rfl
theorem ev_rev {C : Calls} {a : Rf.O} {s : Env} : evalE C (.rev a) s = ((evalV C a s).bnd fun x s => match x with
    | .lst ds => .ok (.lst ds.reverse) s
    | .tup ds => .ok (.tup ds.reverse) s
    | .tpz ds => .ok (.tup ds.reverse) s
    | _ => .stuck) := Eq.trans rfl rfl
theorem ev_pop {C : Calls} {v : Nat} {s : Env} : evalE C (.pop v) s = ((ownR s v).bnd fun ds s => match ds.getLast? with
    | some d => .ok d (s.set v (.ow (.lst ds.dropLast)))
    | none => .stuck) := Eq.trans rfl rfl
theorem ev_popAt {C : Calls} {v : Nat} {i : E} {s : Env} : evalE C (.popAt v i) s = ((ownR s v).bnd fun _ s => (evalE C i s).bnd fun y s => (ownR s v).bnd fun ds s => match y with
    | .int k => if decide (-(2 ^ 62) ≤ k) && decide (k < 2 ^ 62) then (match ixN ds.length k with
      | some k => match ds[k]? with
        | some d => .ok d (s.set v (.ow (.lst (ds.eraseIdx k))))
        | none => .stuck
      | none => .stuck) else .stuck
    | _ => .stuck) := Eq.trans rfl rfl
theorem ex_asg {C : Calls} {tg : Tg} {e : E} {s : Env} : execS C (.asg tg e) s = ((evalE C e s).tho fun d s => optS (bindT (isFresh C e) tg d s) .nx) := Eq.trans rfl rfl
theorem ex_par {C : Calls} {is : List Nat} {es : List E} {s : Env} : execS C (.par is es) s = ((evalEs C es s).tho fun ds s => .nx (putP C is es ds s)) := Eq.trans rfl rfl
theorem ex_aug {C : Calls} {i : Nat} {o : BOp} {e : E} {s : Env} : execS C (.aug i o e) s = ((slotR s i).tho fun x s => (evalE C e s).tho fun y s => optS (iop o x y) fun z => .nx (s.set i (.sh z))) := Eq.trans rfl rfl
theorem ex_setI {C : Calls} {v : Nat} {i : E} {e : E} {s : Env} : execS C (.setI v i e) s = ((evalE C e s).tho fun d s => (ownC s v).tho fun _ s => (evalE C i s).tho fun k s => (ownC s v).tho fun c s => optS (setD c k d) fun c => .nx (s.set v (.ow c))) := Eq.trans rfl rfl
theorem ev_dnew {C : Calls} {s : Env} : evalE C .dnew s = .ok (.dic [] []) s := Eq.trans rfl rfl
theorem ev_lrg {C : Calls} {t : Bool} {it : It} {s : Env} : evalE C (.lrg t it) s = ((evalI C it s).bnd fun ds s => if ds.length ≤ sizeLine then .ok (if t then .tup ds else .lst ds) s else .stuck) := Eq.trans rfl rfl
theorem ev_idx {C : Calls} {a b : E} {s : Env} : evalE C (.idx a b) s = ((evalE C a s).bnd fun x s => match x with
    | .lst ds => (evalE C b s).bnd fun y s => optR (idxD ds y) s
    | .tpz ds => (evalE C b s).bnd fun y s => optR (idxD ds y) s
    | _ => .stuck) := Eq.trans rfl rfl
theorem ev_cnt {C : Calls} {a b : E} {s : Env} : evalE C (.cnt a b) s = ((evalE C a s).bnd fun x s => match x with
    | .lst ds => (evalE C b s).bnd fun y s => optR (cntD ds y) s
    | .tpz ds => (evalE C b s).bnd fun y s => optR (cntD ds y) s
    | _ => .stuck) := Eq.trans rfl rfl
theorem ev_tupz {C : Calls} {es : List E} {s : Env} : evalE C (.tupz es) s = ((evalEs C es s).bnd fun ds s => .ok (.tpz ds) s) := Eq.trans rfl rfl
theorem ev_nev {C : Calls} {s : Env} : evalE C .nev s = .stuck := Eq.trans rfl rfl
theorem ev_mk {C : Calls} {j : Nat} {x : Str} {ns : List Str} {as : List E} {s : Env} : evalE C (.mk j x ns as) s = ((evalEs C as s).bnd fun ds s => match C.fn j (.fn "" :: ds) with
    | .ok (.tup fs) [] => if fs.length = ns.length then .ok (.ins x ns fs) s else .stuck
    | .exc y [] => .exc y s
    | _ => .stuck) := Eq.trans rfl rfl
theorem ev_fld {C : Calls} {a : Rf.O} {xs : List Str} {f : Str} {s : Env} : evalE C (.fld a xs f) s = ((evalV C a s).bnd fun d s => match d with
    | .ins x ns fs => if xs.contains x then optR (fget ns fs f) s else .stuck
    | _ => .stuck) := Eq.trans rfl rfl
theorem ev_isio {C : Calls} {a : Rf.O} {y : Str} {yes no : List Str} {s : Env} : evalE C (.isio a y yes no) s = ((evalV C a s).bnd fun d s => (optR (isOwn yes no d) s).bnd fun k s => .ok (.bl k) s) := Eq.trans rfl rfl
theorem ev_cmpI {C : Calls} {ne : Bool} {x : Str} {j : Nat} {a b : E} {s : Env} : evalE C (.cmpI ne x j a b) s = ((evalE C a s).bnd fun d s => (evalE C b s).bnd fun e s => (ownF C x j ne d e s).bnd fun k s => .ok (.bl k) s) := Eq.trans rfl rfl
theorem et_cmpI {C : Calls} {ne : Bool} {x : Str} {j : Nat} {a b : E} {s : Env} : evalT C (.cmpI ne x j a b) s = ((evalE C a s).bnd fun d s => (evalE C b s).bnd fun e s => ownF C x j ne d e s) := Eq.trans rfl rfl
theorem ownF_ins {C : Calls} {x : Str} {j : Nat} {ne : Bool} {ns ms : List Str} {fs gs : List D} {s : Env} {k : Bool} (h : C.fn j [.ins x ns fs, .ins x ms gs] = .ok (.bl k) []) : ownF C x j ne (.ins x ns fs) (.ins x ms gs) s = .ok (k != ne) s := by
  unfold ownF; simp [h]
@[simp] theorem isOwn_ins {yes no : List Str} {x : Str} {ns : List Str} {fs : List D} : isOwn yes no (.ins x ns fs) = if yes.contains x then some true else if no.contains x then some false else none := rfl
theorem ex_augI {C : Calls} {v : Nat} {i : E} {o : BOp} {e : E} {s : Env} : execS C (.augI v i o e) s = ((ownR s v).tho fun _ s => (evalE C i s).tho fun k s => (ownR s v).tho fun ds s => match k with
    | .int k => match ixN ds.length k with
      | some j => match ds[j]? with
        | some a => (evalE C e s).tho fun b s => optS (iop o a b) fun z => (ownR s v).tho fun ds s => match ixN ds.length k with
          | some j => .nx (s.set v (.ow (.lst (ds.set j z))))
          | none => .stuck
        | none => .stuck
      | none => .stuck
    | _ => .stuck) := Eq.trans rfl rfl
theorem ex_app {C : Calls} {v : Nat} {e : E} {s : Env} : execS C (.app v e) s = ((ownR s v).tho fun _ s => (evalE C e s).tho fun d s => (ownR s v).tho fun ds s => if ds.length < sizeLine then .nx (s.set v (.ow (.lst (ds ++ [d])))) else .stuck) := Eq.trans rfl rfl
theorem ex_ext {C : Calls} {v : Nat} {e : E} {s : Env} : execS C (.ext v e) s = ((ownR s v).tho fun _ s => (evalE C e s).tho fun d s => (ownR s v).tho fun ds s => match d with
    | .lst es => if ds.length + es.length ≤ sizeLine then .nx (s.set v (.ow (.lst (ds ++ es)))) else .stuck
    | _ => .stuck) := Eq.trans rfl rfl
theorem ex_expr {C : Calls} {e : E} {s : Env} : execS C (.expr e) s = ((evalE C e s).tho fun _ s => .nx s) := Eq.trans rfl rfl
theorem ex_ret {C : Calls} {e : E} {s : Env} : execS C (.ret e) s = ((evalE C e s).tho fun d s => .ret d s) := Eq.trans rfl rfl
theorem ex_retN {C : Calls} {s : Env} : execS C (.retN) s = (.ret .non s) := Eq.trans rfl rfl
theorem ex_pass {C : Calls} {s : Env} : execS C (.pass) s = (.nx s) := Eq.trans rfl rfl
theorem ex_brk {C : Calls} {s : Env} : execS C (.brk) s = (.bk s) := Eq.trans rfl rfl
theorem ex_cnt {C : Calls} {s : Env} : execS C (.cnt) s = (.ct s) := Eq.trans rfl rfl
theorem ex_ifS {C : Calls} {t : Rf.T} {a : List Rf.St} {b : List Rf.St} {s : Env} : execS C (.ifS t a b) s = ((evalT C t s).tho fun k s => if k then execSs C a s else execSs C b s) := Eq.trans rfl rfl
theorem ex_nev {C : Calls} {s : Env} : execS C .nev s = .stuck := Eq.trans rfl rfl
theorem ex_raise {C : Calls} {c : Str} {s : Env} : execS C (.raise c) s = (.exc (.err c [] []) s) := Eq.trans rfl rfl
/-- a loop's turn -/
def forB (C : Calls) (tg : Tg) (body : List Rf.St) : D → Env → Rf.S := fun d s => optS (bindT false tg d s) fun s => execSs C body s
def forK (C : Calls) (tg : Tg) (body : List Rf.St) : List D → Env → Rf.S := fun ds s => forL (forB C tg body) ds s
theorem ex_forS {C : Calls} {tg : Tg} {it : Rf.It} {body : List Rf.St} {s : Env} : execS C (.forS tg it body) s = (evalI C it s).tho (forK C tg body) := Eq.trans rfl rfl
@[simp] theorem forK_eq {C : Calls} {tg : Tg} {body : List Rf.St} {ds : List D} {s : Env} : forK C tg body ds s = forL (forB C tg body) ds s := Eq.trans rfl rfl
theorem forB_eq {C : Calls} {tg : Tg} {body : List Rf.St} {d : D} {s s1 : Env} (h : bindT false tg d s = some s1) : forB C tg body d s = execSs C body s1 := by unfold forB; rw [h]; rfl
def whlT (C : Calls) (t : Rf.T) : Env → R Bool := fun s => evalT C t s
def whlB (C : Calls) (body : List Rf.St) : Env → Rf.S := fun s => execSs C body s
theorem whlT_eq {C : Calls} {t : Rf.T} {s : Env} : whlT C t s = evalT C t s := Eq.trans rfl rfl
theorem whlB_eq {C : Calls} {body : List Rf.St} {s : Env} : whlB C body s = execSs C body s := Eq.trans rfl rfl
theorem ex_whl {C : Calls} {t : Rf.T} {body : List Rf.St} {s : Env} : execS C (.whl t body) s = whileL (whlT C t) (whlB C body) C.fuel s := Eq.trans rfl rfl
@[simp] theorem bindT_tp {fr : Bool} {ts : List Tg} {ds : List D} {s : Env} : bindT fr (.tp ts) (.tup ds) s = if ts.length = ds.length then bindTs ts ds s else none := Eq.trans rfl rfl
@[simp] theorem bindTs_nil {ds : List D} {s : Env} : bindTs [] ds s = some s := Eq.trans rfl rfl
@[simp] theorem bindTs_cons {t : Tg} {ts : List Tg} {d : D} {ds : List D} {s : Env} : bindTs (t :: ts) (d :: ds) s = (bindT false t d s).bind fun s1 => bindTs ts ds s1 := Eq.trans rfl rfl
theorem bin_repL {ds : List D} {b : Int} (h1 : -(2 ^ 63) ≤ b) (h2 : b < 2 ^ 63) (h3 : ds.length * b.toNat ≤ sizeLine) : Rf.bin .mul (.lst ds) (.int b) = some (.lst (List.replicate b.toNat ds).flatten) := by
  have e : (decide (-(2 ^ 63) ≤ b) && decide (b < 2 ^ 63) && decide (ds.length * b.toNat ≤ sizeLine)) = true := by
    rw [decide_eq_true h1, decide_eq_true h2, decide_eq_true h3]; rfl
  simp only [Rf.bin, e, if_true]
theorem rng1_ok {C : Calls} {a : E} {s s1 : Env} {n : Nat} (h : evalE C a s = .ok (.int n) s1) (hn : (n : Int) < 2 ^ 62) : evalI C (.rng1 a) s = .ok (rangeD 0 n) s1 := by
  have e : evalI C (.rng1 a) s = (evalE C a s).bnd fun x s => match x with
    | .int i => if decide (-(2 ^ 62) ≤ i) && decide (i < 2 ^ 62) then .ok (rangeD 0 i.toNat) s else .stuck
    | _ => .stuck := Eq.trans rfl rfl
  have b : (decide (-(2 ^ 62) ≤ (n : Int)) && decide ((n : Int) < 2 ^ 62)) = true := by
    rw [decide_eq_true hn, decide_eq_true (show -(2 ^ 62) ≤ (n : Int) by omega)]; rfl
  rw [e, h, bnd_ok]
  generalize hB : (decide (-(2 ^ 62) ≤ (n : Int)) && decide ((n : Int) < 2 ^ 62)) = B at b
  subst b
  simp only [hB, if_true, Int.toNat_natCast]
theorem rng2_ok {C : Calls} {a b : E} {s s1 s2 : Env} {i j : Int} (h : evalE C a s = .ok (.int i) s1) (h2 : evalE C b s1 = .ok (.int j) s2) (b1 : -(2 ^ 62) ≤ i) (b2 : i < 2 ^ 62) (b3 : -(2 ^ 62) ≤ j) (b4 : j < 2 ^ 62) : evalI C (.rng2 a b) s = .ok (rangeD i (j - i).toNat) s2 := by
  have e : evalI C (.rng2 a b) s = (evalE C a s).bnd fun x s => (evalE C b s).bnd fun y s => match x, y with
    | .int i, .int j => if decide (-(2 ^ 62) ≤ i) && decide (i < 2 ^ 62) && decide (-(2 ^ 62) ≤ j) && decide (j < 2 ^ 62) then .ok (rangeD i (j - i).toNat) s else .stuck
    | _, _ => .stuck := Eq.trans rfl rfl
  rw [e, h, bnd_ok, h2, bnd_ok]
  simp only [decide_eq_true b1, decide_eq_true b2, decide_eq_true b3, decide_eq_true b4, Bool.and_self, if_true]
theorem flat_one {α : Type} (a : α) : ∀ n : Nat, (List.replicate n [a]).flatten = List.replicate n a
  | 0 => rfl
  | n + 1 => by rw [List.replicate_succ, List.flatten_cons, flat_one a n]; rfl
/-! ### loops -/
theorem forL_fold {α : Type} {f : D → Env → Rf.S} (enc : α → Sl → Env) (g : α → D → α) : ∀ (ds : List D) (a : α) (sl : Sl), (∀ d ∈ ds, ∀ a sl, f d (enc a sl) = .nx (enc (g a d) (.sh d))) → ∃ sl', forL f ds (enc a sl) = .nx (enc (ds.foldl g a) sl')
  | [], a, sl, _ => ⟨sl, rfl⟩
  | d :: ds, a, sl, h => by
    obtain ⟨sl', e⟩ := forL_fold enc g ds (g a d) (.sh d) fun d hd => h d (List.mem_cons_of_mem _ hd)
    refine ⟨sl', ?_⟩
    simp only [forL, h d List.mem_cons_self a sl]
    exact e
/-- a loop that keeps a property of the slots -/
theorem forL_inv {f : D → Env → Rf.S} (I : Env → Prop) : ∀ (ds : List D) (s : Env), I s → (∀ d ∈ ds, ∀ s, I s → ∃ s', f d s = .nx s' ∧ I s') → ∃ s', forL f ds s = .nx s' ∧ I s'
  | [], s, hs, _ => ⟨s, rfl, hs⟩
  | d :: ds, s, hs, h => by
    obtain ⟨s1, e, h1⟩ := h d List.mem_cons_self s hs
    obtain ⟨s2, e2, h2⟩ := forL_inv I ds s1 h1 fun d hd => h d (List.mem_cons_of_mem _ hd)
    refine ⟨s2, ?_, h2⟩
    simp only [forL, e]
    exact e2
/-- .. by the turn -/
theorem forL_turn {f : D → Env → Rf.S} (I : Nat → Env → Prop) : ∀ (ds : List D) (n : Nat) (s : Env), I n s → (∀ (i : Nat) d, ds[i]? = some d → ∀ s, I (n + i) s → ∃ s', f d s = .nx s' ∧ I (n + i + 1) s') → ∃ s', forL f ds s = .nx s' ∧ I (n + ds.length) s'
  | [], n, s, hs, _ => ⟨s, rfl, hs⟩
  | d :: ds, n, s, hs, h => by
    obtain ⟨s1, e, h1⟩ := h 0 d rfl s hs
    obtain ⟨s2, e2, h2⟩ := forL_turn I ds (n + 1) s1 h1 fun i d hd s hs => by
      have := h (i + 1) d (by simpa using hd) s (by rw [show n + (i + 1) = n + 1 + i by omega]; exact hs)
      rw [show n + (i + 1) + 1 = n + 1 + i + 1 by omega] at this
      exact this
    refine ⟨s2, ?_, by rw [List.length_cons, show n + (ds.length + 1) = n + 1 + ds.length by omega]; exact h2⟩
    simp only [forL, e]
    exact e2
/-- a while by a measure: P holds ahead of each turn, Q behind the loop -/
theorem whileL_inv {t : Env → R Bool} {f : Env → Rf.S} (P Q : Env → Prop) (μ : Env → Nat) (h : ∀ s, P s → (∃ s', t s = .ok false s' ∧ Q s') ∨ ∃ s1 s2, t s = .ok true s1 ∧ f s1 = .nx s2 ∧ P s2 ∧ μ s2 < μ s) : ∀ (n : Nat) (s : Env), P s → μ s < n → ∃ s', whileL t f n s = .nx s' ∧ Q s'
  | 0, s, _, hn => absurd hn (Nat.not_lt_zero _)
  | n + 1, s, hs, hn => by
    rcases h s hs with ⟨s', e, q⟩ | ⟨s1, s2, e1, e2, p, m⟩
    · exact ⟨s', by simp [whileL, e], q⟩
    · obtain ⟨s', e, q⟩ := whileL_inv P Q μ h n s2 p (by omega)
      exact ⟨s', by simp [whileL, e1, e2, e], q⟩
theorem compL_map {own : List Nat} {f : D → Env → R (Option D)} {g : D → D} {s : Env} : ∀ {ds : List D}, (∀ d ∈ ds, ∃ s1, f d s = .ok (some (g d)) s1 ∧ wipeE s1 own = s) → compL own f ds s = .ok (ds.map g) s
  | [], _ => rfl
  | d :: ds, h => by
    obtain ⟨s1, e, w⟩ := h d List.mem_cons_self
    simp only [compL, e, w, compL_map (ds := ds) fun d hd => h d (List.mem_cons_of_mem _ hd)]
    rfl
theorem compL_filter {own : List Nat} {f : D → Env → R (Option D)} {g : D → Option D} {s : Env} : ∀ {ds : List D}, (∀ d ∈ ds, ∃ s1, f d s = .ok (g d) s1 ∧ wipeE s1 own = s) → compL own f ds s = .ok (ds.filterMap g) s
  | [], _ => rfl
  | d :: ds, h => by
    obtain ⟨s1, e, w⟩ := h d List.mem_cons_self
    simp only [compL, e, w, compL_filter (ds := ds) fun d hd => h d (List.mem_cons_of_mem _ hd)]
    rw [List.filterMap_cons]
    cases g d <;> rfl
/-- a comprehension whose turns change the slots -/
theorem compL_inv {own : List Nat} {f : D → Env → R (Option D)} (I : Env → Prop) (P : D → D → Prop) : ∀ {ds : List D} {s : Env}, I s → (∀ d ∈ ds, ∀ s, I s → ∃ x s1, f d s = .ok (some x) s1 ∧ I (wipeE s1 own) ∧ P d x) → ∃ r s', compL own f ds s = .ok r s' ∧ I s' ∧ r.length = ds.length ∧ ∀ (i : Nat) d x, ds[i]? = some d → r[i]? = some x → P d x
  | [], s, hs, _ => ⟨[], s, rfl, hs, rfl, fun i d x h => by simp at h⟩
  | d :: ds, s, hs, h => by
    obtain ⟨x, s1, e, w, p⟩ := h d List.mem_cons_self s hs
    obtain ⟨r, s', e2, h2, l, a⟩ := compL_inv I P (ds := ds) w fun d hd => h d (List.mem_cons_of_mem _ hd)
    refine ⟨x :: r, s', by simp only [compL, e, e2]; rfl, h2, by simp [l], fun i d' x' h1 h2 => ?_⟩
    cases i with
    | zero => simp at h1 h2; subst h1 h2; exact p
    | succ i => exact a i d' x' (by simpa using h1) (by simpa using h2)
theorem ev_lc {C : Calls} {elt : E} {tg : Tg} {it : It} {cond : Option T} {own : List Nat} {s : Env} : evalE C (.lc elt tg it cond own) s = (evalI C it s).bnd fun ds s1 => (compL own (turnL C tg cond elt) ds (wipeE s1 own)).bnd fun r s2 => if r.length ≤ sizeLine then .ok (.lst r) (backE s1 s2 own) else .stuck := rfl
theorem turn_eq {C : Calls} {elt : E} {tg : Tg} {cond : Option T} {d : D} {s s1 : Env} (h : bindT false tg d s = some s1) : turnL C tg cond elt d s = (evalC C cond s1).bnd fun k s => if k then (evalE C elt s).bnd fun x s => .ok (some x) s else .ok none s := by
  unfold turnL
  rw [h]
  rfl
theorem lc_map {C : Calls} {elt : E} {tg : Tg} {it : It} {cond : Option T} {own : List Nat} {s s1 : Env} {ds : List D} (g : D → D) (hi : evalI C it s = .ok ds s1) (h : ∀ d ∈ ds, ∃ s2, turnL C tg cond elt d (wipeE s1 own) = .ok (some (g d)) s2 ∧ wipeE s2 own = wipeE s1 own) (hl : ds.length ≤ sizeLine) :
    evalE C (.lc elt tg it cond own) s = .ok (.lst (ds.map g)) (backE s1 (wipeE s1 own) own) := by
  rw [ev_lc, hi]
  simp only [bnd_ok, bind_ok]
  rw [compL_map h]
  simp only [bnd_ok, bind_ok]
  rw [if_pos (by rw [List.length_map]; exact hl)]
theorem lc_filter {C : Calls} {elt : E} {tg : Tg} {it : It} {cond : Option T} {own : List Nat} {s s1 : Env} {ds : List D} (g : D → Option D) (hi : evalI C it s = .ok ds s1) (h : ∀ d ∈ ds, ∃ s2, turnL C tg cond elt d (wipeE s1 own) = .ok (g d) s2 ∧ wipeE s2 own = wipeE s1 own) (hl : ds.length ≤ sizeLine) :
    evalE C (.lc elt tg it cond own) s = .ok (.lst (ds.filterMap g)) (backE s1 (wipeE s1 own) own) := by
  rw [ev_lc, hi]
  simp only [bnd_ok, bind_ok]
  rw [compL_filter h]
  simp only [bnd_ok, bind_ok]
  rw [if_pos (Nat.le_trans (List.length_filterMap_le _ _) hl)]
theorem lc_inv {C : Calls} {elt : E} {tg : Tg} {it : It} {cond : Option T} {own : List Nat} {s s1 : Env} {ds : List D} (I : Env → Prop) (P : D → D → Prop) (hi : evalI C it s = .ok ds s1) (h0 : I (wipeE s1 own)) (h : ∀ d ∈ ds, ∀ s, I s → ∃ x s2, turnL C tg cond elt d s = .ok (some x) s2 ∧ I (wipeE s2 own) ∧ P d x) (hl : ds.length ≤ sizeLine) :
    ∃ r s2, evalE C (.lc elt tg it cond own) s = .ok (.lst r) (backE s1 s2 own) ∧ I s2 ∧ r.length = ds.length ∧ ∀ (i : Nat) d x, ds[i]? = some d → r[i]? = some x → P d x := by
  obtain ⟨r, s2, e, h2, l, a⟩ := compL_inv (f := turnL C tg cond elt) (own := own) I P h0 h
  refine ⟨r, s2, ?_, h2, l, a⟩
  rw [ev_lc, hi]
  simp only [bnd_ok, bind_ok]
  rw [e]
  simp only [bnd_ok, bind_ok]
  rw [if_pos (by rw [l]; exact hl)]
theorem range_mem {lo : Int} {n : Nat} {d : D} (h : d ∈ rangeD lo n) : ∃ i : Nat, i < n ∧ d = .int (lo + i) := by
  unfold rangeD at h
  obtain ⟨i, hi, rfl⟩ := List.mem_map.mp h
  exact ⟨i, List.mem_range.mp hi, rfl⟩
@[simp] theorem range_len {lo : Int} {n : Nat} : (rangeD lo n).length = n := by simp [rangeD]
theorem range_at {lo : Int} {n i : Nat} {d : D} (h : (rangeD lo n)[i]? = some d) : d = .int (lo + i) ∧ i < n := by
  unfold rangeD at h
  rw [List.getElem?_map] at h
  obtain ⟨j, hj, rfl⟩ := Option.map_eq_some_iff.mp h
  obtain ⟨h1, h2⟩ := List.getElem?_eq_some_iff.mp hj
  rw [List.length_range] at h1
  rw [List.getElem_range] at h2
  subst h2
  exact ⟨rfl, h1⟩
/-! ### the hand -/
namespace Sh
def b_draw : List St := [
  .ifS (.and (.cmp .eq (.subv 0 (.cst (.int 2))) (.e (.cst (.int 0)))) (.cmp .lt (.subv 0 (.cst (.int 1))) (.e (.p1 .len (.e (.subv 0 (.cst (.int 0)))))))) [.asg (.nm 3) (.sub (.subv 0 (.cst (.int 0))) (.subv 0 (.cst (.int 1)))), .setI 0 (.cst (.int 1)) (.bin .add (.subv 0 (.cst (.int 1))) (.e (.cst (.int 1)))), .setI 0 (.cst (.int 3)) (.bin .mod (.p1 .int (.e (.bin .add (.bin .add (.bin .mul (.subv 0 (.cst (.int 3))) (.e (.cst (.int 69621)))) (.e (.bin .mul (.var 3) (.e (.cst (.int 40692)))))) (.e (.cst (.int 31)))))) (.e (.cst (.int 2147483629)))), .ifS (.cmp .ge (.var 3) (.e (.bin .pow (.cst (.int 10)) (.e (.cst (.int 18)))))) [.setI 0 (.cst (.int 2)) (.var 3)] []] [],
  .ifS (.cmp .gt (.subv 0 (.cst (.int 2))) (.e (.cst (.int 0)))) [.asg (.nm 4) (.bin .mod (.p1 .int (.e (.subv 0 (.cst (.int 2))))) (.vw 1)), .setI 0 (.cst (.int 2)) (.bin .fdiv (.subv 0 (.cst (.int 2))) (.vw 1)), .ret (.var 4)] [],
  .setI 0 (.cst (.int 4)) (.bin .add (.subv 0 (.cst (.int 4))) (.e (.cst (.int 1)))),
  .asg (.nm 2) (.bin .mod (.p1 .int (.e (.bin .mul (.p1 .int (.e (.bin .add (.subv 0 (.cst (.int 3))) (.e (.bin .mul (.cst (.int 7919)) (.e (.subv 0 (.cst (.int 4))))))))) (.e (.cst (.int 48271)))))) (.e (.cst (.int 2147483647)))),
  .asg (.nm 2) (.bin .mod (.p1 .int (.e (.bin .mul (.var 2) (.e (.bin .add (.bin .fdiv (.var 2) (.e (.cst (.int 1009)))) (.e (.cst (.int 69621)))))))) (.e (.cst (.int 2147483647)))),
  .asg (.nm 2) (.bin .mod (.p1 .int (.e (.bin .mul (.var 2) (.e (.bin .add (.bin .fdiv (.var 2) (.e (.cst (.int 2003)))) (.e (.cst (.int 40014)))))))) (.e (.cst (.int 2147483563)))),
  .ret (.bin .mod (.p1 .int (.e (.bin .fdiv (.var 2) (.e (.cst (.int 16)))))) (.vw 1))]
def f_draw : Fn := ⟨2, 5, [0], false, b_draw⟩
/-- a hand: cells, a place, what is left, two numbers -/
def hand (cs : List Int) (p : Nat) (l s n : Int) : D := .lst [.lst (cs.map .int), .int p, .int l, .int s, .int n]
structure IsHand (h : D) : Prop where
  ex : ∃ cs p l s n, h = hand cs p l s n ∧ 0 ≤ l ∧ ∀ c ∈ cs, 0 ≤ c
theorem IsHand.isC {h : D} (x : IsHand h) : Rf.isC h = true := by
  obtain ⟨cs, p, l, s, n, rfl, _⟩ := x
  rfl
theorem atI5 {a b c d e : D} : L2.atI [a, b, c, d, e] 0 = some a ∧ L2.atI [a, b, c, d, e] 1 = some b ∧ L2.atI [a, b, c, d, e] 2 = some c ∧ L2.atI [a, b, c, d, e] 3 = some d ∧ L2.atI [a, b, c, d, e] 4 = some e := ⟨rfl, rfl, rfl, rfl, rfl⟩
def num1 (s n : Int) : Int := (s + 7919 * (n + 1)) * 48271 % 2147483647
def num2 (x : Int) : Int := x * (x / 1009 + 69621) % 2147483647
def num3 (x : Int) : Int := x * (x / 2003 + 40014) % 2147483563
def num (s n : Int) : Int := num3 (num2 (num1 s n)) / 16
/-- what is drawn: the number, and the hand behind -/
def drawV (b l s n : Int) : Int × Int × Int := if 0 < l then (l % b, l / b, n) else (num s n % b, l, n + 1)
theorem draw_tail {T : Tab} {w k : Nat} (cs : List Int) (p : Nat) (l s n b : Int) (hb : 0 < b) (db : divOk b = true) (sl : Sl) :
    Rf.finW f_draw (execSs (cl T w k) (b_draw.drop 1) [Sl.ow (hand cs p l s n), .sh (.int b), .no, sl, .no]) = .ok (.int (drawV b l s n).1) [hand cs p (drawV b l s n).2.1 s (drawV b l s n).2.2] := by
  have m1 : ∀ x : Int, mulOk x 48271 = true := fun x => mulOk_r (by decide)
  have m0 : ∀ x : Int, mulOk 7919 x = true := fun x => mulOk_l (by decide)
  have d1 : divOk 1009 = true := by decide
  have d2 : divOk 2003 = true := by decide
  have d3 : divOk 16 = true := by decide
  have small : ∀ x m : Int, 0 < m → m < 2 ^ 64 → ∀ y, mulOk (x % m) y = true := fun x m h1 h2 y => mulOk_l (by have := Int.emod_nonneg x (show m ≠ 0 by omega); have := Int.emod_lt_of_pos x h1; omega)
  have s1 := fun x => small x 2147483647 (by decide) (by decide)
  by_cases h : 0 < l
  · have e : drawV b l s n = (l % b, l / b, n) := if_pos h
    rw [e]
    simp [f_draw, b_draw, hand, ss_nil, ss_cons, ev_cst, ev_var, ev_mov, ev_glob, ev_sh, ev_tup, ev_lst, ev_bin, ev_binv, ev_neg, ev_cmp, ev_cmpv, ev_chain, ev_and, ev_or, ev_not, ev_ite, ev_call, ev_p1, ev_p2, ev_isi, ev_sub, ev_subv, ev_slc, ev_slcv, ev_rev, ev_pop, ev_popAt, ev_dnew, ev_lrg, ev_idx, ev_cnt, ev_tupz, ev_nev, ev_mk, ev_fld, ev_isio, ev_cmpI, et_cmpI, ex_nev, ex_asg, ex_par, ex_aug, ex_setI, ex_augI, ex_app, ex_ext, ex_expr, ex_ret, ex_retN, ex_pass, ex_brk, ex_cnt, ex_ifS, ex_raise, ex_forS, ex_whl, evalV, evalT, evalEs, evalA, evalA1, evalO, evalC, evalI, enterE, slotR, ownR, ownC, setD, readR, moveR, outs, mapM, isTys_cons, isFreshF, L2.ixN, fillA, putA, putP, atI5, h, bin_mod hb, bin_fdiv db]
  · have e : drawV b l s n = (num s n % b, l, n + 1) := if_neg h
    rw [e]
    simp [f_draw, b_draw, hand, ss_nil, ss_cons, ev_cst, ev_var, ev_mov, ev_glob, ev_sh, ev_tup, ev_lst, ev_bin, ev_binv, ev_neg, ev_cmp, ev_cmpv, ev_chain, ev_and, ev_or, ev_not, ev_ite, ev_call, ev_p1, ev_p2, ev_isi, ev_sub, ev_subv, ev_slc, ev_slcv, ev_rev, ev_pop, ev_popAt, ev_dnew, ev_lrg, ev_idx, ev_cnt, ev_tupz, ev_nev, ev_mk, ev_fld, ev_isio, ev_cmpI, et_cmpI, ex_nev, ex_asg, ex_par, ex_aug, ex_setI, ex_augI, ex_app, ex_ext, ex_expr, ex_ret, ex_retN, ex_pass, ex_brk, ex_cnt, ex_ifS, ex_raise, ex_forS, ex_whl, evalV, evalT, evalEs, evalA, evalA1, evalO, evalC, evalI, enterE, slotR, ownR, ownC, setD, readR, moveR, outs, mapM, isTys_cons, isFreshF, L2.ixN, fillA, putA, putP, atI5, h, bin_mod hb, bin_mul (m1 _), bin_mul (m0 _), bin_fdiv d1, bin_fdiv d2, bin_fdiv d3, bin_mod (show (0:Int) < 2147483647 by decide), bin_mod (show (0:Int) < 2147483563 by decide), bin_mul (s1 _ _), num, num1, num2, num3]
theorem draw_prop {b l s n : Int} (hb : 0 < b) (hl : 0 ≤ l) : 0 ≤ (drawV b l s n).1 ∧ (drawV b l s n).1 < b ∧ 0 ≤ (drawV b l s n).2.1 := by
  unfold drawV
  split
  · exact ⟨Int.emod_nonneg _ (by omega), Int.emod_lt_of_pos _ hb, Int.ediv_nonneg hl (by omega)⟩
  · exact ⟨Int.emod_nonneg _ (by omega), Int.emod_lt_of_pos _ hb, hl⟩
theorem pow18 : bin .pow (.int 10) (.int 18) = some (.int 1000000000000000000) := rfl
theorem draw_ok {T : Tab} {w k j : Nat} (hj : T[j]? = some f_draw) {h : D} (hh : IsHand h) {b : Int} (hb : 0 < b) (db : divOk b = true) :
    ∃ v h', run T w (k + 1) j [h, .int b] = .ok (.int v) [h'] ∧ 0 ≤ v ∧ v < b ∧ IsHand h' := by
  obtain ⟨cs, p, l, s, n, rfl, hl, hcs⟩ := hh
  rw [run_def hj rfl]
  by_cases h0 : l = 0 ∧ p < cs.length
  · obtain ⟨rfl, hp⟩ := h0
    have hget : L2.atI (cs.map D.int) (p : Int) = some (D.int cs[p]) := L2.atI_nat (by simp [hp])
    have hc : 0 ≤ cs[p] := hcs _ (List.getElem_mem hp)
    have m1 : ∀ x : Int, mulOk x 69621 = true := fun x => mulOk_r (by decide)
    have m2 : ∀ x : Int, mulOk x 40692 = true := fun x => mulOk_r (by decide)
    have key : ∃ l', 0 ≤ l' ∧ execSs (cl T w k) f_draw.body (enterE f_draw.io 0 [hand cs p 0 s n, D.int b] ++ List.replicate (f_draw.n - f_draw.ps) Sl.no) =
        execSs (cl T w k) (b_draw.drop 1) [Sl.ow (hand cs (p + 1) l' ((s * 69621 + cs[p] * 40692 + 31) % 2147483629) n), .sh (.int b), .no, .sh (.int cs[p]), .no] := by
      by_cases hbig : 1000000000000000000 ≤ cs[p]
      · refine ⟨cs[p], hc, ?_⟩
        show seqS (execS (cl T w k) (b_draw.head (by simp [b_draw])) _) (execSs (cl T w k) (b_draw.drop 1)) = _
        simp [b_draw, f_draw, hand, ss_nil, ss_cons, ev_cst, ev_var, ev_mov, ev_glob, ev_sh, ev_tup, ev_lst, ev_bin, ev_binv, ev_neg, ev_cmp, ev_cmpv, ev_chain, ev_and, ev_or, ev_not, ev_ite, ev_call, ev_p1, ev_p2, ev_isi, ev_sub, ev_subv, ev_slc, ev_slcv, ev_rev, ev_pop, ev_popAt, ev_dnew, ev_lrg, ev_idx, ev_cnt, ev_tupz, ev_nev, ev_mk, ev_fld, ev_isio, ev_cmpI, et_cmpI, ex_nev, ex_asg, ex_par, ex_aug, ex_setI, ex_augI, ex_app, ex_ext, ex_expr, ex_ret, ex_retN, ex_pass, ex_brk, ex_cnt, ex_ifS, ex_raise, ex_forS, ex_whl, evalV, evalT, evalEs, evalA, evalA1, evalO, evalC, evalI, enterE, slotR, ownR, ownC, setD, readR, moveR, outs, mapM, isTys_cons, isFreshF, L2.ixN, fillA, putA, putP, atI5, hp, hget, hbig, pow18, bin_mul (m1 _), bin_mul (m2 _), bin_mod (show (0:Int) < 2147483629 by decide)]
      · refine ⟨0, Int.le_refl _, ?_⟩
        show seqS (execS (cl T w k) (b_draw.head (by simp [b_draw])) _) (execSs (cl T w k) (b_draw.drop 1)) = _
        simp [b_draw, f_draw, hand, ss_nil, ss_cons, ev_cst, ev_var, ev_mov, ev_glob, ev_sh, ev_tup, ev_lst, ev_bin, ev_binv, ev_neg, ev_cmp, ev_cmpv, ev_chain, ev_and, ev_or, ev_not, ev_ite, ev_call, ev_p1, ev_p2, ev_isi, ev_sub, ev_subv, ev_slc, ev_slcv, ev_rev, ev_pop, ev_popAt, ev_dnew, ev_lrg, ev_idx, ev_cnt, ev_tupz, ev_nev, ev_mk, ev_fld, ev_isio, ev_cmpI, et_cmpI, ex_nev, ex_asg, ex_par, ex_aug, ex_setI, ex_augI, ex_app, ex_ext, ex_expr, ex_ret, ex_retN, ex_pass, ex_brk, ex_cnt, ex_ifS, ex_raise, ex_forS, ex_whl, evalV, evalT, evalEs, evalA, evalA1, evalO, evalC, evalI, enterE, slotR, ownR, ownC, setD, readR, moveR, outs, mapM, isTys_cons, isFreshF, L2.ixN, fillA, putA, putP, atI5, hp, hget, hbig, pow18, bin_mul (m1 _), bin_mul (m2 _), bin_mod (show (0:Int) < 2147483629 by decide)]
    obtain ⟨l', hl', e⟩ := key
    rw [e, draw_tail cs (p + 1) l' _ n b hb db]
    obtain ⟨h1, h2, h3⟩ := draw_prop (b := b) (l := l') (s := (s * 69621 + cs[p] * 40692 + 31) % 2147483629) (n := n) hb hl'
    exact ⟨_, _, rfl, h1, h2, _, _, _, _, _, rfl, h3, hcs⟩
  · have key : execSs (cl T w k) f_draw.body (enterE f_draw.io 0 [hand cs p l s n, D.int b] ++ List.replicate (f_draw.n - f_draw.ps) Sl.no) =
        execSs (cl T w k) (b_draw.drop 1) [Sl.ow (hand cs p l s n), .sh (.int b), .no, .no, .no] := by
      show seqS (execS (cl T w k) (b_draw.head (by simp [b_draw])) _) (execSs (cl T w k) (b_draw.drop 1)) = _
      by_cases hl0 : l = 0
      · have hp : ¬ p < cs.length := fun h => h0 ⟨hl0, h⟩
        simp [b_draw, f_draw, hand, ss_nil, ss_cons, ev_cst, ev_var, ev_mov, ev_glob, ev_sh, ev_tup, ev_lst, ev_bin, ev_binv, ev_neg, ev_cmp, ev_cmpv, ev_chain, ev_and, ev_or, ev_not, ev_ite, ev_call, ev_p1, ev_p2, ev_isi, ev_sub, ev_subv, ev_slc, ev_slcv, ev_rev, ev_pop, ev_popAt, ev_dnew, ev_lrg, ev_idx, ev_cnt, ev_tupz, ev_nev, ev_mk, ev_fld, ev_isio, ev_cmpI, et_cmpI, ex_nev, ex_asg, ex_par, ex_aug, ex_setI, ex_augI, ex_app, ex_ext, ex_expr, ex_ret, ex_retN, ex_pass, ex_brk, ex_cnt, ex_ifS, ex_raise, ex_forS, ex_whl, evalV, evalT, evalEs, evalA, evalA1, evalO, evalC, evalI, enterE, slotR, ownR, ownC, setD, readR, moveR, outs, mapM, isTys_cons, isFreshF, L2.ixN, fillA, putA, putP, atI5, hl0, hp]
      · simp [b_draw, f_draw, hand, ss_nil, ss_cons, ev_cst, ev_var, ev_mov, ev_glob, ev_sh, ev_tup, ev_lst, ev_bin, ev_binv, ev_neg, ev_cmp, ev_cmpv, ev_chain, ev_and, ev_or, ev_not, ev_ite, ev_call, ev_p1, ev_p2, ev_isi, ev_sub, ev_subv, ev_slc, ev_slcv, ev_rev, ev_pop, ev_popAt, ev_dnew, ev_lrg, ev_idx, ev_cnt, ev_tupz, ev_nev, ev_mk, ev_fld, ev_isio, ev_cmpI, et_cmpI, ex_nev, ex_asg, ex_par, ex_aug, ex_setI, ex_augI, ex_app, ex_ext, ex_expr, ex_ret, ex_retN, ex_pass, ex_brk, ex_cnt, ex_ifS, ex_raise, ex_forS, ex_whl, evalV, evalT, evalEs, evalA, evalA1, evalO, evalC, evalI, enterE, slotR, ownR, ownC, setD, readR, moveR, outs, mapM, isTys_cons, isFreshF, L2.ixN, fillA, putA, putP, atI5, hl0]
    rw [key, draw_tail cs p l s n b hb db]
    obtain ⟨h1, h2, h3⟩ := draw_prop (b := b) (l := l) (s := s) (n := n) hb hl
    exact ⟨_, _, rfl, h1, h2, _, _, _, _, _, rfl, h3, hcs⟩
/-- the hand of a script -/
def b_hand : List St := [
  .asg (.nm 1) (.sh (.lc (.p1 .abs (.e (.p1 .int (.vw 2)))) (.nm 2) (.seq (.slcv 0 none (some (.cst (.int 63))))) none [2])),
  .ret (.lst [(.var 1), (.cst (.int 0)), (.cst (.int 0)), (.bin .add (.cst (.int 811)) (.e (.bin .mul (.cst (.int 7)) (.e (.p1 .len (.vw 1)))))), (.cst (.int 0))])]
def f_hand : Fn := ⟨1, 3, [], true, b_hand⟩
theorem cut_63 {α : Type} (ds : List α) : cut ds none (some 63) = ds.take 63 := by
  unfold cut
  rw [show HT.sIx ds.length 0 none = 0 from rfl, show (some (63 : Int)) = some ((63 : Nat) : Int) from rfl, HT.sIx_nat]
  simp
def absD : D → D
  | .int i => .int (if i < 0 then -i else i)
  | d => d
theorem hand_ok {T : Tab} {w k j : Nat} (hj : T[j]? = some f_hand) (ns : List Int) : ∃ h, run T w (k + 1) j [.scr ns] = .ok h [] ∧ IsHand h := by
  rw [run_def hj rfl]
  have hm : (cut (ns.map D.int) none (some 63)).map absD = ((ns.take 63).map fun i => if i < 0 then -i else i).map D.int := by
    rw [cut_63, ← List.map_take, List.map_map, List.map_map]
    rfl
  have hl : ((ns.take 63).map fun i => if i < 0 then -i else i).length ≤ 16777216 := by simp; omega
  refine ⟨hand ((ns.take 63).map fun i => if i < 0 then -i else i) 0 0 (811 + 7 * ((ns.take 63).length : Nat)) 0, ?_, _, _, _, _, _, rfl, Int.le_refl _, fun c hc => ?_⟩
  · show Rf.finW f_hand (seqS ((evalE (cl T w k) (.sh (.lc (.p1 .abs (.e (.p1 .int (.vw 2)))) (.nm 2) (.seq (.slcv 0 none (some (.cst (.int 63))))) none [2])) [Sl.sh (.scr ns), .no, .no]).tho fun d s => optS (bindT (isFresh (cl T w k) _) (.nm 1) d s) .nx) (execSs (cl T w k) (b_hand.drop 1))) = _
    have e2 : evalI (cl T w k) (.seq (.slcv 0 none (some (.cst (.int 63))))) [Sl.sh (.scr ns), .no, .no] = .ok (cut (ns.map D.int) none (some 63)) [Sl.sh (.scr ns), .no, .no] := by simp [ss_nil, ss_cons, ev_cst, ev_var, ev_mov, ev_glob, ev_sh, ev_tup, ev_lst, ev_bin, ev_binv, ev_neg, ev_cmp, ev_cmpv, ev_chain, ev_and, ev_or, ev_not, ev_ite, ev_call, ev_p1, ev_p2, ev_isi, ev_sub, ev_subv, ev_slc, ev_slcv, ev_rev, ev_pop, ev_popAt, ev_dnew, ev_lrg, ev_idx, ev_cnt, ev_tupz, ev_nev, ev_mk, ev_fld, ev_isio, ev_cmpI, et_cmpI, ex_nev, ex_asg, ex_par, ex_aug, ex_setI, ex_augI, ex_app, ex_ext, ex_expr, ex_ret, ex_retN, ex_pass, ex_brk, ex_cnt, ex_ifS, ex_raise, ex_forS, ex_whl, evalV, evalT, evalEs, evalA, evalA1, evalO, evalC, evalI, enterE, slotR, ownR, ownC, setD, readR, moveR, outs, mapM, isTys_cons, isFreshF, L2.ixN, fillA, putA, putP, slice]
    have hle : (cut (ns.map D.int) none (some 63)).length ≤ sizeLine := by rw [cut_63, sizeLine_eq]; simp; omega
    have e1 : evalE (cl T w k) (.lc (.p1 .abs (.e (.p1 .int (.vw 2)))) (.nm 2) (.seq (.slcv 0 none (some (.cst (.int 63))))) none [2]) [Sl.sh (.scr ns), .no, .no] = .ok (.lst (((ns.take 63).map fun i => if i < 0 then -i else i).map D.int)) [Sl.sh (.scr ns), .no, .no] := by
      rw [lc_map absD e2 (fun d hd => ?_) hle, hm]
      · rfl
      · rw [cut_63] at hd
        obtain ⟨i, hi, rfl⟩ := List.mem_map.mp (List.mem_of_mem_take hd)
        exact ⟨[Sl.sh (.scr ns), .no, .sh (.int i)], by rw [turn_eq rfl]; simp [ss_nil, ss_cons, ev_cst, ev_var, ev_mov, ev_glob, ev_sh, ev_tup, ev_lst, ev_bin, ev_binv, ev_neg, ev_cmp, ev_cmpv, ev_chain, ev_and, ev_or, ev_not, ev_ite, ev_call, ev_p1, ev_p2, ev_isi, ev_sub, ev_subv, ev_slc, ev_slcv, ev_rev, ev_pop, ev_popAt, ev_dnew, ev_lrg, ev_idx, ev_cnt, ev_tupz, ev_nev, ev_mk, ev_fld, ev_isio, ev_cmpI, et_cmpI, ex_nev, ex_asg, ex_par, ex_aug, ex_setI, ex_augI, ex_app, ex_ext, ex_expr, ex_ret, ex_retN, ex_pass, ex_brk, ex_cnt, ex_ifS, ex_raise, ex_forS, ex_whl, evalV, evalT, evalEs, evalA, evalA1, evalO, evalC, evalI, enterE, slotR, ownR, ownC, setD, readR, moveR, outs, mapM, isTys_cons, isFreshF, L2.ixN, fillA, putA, putP, absD, wipeE], by simp [wipeE]⟩
    rw [show evalE (cl T w k) (.sh (.lc (.p1 .abs (.e (.p1 .int (.vw 2)))) (.nm 2) (.seq (.slcv 0 none (some (.cst (.int 63))))) none [2])) [Sl.sh (.scr ns), .no, .no] = _ from e1]
    simp [b_hand, f_hand, ss_nil, ss_cons, ev_cst, ev_var, ev_mov, ev_glob, ev_sh, ev_tup, ev_lst, ev_bin, ev_binv, ev_neg, ev_cmp, ev_cmpv, ev_chain, ev_and, ev_or, ev_not, ev_ite, ev_call, ev_p1, ev_p2, ev_isi, ev_sub, ev_subv, ev_slc, ev_slcv, ev_rev, ev_pop, ev_popAt, ev_dnew, ev_lrg, ev_idx, ev_cnt, ev_tupz, ev_nev, ev_mk, ev_fld, ev_isio, ev_cmpI, et_cmpI, ex_nev, ex_asg, ex_par, ex_aug, ex_setI, ex_augI, ex_app, ex_ext, ex_expr, ex_ret, ex_retN, ex_pass, ex_brk, ex_cnt, ex_ifS, ex_raise, ex_forS, ex_whl, evalV, evalT, evalEs, evalA, evalA1, evalO, evalC, evalI, enterE, slotR, ownR, ownC, setD, readR, moveR, outs, mapM, isTys_cons, isFreshF, L2.ixN, fillA, putA, putP, hand, bin_mul (mulOk_l (show ((7:Int)).natAbs < 2 ^ 64 by decide))]
  · obtain ⟨i, _, rfl⟩ := List.mem_map.mp hc
    split <;> omega
/-- one of some -/
def b_any (jd : Nat) : List St := [
  .ret (.subv 1 (.call jd [.io 0, .e (.p1 .len (.vw 1))]))]
def f_any (jd : Nat) : Fn := ⟨2, 2, [0], false, b_any jd⟩
theorem any_ok {T : Tab} {w k j jd : Nat} (hj : T[j]? = some (f_any jd)) (hd : T[jd]? = some f_draw) {h : D} (hh : IsHand h) {ds : List D} (hne : ds ≠ []) (hlen : ds.length < 1073741824) {t : D} (ht : t = .lst ds ∨ t = .tup ds) :
    ∃ (d h' : D) (i : Nat), run T w (k + 2) j [h, t] = .ok d [h'] ∧ ds[i]? = some d ∧ IsHand h' := by
  have hpos : 0 < ds.length := List.length_pos_iff.mpr hne
  obtain ⟨v, h', e, v0, v1, hh'⟩ := draw_ok (T := T) (w := w) (k := k) hd hh (b := (ds.length : Nat)) (by omega) (divOk_s (by omega) (by omega))
  obtain ⟨i, rfl⟩ := Int.eq_ofNat_of_zero_le v0
  have hi : i < ds.length := by omega
  refine ⟨ds[i], h', i, ?_, by simp [hi], hh'⟩
  have hat : L2.atI ds (i : Int) = some ds[i] := L2.atI_nat (by simp [hi])
  have c1 := hh.isC
  rw [run_def hj rfl]
  rcases ht with rfl | rfl <;> simp [f_any, b_any, ss_nil, ss_cons, ev_cst, ev_var, ev_mov, ev_glob, ev_sh, ev_tup, ev_lst, ev_bin, ev_binv, ev_neg, ev_cmp, ev_cmpv, ev_chain, ev_and, ev_or, ev_not, ev_ite, ev_call, ev_p1, ev_p2, ev_isi, ev_sub, ev_subv, ev_slc, ev_slcv, ev_rev, ev_pop, ev_popAt, ev_dnew, ev_lrg, ev_idx, ev_cnt, ev_tupz, ev_nev, ev_mk, ev_fld, ev_isio, ev_cmpI, et_cmpI, ex_nev, ex_asg, ex_par, ex_aug, ex_setI, ex_augI, ex_app, ex_ext, ex_expr, ex_ret, ex_retN, ex_pass, ex_brk, ex_cnt, ex_ifS, ex_raise, ex_forS, ex_whl, evalV, evalT, evalEs, evalA, evalA1, evalO, evalC, evalI, enterE, slotR, ownR, ownC, setD, readR, moveR, outs, mapM, isTys_cons, isFreshF, L2.ixN, fillA, putA, putP, e, hat, hh.isC, hh'.isC]
end Sh
end Rf

/-! Rg, part Y: calls by levels, what is wished of an end, loops and comprehensions as wishes, the hand as a thing. -/
namespace Rf
open PySem
/-- the calls at a level of n at least -/
def AtL (T : Tab) (w : Nat) (C : Calls) (n : Nat) : Prop := ∃ K, n ≤ K ∧ C = cl T w K
theorem AtL.le {T : Tab} {w : Nat} {C : Calls} {n m : Nat} (h : AtL T w C n) (hm : m ≤ n := by decide) : AtL T w C m := let ⟨K, a, b⟩ := h; ⟨K, Nat.le_trans hm a, b⟩
theorem AtL.fr {T : Tab} {w : Nat} {C : Calls} {n : Nat} (h : AtL T w C n) (j : Nat) {fd : Fn} (hT : T[j]? = some fd) : C.fr j = fd.fr := by
  obtain ⟨K, a, rfl⟩ := h
  exact fr_of hT
theorem AtL.fuel {T : Tab} {w : Nat} {C : Calls} {n : Nat} (h : AtL T w C n) : C.fuel = w := by
  obtain ⟨K, a, rfl⟩ := h
  rfl
/-- a call's end: a value, as is wished -/
def CR.is (r : CR) (Q : D → List D → Prop) : Prop := match r with
  | .ok d o => Q d o
  | _ => False
/-- .. an error, as is wished -/
def CR.er (r : CR) (Q : D → List D → Prop) : Prop := match r with
  | .exc d o => Q d o
  | _ => False
section
variable {Q : D → List D → Prop} {d : D} {o : List D} {r : CR}
@[simp] theorem is_ok : (CR.ok d o).is Q = Q d o := Eq.trans rfl rfl
@[simp] theorem is_exc : (CR.exc d o).is Q = False := Eq.trans rfl rfl
@[simp] theorem is_stuck : CR.stuck.is Q = False := Eq.trans rfl rfl
@[simp] theorem er_ok : (CR.ok d o).er Q = False := Eq.trans rfl rfl
@[simp] theorem er_exc : (CR.exc d o).er Q = Q d o := Eq.trans rfl rfl
@[simp] theorem er_stuck : CR.stuck.er Q = False := Eq.trans rfl rfl
theorem CR.is.out (h : r.is Q) : ∃ d o, r = .ok d o ∧ Q d o := by
  cases r with
  | ok d o => exact ⟨d, o, rfl, h⟩
  | _ => exact False.elim h
theorem CR.er.out (h : r.er Q) : ∃ d o, r = .exc d o ∧ Q d o := by
  cases r with
  | exc d o => exact ⟨d, o, rfl, h⟩
  | _ => exact False.elim h
theorem is_eq : (r.is fun a b => a = d ∧ b = o) ↔ r = .ok d o := by
  constructor
  · intro h
    obtain ⟨d', o', e, rfl, rfl⟩ := h.out
    exact e
  · rintro rfl
    exact ⟨rfl, rfl⟩
theorem er_eq : (r.er fun a b => a = d ∧ b = o) ↔ r = .exc d o := by
  constructor
  · intro h
    obtain ⟨d', o', e, rfl, rfl⟩ := h.out
    exact e
  · rintro rfl
    exact ⟨rfl, rfl⟩
end
/-- one level in: what is shown of the body at every level is so of the call -/
theorem step {T : Tab} {w : Nat} {C : Calls} {n j : Nat} {fd : Fn} {ds : List D} {P : CR → Prop} (hT : T[j]? = some fd) (hl : ds.length = fd.ps) (hC : AtL T w C (n + 1))
    (h : ∀ C', AtL T w C' n → P (Rf.finW fd (execSs C' fd.body (enterE fd.io 0 ds ++ List.replicate (fd.n - fd.ps) Sl.no)))) : P (C.fn j ds) := by
  obtain ⟨K, hK, rfl⟩ := hC
  obtain ⟨k, rfl⟩ : ∃ k, K = k + 1 := ⟨K - 1, by omega⟩
  show P (run T w (k + 1) j ds)
  rw [run_def hT hl]
  exact h _ ⟨k, by omega, rfl⟩
theorem stepE {T : Tab} {w : Nat} {C : Calls} {n j : Nat} {fd : Fn} {ds : List D} {d : D} {o : List D} (hT : T[j]? = some fd) (hl : ds.length = fd.ps) (hC : AtL T w C (n + 1))
    (h : ∀ C', AtL T w C' n → (Rf.finW fd (execSs C' fd.body (enterE fd.io 0 ds ++ List.replicate (fd.n - fd.ps) Sl.no))).is fun a b => a = d ∧ b = o) : C.fn j ds = .ok d o :=
  is_eq.mp (step (P := fun r => r.is fun a b => a = d ∧ b = o) hT hl hC h)
theorem stepI {T : Tab} {w : Nat} {C : Calls} {n j : Nat} {fd : Fn} {ds : List D} {Q : D → List D → Prop} (hT : T[j]? = some fd) (hl : ds.length = fd.ps) (hC : AtL T w C (n + 1))
    (h : ∀ C', AtL T w C' n → (Rf.finW fd (execSs C' fd.body (enterE fd.io 0 ds ++ List.replicate (fd.n - fd.ps) Sl.no))).is Q) : (C.fn j ds).is Q :=
  step (P := fun r => r.is Q) hT hl hC h
theorem stepX {T : Tab} {w : Nat} {C : Calls} {n j : Nat} {fd : Fn} {ds : List D} {d : D} {o : List D} (hT : T[j]? = some fd) (hl : ds.length = fd.ps) (hC : AtL T w C (n + 1))
    (h : ∀ C', AtL T w C' n → (Rf.finW fd (execSs C' fd.body (enterE fd.io 0 ds ++ List.replicate (fd.n - fd.ps) Sl.no))).er fun a b => a = d ∧ b = o) : C.fn j ds = .exc d o :=
  er_eq.mp (step (P := fun r => r.er fun a b => a = d ∧ b = o) hT hl hC h)
/-- keeps a goal folded while facts are taken apart -/
structure Hid (P : Prop) : Prop where
  out : P
theorem stepIh {T : Tab} {w : Nat} {C : Calls} {n j : Nat} {fd : Fn} {ds : List D} {Q : D → List D → Prop} (hT : T[j]? = some fd) (hl : ds.length = fd.ps) (hC : AtL T w C (n + 1))
    (h : ∀ C', AtL T w C' n → Hid ((Rf.finW fd (execSs C' fd.body (enterE fd.io 0 ds ++ List.replicate (fd.n - fd.ps) Sl.no))).is Q)) : (C.fn j ds).is Q :=
  stepI hT hl hC fun C' h' => (h C' h').out
theorem stepEh {T : Tab} {w : Nat} {C : Calls} {n j : Nat} {fd : Fn} {ds : List D} {d : D} {o : List D} (hT : T[j]? = some fd) (hl : ds.length = fd.ps) (hC : AtL T w C (n + 1))
    (h : ∀ C', AtL T w C' n → Hid ((Rf.finW fd (execSs C' fd.body (enterE fd.io 0 ds ++ List.replicate (fd.n - fd.ps) Sl.no))).is fun a b => a = d ∧ b = o)) : C.fn j ds = .ok d o :=
  stepE hT hl hC fun C' h' => (h C' h').out
/-! ### what is wished of statements -/
structure Wi where
  nx : Env → Prop
  rt : D → Env → Prop := fun _ _ => False
  bk : Env → Prop := fun _ => False
def S.w (r : Rf.S) (q : Wi) : Prop := match r with
  | .nx s => q.nx s
  | .ct s => q.nx s
  | .bk s => q.bk s
  | .ret d s => q.rt d s
  | _ => False
section
variable {q : Wi} {s : Env} {d : D}
@[simp] theorem w_nx : (Rf.S.nx s).w q = q.nx s := Eq.trans rfl rfl
@[simp] theorem w_ct : (Rf.S.ct s).w q = q.nx s := Eq.trans rfl rfl
@[simp] theorem w_bk : (Rf.S.bk s).w q = q.bk s := Eq.trans rfl rfl
@[simp] theorem w_ret : (Rf.S.ret d s).w q = q.rt d s := Eq.trans rfl rfl
@[simp] theorem w_stuck : Rf.S.stuck.w q = False := Eq.trans rfl rfl
@[simp] theorem w_exc : (Rf.S.exc d s).w q = False := Eq.trans rfl rfl
/-- a wish for all that comes behind: I between the turns, R where it returns, B where it breaks -/
theorem for_run {f : D → Env → Rf.S} {R : D → Env → Prop} {B : Env → Prop} (I : Nat → Env → Prop) : ∀ (ds : List D) (n : Nat) (s : Env), I n s → (∀ (i : Nat) d, ds[i]? = some d → ∀ s, I (n + i) s → (f d s).w ⟨I (n + i + 1), R, B⟩) →
    (∃ s', forL f ds s = .nx s' ∧ (I (n + ds.length) s' ∨ B s')) ∨ ∃ d s', forL f ds s = .ret d s' ∧ R d s'
  | [], n, s, hs, _ => .inl ⟨s, rfl, .inl hs⟩
  | d :: ds, n, s, hs, h => by
    have h1 := h 0 d rfl s hs
    have next : ∀ s1, I (n + 1) s1 → (∃ s', forL f ds s1 = .nx s' ∧ (I (n + (d :: ds).length) s' ∨ B s')) ∨ ∃ d s', forL f ds s1 = .ret d s' ∧ R d s' := fun s1 h2 => by
      have := for_run I ds (n + 1) s1 h2 fun i d hd s hs => by
        have := h (i + 1) d (by simpa using hd) s (by rw [show n + (i + 1) = n + 1 + i by omega]; exact hs)
        rw [show n + (i + 1) + 1 = n + 1 + i + 1 by omega] at this
        exact this
      rw [show n + 1 + ds.length = n + (d :: ds).length by rw [List.length_cons]; omega] at this
      exact this
    cases e : f d s with
    | nx s1 =>
      rw [e] at h1
      simp only [forL, e]
      exact next s1 h1
    | ct s1 =>
      rw [e] at h1
      simp only [forL, e]
      exact next s1 h1
    | bk s1 =>
      rw [e] at h1
      simp only [forL, e]
      exact .inl ⟨s1, rfl, .inr h1⟩
    | ret d1 s1 =>
      rw [e] at h1
      simp only [forL, e]
      exact .inr ⟨d1, s1, rfl, h1⟩
    | exc x s1 => rw [e] at h1; exact False.elim h1
    | stuck => rw [e] at h1; exact False.elim h1
theorem while_run {t : Env → R Bool} {f : Env → Rf.S} {R : D → Env → Prop} (I Z : Env → Prop) (μ : Env → Nat) (h : ∀ s, I s → ∃ b s1, t s = .ok b s1 ∧ if b = true then (f s1).w ⟨fun s2 => I s2 ∧ μ s2 < μ s, R, Z⟩ else Z s1) : ∀ (n : Nat) (s : Env), I s → μ s < n →
    (∃ s', whileL t f n s = .nx s' ∧ Z s') ∨ ∃ d s', whileL t f n s = .ret d s' ∧ R d s'
  | 0, s, _, hn => absurd hn (Nat.not_lt_zero _)
  | n + 1, s, hs, hn => by
    obtain ⟨b, s1, e, hb⟩ := h s hs
    cases b with
    | false => exact .inl ⟨s1, by simp [whileL, e], by simpa using hb⟩
    | true =>
      have hb : (f s1).w ⟨fun s2 => I s2 ∧ μ s2 < μ s, R, Z⟩ := by simpa using hb
      cases e2 : f s1 with
      | nx s2 =>
        rw [e2] at hb
        have hb : I s2 ∧ μ s2 < μ s := hb
        have := while_run I Z μ h n s2 hb.1 (by omega)
        simpa [whileL, e, e2] using this
      | ct s2 =>
        rw [e2] at hb
        have hb : I s2 ∧ μ s2 < μ s := hb
        have := while_run I Z μ h n s2 hb.1 (by omega)
        simpa [whileL, e, e2] using this
      | bk s2 => rw [e2] at hb; exact .inl ⟨s2, by simp [whileL, e, e2], hb⟩
      | ret d s2 => rw [e2] at hb; exact .inr ⟨d, s2, by simp [whileL, e, e2], hb⟩
      | exc x s2 => rw [e2] at hb; exact False.elim hb
      | stuck => rw [e2] at hb; exact False.elim hb
end
section
variable {fd : Fn} {Q : D → List D → Prop} {q : Wi} {f : D → Env → Rf.S} {ds : List D} {s : Env} {k : Env → Rf.S} {tg : Tag k} {tf : Tag fd} {t : Env → R Bool} {g : Env → Rf.S} {n : Nat}
/-- a for in a def's body -/
theorem is_for (I : Nat → Env → Prop) (R : D → Env → Prop) (h0 : I 0 s) (ht : ∀ (i : Nat) d, ds[i]? = some d → ∀ s, I i s → (f d s).w ⟨I (i + 1), R, fun _ => False⟩) (hk : ∀ s, I ds.length s → (Rf.finW fd (k s) tf).is Q) (hr : ∀ d s, R d s → (Rf.finW fd (.ret d s) tf).is Q) :
    (Rf.finW fd (seqS (forL f ds s) k tg) tf).is Q := by
  rcases for_run (R := R) (B := fun _ => False) I ds 0 s h0 (fun i d hd s hs => by rw [Nat.zero_add] at hs ⊢; exact ht i d hd s hs) with ⟨s', e, h | h⟩ | ⟨d, s', e, h⟩
  · rw [e]; rw [Nat.zero_add] at h; exact hk s' h
  · exact False.elim h
  · rw [e]; exact hr d s' h
/-- .. in a loop's body -/
theorem w_for (I : Nat → Env → Prop) (R : D → Env → Prop) (h0 : I 0 s) (ht : ∀ (i : Nat) d, ds[i]? = some d → ∀ s, I i s → (f d s).w ⟨I (i + 1), R, fun _ => False⟩) (hk : ∀ s, I ds.length s → (k s).w q) (hr : ∀ d s, R d s → q.rt d s) : (seqS (forL f ds s) k tg).w q := by
  rcases for_run (R := R) (B := fun _ => False) I ds 0 s h0 (fun i d hd s hs => by rw [Nat.zero_add] at hs ⊢; exact ht i d hd s hs) with ⟨s', e, h | h⟩ | ⟨d, s', e, h⟩
  · rw [e]; rw [Nat.zero_add] at h; exact hk s' h
  · exact False.elim h
  · rw [e]; exact hr d s' h
theorem is_while (I Z : Env → Prop) (R : D → Env → Prop) (μ : Env → Nat) (h0 : I s) (hn : μ s < n) (ht : ∀ s, I s → ∃ b s1, t s = .ok b s1 ∧ if b = true then (g s1).w ⟨fun s2 => I s2 ∧ μ s2 < μ s, R, Z⟩ else Z s1) (hk : ∀ s, Z s → (Rf.finW fd (k s) tf).is Q) (hr : ∀ d s, R d s → (Rf.finW fd (.ret d s) tf).is Q) :
    (Rf.finW fd (seqS (whileL t g n s) k tg) tf).is Q := by
  rcases while_run (R := R) I Z μ ht n s h0 hn with ⟨s', e, h⟩ | ⟨d, s', e, h⟩
  · rw [e]; exact hk s' h
  · rw [e]; exact hr d s' h
theorem w_while (I Z : Env → Prop) (R : D → Env → Prop) (μ : Env → Nat) (h0 : I s) (hn : μ s < n) (ht : ∀ s, I s → ∃ b s1, t s = .ok b s1 ∧ if b = true then (g s1).w ⟨fun s2 => I s2 ∧ μ s2 < μ s, R, Z⟩ else Z s1) (hk : ∀ s, Z s → (k s).w q) (hr : ∀ d s, R d s → q.rt d s) :
    (seqS (whileL t g n s) k tg).w q := by
  rcases while_run (R := R) I Z μ ht n s h0 hn with ⟨s', e, h⟩ | ⟨d, s', e, h⟩
  · rw [e]; exact hk s' h
  · rw [e]; exact hr d s' h
end
/-! ### comprehensions -/
/-- a comprehension's own slot behind it -/
def Sl.keep : Sl → Sl
  | .sh d => .sh d
  | _ => .no
@[simp] theorem keep_no : Sl.no.keep = .no := rfl
@[simp] theorem keep_sh (d : D) : (Sl.sh d).keep = .sh d := rfl
@[simp] theorem keep_ow (d : D) : (Sl.ow d).keep = .no := rfl
/-- a turn's end: this item, the slots but the own ones as they were -/
def R.it {α : Type} (r : R α) (own : List Nat) (s : Env) (a : α) : Prop := match r with
  | .ok b s1 => b = a ∧ wipeE s1 own = wipeE s own
  | _ => False
@[simp] theorem it_ok {α : Type} {b a : α} {s1 s : Env} {own : List Nat} : (R.ok b s1).it own s a = (b = a ∧ wipeE s1 own = wipeE s own) := Eq.trans rfl rfl
@[simp] theorem it_exc {α : Type} {x : D} {a : α} {s1 s : Env} {own : List Nat} : (R.exc x s1 : R α).it own s a = False := Eq.trans rfl rfl
@[simp] theorem it_stuck {α : Type} {a : α} {s : Env} {own : List Nat} : (R.stuck : R α).it own s a = False := Eq.trans rfl rfl
theorem R.it.out {α : Type} {r : R α} {own : List Nat} {s : Env} {a : α} (h : r.it own s a) : ∃ s1, r = .ok a s1 ∧ wipeE s1 own = wipeE s own := by
  cases r with
  | ok b s1 => obtain ⟨rfl, h⟩ := h; exact ⟨s1, rfl, h⟩
  | _ => exact False.elim h
theorem wipe_len (s : Env) : ∀ own : List Nat, (wipeE s own).length = s.length
  | [] => rfl
  | i :: r => by simp [wipeE, wipe_len s r]
theorem wipe_no {s : Env} {i : Nat} : ∀ {own : List Nat}, i ∈ own → (wipeE s own)[i]? = none ∨ (wipeE s own)[i]? = some .no
  | [], h => by cases h
  | j :: r, h => by
    by_cases e : j = i
    · subst e
      by_cases hl : j < (wipeE s r).length
      · right; simp only [wipeE]; rw [List.getElem?_set_self hl]
      · left; simp only [wipeE]; rw [List.getElem?_eq_none]; rw [List.length_set]; omega
    · rcases List.mem_cons.mp h with h | h
      · exact absurd h.symm e
      · simp only [wipeE]; rw [List.getElem?_set_ne e]; exact wipe_no h
theorem set_no {s : Env} {i : Nat} (h : s[i]? = none ∨ s[i]? = some .no) : s.set i .no = s := by
  apply List.ext_getElem?
  intro j
  by_cases e : i = j
  · subst e
    rcases h with h | h
    · rw [h]; exact List.getElem?_eq_none (by rw [List.length_set]; exact (List.getElem?_eq_none_iff.mp h))
    · rw [List.getElem?_set_self (List.getElem?_eq_some_iff.mp h).1, h]
  · rw [List.getElem?_set_ne e]
theorem wipe_twice (s : Env) (own : List Nat) : ∀ l : List Nat, (∀ i ∈ l, i ∈ own) → wipeE (wipeE s own) l = wipeE s own
  | [], _ => rfl
  | i :: r, h => by
    simp only [wipeE]
    rw [wipe_twice s own r fun j hj => h j (List.mem_cons_of_mem _ hj)]
    exact set_no (wipe_no (h i List.mem_cons_self))
theorem lc_it {α : Type} {C : Calls} {elt : E} {tg : Tg} {it : It} {cond : Option T} {own : List Nat} {s s1 : Env} (xs : List α) (enc : α → D) (g : α → D) (hi : evalI C it s = .ok (xs.map enc) s1) (h : ∀ x ∈ xs, (turnL C tg cond elt (enc x) (wipeE s1 own)).it own s1 (some (g x))) (hl : xs.length ≤ sizeLine) :
    evalE C (.lc elt tg it cond own) s = .ok (.lst (xs.map g)) (backE s1 (wipeE s1 own) own) := by
  rw [ev_lc, hi]
  simp only [bnd_ok, bind_ok]
  have e : ∀ (xs : List α), (∀ x ∈ xs, (turnL C tg cond elt (enc x) (wipeE s1 own)).it own s1 (some (g x))) → compL own (turnL C tg cond elt) (xs.map enc) (wipeE s1 own) = .ok (xs.map g) (wipeE s1 own) := by
    intro xs
    induction xs with
    | nil => intro _; rfl
    | cons x xs ih =>
      intro h
      obtain ⟨s2, e, w⟩ := (h x List.mem_cons_self).out
      simp only [List.map_cons, compL, e, w, ih fun y hy => h y (List.mem_cons_of_mem _ hy)]
      rfl
  rw [e xs h]
  simp only [bnd_ok, bind_ok]
  rw [if_pos (by rw [List.length_map]; exact hl)]
theorem lc_if {α : Type} {C : Calls} {elt : E} {tg : Tg} {it : It} {cond : Option T} {own : List Nat} {s s1 : Env} (xs : List α) (enc : α → D) (p : α → Bool) (g : α → D) (hi : evalI C it s = .ok (xs.map enc) s1)
    (h : ∀ x ∈ xs, (turnL C tg cond elt (enc x) (wipeE s1 own)).it own s1 (if p x then some (g x) else none)) (hl : xs.length ≤ sizeLine) :
    evalE C (.lc elt tg it cond own) s = .ok (.lst ((xs.filter p).map g)) (backE s1 (wipeE s1 own) own) := by
  rw [ev_lc, hi]
  simp only [bnd_ok, bind_ok]
  have e : ∀ (xs : List α), (∀ x ∈ xs, (turnL C tg cond elt (enc x) (wipeE s1 own)).it own s1 (if p x then some (g x) else none)) → compL own (turnL C tg cond elt) (xs.map enc) (wipeE s1 own) = .ok ((xs.filter p).map g) (wipeE s1 own) := by
    intro xs
    induction xs with
    | nil => intro _; rfl
    | cons x xs ih =>
      intro h
      obtain ⟨s2, e, w⟩ := (h x List.mem_cons_self).out
      rw [List.filter_cons]
      cases hp : p x with
      | true =>
        rw [hp] at e
        simp only [List.map_cons, compL, e, w, ih fun y hy => h y (List.mem_cons_of_mem _ hy), if_true]
        rfl
      | false =>
        rw [hp] at e
        simp only [List.map_cons, compL, e, w, ih fun y hy => h y (List.mem_cons_of_mem _ hy)]
        rfl
  rw [e xs h]
  simp only [bnd_ok, bind_ok]
  rw [if_pos (by rw [List.length_map]; exact Nat.le_trans (List.length_filter_le _ _) hl)]
theorem turn_w {C : Calls} {elt : E} {tg : Tg} {cond : Option T} {d : D} {s : Env} : turnL C tg cond elt d s = (match bindT false tg d s with
    | none => .stuck
    | some s1 => (evalC C cond s1).bnd fun k s => if k then (evalE C elt s).bnd fun x s => .ok (some x) s else .ok none s) := by
  unfold turnL
  cases bindT false tg d s <;> rfl
/-- an end as is wished -/
def R.wi {α : Type} (r : R α) (Q : α → Env → Prop) : Prop := match r with
  | .ok a s => Q a s
  | _ => False
@[simp] theorem wi_ok {α : Type} {a : α} {s : Env} {Q : α → Env → Prop} : (R.ok a s).wi Q = Q a s := Eq.trans rfl rfl
@[simp] theorem wi_exc {α : Type} {x : D} {s : Env} {Q : α → Env → Prop} : (R.exc x s : R α).wi Q = False := Eq.trans rfl rfl
@[simp] theorem wi_stuck {α : Type} {Q : α → Env → Prop} : (R.stuck : R α).wi Q = False := Eq.trans rfl rfl
theorem R.wi.out {α : Type} {r : R α} {Q : α → Env → Prop} (h : r.wi Q) : ∃ a s, r = .ok a s ∧ Q a s := by
  cases r with
  | ok a s => exact ⟨a, s, rfl, h⟩
  | _ => exact False.elim h
/-- a comprehension whose turns change the slots: I between the turns, P of each item -/
theorem lc_run {C : Calls} {elt : E} {tg : Tg} {it : It} {cond : Option T} {own : List Nat} {s s1 : Env} {ds : List D} (I : Nat → Env → Prop) (P : Nat → D → Prop) (hi : evalI C it s = .ok ds s1) (h0 : I 0 (wipeE s1 own))
    (h : ∀ (i : Nat) d, ds[i]? = some d → ∀ s, I i s → (turnL C tg cond elt d s).wi fun o s2 => (∃ x, o = some x ∧ P i x) ∧ I (i + 1) (wipeE s2 own)) (hl : ds.length ≤ sizeLine) :
    ∃ r s2, evalE C (.lc elt tg it cond own) s = .ok (.lst r) (backE s1 s2 own) ∧ I ds.length s2 ∧ r.length = ds.length ∧ ∀ (i : Nat) x, r[i]? = some x → P i x := by
  have key : ∀ (ds : List D) (k : Nat) (s : Env), I k s → (∀ (i : Nat) d, ds[i]? = some d → ∀ s, I (k + i) s → (turnL C tg cond elt d s).wi fun o s2 => (∃ x, o = some x ∧ P (k + i) x) ∧ I (k + i + 1) (wipeE s2 own)) →
      ∃ r s2, compL own (turnL C tg cond elt) ds s = .ok r s2 ∧ I (k + ds.length) s2 ∧ r.length = ds.length ∧ ∀ (i : Nat) x, r[i]? = some x → P (k + i) x := by
    intro ds
    induction ds with
    | nil => intro k s hs _; exact ⟨[], s, rfl, hs, rfl, fun i x h => by simp at h⟩
    | cons d ds ih =>
      intro k s hs h
      obtain ⟨o, s1, e, ⟨x, rfl, px⟩, hI⟩ := (h 0 d rfl s hs).out
      obtain ⟨r, s2, e2, h2, l2, p2⟩ := ih (k + 1) _ hI fun i d hd s hs => by
        have := h (i + 1) d (by simpa using hd) s (by rw [show k + (i + 1) = k + 1 + i by omega]; exact hs)
        rw [show k + (i + 1) = k + 1 + i by omega] at this
        exact this
      refine ⟨x :: r, s2, by simp only [compL, e, e2]; rfl, by rw [List.length_cons, show k + (ds.length + 1) = k + 1 + ds.length by omega]; exact h2, by simp [l2], fun i y hy => ?_⟩
      cases i with
      | zero => simp at hy; subst hy; exact px
      | succ i => rw [show k + (i + 1) = k + 1 + i by omega]; exact p2 i y (by simpa using hy)
  obtain ⟨r, s2, e, h2, l, p⟩ := key ds 0 _ h0 fun i d hd s hs => by
    rw [Nat.zero_add] at hs ⊢
    exact h i d hd s hs
  rw [Nat.zero_add] at h2
  refine ⟨r, s2, ?_, h2, l, fun i x hx => by have := p i x hx; rwa [Nat.zero_add] at this⟩
  rw [ev_lc, hi]
  simp only [bnd_ok, bind_ok]
  rw [e]
  simp only [bnd_ok, bind_ok]
  rw [if_pos (by rw [l]; exact hl)]
/-- two clauses -/
theorem ev_lc2 {C : Calls} {elt : E} {tg tg1 : Tg} {it it1 : It} {cond1 : Option T} {own own1 : List Nat} {s : Env} : evalE C (.lc2 elt tg it tg1 it1 cond1 own own1) s = (evalI C it s).bnd fun ds s1 => (compF own (turnF C tg it1 tg1 cond1 elt own1) ds (wipeE s1 own)).bnd fun r s2 => if r.length ≤ sizeLine then .ok (.lst r) (backE s1 s2 own) else .stuck := rfl
theorem lc2_it {α β : Type} {C : Calls} {elt : E} {tg tg1 : Tg} {it it1 : It} {cond1 : Option T} {own own1 : List Nat} {s s1 : Env} (xs : List α) (enc : α → D) (ys : α → List β) (enc1 : β → D) (g : α → β → D) (hi : evalI C it s = .ok (xs.map enc) s1)
    (h : ∀ x ∈ xs, ∃ s2 s3, bindT false tg (enc x) (wipeE s1 own) = some s2 ∧ evalI C it1 s2 = .ok ((ys x).map enc1) s3 ∧ wipeE (wipeE s3 own1) own = wipeE s1 own ∧ ∀ y ∈ ys x, (turnL C tg1 cond1 elt (enc1 y) (wipeE s3 own1)).it own1 s3 (some (g x y))) (hl : (xs.flatMap fun x => (ys x).map (g x)).length ≤ sizeLine) :
    evalE C (.lc2 elt tg it tg1 it1 cond1 own own1) s = .ok (.lst (xs.flatMap fun x => (ys x).map (g x))) (backE s1 (wipeE s1 own) own) := by
  rw [ev_lc2, hi]
  simp only [bnd_ok, bind_ok]
  have inner : ∀ (x : α) (s3 : Env) (l : List β), (∀ y ∈ l, (turnL C tg1 cond1 elt (enc1 y) (wipeE s3 own1)).it own1 s3 (some (g x y))) → compL own1 (turnL C tg1 cond1 elt) (l.map enc1) (wipeE s3 own1) = .ok (l.map (g x)) (wipeE s3 own1) := by
    intro x s3 l
    induction l with
    | nil => intro _; rfl
    | cons y l ih =>
      intro h
      obtain ⟨s4, e, w⟩ := (h y List.mem_cons_self).out
      simp only [List.map_cons, compL, e, w, ih fun z hz => h z (List.mem_cons_of_mem _ hz)]
      rfl
  have e : ∀ (xs : List α), (∀ x ∈ xs, ∃ s2 s3, bindT false tg (enc x) (wipeE s1 own) = some s2 ∧ evalI C it1 s2 = .ok ((ys x).map enc1) s3 ∧ wipeE (wipeE s3 own1) own = wipeE s1 own ∧ ∀ y ∈ ys x, (turnL C tg1 cond1 elt (enc1 y) (wipeE s3 own1)).it own1 s3 (some (g x y))) →
      compF own (turnF C tg it1 tg1 cond1 elt own1) (xs.map enc) (wipeE s1 own) = .ok (xs.flatMap fun x => (ys x).map (g x)) (wipeE s1 own) := by
    intro xs
    induction xs with
    | nil => intro _; rfl
    | cons x xs ih =>
      intro h
      obtain ⟨s2, s3, e1, e2, w, e3⟩ := h x List.mem_cons_self
      have et : turnF C tg it1 tg1 cond1 elt own1 (enc x) (wipeE s1 own) = .ok ((ys x).map (g x)) (wipeE s3 own1) := by
        unfold turnF
        rw [e1]
        simp only [e2, bind_ok]
        exact inner x s3 (ys x) e3
      simp only [List.map_cons, compF, et, w, ih fun y hy => h y (List.mem_cons_of_mem _ hy)]
      rfl
  rw [e xs h]
  simp only [bnd_ok, bind_ok]
  rw [if_pos hl]
/-! counting and finding numbers -/
theorem cmpb_ints (xs : List Int) : (xs.map D.int).all cmpb = true := by rw [List.all_eq_true]; intro d hd; obtain ⟨i, _, rfl⟩ := List.mem_map.mp hd; rfl
theorem cntD_int (xs : List Int) (y : Int) (h : xs.length ≤ sizeLine) : cntD (xs.map .int) (.int y) = some (.int (xs.filter fun x => decide (x = y)).length) := by
  unfold cntD
  rw [cmpb_ints]
  simp only [cmpb_int, Bool.and_self, Bool.true_and, List.length_map, decide_eq_true h, if_true]
  congr 2
  rw [List.filter_map, List.length_map]
  rfl
theorem idxD_int (xs : List Int) (y : Int) (h : xs.length ≤ sizeLine) {i : Nat} (hi : xs.findIdx? (fun x => decide (x = y)) = some i) : idxD (xs.map .int) (.int y) = some (.int (i : Nat)) := by
  unfold idxD
  rw [cmpb_ints]
  simp only [cmpb_int, Bool.and_self, Bool.true_and, List.length_map, decide_eq_true h, if_true]
  rw [List.findIdx?_map]
  have : ((fun d => eqd d (D.int y)) ∘ D.int) = fun x => decide (x = y) := rfl
  rw [this, hi]
  rfl
theorem ints_of {q : Int → Prop} : ∀ {r : List D}, (∀ x ∈ r, ∃ v, x = .int v ∧ q v) → ∃ xs : List Int, r = xs.map .int ∧ ∀ x ∈ xs, q x
  | [], _ => ⟨[], rfl, fun x h => by cases h⟩
  | d :: r, h => by
    obtain ⟨v, rfl, hv⟩ := h d List.mem_cons_self
    obtain ⟨xs, rfl, hx⟩ := ints_of (r := r) fun x hx => h x (List.mem_cons_of_mem _ hx)
    refine ⟨v :: xs, rfl, fun x hx' => ?_⟩
    rcases List.mem_cons.mp hx' with rfl | hx'
    · exact hv
    · exact hx x hx'
theorem rng2_s {C : Calls} {a b : E} {s : Env} {i j : Int} (h : evalE C a s = .ok (.int i) s) (h2 : evalE C b s = .ok (.int j) s) (b1 : -(2 ^ 62) ≤ i) (b2 : i < 2 ^ 62) (b3 : -(2 ^ 62) ≤ j) (b4 : j < 2 ^ 62) : evalI C (.rng2 a b) s = .ok (rangeD i (j - i).toNat) s := rng2_ok h h2 b1 b2 b3 b4
theorem rng1_s {C : Calls} {a : E} {s : Env} {n : Nat} (h : evalE C a s = .ok (.int n) s) (hn : (n : Int) < 2 ^ 62) : evalI C (.rng1 a) s = .ok (rangeD 0 n) s := rng1_ok h hn
theorem range_map (lo : Int) (n : Nat) : rangeD lo n = (List.range n).map fun (i : Nat) => D.int (lo + (i : Nat)) := rfl
/-! ### the hand -/
namespace Sh
structure Kd where
  c0 : Int
  c1 : Option Int
  c2 : Option Int
  c3 : Int
  m1 : Int
  a2 : Int
  m3 : Int
structure Kd.Ok (κ : Kd) : Prop where
  m3 : 0 < κ.m3 ∧ κ.m3 < 2 ^ 64
  c1 : ∀ c, κ.c1 = some c → c.natAbs < 2 ^ 64
  c2 : ∀ c, κ.c2 = some c → c.natAbs < 2 ^ 64
  m1 : κ.m1.natAbs < 2 ^ 64
structure Hand where
  cs : List Int
  p : Nat
  l : Int
  s : Int
  n : Int
  hl : 0 ≤ l
  hcs : ∀ c ∈ cs, 0 ≤ c
/-- the hand as data -/
def hd (h : Hand) : D := hand h.cs h.p h.l h.s h.n
@[simp] theorem hd_ex (h : Hand) : ∃ x, hd h = hd x := ⟨h, rfl⟩
@[simp] theorem hd_isC {h : Hand} : Rf.isC (hd h) = true := rfl
def bK_draw (κ : Kd) : List St := [
  .ifS (.and (.cmp .eq (.subv 0 (.cst (.int 2))) (.e (.cst (.int 0)))) (.cmp .lt (.subv 0 (.cst (.int 1))) (.e (.p1 .len (.e (.subv 0 (.cst (.int 0)))))))) [.asg (.nm 3) (.sub (.subv 0 (.cst (.int 0))) (.subv 0 (.cst (.int 1)))), .setI 0 (.cst (.int 1)) (.bin .add (.subv 0 (.cst (.int 1))) (.e (.cst (.int 1)))),
    .setI 0 (.cst (.int 3)) (.bin .mod (.p1 .int (.e (.bin .add (.bin .add (.bin .mul (.subv 0 (.cst (.int 3))) (.e (.cst (.int 69621)))) (match κ.c2 with
      | some c => .e (.bin .mul (.var 3) (.e (.cst (.int c))))
      | none => .vw 3)) (.e (.cst (.int κ.c3)))))) (.e (.cst (.int 2147483629)))),
    .ifS (.cmp .ge (.var 3) (.e (.bin .pow (.cst (.int 10)) (.e (.cst (.int 18)))))) [.setI 0 (.cst (.int 2)) (.var 3)] []] [],
  .ifS (.cmp .gt (.subv 0 (.cst (.int 2))) (.e (.cst (.int 0)))) [.asg (.nm 4) (.bin .mod (.p1 .int (.e (.subv 0 (.cst (.int 2))))) (.vw 1)), .setI 0 (.cst (.int 2)) (.bin .fdiv (.subv 0 (.cst (.int 2))) (.vw 1)), .ret (.var 4)] [],
  .setI 0 (.cst (.int 4)) (.bin .add (.subv 0 (.cst (.int 4))) (.e (.cst (.int 1)))),
  .asg (.nm 2) (.bin .mod (.p1 .int (.e (.bin .mul (.p1 .int (.e (.bin .add (.subv 0 (.cst (.int 3))) (.e (.bin .mul (.cst (.int 7919)) (.e (.subv 0 (.cst (.int 4))))))))) (.e (.cst (.int κ.m1)))))) (.e (.cst (.int 2147483647)))),
  .asg (.nm 2) (.bin .mod (.p1 .int (.e (.bin .mul (.var 2) (.e (.bin .add (.bin .fdiv (.var 2) (.e (.cst (.int 1009)))) (.e (.cst (.int 69621)))))))) (.e (.cst (.int 2147483647)))),
  .asg (.nm 2) (.bin .mod (.p1 .int (.e (.bin .mul (.var 2) (.e (.bin .add (.bin .fdiv (.var 2) (.e (.cst (.int 2003)))) (.e (.cst (.int κ.a2)))))))) (.e (.cst (.int κ.m3)))),
  .ret (.bin .mod (.p1 .int (.e (.bin .fdiv (.var 2) (.e (.cst (.int 16)))))) (.vw 1))]
def fK_draw (κ : Kd) : Fn := ⟨2, 5, [0], false, bK_draw κ⟩
def knum (κ : Kd) (s n : Int) : Int := (num2 ((s + 7919 * (n + 1)) * κ.m1 % 2147483647)) * (num2 ((s + 7919 * (n + 1)) * κ.m1 % 2147483647) / 2003 + κ.a2) % κ.m3 / 16
def kdrawV (κ : Kd) (b l s n : Int) : Int × Int × Int := if 0 < l then (l % b, l / b, n) else (knum κ s n % b, l, n + 1)
/-- the hand once its next cell is taken, where it takes one -/
def Hand.pre (κ : Kd) (h : Hand) : Hand :=
  if hp : h.l = 0 ∧ h.p < h.cs.length then
    ⟨h.cs, h.p + 1, if 1000000000000000000 ≤ h.cs[h.p] then h.cs[h.p] else 0, (h.s * 69621 + (match κ.c2 with
      | some c => h.cs[h.p] * c
      | none => h.cs[h.p]) + κ.c3) % 2147483629, h.n, by have := h.hcs _ (List.getElem_mem hp.2); split <;> omega, h.hcs⟩
  else h
/-- what is drawn below b -/
def Hand.v (κ : Kd) (h : Hand) (b : Int) : Int := (kdrawV κ b (h.pre κ).l (h.pre κ).s (h.pre κ).n).1
/-- the hand behind a draw below b -/
def Hand.nx (κ : Kd) (h : Hand) (b : Int) : Hand := if hb : 0 < b then
  ⟨(h.pre κ).cs, (h.pre κ).p, (kdrawV κ b (h.pre κ).l (h.pre κ).s (h.pre κ).n).2.1, (h.pre κ).s, (kdrawV κ b (h.pre κ).l (h.pre κ).s (h.pre κ).n).2.2, by
    have := (h.pre κ).hl
    unfold kdrawV
    split
    · exact Int.ediv_nonneg (by omega) (by omega)
    · exact this, (h.pre κ).hcs⟩ else h
theorem v_ge (κ : Kd) (h : Hand) {b : Int} (hb : 0 < b) : 0 ≤ h.v κ b := by
  unfold Hand.v kdrawV
  split <;> exact Int.emod_nonneg _ (by omega)
theorem v_lt (κ : Kd) (h : Hand) {b : Int} (hb : 0 < b) : h.v κ b < b := by
  unfold Hand.v kdrawV
  split <;> exact Int.emod_lt_of_pos _ hb
theorem kdraw_tail {C : Calls} {κ : Kd} (ok : κ.Ok) (h : Hand) (b : Int) (hb : 0 < b) (db : divOk b = true) (sl : Sl) :
    Rf.finW (fK_draw κ) (execSs C ((bK_draw κ).drop 1) [Sl.ow (hd h), .sh (.int b), .no, sl, .no]) = .ok (.int (kdrawV κ b h.l h.s h.n).1) [hand h.cs h.p (kdrawV κ b h.l h.s h.n).2.1 h.s (kdrawV κ b h.l h.s h.n).2.2] := by
  obtain ⟨cs, p, l, s, n, hl, hcs⟩ := h
  have m1 : ∀ x : Int, mulOk x κ.m1 = true := fun x => mulOk_r ok.m1
  have m0 : ∀ x : Int, mulOk 7919 x = true := fun x => mulOk_l (by decide)
  have d1 : divOk 1009 = true := by decide
  have d2 : divOk 2003 = true := by decide
  have d3 : divOk 16 = true := by decide
  have small : ∀ x m : Int, 0 < m → m < 2 ^ 64 → ∀ y, mulOk (x % m) y = true := fun x m h1 h2 y => mulOk_l (by have := Int.emod_nonneg x (show m ≠ 0 by omega); have := Int.emod_lt_of_pos x h1; omega)
  have s1 := fun x => small x 2147483647 (by decide) (by decide)
  have hm3 := ok.m3.1
  by_cases h : 0 < l
  · have e : kdrawV κ b l s n = (l % b, l / b, n) := if_pos h
    rw [e]
    simp [fK_draw, bK_draw, hd, hand, ss_nil, ss_cons, ev_cst, ev_var, ev_mov, ev_glob, ev_sh, ev_tup, ev_lst, ev_bin, ev_binv, ev_neg, ev_cmp, ev_cmpv, ev_chain, ev_and, ev_or, ev_not, ev_ite, ev_call, ev_p1, ev_p2, ev_isi, ev_sub, ev_subv, ev_slc, ev_slcv, ev_rev, ev_pop, ev_popAt, ev_dnew, ev_lrg, ev_idx, ev_cnt, ev_tupz, ev_nev, ev_mk, ev_fld, ev_isio, ev_cmpI, et_cmpI, ex_nev, ex_asg, ex_par, ex_aug, ex_setI, ex_augI, ex_app, ex_ext, ex_expr, ex_ret, ex_retN, ex_pass, ex_brk, ex_cnt, ex_ifS, ex_raise, ex_forS, ex_whl, evalV, evalT, evalEs, evalA, evalA1, evalO, evalC, evalI, enterE, slotR, ownR, ownC, setD, readR, moveR, outs, mapM, isTys_cons, isFreshF, L2.ixN, fillA, putA, putP, atI5, h, bin_mod hb, bin_fdiv db]
  · have e : kdrawV κ b l s n = (knum κ s n % b, l, n + 1) := if_neg h
    rw [e]
    simp [fK_draw, bK_draw, hd, hand, ss_nil, ss_cons, ev_cst, ev_var, ev_mov, ev_glob, ev_sh, ev_tup, ev_lst, ev_bin, ev_binv, ev_neg, ev_cmp, ev_cmpv, ev_chain, ev_and, ev_or, ev_not, ev_ite, ev_call, ev_p1, ev_p2, ev_isi, ev_sub, ev_subv, ev_slc, ev_slcv, ev_rev, ev_pop, ev_popAt, ev_dnew, ev_lrg, ev_idx, ev_cnt, ev_tupz, ev_nev, ev_mk, ev_fld, ev_isio, ev_cmpI, et_cmpI, ex_nev, ex_asg, ex_par, ex_aug, ex_setI, ex_augI, ex_app, ex_ext, ex_expr, ex_ret, ex_retN, ex_pass, ex_brk, ex_cnt, ex_ifS, ex_raise, ex_forS, ex_whl, evalV, evalT, evalEs, evalA, evalA1, evalO, evalC, evalI, enterE, slotR, ownR, ownC, setD, readR, moveR, outs, mapM, isTys_cons, isFreshF, L2.ixN, fillA, putA, putP, atI5, h, bin_mod hb, bin_mul (m1 _), bin_mul (m0 _), bin_fdiv d1, bin_fdiv d2, bin_fdiv d3, bin_mod (show (0:Int) < 2147483647 by decide), bin_mod hm3, bin_mul (s1 _ _), knum, num2]
theorem kdraw_ok {T : Tab} {w j : Nat} {κ : Kd} (ok : κ.Ok) (hj : T[j]? = some (fK_draw κ)) {C : Calls} (hC : AtL T w C 1) (h : Hand) {b : Int} (hb : 0 < b) (db : divOk b = true) :
    C.fn j [hd h, .int b] = .ok (.int (h.v κ b)) [hd (h.nx κ b)] := by
  refine step (P := fun r => r = .ok (.int (h.v κ b)) [hd (h.nx κ b)]) hj rfl hC fun C _ => ?_
  have fin : ∀ sl, Rf.finW (fK_draw κ) (execSs C ((bK_draw κ).drop 1) [Sl.ow (hd (h.pre κ)), .sh (.int b), .no, sl, .no]) = .ok (.int (h.v κ b)) [hd (h.nx κ b)] := fun sl => by
    rw [kdraw_tail ok (h.pre κ) b hb db sl]
    unfold Hand.nx
    rw [dif_pos hb]
    rfl
  by_cases hp : h.l = 0 ∧ h.p < h.cs.length
  · have epre : h.pre κ = ⟨h.cs, h.p + 1, if 1000000000000000000 ≤ h.cs[h.p] then h.cs[h.p] else 0, (h.s * 69621 + (match κ.c2 with
      | some c => h.cs[h.p] * c
      | none => h.cs[h.p]) + κ.c3) % 2147483629, h.n, by have := h.hcs _ (List.getElem_mem hp.2); split <;> omega, h.hcs⟩ := by unfold Hand.pre; rw [dif_pos hp]
    rw [epre] at fin
    rw [← fin (.sh (.int h.cs[h.p]))]
    congr 1
    clear fin epre
    obtain ⟨cs, p, l, s, n, hl, hcs⟩ := h
    obtain ⟨rfl, hp⟩ : l = 0 ∧ p < cs.length := hp
    have hp : p < cs.length := hp
    have hget : L2.atI (cs.map D.int) (p : Int) = some (D.int cs[p]) := L2.atI_nat (by simp [hp])
    have m1 : ∀ x : Int, mulOk x 69621 = true := fun x => mulOk_r (by decide)
    show seqS (execS C ((bK_draw κ).head (by simp [bK_draw])) _) (execSs C ((bK_draw κ).drop 1)) = _
    obtain ⟨o, hc⟩ : ∃ o, κ.c2 = o := ⟨_, rfl⟩
    cases o with
    | none =>
      by_cases hbig : 1000000000000000000 ≤ cs[p]
      · simp [bK_draw, fK_draw, hd, hand, ss_nil, ss_cons, ev_cst, ev_var, ev_mov, ev_glob, ev_sh, ev_tup, ev_lst, ev_bin, ev_binv, ev_neg, ev_cmp, ev_cmpv, ev_chain, ev_and, ev_or, ev_not, ev_ite, ev_call, ev_p1, ev_p2, ev_isi, ev_sub, ev_subv, ev_slc, ev_slcv, ev_rev, ev_pop, ev_popAt, ev_dnew, ev_lrg, ev_idx, ev_cnt, ev_tupz, ev_nev, ev_mk, ev_fld, ev_isio, ev_cmpI, et_cmpI, ex_nev, ex_asg, ex_par, ex_aug, ex_setI, ex_augI, ex_app, ex_ext, ex_expr, ex_ret, ex_retN, ex_pass, ex_brk, ex_cnt, ex_ifS, ex_raise, ex_forS, ex_whl, evalV, evalT, evalEs, evalA, evalA1, evalO, evalC, evalI, enterE, slotR, ownR, ownC, setD, readR, moveR, outs, mapM, isTys_cons, isFreshF, L2.ixN, fillA, putA, putP, atI5, hp, hget, hbig, pow18, hc, bin_mul (m1 _), bin_mod (show (0:Int) < 2147483629 by decide)]
      · simp [bK_draw, fK_draw, hd, hand, ss_nil, ss_cons, ev_cst, ev_var, ev_mov, ev_glob, ev_sh, ev_tup, ev_lst, ev_bin, ev_binv, ev_neg, ev_cmp, ev_cmpv, ev_chain, ev_and, ev_or, ev_not, ev_ite, ev_call, ev_p1, ev_p2, ev_isi, ev_sub, ev_subv, ev_slc, ev_slcv, ev_rev, ev_pop, ev_popAt, ev_dnew, ev_lrg, ev_idx, ev_cnt, ev_tupz, ev_nev, ev_mk, ev_fld, ev_isio, ev_cmpI, et_cmpI, ex_nev, ex_asg, ex_par, ex_aug, ex_setI, ex_augI, ex_app, ex_ext, ex_expr, ex_ret, ex_retN, ex_pass, ex_brk, ex_cnt, ex_ifS, ex_raise, ex_forS, ex_whl, evalV, evalT, evalEs, evalA, evalA1, evalO, evalC, evalI, enterE, slotR, ownR, ownC, setD, readR, moveR, outs, mapM, isTys_cons, isFreshF, L2.ixN, fillA, putA, putP, atI5, hp, hget, hbig, pow18, hc, bin_mul (m1 _), bin_mod (show (0:Int) < 2147483629 by decide)]
    | some c =>
      have m2 : ∀ x : Int, mulOk x c = true := fun x => mulOk_r (ok.c2 c hc)
      by_cases hbig : 1000000000000000000 ≤ cs[p]
      · simp [bK_draw, fK_draw, hd, hand, ss_nil, ss_cons, ev_cst, ev_var, ev_mov, ev_glob, ev_sh, ev_tup, ev_lst, ev_bin, ev_binv, ev_neg, ev_cmp, ev_cmpv, ev_chain, ev_and, ev_or, ev_not, ev_ite, ev_call, ev_p1, ev_p2, ev_isi, ev_sub, ev_subv, ev_slc, ev_slcv, ev_rev, ev_pop, ev_popAt, ev_dnew, ev_lrg, ev_idx, ev_cnt, ev_tupz, ev_nev, ev_mk, ev_fld, ev_isio, ev_cmpI, et_cmpI, ex_nev, ex_asg, ex_par, ex_aug, ex_setI, ex_augI, ex_app, ex_ext, ex_expr, ex_ret, ex_retN, ex_pass, ex_brk, ex_cnt, ex_ifS, ex_raise, ex_forS, ex_whl, evalV, evalT, evalEs, evalA, evalA1, evalO, evalC, evalI, enterE, slotR, ownR, ownC, setD, readR, moveR, outs, mapM, isTys_cons, isFreshF, L2.ixN, fillA, putA, putP, atI5, hp, hget, hbig, pow18, hc, bin_mul (m1 _), bin_mul (m2 _), bin_mod (show (0:Int) < 2147483629 by decide)]
      · simp [bK_draw, fK_draw, hd, hand, ss_nil, ss_cons, ev_cst, ev_var, ev_mov, ev_glob, ev_sh, ev_tup, ev_lst, ev_bin, ev_binv, ev_neg, ev_cmp, ev_cmpv, ev_chain, ev_and, ev_or, ev_not, ev_ite, ev_call, ev_p1, ev_p2, ev_isi, ev_sub, ev_subv, ev_slc, ev_slcv, ev_rev, ev_pop, ev_popAt, ev_dnew, ev_lrg, ev_idx, ev_cnt, ev_tupz, ev_nev, ev_mk, ev_fld, ev_isio, ev_cmpI, et_cmpI, ex_nev, ex_asg, ex_par, ex_aug, ex_setI, ex_augI, ex_app, ex_ext, ex_expr, ex_ret, ex_retN, ex_pass, ex_brk, ex_cnt, ex_ifS, ex_raise, ex_forS, ex_whl, evalV, evalT, evalEs, evalA, evalA1, evalO, evalC, evalI, enterE, slotR, ownR, ownC, setD, readR, moveR, outs, mapM, isTys_cons, isFreshF, L2.ixN, fillA, putA, putP, atI5, hp, hget, hbig, pow18, hc, bin_mul (m1 _), bin_mul (m2 _), bin_mod (show (0:Int) < 2147483629 by decide)]
  · have epre : h.pre κ = h := by unfold Hand.pre; rw [dif_neg hp]
    rw [epre] at fin
    rw [← fin .no]
    congr 1
    clear fin epre
    obtain ⟨cs, p, l, s, n, hl, hcs⟩ := h
    have hp : ¬ (l = 0 ∧ p < cs.length) := hp
    show seqS (execS C ((bK_draw κ).head (by simp [bK_draw])) _) (execSs C ((bK_draw κ).drop 1)) = _
    by_cases hl0 : l = 0
    · have hp : ¬ p < cs.length := fun h => hp ⟨hl0, h⟩
      simp [bK_draw, fK_draw, hd, hand, ss_nil, ss_cons, ev_cst, ev_var, ev_mov, ev_glob, ev_sh, ev_tup, ev_lst, ev_bin, ev_binv, ev_neg, ev_cmp, ev_cmpv, ev_chain, ev_and, ev_or, ev_not, ev_ite, ev_call, ev_p1, ev_p2, ev_isi, ev_sub, ev_subv, ev_slc, ev_slcv, ev_rev, ev_pop, ev_popAt, ev_dnew, ev_lrg, ev_idx, ev_cnt, ev_tupz, ev_nev, ev_mk, ev_fld, ev_isio, ev_cmpI, et_cmpI, ex_nev, ex_asg, ex_par, ex_aug, ex_setI, ex_augI, ex_app, ex_ext, ex_expr, ex_ret, ex_retN, ex_pass, ex_brk, ex_cnt, ex_ifS, ex_raise, ex_forS, ex_whl, evalV, evalT, evalEs, evalA, evalA1, evalO, evalC, evalI, enterE, slotR, ownR, ownC, setD, readR, moveR, outs, mapM, isTys_cons, isFreshF, L2.ixN, fillA, putA, putP, atI5, hl0, hp]
    · simp [bK_draw, fK_draw, hd, hand, ss_nil, ss_cons, ev_cst, ev_var, ev_mov, ev_glob, ev_sh, ev_tup, ev_lst, ev_bin, ev_binv, ev_neg, ev_cmp, ev_cmpv, ev_chain, ev_and, ev_or, ev_not, ev_ite, ev_call, ev_p1, ev_p2, ev_isi, ev_sub, ev_subv, ev_slc, ev_slcv, ev_rev, ev_pop, ev_popAt, ev_dnew, ev_lrg, ev_idx, ev_cnt, ev_tupz, ev_nev, ev_mk, ev_fld, ev_isio, ev_cmpI, et_cmpI, ex_nev, ex_asg, ex_par, ex_aug, ex_setI, ex_augI, ex_app, ex_ext, ex_expr, ex_ret, ex_retN, ex_pass, ex_brk, ex_cnt, ex_ifS, ex_raise, ex_forS, ex_whl, evalV, evalT, evalEs, evalA, evalA1, evalO, evalC, evalI, enterE, slotR, ownR, ownC, setD, readR, moveR, outs, mapM, isTys_cons, isFreshF, L2.ixN, fillA, putA, putP, atI5, hl0]
/-- the hand of a script -/
def lcK_hand_i : It := (.seq (.slcv 0 none (some (.cst (.int 63)))))
def lcK_hand : E := (.lc (.p1 .abs (.e (.p1 .int (.vw 2)))) (.nm 2) lcK_hand_i none [2])
def bK_hand (κ : Kd) : List St := [
  .asg (.nm 1) (.sh lcK_hand),
  .ret (.lst [(.var 1), (.cst (.int 0)), (.cst (.int 0)), (.bin .add (.cst (.int κ.c0)) (.e (match κ.c1 with
    | some c => .bin .mul (.cst (.int c)) (.e (.p1 .len (.vw 1)))
    | none => .p1 .len (.vw 1)))), (.cst (.int 0))])]
def fK_hand (κ : Kd) : Fn := ⟨1, 3, [], true, bK_hand κ⟩
/-- the script's hand -/
def hand0 (κ : Kd) (ns : List Int) : Hand := ⟨(ns.take 63).map fun i => if i < 0 then -i else i, 0, 0, κ.c0 + (match κ.c1 with
    | some c => c * ((ns.take 63).length : Nat)
    | none => ((ns.take 63).length : Nat)), 0, Int.le_refl _, fun c hc => by
  obtain ⟨i, _, rfl⟩ := List.mem_map.mp hc
  split <;> omega⟩
theorem khand_ok {T : Tab} {w j : Nat} {κ : Kd} (ok : κ.Ok) (hj : T[j]? = some (fK_hand κ)) {C : Calls} (hC : AtL T w C 1) (ns : List Int) : C.fn j [.scr ns] = .ok (hd (hand0 κ ns)) [] := by
  refine step (P := fun r => r = .ok (hd (hand0 κ ns)) []) hj rfl hC fun C _ => ?_
  have hcut : cut (ns.map D.int) none (some 63) = (ns.take 63).map D.int := by rw [cut_63, ← List.map_take]
  have hi : evalI C lcK_hand_i [Sl.sh (.scr ns), .no, .no] = .ok ((ns.take 63).map D.int) [Sl.sh (.scr ns), .no, .no] := by
    rw [← hcut]
    simp [lcK_hand_i, ss_nil, ss_cons, ev_cst, ev_var, ev_mov, ev_glob, ev_sh, ev_tup, ev_lst, ev_bin, ev_binv, ev_neg, ev_cmp, ev_cmpv, ev_chain, ev_and, ev_or, ev_not, ev_ite, ev_call, ev_p1, ev_p2, ev_isi, ev_sub, ev_subv, ev_slc, ev_slcv, ev_rev, ev_pop, ev_popAt, ev_dnew, ev_lrg, ev_idx, ev_cnt, ev_tupz, ev_nev, ev_mk, ev_fld, ev_isio, ev_cmpI, et_cmpI, ex_nev, ex_asg, ex_par, ex_aug, ex_setI, ex_augI, ex_app, ex_ext, ex_expr, ex_ret, ex_retN, ex_pass, ex_brk, ex_cnt, ex_ifS, ex_raise, ex_forS, ex_whl, evalV, evalT, evalEs, evalA, evalA1, evalO, evalC, evalI, enterE, slotR, ownR, ownC, setD, readR, moveR, outs, mapM, isTys_cons, isFreshF, L2.ixN, fillA, putA, putP, slice]
  have hle : (ns.take 63).length ≤ sizeLine := by rw [sizeLine_eq]; simp; omega
  have e1 : evalE C lcK_hand [Sl.sh (.scr ns), .no, .no] = .ok (.lst (((ns.take 63).map fun i => if i < 0 then -i else i).map D.int)) [Sl.sh (.scr ns), .no, .no] := by
    have := lc_it (C := C) (elt := .p1 .abs (.e (.p1 .int (.vw 2)))) (tg := .nm 2) (cond := none) (own := [2]) (ns.take 63) D.int (fun i => D.int (if i < 0 then -i else i)) hi (fun x _ => by simp [turn_w, ss_nil, ss_cons, ev_cst, ev_var, ev_mov, ev_glob, ev_sh, ev_tup, ev_lst, ev_bin, ev_binv, ev_neg, ev_cmp, ev_cmpv, ev_chain, ev_and, ev_or, ev_not, ev_ite, ev_call, ev_p1, ev_p2, ev_isi, ev_sub, ev_subv, ev_slc, ev_slcv, ev_rev, ev_pop, ev_popAt, ev_dnew, ev_lrg, ev_idx, ev_cnt, ev_tupz, ev_nev, ev_mk, ev_fld, ev_isio, ev_cmpI, et_cmpI, ex_nev, ex_asg, ex_par, ex_aug, ex_setI, ex_augI, ex_app, ex_ext, ex_expr, ex_ret, ex_retN, ex_pass, ex_brk, ex_cnt, ex_ifS, ex_raise, ex_forS, ex_whl, evalV, evalT, evalEs, evalA, evalA1, evalO, evalC, evalI, enterE, slotR, ownR, ownC, setD, readR, moveR, outs, mapM, isTys_cons, isFreshF, L2.ixN, fillA, putA, putP, wipeE]) hle
    refine this.trans ?_
    rw [List.map_map]
    rfl
  have hf : isFreshF C.fr (.sh lcK_hand) = false := rfl
  show Rf.finW (fK_hand κ) (execSs C (bK_hand κ) [Sl.sh (.scr ns), .no, .no]) = _
  have hmk : ∀ s : Env, execS C (.asg (.nm 1) (.sh lcK_hand)) s = (evalE C lcK_hand s).tho fun d s => .nx (s.set 1 (.sh d)) := fun s => Eq.trans rfl rfl
  obtain ⟨o, hc⟩ : ∃ o, κ.c1 = o := ⟨_, rfl⟩
  cases o with
  | none => simp [bK_hand, fK_hand, ss_nil, ss_cons, hmk, e1, ex_ret, ev_lst, evalEs, ev_var, ev_cst, ev_bin, evalV, ev_p1, slotR, readR, outs, mapM, hc, hd, hand, hand0]
  | some c =>
    have m2 : ∀ x : Int, mulOk c x = true := fun x => mulOk_l (ok.c1 c hc)
    simp [bK_hand, fK_hand, ss_nil, ss_cons, hmk, e1, ex_ret, ev_lst, evalEs, ev_var, ev_cst, ev_bin, evalV, ev_p1, slotR, readR, outs, mapM, hc, hd, hand, hand0, bin_mul (m2 _)]
/-- one of some -/
def pick (κ : Kd) (h : Hand) (ds : List D) : D := ds.getD (h.v κ ds.length).toNat .non
theorem pick_mem (κ : Kd) (h : Hand) {ds : List D} (hne : ds ≠ []) : pick κ h ds ∈ ds := by
  have hpos : 0 < ds.length := List.length_pos_iff.mpr hne
  have h1 := v_ge κ h (b := (ds.length : Nat)) (by omega)
  have h2 := v_lt κ h (b := (ds.length : Nat)) (by omega)
  unfold pick
  rw [List.getD_eq_getElem?_getD, List.getElem?_eq_getElem (by omega : (h.v κ ds.length).toNat < ds.length)]
  exact List.getElem_mem _
theorem kany_ok {T : Tab} {w j jd : Nat} {κ : Kd} (ok : κ.Ok) (hj : T[j]? = some (f_any jd)) (hd' : T[jd]? = some (fK_draw κ)) {C : Calls} (hC : AtL T w C 2) (h : Hand) {ds : List D} (hne : ds ≠ []) (hlen : ds.length < 1073741824) :
    C.fn j [hd h, .lst ds] = .ok (pick κ h ds) [hd (h.nx κ ds.length)] ∧ C.fn j [hd h, .tup ds] = .ok (pick κ h ds) [hd (h.nx κ ds.length)] := by
  have hpos : 0 < ds.length := List.length_pos_iff.mpr hne
  have v0 := v_ge κ h (b := (ds.length : Nat)) (by omega)
  have v1 := v_lt κ h (b := (ds.length : Nat)) (by omega)
  have hat : L2.atI ds (h.v κ ds.length) = some (pick κ h ds) := by
    obtain ⟨i, hi⟩ := Int.eq_ofNat_of_zero_le v0
    rw [hi] at v1
    unfold pick
    rw [hi]
    exact L2.atI_nat (by simp [show i < ds.length by omega])
  constructor
  · refine step (P := fun r => r = _) hj rfl hC fun C hC => ?_
    have e := kdraw_ok ok hd' hC h (b := (ds.length : Nat)) (by omega) (divOk_s (by omega) (by omega))
    simp [f_any, b_any, ss_nil, ss_cons, ev_cst, ev_var, ev_mov, ev_glob, ev_sh, ev_tup, ev_lst, ev_bin, ev_binv, ev_neg, ev_cmp, ev_cmpv, ev_chain, ev_and, ev_or, ev_not, ev_ite, ev_call, ev_p1, ev_p2, ev_isi, ev_sub, ev_subv, ev_slc, ev_slcv, ev_rev, ev_pop, ev_popAt, ev_dnew, ev_lrg, ev_idx, ev_cnt, ev_tupz, ev_nev, ev_mk, ev_fld, ev_isio, ev_cmpI, et_cmpI, ex_nev, ex_asg, ex_par, ex_aug, ex_setI, ex_augI, ex_app, ex_ext, ex_expr, ex_ret, ex_retN, ex_pass, ex_brk, ex_cnt, ex_ifS, ex_raise, ex_forS, ex_whl, evalV, evalT, evalEs, evalA, evalA1, evalO, evalC, evalI, enterE, slotR, ownR, ownC, setD, readR, moveR, outs, mapM, isTys_cons, isFreshF, L2.ixN, fillA, putA, putP, e, hat]
  · refine step (P := fun r => r = _) hj rfl hC fun C hC => ?_
    have e := kdraw_ok ok hd' hC h (b := (ds.length : Nat)) (by omega) (divOk_s (by omega) (by omega))
    simp [f_any, b_any, ss_nil, ss_cons, ev_cst, ev_var, ev_mov, ev_glob, ev_sh, ev_tup, ev_lst, ev_bin, ev_binv, ev_neg, ev_cmp, ev_cmpv, ev_chain, ev_and, ev_or, ev_not, ev_ite, ev_call, ev_p1, ev_p2, ev_isi, ev_sub, ev_subv, ev_slc, ev_slcv, ev_rev, ev_pop, ev_popAt, ev_dnew, ev_lrg, ev_idx, ev_cnt, ev_tupz, ev_nev, ev_mk, ev_fld, ev_isio, ev_cmpI, et_cmpI, ex_nev, ex_asg, ex_par, ex_aug, ex_setI, ex_augI, ex_app, ex_ext, ex_expr, ex_ret, ex_retN, ex_pass, ex_brk, ex_cnt, ex_ifS, ex_raise, ex_forS, ex_whl, evalV, evalT, evalEs, evalA, evalA1, evalO, evalC, evalI, enterE, slotR, ownR, ownC, setD, readR, moveR, outs, mapM, isTys_cons, isFreshF, L2.ixN, fillA, putA, putP, e, hat]
end Sh
end Rf

namespace Hd
open PySem PySem.Spec PyProof.Rows L2
def top (i : Nat) : Stmt := PySem.Challenge.pw_evenurn_k48_whole_rows_of_a_machine_draw.main.body.getD i (.Pass ⟨0, 0, 0, 0⟩)
def sub (s : Stmt) (k : Nat) : Stmt := match s with
  | .ClassDef _ _ _ body _ _ _ _ _ _ _ => body.getD k (.Pass ⟨0, 0, 0, 0⟩)
  | _ => .Pass ⟨0, 0, 0, 0⟩
end Hd
namespace Hd
open PySem Rf
def i_is_int : Nat := 0
def i_is_within : Nat := 1
def i_is_row : Nat := 2
def i_divisor : Nat := 3
def i_fraction : Nat := 4
def i_product_of : Nat := 5
def i_all_rows : Nat := 6
def i_check_sales : Nat := 7
def i_buyer_of : Nat := 8
def i_check_tickets : Nat := 9
def i_check_draw : Nat := 10
def i_rows_of : Nat := 11
def i_digits_of : Nat := 12
def i_digits : Nat := 13
def i_multiple_of : Nat := 14
def i_round_of : Nat := 15
def i_winner : Nat := 16
def i_odds_of : Nat := 17
def i_odds : Nat := 18
def i_check_sizes : Nat := 19
def i_check_wide : Nat := 20
def i_check_machine : Nat := 21
def i_place_of : Nat := 22
def i_is_numbers : Nat := 23
def i_told_by : Nat := 24
def i_outcome : Nat := 25
def i_check_outcome : Nat := 26
def i_share_of : Nat := 27
def i_share : Nat := 28
def i_is_level : Nat := 29
def i_summed : Nat := 30
def i_sum_machine : Nat := 31
def i__law_hand : Nat := 32
def i__law_draw : Nat := 33
def i__law_any : Nat := 34
def i__law_gcd : Nat := 35
def i__law_lowest : Nat := 36
def i__law_power : Nat := 37
def i__law_digits : Nat := 38
def i__law_round : Nat := 39
def i__law_value : Nat := 40
def i__law_won : Nat := 41
def i__law_is : Nat := 42
def i__law_some_tickets : Nat := 43
def i__law_all_rows : Nat := 44
def i__law_sales : Nat := 45
def i__law_owner : Nat := 46
def i__law_are_even : Nat := 47
def i__law_is_made : Nat := 48
def i_law : Nat := 49
def i_Machine__init__ : Nat := 50
def i_Machine__eq__ : Nat := 51
/-- is_int(thing): thing 0 -/
def b_is_int : List St := [
  .ret (.and (.isi (.vw 0) [.int]) (.not (.e (.isi (.vw 0) [.bool]))))]
def f_is_int : Fn := ⟨1, 1, [], false, b_is_int⟩
def t_is_int : TD := ⟨"is_int", top 1, ["thing"], ["thing"], f_is_int, "is_int", .fn, []⟩
/-- is_within(thing, low, high): thing 0, low 1, high 2 -/
def b_is_within : List St := [
  .ret (.and (.call i_is_int [.e (.var 0)]) (.chain .le .le (.var 1) (.var 0) (.var 2)))]
def f_is_within : Fn := ⟨3, 3, [], false, b_is_within⟩
def t_is_within : TD := ⟨"is_within", top 2, ["thing", "low", "high"], ["thing", "low", "high"], f_is_within, "is_within", .fn, []⟩
/-- is_row(thing, many, low, high): thing 0, many 1, low 2, high 3, part 4 -/
def lc_is_row_1_e : E := (.call i_is_within [.e (.var 4), .e (.var 2), .e (.var 3)])
def lc_is_row_1_i : It := (.seq (.var 0))
abbrev lc_is_row_1 : E := .lc lc_is_row_1_e (.nm 4) lc_is_row_1_i none [4]
def b_is_row : List St := [
  .ret (.and (.isi (.vw 0) [.tuple]) (.and (.cmp .eq (.p1 .len (.vw 0)) (.vw 1)) (.p1 .all (.e lc_is_row_1))))]
def f_is_row : Fn := ⟨4, 5, [], false, b_is_row⟩
def t_is_row : TD := ⟨"is_row", top 3, ["thing", "many", "low", "high", "part"], ["thing", "many", "low", "high"], f_is_row, "is_row", .fn, []⟩
/-- divisor(one, other): one 0, other 1 -/
def lp_divisor_1_b : List St := [.par [0, 1] [(.var 1), (.bin .mod (.var 0) (.vw 1))]]
def lp_divisor_1_t : T := (.cmp .ne (.var 1) (.e (.cst (.int 0))))
def b_divisor : List St := [
  .whl lp_divisor_1_t lp_divisor_1_b,
  .ret (.p1 .abs (.vw 0))]
def f_divisor : Fn := ⟨2, 2, [], false, b_divisor⟩
def t_divisor : TD := ⟨"divisor", top 4, ["one", "other"], ["one", "other"], f_divisor, "divisor", .fn, []⟩
/-- fraction(top, bottom): top 0, bottom 1, by 2 -/
def b_fraction : List St := [
  .ifS (.cmp .lt (.var 1) (.e (.cst (.int 0)))) [.par [0, 1] [(.neg (.var 0)), (.neg (.var 1))]] [],
  .asg (.nm 2) (.call i_divisor [.e (.var 0), .e (.var 1)]),
  .ret (.tup [(.bin .fdiv (.var 0) (.vw 2)), (.bin .fdiv (.var 1) (.vw 2))])]
def f_fraction : Fn := ⟨2, 3, [], false, b_fraction⟩
def t_fraction : TD := ⟨"fraction", top 5, ["top", "bottom", "by"], ["top", "bottom"], f_fraction, "fraction", .fn, []⟩
/-- product_of(numbers): numbers 0, found 1, number 2 -/
def lp_product_of_1_b : List St := [.asg (.nm 1) (.sh (.bin .mul (.var 1) (.vw 2)))]
def lp_product_of_1_i : It := (.seq (.var 0))
def b_product_of : List St := [
  .asg (.nm 1) (.cst (.int 1)),
  .forS (.nm 2) lp_product_of_1_i lp_product_of_1_b,
  .ret (.var 1)]
def f_product_of : Fn := ⟨1, 3, [], false, b_product_of⟩
def t_product_of : TD := ⟨"product_of", top 6, ["numbers", "found", "number"], ["numbers"], f_product_of, "product_of", .fn, []⟩
/-- all_rows(sizes): sizes 0, found 1, size 2, row 3, number 4 -/
def lc_all_rows_1_e : E := (.bin .add (.var 3) (.e (.tup [(.var 4)])))
def lc_all_rows_1_i : It := (.seq (.var 1))
def lc_all_rows_1_j : It := (.rng1 (.var 2))
abbrev lc_all_rows_1 : E := .lc2 lc_all_rows_1_e (.nm 3) lc_all_rows_1_i (.nm 4) lc_all_rows_1_j none [3, 4] [4]
def lp_all_rows_1_b : List St := [.asg (.nm 1) (.sh lc_all_rows_1)]
def lp_all_rows_1_i : It := (.seq (.var 0))
def b_all_rows : List St := [
  .asg (.nm 1) (.sh (.lst [(.tup [])])),
  .forS (.nm 2) lp_all_rows_1_i lp_all_rows_1_b,
  .ret (.var 1)]
def f_all_rows : Fn := ⟨1, 5, [], false, b_all_rows⟩
def t_all_rows : TD := ⟨"all_rows", top 7, ["sizes", "found", "size", "row", "number"], ["sizes"], f_all_rows, "all_rows", .fn, []⟩
/-- check_sales(sales): sales 0, sold 1 -/
def lc_check_sales_1_e : E := (.call i_is_within [.e (.var 1), .e (.cst (.int 1)), .e (.glob "MOST_SOLD" (.int 1000000))])
def lc_check_sales_1_i : It := (.seq (.var 0))
abbrev lc_check_sales_1 : E := .lc lc_check_sales_1_e (.nm 1) lc_check_sales_1_i none [1]
def b_check_sales : List St := [
  .ifS (.or (.not (.o (.e (.isi (.vw 0) [.tuple])))) (.not (.chain .le .le (.cst (.int 1)) (.p1 .len (.vw 0)) (.glob "MOST_BUYERS" (.int 20))))) [.raise "BadSales"] [],
  .ifS (.not (.o (.e (.p1 .all (.e lc_check_sales_1))))) [.raise "BadSales"] []]
def f_check_sales : Fn := ⟨1, 2, [], false, b_check_sales⟩
def t_check_sales : TD := ⟨"check_sales", top 26, ["sales", "sold"], ["sales"], f_check_sales, "check_sales", .fn, []⟩
/-- buyer_of(sales, ticket): sales 0, ticket 1, buyer 2, left 3 -/
def lp_buyer_of_1_b : List St := [.aug 3 .sub (.subv 0 (.var 2)), .aug 2 .add (.cst (.int 1))]
def lp_buyer_of_1_t : T := (.cmp .ge (.var 3) (.e (.subv 0 (.var 2))))
def b_buyer_of : List St := [
  .expr (.call i_check_sales [.e (.var 0)]),
  .ifS (.not (.o (.e (.call i_is_within [.e (.var 1), .e (.cst (.int 0)), .e (.bin .sub (.p1 .sum (.vw 0)) (.e (.cst (.int 1))))])))) [.raise "NoTicket"] [],
  .par [2, 3] [(.cst (.int 0)), (.var 1)],
  .whl lp_buyer_of_1_t lp_buyer_of_1_b,
  .ret (.var 2)]
def f_buyer_of : Fn := ⟨2, 4, [], false, b_buyer_of⟩
def t_buyer_of : TD := ⟨"buyer_of", top 27, ["sales", "ticket", "buyer", "left"], ["sales", "ticket"], f_buyer_of, "buyer_of", .fn, []⟩
/-- check_tickets(tickets): tickets 0 -/
def b_check_tickets : List St := [
  .ifS (.not (.o (.e (.call i_is_within [.e (.var 0), .e (.cst (.int 1)), .e (.glob "MOST_TICKETS" (.int 20000000))])))) [.raise "NoTicket"] []]
def f_check_tickets : Fn := ⟨1, 1, [], false, b_check_tickets⟩
def t_check_tickets : TD := ⟨"check_tickets", top 28, ["tickets"], ["tickets"], f_check_tickets, "check_tickets", .fn, []⟩
/-- check_draw(wide, tickets): wide 0, tickets 1 -/
def b_check_draw : List St := [
  .ifS (.not (.o (.e (.call i_is_within [.e (.var 0), .e (.cst (.int 2)), .e (.glob "MOST_OUTCOMES" (.int 12))])))) [.raise "NoWide"] [],
  .expr (.call i_check_tickets [.e (.var 1)])]
def f_check_draw : Fn := ⟨2, 2, [], false, b_check_draw⟩
def t_check_draw : TD := ⟨"check_draw", top 29, ["wide", "tickets"], ["wide", "tickets"], f_check_draw, "check_draw", .fn, []⟩
/-- rows_of(wide, many): wide 0, many 1 -/
def b_rows_of : List St := [
  .ret (.call i_product_of [.e (.bin .mul (.lst [(.var 0)]) (.vw 1))])]
def f_rows_of : Fn := ⟨2, 2, [], false, b_rows_of⟩
def t_rows_of : TD := ⟨"rows_of", top 30, ["wide", "many"], ["wide", "many"], f_rows_of, "rows_of", .fn, []⟩
/-- digits_of(wide, tickets): wide 0, tickets 1, found 2, rows 3 -/
def lp_digits_of_1_b : List St := [.aug 2 .add (.cst (.int 1)), .asg (.nm 3) (.sh (.bin .mul (.var 3) (.vw 0)))]
def lp_digits_of_1_t : T := (.cmp .lt (.var 3) (.vw 1))
def b_digits_of : List St := [
  .asg (.tp [(.nm 2), (.nm 3)]) (.tup [(.cst (.int 0)), (.cst (.int 1))]),
  .whl lp_digits_of_1_t lp_digits_of_1_b,
  .ret (.var 2)]
def f_digits_of : Fn := ⟨2, 4, [], false, b_digits_of⟩
def t_digits_of : TD := ⟨"digits_of", top 31, ["wide", "tickets", "found", "rows"], ["wide", "tickets"], f_digits_of, "digits_of", .fn, []⟩
/-- digits(wide, tickets): wide 0, tickets 1 -/
def b_digits : List St := [
  .expr (.call i_check_draw [.e (.var 0), .e (.var 1)]),
  .ret (.call i_digits_of [.e (.var 0), .e (.var 1)])]
def f_digits : Fn := ⟨2, 2, [], false, b_digits⟩
def t_digits : TD := ⟨"digits", top 32, ["wide", "tickets"], ["wide", "tickets"], f_digits, "digits", .fn, []⟩
/-- multiple_of(wide, tickets, many): wide 0, tickets 1, many 2 -/
def b_multiple_of : List St := [
  .ret (.bin .mul (.bin .fdiv (.call i_rows_of [.e (.var 0), .e (.var 2)]) (.vw 1)) (.vw 1))]
def f_multiple_of : Fn := ⟨3, 3, [], false, b_multiple_of⟩
def t_multiple_of : TD := ⟨"multiple_of", top 33, ["wide", "tickets", "many"], ["wide", "tickets", "many"], f_multiple_of, "multiple_of", .fn, []⟩
/-- round_of(wide, tickets): wide 0, tickets 1 -/
def b_round_of : List St := [
  .expr (.call i_check_draw [.e (.var 0), .e (.var 1)]),
  .ret (.call i_multiple_of [.e (.var 0), .e (.var 1), .e (.call i_digits_of [.e (.var 0), .e (.var 1)])])]
def f_round_of : Fn := ⟨2, 2, [], false, b_round_of⟩
def t_round_of : TD := ⟨"round_of", top 34, ["wide", "tickets"], ["wide", "tickets"], f_round_of, "round_of", .fn, []⟩
/-- winner(wide, tickets, row): wide 0, tickets 1, row 2, many 3, found 4, digit 5 -/
def lp_winner_1_b : List St := [.asg (.nm 4) (.sh (.bin .add (.bin .mul (.var 4) (.vw 0)) (.vw 5)))]
def lp_winner_1_i : It := (.seq (.var 2))
def b_winner : List St := [
  .expr (.call i_check_draw [.e (.var 0), .e (.var 1)]),
  .asg (.nm 3) (.call i_digits_of [.e (.var 0), .e (.var 1)]),
  .ifS (.not (.o (.e (.call i_is_row [.e (.var 2), .e (.var 3), .e (.cst (.int 0)), .e (.bin .sub (.var 0) (.e (.cst (.int 1))))])))) [.raise "NoRow"] [],
  .asg (.nm 4) (.cst (.int 0)),
  .forS (.nm 5) lp_winner_1_i lp_winner_1_b,
  .ret (.ite (.cmp .lt (.var 4) (.e (.call i_multiple_of [.e (.var 0), .e (.var 1), .e (.var 3)]))) (.bin .mod (.var 4) (.vw 1)) (.cst .non))]
def f_winner : Fn := ⟨3, 6, [], false, b_winner⟩
def t_winner : TD := ⟨"winner", top 35, ["wide", "tickets", "row", "many", "found", "digit"], ["wide", "tickets", "row"], f_winner, "winner", .fn, []⟩
/-- odds_of(tickets, own, prizes): tickets 0, own 1, prizes 2, turn 3, top 4, bottom 5 -/
def lp_odds_of_1_b : List St := [.asg (.nm 4) (.sh (.bin .mul (.var 4) (.e (.p2 .max (.cst (.int 0)) (.bin .sub (.bin .sub (.var 0) (.vw 1)) (.vw 3)))))), .asg (.nm 5) (.sh (.bin .mul (.var 5) (.e (.bin .sub (.var 0) (.vw 3)))))]
def lp_odds_of_1_i : It := (.rng1 (.var 2))
def b_odds_of : List St := [
  .asg (.tp [(.nm 4), (.nm 5)]) (.tup [(.cst (.int 1)), (.cst (.int 1))]),
  .forS (.nm 3) lp_odds_of_1_i lp_odds_of_1_b,
  .ret (.call i_fraction [.e (.bin .sub (.var 5) (.vw 4)), .e (.var 5)])]
def f_odds_of : Fn := ⟨3, 6, [], false, b_odds_of⟩
def t_odds_of : TD := ⟨"odds_of", top 36, ["tickets", "own", "prizes", "turn", "top", "bottom"], ["tickets", "own", "prizes"], f_odds_of, "odds_of", .fn, []⟩
/-- odds(sales, prizes): sales 0, prizes 1, own 2 -/
def lc_odds_1_e : E := (.call i_odds_of [.e (.p1 .sum (.vw 0)), .e (.var 2), .e (.var 1)])
def lc_odds_1_i : It := (.seq (.var 0))
abbrev lc_odds_1 : E := .lc lc_odds_1_e (.nm 2) lc_odds_1_i none [2]
def b_odds : List St := [
  .expr (.call i_check_sales [.e (.var 0)]),
  .ifS (.not (.o (.e (.call i_is_within [.e (.var 1), .e (.cst (.int 1)), .e (.p2 .min (.glob "MOST_PRIZES" (.int 20)) (.p1 .sum (.vw 0)))])))) [.raise "BadPrizes"] [],
  .ret (.p1 .tuple (.e lc_odds_1))]
def f_odds : Fn := ⟨2, 3, [], false, b_odds⟩
def t_odds : TD := ⟨"odds", top 37, ["sales", "prizes", "own"], ["sales", "prizes"], f_odds, "odds", .fn, []⟩
/-- check_sizes(sizes): sizes 0, at 1, size 2 -/
def lp_check_sizes_1_b : List St := [.ifS (.or (.cmp .eq (.var 1) (.e (.glob "MOST_HANDS" (.int 8)))) (.not (.o (.e (.call i_is_within [.e (.var 2), .e (.cst (.int 2)), .e (.glob "MOST_SIZE" (.int 12))]))))) [.nev] []]
def lp_check_sizes_1_i : It := (.enum (.var 0))
def b_check_sizes : List St := [
  .ifS (.or (.not (.o (.e (.isi (.vw 0) [.tuple])))) (.cmp .eq (.p1 .len (.vw 0)) (.e (.cst (.int 0))))) [.nev] [],
  .forS (.tp [(.nm 1), (.nm 2)]) lp_check_sizes_1_i lp_check_sizes_1_b,
  .ifS (.cmp .gt (.call i_product_of [.e (.var 0)]) (.e (.glob "MOST_ROWS" (.int 20000)))) [.nev] []]
def f_check_sizes : Fn := ⟨1, 3, [], false, b_check_sizes⟩
def t_check_sizes : TD := ⟨"check_sizes", top 43, ["sizes", "at", "size"], ["sizes"], f_check_sizes, "check_sizes", .fn, []⟩
/-- check_wide(wide): wide 0 -/
def b_check_wide : List St := [
  .ifS (.not (.o (.e (.call i_is_within [.e (.var 0), .e (.cst (.int 1)), .e (.glob "MOST_WIDE" (.int 12))])))) [.nev] []]
def f_check_wide : Fn := ⟨1, 1, [], false, b_check_wide⟩
def t_check_wide : TD := ⟨"check_wide", top 44, ["wide"], ["wide"], f_check_wide, "check_wide", .fn, []⟩
/-- check_machine(thing): thing 0 -/
def b_check_machine : List St := [
  .ifS (.not (.o (.e (.isio (.vw 0) "Machine" ["Machine"] [])))) [.raise "NoMachine"] []]
def f_check_machine : Fn := ⟨1, 1, [], false, b_check_machine⟩
def t_check_machine : TD := ⟨"check_machine", top 46, ["thing"], ["thing"], f_check_machine, "check_machine", .fn, []⟩
/-- place_of(sizes, numbers): sizes 0, numbers 1, place 2, size 3, number 4 -/
def lp_place_of_1_b : List St := [.asg (.nm 2) (.sh (.bin .add (.bin .mul (.var 2) (.vw 3)) (.vw 4)))]
def lp_place_of_1_i : It := (.zip (.var 0) (.var 1))
def b_place_of : List St := [
  .asg (.nm 2) (.cst (.int 0)),
  .forS (.tp [(.nm 3), (.nm 4)]) lp_place_of_1_i lp_place_of_1_b,
  .ret (.var 2)]
def f_place_of : Fn := ⟨2, 5, [], false, b_place_of⟩
def t_place_of : TD := ⟨"place_of", top 47, ["sizes", "numbers", "place", "size", "number"], ["sizes", "numbers"], f_place_of, "place_of", .fn, []⟩
/-- is_numbers(sizes, thing): sizes 0, thing 1, number 2, size 3 -/
def lc_is_numbers_1_e : E := (.call i_is_within [.e (.var 2), .e (.cst (.int 0)), .e (.bin .sub (.var 3) (.e (.cst (.int 1))))])
def lc_is_numbers_1_i : It := (.zip (.var 1) (.var 0))
abbrev lc_is_numbers_1 : E := .lc lc_is_numbers_1_e (.tp [(.nm 2), (.nm 3)]) lc_is_numbers_1_i none [2, 3]
def b_is_numbers : List St := [
  .ifS (.or (.not (.o (.e (.isi (.vw 1) [.tuple])))) (.cmp .ne (.p1 .len (.vw 1)) (.e (.p1 .len (.vw 0))))) [.ret (.cst (.bl false))] [],
  .ret (.p1 .all (.e lc_is_numbers_1))]
def f_is_numbers : Fn := ⟨2, 4, [], false, b_is_numbers⟩
def t_is_numbers : TD := ⟨"is_numbers", top 48, ["sizes", "thing", "number", "size"], ["sizes", "thing"], f_is_numbers, "is_numbers", .fn, []⟩
/-- told_by(machine, numbers): machine 0, numbers 1 -/
def b_told_by : List St := [
  .ret (.sub (.fld (.vw 0) ["Machine"] "table") (.call i_place_of [.e (.fld (.vw 0) ["Machine"] "sizes"), .e (.var 1)]))]
def f_told_by : Fn := ⟨2, 2, [], false, b_told_by⟩
def t_told_by : TD := ⟨"told_by", top 49, ["machine", "numbers"], ["machine", "numbers"], f_told_by, "told_by", .fn, []⟩
/-- outcome(machine, numbers): machine 0, numbers 1 -/
def b_outcome : List St := [
  .expr (.call i_check_machine [.e (.var 0)]),
  .ifS (.not (.o (.e (.call i_is_numbers [.e (.fld (.vw 0) ["Machine"] "sizes"), .e (.var 1)])))) [.raise "BadNumbers"] [],
  .ret (.call i_told_by [.e (.var 0), .e (.var 1)])]
def f_outcome : Fn := ⟨2, 2, [], false, b_outcome⟩
def t_outcome : TD := ⟨"outcome", top 50, ["machine", "numbers"], ["machine", "numbers"], f_outcome, "outcome", .fn, []⟩
/-- check_outcome(machine, told): machine 0, told 1 -/
def b_check_outcome : List St := [
  .ifS (.not (.o (.e (.call i_is_within [.e (.var 1), .e (.cst (.int 0)), .e (.bin .sub (.fld (.vw 0) ["Machine"] "wide") (.e (.cst (.int 1))))])))) [.raise "NoOutcome"] []]
def f_check_outcome : Fn := ⟨2, 2, [], false, b_check_outcome⟩
def t_check_outcome : TD := ⟨"check_outcome", top 51, ["machine", "told"], ["machine", "told"], f_check_outcome, "check_outcome", .fn, []⟩
/-- share_of(machine, told): machine 0, told 1 -/
def b_share_of : List St := [
  .ret (.call i_fraction [.e (.cnt (.fld (.vw 0) ["Machine"] "table") (.var 1)), .e (.p1 .len (.e (.fld (.vw 0) ["Machine"] "table")))])]
def f_share_of : Fn := ⟨2, 2, [], false, b_share_of⟩
def t_share_of : TD := ⟨"share_of", top 52, ["machine", "told"], ["machine", "told"], f_share_of, "share_of", .fn, []⟩
/-- share(machine, told): machine 0, told 1 -/
def b_share : List St := [
  .expr (.call i_check_machine [.e (.var 0)]),
  .expr (.call i_check_outcome [.e (.var 0), .e (.var 1)]),
  .ret (.call i_share_of [.e (.var 0), .e (.var 1)])]
def f_share : Fn := ⟨2, 2, [], false, b_share⟩
def t_share : TD := ⟨"share", top 53, ["machine", "told"], ["machine", "told"], f_share, "share", .fn, []⟩
/-- is_level(machine): machine 0, told 1 -/
def lc_is_level_1_e : E := (.cnt (.fld (.vw 0) ["Machine"] "table") (.var 1))
def lc_is_level_1_i : It := (.rng1 (.fld (.vw 0) ["Machine"] "wide"))
abbrev lc_is_level_1 : E := .lc lc_is_level_1_e (.nm 1) lc_is_level_1_i none [1]
def b_is_level : List St := [
  .expr (.call i_check_machine [.e (.var 0)]),
  .ret (.cmp .eq (.p1 .lenset (.e lc_is_level_1)) (.e (.cst (.int 1))))]
def f_is_level : Fn := ⟨1, 2, [], false, b_is_level⟩
def t_is_level : TD := ⟨"is_level", top 54, ["machine", "told"], ["machine"], f_is_level, "is_level", .fn, []⟩
/-- summed(sizes, wide, weights): sizes 0, wide 1, weights 2, rows 3, row 4, a 5, b 6 -/
def lc_summed_2_e : E := (.bin .mul (.var 5) (.vw 6))
def lc_summed_2_i : It := (.zip (.var 2) (.var 4))
abbrev lc_summed_2 : E := .lc lc_summed_2_e (.tp [(.nm 5), (.nm 6)]) lc_summed_2_i none [5, 6]
def lc_summed_1_e : E := (.bin .mod (.p1 .sum (.e lc_summed_2)) (.vw 1))
def lc_summed_1_i : It := (.seq (.var 3))
abbrev lc_summed_1 : E := .lc lc_summed_1_e (.nm 4) lc_summed_1_i none [4]
def b_summed : List St := [
  .asg (.nm 3) (.call i_all_rows [.e (.var 0)]),
  .ret (.mk i_Machine__init__ "Machine" ["sizes", "wide", "table"] [(.var 0), (.var 1), (.p1 .tuplez (.e lc_summed_1))])]
def f_summed : Fn := ⟨3, 7, [], false, b_summed⟩
def t_summed : TD := ⟨"summed", top 55, ["sizes", "wide", "weights", "rows", "row", "a", "b"], ["sizes", "wide", "weights"], f_summed, "summed", .fn, []⟩
/-- sum_machine(sizes, wide, weights): sizes 0, wide 1, weights 2, part 3 -/
def lc_sum_machine_1_e : E := (.call i_is_int [.e (.var 3)])
def lc_sum_machine_1_i : It := (.seq (.var 2))
abbrev lc_sum_machine_1 : E := .lc lc_sum_machine_1_e (.nm 3) lc_sum_machine_1_i none [3]
def b_sum_machine : List St := [
  .expr (.call i_check_sizes [.e (.var 0)]),
  .expr (.call i_check_wide [.e (.var 1)]),
  .ifS (.or (.not (.o (.e (.isi (.vw 2) [.tuple])))) (.or (.cmp .ne (.p1 .len (.vw 2)) (.e (.p1 .len (.vw 0)))) (.not (.o (.e (.p1 .all (.e lc_sum_machine_1))))))) [.raise "BadWeights"] [],
  .ret (.call i_summed [.e (.var 0), .e (.var 1), .e (.var 2)])]
def f_sum_machine : Fn := ⟨3, 4, [], false, b_sum_machine⟩
def t_sum_machine : TD := ⟨"sum_machine", top 56, ["sizes", "wide", "weights", "part"], ["sizes", "wide", "weights"], f_sum_machine, "sum_machine", .fn, []⟩
/-- _law_hand(script): script 0, cells 1, cell 2 -/
def lc__law_hand_1_e : E := (.p1 .abs (.e (.p1 .int (.vw 2))))
def lc__law_hand_1_i : It := (.seq (.slcv 0 none (some (.cst (.int 63)))))
abbrev lc__law_hand_1 : E := .lc lc__law_hand_1_e (.nm 2) lc__law_hand_1_i none [2]
def b__law_hand : List St := [
  .asg (.nm 1) (.sh lc__law_hand_1),
  .ret (.lst [(.var 1), (.cst (.int 0)), (.cst (.int 0)), (.bin .add (.cst (.int 821)) (.e (.bin .mul (.cst (.int 7)) (.e (.p1 .len (.vw 1)))))), (.cst (.int 0))])]
def f__law_hand : Fn := ⟨1, 3, [], true, b__law_hand⟩
def t__law_hand : TD := ⟨"_law_hand", top 58, ["script", "cells", "cell"], ["script"], f__law_hand, "_law_hand", .fn, []⟩
/-- _law_draw(hand, below): hand 0, below 1, number 2, cell 3, digit 4 -/
def b__law_draw : List St := [
  .ifS (.and (.cmp .eq (.subv 0 (.cst (.int 2))) (.e (.cst (.int 0)))) (.cmp .lt (.subv 0 (.cst (.int 1))) (.e (.p1 .len (.e (.subv 0 (.cst (.int 0)))))))) [.asg (.nm 3) (.sub (.subv 0 (.cst (.int 0))) (.subv 0 (.cst (.int 1)))), .setI 0 (.cst (.int 1)) (.bin .add (.subv 0 (.cst (.int 1))) (.e (.cst (.int 1)))), .setI 0 (.cst (.int 3)) (.bin .mod (.p1 .int (.e (.bin .add (.bin .add (.bin .mul (.subv 0 (.cst (.int 3))) (.e (.cst (.int 69621)))) (.e (.bin .mul (.var 3) (.e (.cst (.int 40692)))))) (.e (.cst (.int 31)))))) (.e (.cst (.int 2147483629)))), .ifS (.cmp .ge (.var 3) (.e (.bin .pow (.cst (.int 10)) (.e (.cst (.int 18)))))) [.setI 0 (.cst (.int 2)) (.var 3)] []] [],
  .ifS (.cmp .gt (.subv 0 (.cst (.int 2))) (.e (.cst (.int 0)))) [.asg (.nm 4) (.bin .mod (.p1 .int (.e (.subv 0 (.cst (.int 2))))) (.vw 1)), .setI 0 (.cst (.int 2)) (.bin .fdiv (.subv 0 (.cst (.int 2))) (.vw 1)), .ret (.var 4)] [],
  .setI 0 (.cst (.int 4)) (.bin .add (.subv 0 (.cst (.int 4))) (.e (.cst (.int 1)))),
  .asg (.nm 2) (.bin .mod (.p1 .int (.e (.bin .mul (.p1 .int (.e (.bin .add (.subv 0 (.cst (.int 3))) (.e (.bin .mul (.cst (.int 7919)) (.e (.subv 0 (.cst (.int 4))))))))) (.e (.cst (.int 48271)))))) (.e (.cst (.int 2147483647)))),
  .asg (.nm 2) (.bin .mod (.p1 .int (.e (.bin .mul (.var 2) (.e (.bin .add (.bin .fdiv (.var 2) (.e (.cst (.int 1009)))) (.e (.cst (.int 69621)))))))) (.e (.cst (.int 2147483647)))),
  .asg (.nm 2) (.bin .mod (.p1 .int (.e (.bin .mul (.var 2) (.e (.bin .add (.bin .fdiv (.var 2) (.e (.cst (.int 2003)))) (.e (.cst (.int 40014)))))))) (.e (.cst (.int 2147483563)))),
  .ret (.bin .mod (.p1 .int (.e (.bin .fdiv (.var 2) (.e (.cst (.int 16)))))) (.vw 1))]
def f__law_draw : Fn := ⟨2, 5, [0], false, b__law_draw⟩
def t__law_draw : TD := ⟨"_law_draw", top 59, ["hand", "below", "number", "cell", "digit"], ["hand", "below"], f__law_draw, "_law_draw", .fn, []⟩
/-- _law_any(hand, some): hand 0, some 1 -/
def b__law_any : List St := [
  .ret (.subv 1 (.call i__law_draw [.io 0, .e (.p1 .len (.vw 1))]))]
def f__law_any : Fn := ⟨2, 2, [0], false, b__law_any⟩
def t__law_any : TD := ⟨"_law_any", top 60, ["hand", "some"], ["hand", "some"], f__law_any, "_law_any", .fn, []⟩
/-- _law_gcd(one, other): one 0, other 1 -/
def lp__law_gcd_1_b : List St := [.par [0, 1] [(.var 1), (.bin .mod (.p1 .int (.vw 0)) (.vw 1))]]
def lp__law_gcd_1_t : T := (.cmp .ne (.var 1) (.e (.cst (.int 0))))
def b__law_gcd : List St := [
  .whl lp__law_gcd_1_t lp__law_gcd_1_b,
  .ret (.var 0)]
def f__law_gcd : Fn := ⟨2, 2, [], false, b__law_gcd⟩
def t__law_gcd : TD := ⟨"_law_gcd", top 61, ["one", "other"], ["one", "other"], f__law_gcd, "_law_gcd", .fn, []⟩
/-- _law_lowest(top, bottom): top 0, bottom 1, common 2 -/
def b__law_lowest : List St := [
  .asg (.nm 2) (.call i__law_gcd [.e (.var 0), .e (.var 1)]),
  .ret (.tup [(.bin .fdiv (.var 0) (.vw 2)), (.bin .fdiv (.var 1) (.vw 2))])]
def f__law_lowest : Fn := ⟨2, 3, [], false, b__law_lowest⟩
def t__law_lowest : TD := ⟨"_law_lowest", top 62, ["top", "bottom", "common"], ["top", "bottom"], f__law_lowest, "_law_lowest", .fn, []⟩
/-- _law_power(wide, count): wide 0, count 1, number 2, lap 3 -/
def lp__law_power_1_b : List St := [.asg (.nm 2) (.sh (.bin .mul (.var 2) (.vw 0)))]
def lp__law_power_1_i : It := (.rng1 (.var 1))
def b__law_power : List St := [
  .asg (.nm 2) (.cst (.int 1)),
  .forS (.nm 3) lp__law_power_1_i lp__law_power_1_b,
  .ret (.var 2)]
def f__law_power : Fn := ⟨2, 4, [], false, b__law_power⟩
def t__law_power : TD := ⟨"_law_power", top 63, ["wide", "count", "number", "lap"], ["wide", "count"], f__law_power, "_law_power", .fn, []⟩
/-- _law_digits(wide, tickets): wide 0, tickets 1, count 2 -/
def lp__law_digits_1_b : List St := [.asg (.nm 2) (.sh (.bin .add (.var 2) (.e (.cst (.int 1)))))]
def lp__law_digits_1_t : T := (.cmp .lt (.call i__law_power [.e (.var 0), .e (.var 2)]) (.vw 1))
def b__law_digits : List St := [
  .asg (.nm 2) (.cst (.int 0)),
  .whl lp__law_digits_1_t lp__law_digits_1_b,
  .ret (.var 2)]
def f__law_digits : Fn := ⟨2, 3, [], false, b__law_digits⟩
def t__law_digits : TD := ⟨"_law_digits", top 64, ["wide", "tickets", "count"], ["wide", "tickets"], f__law_digits, "_law_digits", .fn, []⟩
/-- _law_round(wide, tickets): wide 0, tickets 1, every 2 -/
def b__law_round : List St := [
  .asg (.nm 2) (.call i__law_power [.e (.var 0), .e (.call i__law_digits [.e (.var 0), .e (.var 1)])]),
  .ret (.bin .mul (.bin .fdiv (.var 2) (.vw 1)) (.vw 1))]
def f__law_round : Fn := ⟨2, 3, [], false, b__law_round⟩
def t__law_round : TD := ⟨"_law_round", top 65, ["wide", "tickets", "every"], ["wide", "tickets"], f__law_round, "_law_round", .fn, []⟩
/-- _law_value(wide, row): wide 0, row 1, value 2, digit 3 -/
def lp__law_value_1_b : List St := [.asg (.nm 2) (.sh (.bin .add (.bin .mul (.var 2) (.vw 0)) (.vw 3)))]
def lp__law_value_1_i : It := (.seq (.var 1))
def b__law_value : List St := [
  .asg (.nm 2) (.cst (.int 0)),
  .forS (.nm 3) lp__law_value_1_i lp__law_value_1_b,
  .ret (.var 2)]
def f__law_value : Fn := ⟨2, 4, [], false, b__law_value⟩
def t__law_value : TD := ⟨"_law_value", top 66, ["wide", "row", "value", "digit"], ["wide", "row"], f__law_value, "_law_value", .fn, []⟩
/-- _law_won(wide, tickets, row): wide 0, tickets 1, row 2, value 3 -/
def b__law_won : List St := [
  .asg (.nm 3) (.call i__law_value [.e (.var 0), .e (.var 2)]),
  .ret (.ite (.cmp .lt (.var 3) (.e (.call i__law_round [.e (.var 0), .e (.var 1)]))) (.bin .mod (.p1 .int (.vw 3)) (.vw 1)) (.cst .non))]
def f__law_won : Fn := ⟨3, 4, [], false, b__law_won⟩
def t__law_won : TD := ⟨"_law_won", top 67, ["wide", "tickets", "row", "value"], ["wide", "tickets", "row"], f__law_won, "_law_won", .fn, []⟩
/-- _law_is(got, due): got 0, due 1, one 2, other 3 -/
def lc__law_is_1_e : E := (.call i__law_is [.e (.var 2), .e (.var 3)])
def lc__law_is_1_i : It := (.zip (.var 0) (.var 1))
abbrev lc__law_is_1 : E := .lc lc__law_is_1_e (.tp [(.nm 2), (.nm 3)]) lc__law_is_1_i none [2, 3]
def b__law_is : List St := [
  .ifS (.o (.e (.isi (.vw 1) [.tuple, .list]))) [.ifS (.or (.not (.o (.e (.isi (.vw 0) [.tuple, .list])))) (.cmp .ne (.isi (.vw 0) [.tuple]) (.e (.isi (.vw 1) [.tuple])))) [.ret (.cst (.bl false))] [], .ret (.and (.cmp .eq (.p1 .len (.vw 0)) (.e (.p1 .len (.vw 1)))) (.p1 .all (.e lc__law_is_1)))] [],
  .ifS (.or (.cmp .is (.var 1) (.e (.cst .non))) (.o (.e (.isi (.vw 1) [.bool])))) [.ret (.ite (.cmp .is (.var 1) (.e (.cst .non))) (.cmp .is (.var 0) (.e (.cst .non))) (.and (.isi (.vw 0) [.bool]) (.cmp .eq (.var 0) (.vw 1))))] [],
  .ifS (.o (.e (.isi (.vw 1) [.str]))) [.ret (.and (.isi (.vw 0) [.str]) (.cmp .eq (.var 0) (.vw 1)))] [],
  .ret (.and (.isi (.vw 0) [.int]) (.and (.not (.e (.isi (.vw 0) [.bool]))) (.cmp .eq (.var 0) (.vw 1))))]
def f__law_is : Fn := ⟨2, 4, [], false, b__law_is⟩
def t__law_is : TD := ⟨"_law_is", top 68, ["got", "due", "one", "other"], ["got", "due"], f__law_is, "_law_is", .fn, []⟩
/-- _law_some_tickets(hand, wide): hand 0, wide 1, kind 2, near 3 -/
def b__law_some_tickets : List St := [
  .asg (.nm 2) (.call i__law_draw [.io 0, .e (.cst (.int 4))]),
  .ifS (.cmp .eq (.var 2) (.e (.cst (.int 0)))) [.ret (.bin .add (.cst (.int 1)) (.e (.call i__law_draw [.io 0, .e (.cst (.int 20))])))] [],
  .ifS (.cmp .eq (.var 2) (.e (.cst (.int 1)))) [.asg (.nm 3) (.bin .sub (.bin .add (.call i__law_power [.e (.var 1), .e (.call i__law_draw [.io 0, .e (.cst (.int 8))])]) (.e (.call i__law_draw [.io 0, .e (.cst (.int 3))]))) (.e (.cst (.int 1)))), .ret (.p2 .max (.cst (.int 1)) (.p2 .min (.var 3) (.bin .mul (.cst (.int 2)) (.e (.bin .pow (.cst (.int 10)) (.e (.cst (.int 7))))))))] [],
  .ret (.bin .add (.cst (.int 1)) (.e (.call i__law_draw [.io 0, .e (.call i__law_any [.io 0, .e (.lst [(.cst (.int 200)), (.bin .pow (.cst (.int 10)) (.e (.cst (.int 5)))), (.bin .mul (.cst (.int 2)) (.e (.bin .pow (.cst (.int 10)) (.e (.cst (.int 7))))))])])])))]
def f__law_some_tickets : Fn := ⟨2, 4, [0], false, b__law_some_tickets⟩
def t__law_some_tickets : TD := ⟨"_law_some_tickets", top 69, ["hand", "wide", "kind", "near"], ["hand", "wide"], f__law_some_tickets, "_law_some_tickets", .fn, []⟩
/-- _law_all_rows(wide, count): wide 0, count 1, found 2, lap 3, longer 4, row 5, digit 6 -/
def lc__law_all_rows_1_e : E := (.bin .add (.var 5) (.e (.tup [(.var 6)])))
def lc__law_all_rows_1_i : It := (.rng1 (.var 0))
abbrev lc__law_all_rows_1 : E := .lc lc__law_all_rows_1_e (.nm 6) lc__law_all_rows_1_i none [6]
def lp__law_all_rows_2_b : List St := [.ext 4 lc__law_all_rows_1]
def lp__law_all_rows_2_i : It := (.seq (.var 2))
def lp__law_all_rows_1_b : List St := [.asg (.nm 4) (.lst []), .forS (.nm 5) lp__law_all_rows_2_i lp__law_all_rows_2_b, .asg (.nm 2) (.var 4)]
def lp__law_all_rows_1_i : It := (.rng1 (.var 1))
def b__law_all_rows : List St := [
  .asg (.nm 2) (.sh (.lst [(.tup [])])),
  .forS (.nm 3) lp__law_all_rows_1_i lp__law_all_rows_1_b,
  .ret (.var 2)]
def f__law_all_rows : Fn := ⟨2, 7, [], false, b__law_all_rows⟩
def t__law_all_rows : TD := ⟨"_law_all_rows", top 70, ["wide", "count", "found", "lap", "longer", "row", "digit"], ["wide", "count"], f__law_all_rows, "_law_all_rows", .fn, []⟩
/-- _law_sales(hand, most): hand 0, most 1, found 2, lap 3 -/
def lp__law_sales_1_b : List St := [.ifS (.cmp .lt (.p1 .sum (.vw 2)) (.vw 1)) [.app 2 (.bin .add (.cst (.int 1)) (.e (.call i__law_draw [.io 0, .e (.bin .sub (.var 1) (.e (.p1 .sum (.vw 2))))])))] []]
def lp__law_sales_1_i : It := (.rng1 (.bin .add (.cst (.int 1)) (.e (.call i__law_draw [.io 0, .e (.cst (.int 5))]))))
def b__law_sales : List St := [
  .asg (.nm 2) (.lst []),
  .forS (.nm 3) lp__law_sales_1_i lp__law_sales_1_b,
  .ret (.p1 .tuple (.vw 2))]
def f__law_sales : Fn := ⟨2, 4, [0], false, b__law_sales⟩
def t__law_sales : TD := ⟨"_law_sales", top 71, ["hand", "most", "found", "lap"], ["hand", "most"], f__law_sales, "_law_sales", .fn, []⟩
/-- _law_owner(sales, ticket): sales 0, ticket 1, buyer 2, many 3 -/
def lp__law_owner_1_b : List St := [.ifS (.cmp .lt (.var 1) (.vw 3)) [.ret (.var 2)] [], .asg (.nm 1) (.bin .sub (.var 1) (.vw 3))]
def lp__law_owner_1_i : It := (.enum (.var 0))
def b__law_owner : List St := [
  .forS (.tp [(.nm 2), (.nm 3)]) lp__law_owner_1_i lp__law_owner_1_b,
  .ret (.cst .non)]
def f__law_owner : Fn := ⟨2, 4, [], false, b__law_owner⟩
def t__law_owner : TD := ⟨"_law_owner", top 72, ["sales", "ticket", "buyer", "many"], ["sales", "ticket"], f__law_owner, "_law_owner", .fn, []⟩
/-- _law_are_even(wide, sales): wide 0, sales 1, tickets 2, drawn 3, ticket 4, owners 5, due 6, rows 7, whole 8, row 9, buyer 10 -/
def lc__law_are_even_1_e : E := (.call i_winner [.e (.var 0), .e (.var 2), .e (.var 9)])
def lc__law_are_even_1_i : It := (.seq (.var 7))
abbrev lc__law_are_even_1 : E := .lc lc__law_are_even_1_e (.nm 9) lc__law_are_even_1_i none [9]
def lc__law_are_even_2_e : E := (.call i__law_won [.e (.var 0), .e (.var 2), .e (.var 9)])
def lc__law_are_even_2_i : It := (.seq (.var 7))
abbrev lc__law_are_even_2 : E := .lc lc__law_are_even_2_e (.nm 9) lc__law_are_even_2_i none [9]
def lp__law_are_even_1_b : List St := [.ifS (.cmp .ne (.bin .mul (.cnt (.var 3) (.var 4)) (.vw 2)) (.e (.call i_round_of [.e (.var 0), .e (.var 2)]))) [.ret (.cst (.bl false))] [], .ifS (.not (.o (.e (.call i__law_is [.e (.call i_buyer_of [.e (.var 1), .e (.var 4)]), .e (.call i__law_owner [.e (.var 1), .e (.var 4)])])))) [.ret (.cst (.bl false))] []]
def lp__law_are_even_1_i : It := (.rng1 (.var 2))
def lc__law_are_even_3_e : E := (.call i__law_owner [.e (.var 1), .e (.var 4)])
def lc__law_are_even_3_c : T := (.cmp .isnot (.var 4) (.e (.cst .non)))
def lc__law_are_even_3_i : It := (.seq (.var 3))
abbrev lc__law_are_even_3 : E := .lc lc__law_are_even_3_e (.nm 4) lc__law_are_even_3_i (some lc__law_are_even_3_c) [4]
def lc__law_are_even_4_e : E := (.call i__law_lowest [.e (.cnt (.var 5) (.var 10)), .e (.var 8)])
def lc__law_are_even_4_i : It := (.rng1 (.p1 .len (.vw 1)))
abbrev lc__law_are_even_4 : E := .lc lc__law_are_even_4_e (.nm 10) lc__law_are_even_4_i none [10]
def b__law_are_even : List St := [
  .asg (.nm 2) (.p1 .sum (.vw 1)),
  .par [7, 8] [(.call i__law_all_rows [.e (.var 0), .e (.call i__law_digits [.e (.var 0), .e (.var 2)])]), (.call i__law_round [.e (.var 0), .e (.var 2)])],
  .asg (.nm 3) (.sh lc__law_are_even_1),
  .ifS (.not (.o (.e (.call i__law_is [.e (.var 3), .e lc__law_are_even_2])))) [.ret (.cst (.bl false))] [],
  .forS (.nm 4) lp__law_are_even_1_i lp__law_are_even_1_b,
  .ifS (.or (.cmp .ne (.cnt (.var 3) (.cst .non)) (.e (.bin .sub (.p1 .len (.vw 7)) (.vw 8)))) (.cmp .ne (.call i_digits [.e (.var 0), .e (.var 2)]) (.e (.p1 .len (.e (.subv 7 (.cst (.int 0)))))))) [.ret (.cst (.bl false))] [],
  .asg (.nm 5) (.sh lc__law_are_even_3),
  .asg (.nm 6) (.p1 .tuple (.e lc__law_are_even_4)),
  .ret (.call i__law_is [.e (.call i_odds [.e (.var 1), .e (.cst (.int 1))]), .e (.var 6)])]
def f__law_are_even : Fn := ⟨2, 11, [], false, b__law_are_even⟩
def t__law_are_even : TD := ⟨"_law_are_even", top 73, ["wide", "sales", "tickets", "drawn", "ticket", "owners", "due", "rows", "whole", "row", "buyer"], ["wide", "sales"], f__law_are_even, "_law_are_even", .fn, []⟩
/-- _law_is_made(hand, wide, tickets): hand 0, wide 1, tickets 2, sizes 3, weights 4, machine 5, lap 6, row 7, digit 8, numbers 9, due 10, size 11, number 12, weight 13 -/
def lc__law_is_made_1_e : E := (.bin .add (.cst (.int 2)) (.e (.call i__law_draw [.io 0, .e (.cst (.int 3))])))
def lc__law_is_made_1_i : It := (.rng1 (.bin .add (.cst (.int 1)) (.e (.call i__law_draw [.io 0, .e (.cst (.int 3))]))))
abbrev lc__law_is_made_1 : E := .lc lc__law_is_made_1_e (.nm 6) lc__law_is_made_1_i none [6]
def lc__law_is_made_2_e : E := (.bin .sub (.call i__law_draw [.io 0, .e (.cst (.int 20))]) (.e (.cst (.int 9))))
def lc__law_is_made_2_i : It := (.seq (.slcv 3 (some (.cst (.int 1))) none))
abbrev lc__law_is_made_2 : E := .lc lc__law_is_made_2_e (.nm 11) lc__law_is_made_2_i none [11]
def lc__law_is_made_3_e : E := (.call i__law_draw [.io 0, .e (.var 11)])
def lc__law_is_made_3_i : It := (.seq (.var 3))
abbrev lc__law_is_made_3 : E := .lc lc__law_is_made_3_e (.nm 11) lc__law_is_made_3_i none [11]
def lc__law_is_made_4_e : E := (.bin .mul (.var 12) (.vw 13))
def lc__law_is_made_4_i : It := (.zip (.var 9) (.var 4))
abbrev lc__law_is_made_4 : E := .lc lc__law_is_made_4_e (.tp [(.nm 12), (.nm 13)]) lc__law_is_made_4_i none [12, 13]
def lp__law_is_made_2_b : List St := [.asg (.nm 9) (.p1 .tuple (.e lc__law_is_made_3)), .asg (.nm 10) (.bin .mod (.p1 .int (.e (.p1 .sum (.e lc__law_is_made_4)))) (.vw 1)), .app 7 (.call i_outcome [.e (.var 5), .e (.var 9)]), .ifS (.not (.o (.e (.call i__law_is [.e (.subv 7 (.neg (.cst (.int 1)))), .e (.var 10)])))) [.ret (.cst (.bl false))] []]
def lp__law_is_made_2_i : It := (.rng1 (.call i__law_digits [.e (.var 1), .e (.var 2)]))
def lp__law_is_made_1_b : List St := [.asg (.nm 7) (.lst []), .forS (.nm 8) lp__law_is_made_2_i lp__law_is_made_2_b, .ifS (.not (.o (.e (.call i__law_is [.e (.call i_winner [.e (.var 1), .e (.var 2), .e (.p1 .tuple (.vw 7))]), .e (.call i__law_won [.e (.var 1), .e (.var 2), .e (.var 7)])])))) [.ret (.cst (.bl false))] []]
def lp__law_is_made_1_i : It := (.rng1 (.cst (.int 4)))
def b__law_is_made : List St := [
  .asg (.nm 3) (.sh (.bin .add (.tup [(.var 1)]) (.e (.p1 .tuple (.e lc__law_is_made_1))))),
  .asg (.nm 4) (.sh (.bin .add (.tup [(.call i__law_any [.io 0, .e (.lst [(.cst (.int 1)), (.bin .sub (.var 1) (.e (.cst (.int 1)))), (.bin .sub (.cst (.int 1)) (.e (.bin .mul (.cst (.int 2)) (.vw 1))))])])]) (.e (.p1 .tuple (.e lc__law_is_made_2))))),
  .asg (.nm 5) (.call i_sum_machine [.e (.var 3), .e (.var 1), .e (.var 4)]),
  .ifS (.or (.cmp .isnot (.call i_is_level [.e (.var 5)]) (.e (.cst (.bl true)))) (.not (.o (.e (.call i__law_is [.e (.call i_share [.e (.var 5), .e (.call i__law_draw [.io 0, .e (.var 1)])]), .e (.tup [(.cst (.int 1)), (.var 1)])]))))) [.ret (.cst (.bl false))] [],
  .forS (.nm 6) lp__law_is_made_1_i lp__law_is_made_1_b,
  .ret (.cst (.bl true))]
def f__law_is_made : Fn := ⟨3, 14, [0], false, b__law_is_made⟩
def t__law_is_made : TD := ⟨"_law_is_made", top 74, ["hand", "wide", "tickets", "sizes", "weights", "machine", "lap", "row", "digit", "numbers", "due", "size", "number", "weight"], ["hand", "wide", "tickets"], f__law_is_made, "_law_is_made", .fn, []⟩
/-- law(script): script 0, hand 1, lap 2, wide 3, sales 4 -/
def lp_law_1_b : List St := [.asg (.nm 3) (.sh (.bin .add (.cst (.int 2)) (.e (.call i__law_draw [.io 1, .e (.cst (.int 11))])))), .asg (.nm 4) (.call i__law_sales [.io 1, .e (.call i__law_any [.io 1, .e (.lst [(.cst (.int 3)), (.cst (.int 12)), (.cst (.int 40)), (.cst (.int 100))])])]), .ifS (.or (.not (.o (.e (.call i__law_are_even [.e (.var 3), .e (.var 4)])))) (.not (.o (.e (.call i__law_is_made [.io 1, .e (.var 3), .e (.p1 .sum (.vw 4))]))))) [.ret (.cst (.bl false))] []]
def lp_law_1_i : It := (.rng1 (.cst (.int 2)))
def b_law : List St := [
  .asg (.nm 1) (.call i__law_hand [.e (.var 0)]),
  .forS (.nm 2) lp_law_1_i lp_law_1_b,
  .asg (.nm 3) (.sh (.bin .add (.cst (.int 2)) (.e (.call i__law_draw [.io 1, .e (.cst (.int 6))])))),
  .ret (.call i__law_is_made [.io 1, .e (.var 3), .e (.call i__law_some_tickets [.io 1, .e (.var 3)])])]
def f_law : Fn := ⟨1, 5, [], false, b_law⟩
def t_law : TD := ⟨"law", top 75, ["script", "hand", "lap", "wide", "sales"], ["script"], f_law, "law", .fn, []⟩
/-- Machine.__init__(self, sizes, wide, table): self 0, sizes 1, wide 2, table 3, many 4, at 5, told 6 -/
def lp_Machine__init___1_b : List St := [.ifS (.or (.cmp .eq (.var 5) (.vw 4)) (.not (.o (.e (.call i_is_within [.e (.var 6), .e (.cst (.int 0)), .e (.bin .sub (.var 2) (.e (.cst (.int 1))))]))))) [.nev] []]
def lp_Machine__init___1_i : It := (.enum (.var 3))
def b_Machine__init__ : List St := [
  .expr (.call i_check_sizes [.e (.var 1)]),
  .expr (.call i_check_wide [.e (.var 2)]),
  .ifS (.not (.o (.e (.isi (.vw 3) [.tuple])))) [.nev] [],
  .asg (.nm 4) (.call i_product_of [.e (.var 1)]),
  .forS (.tp [(.nm 5), (.nm 6)]) lp_Machine__init___1_i lp_Machine__init___1_b,
  .ifS (.cmp .lt (.p1 .len (.vw 3)) (.vw 4)) [.nev] [],
  .ret (.tup [.var 1, .var 2, .var 3])]
def f_Machine__init__ : Fn := ⟨4, 7, [], false, b_Machine__init__⟩
def t_Machine__init__ : TD := ⟨"__init__", sub (top 45) 0, ["self", "sizes", "wide", "table", "many", "at", "told"], ["self", "sizes", "wide", "table"], f_Machine__init__, "Machine.__init__", .ini "Machine" ["sizes", "wide", "table"], [1, 2, 3]⟩
/-- Machine.__eq__(self, other): self 0, other 1 -/
def b_Machine__eq__ : List St := [
  .ifS (.not (.o (.e (.isio (.vw 1) "Machine" ["Machine"] [])))) [.ret (.cst (.bl false))] [],
  .ret (.cmp .eq (.tup [(.fld (.vw 0) ["Machine"] "sizes"), (.fld (.vw 0) ["Machine"] "wide"), (.fld (.vw 0) ["Machine"] "table")]) (.e (.tup [(.fld (.vw 1) ["Machine"] "sizes"), (.fld (.vw 1) ["Machine"] "wide"), (.fld (.vw 1) ["Machine"] "table")])))]
def f_Machine__eq__ : Fn := ⟨2, 2, [], false, b_Machine__eq__⟩
def t_Machine__eq__ : TD := ⟨"__eq__", sub (top 45) 1, ["self", "other"], ["self", "other"], f_Machine__eq__, "Machine.__eq__", .eq "Machine", []⟩
def tds0 : List TD := [t_is_int, t_is_within, t_is_row, t_divisor, t_fraction, t_product_of, t_all_rows, t_check_sales, t_buyer_of, t_check_tickets, t_check_draw, t_rows_of, t_digits_of, t_digits, t_multiple_of, t_round_of, t_winner, t_odds_of, t_odds, t_check_sizes]
def tds1 : List TD := [t_check_wide, t_check_machine, t_place_of, t_is_numbers, t_told_by, t_outcome, t_check_outcome, t_share_of, t_share, t_is_level, t_summed, t_sum_machine, t__law_hand, t__law_draw, t__law_any, t__law_gcd, t__law_lowest, t__law_power, t__law_digits, t__law_round]
def tds2 : List TD := [t__law_value, t__law_won, t__law_is, t__law_some_tickets, t__law_all_rows, t__law_sales, t__law_owner, t__law_are_even, t__law_is_made, t_law, t_Machine__init__, t_Machine__eq__]
def tds : List TD := tds0 ++ tds1 ++ tds2
def lfree0 : List PySem.Str := ["abs", "all", "bool", "enumerate", "int", "isinstance", "len", "list", "max", "min", "range", "set", "str", "sum", "tuple", "zip"]
def lfree : List PySem.Str := lfree0
def lglob0 : List (PySem.Str × D) := [("MOST_BUYERS", .int 20), ("MOST_SOLD", .int 1000000), ("MOST_TICKETS", .int 20000000), ("MOST_OUTCOMES", .int 12), ("MOST_PRIZES", .int 20), ("MOST_HANDS", .int 8), ("MOST_SIZE", .int 12), ("MOST_WIDE", .int 12), ("MOST_ROWS", .int 20000)]
def lglob : List (PySem.Str × D) := lglob0
def lexc0 : List PySem.Str := ["UrnError", "BadNumbers", "BadPrizes", "BadSales", "BadWeights", "NoMachine", "NoOutcome", "NoRow", "NoTicket", "NoWide"]
def lexc : List PySem.Str := lexc0
def lib : Lib := ⟨tds, lfree, lglob, lexc, [("Machine", ["sizes", "wide", "table"])], [("Machine", "Machine", true)], ["Machine"]⟩
end Hd

namespace Hd
open PySem PySem.Spec PyProof.Rows L2 Rf
def loose0 : List PySem.Str := ["is_int", "is_within", "is_row", "divisor", "fraction", "product_of", "all_rows", "UrnError", "BadMachine", "BadNumbers", "BadPrizes", "BadSales", "BadWeights", "NoMachine", "NoOutcome", "NoRow", "NoTicket", "NoWide", "MOST_BUYERS", "MOST_SOLD"]
def loose1 : List PySem.Str := ["MOST_TICKETS", "MOST_OUTCOMES", "MOST_PRIZES", "check_sales", "buyer_of", "check_tickets", "check_draw", "rows_of", "digits_of", "digits", "multiple_of", "round_of", "winner", "odds_of", "odds", "MOST_HANDS", "MOST_SIZE", "MOST_WIDE", "MOST_ROWS", "check_sizes"]
def loose2 : List PySem.Str := ["check_wide", "Machine", "check_machine", "place_of", "is_numbers", "told_by", "outcome", "check_outcome", "share_of", "share", "is_level", "summed", "sum_machine", "_law_hand", "_law_draw", "_law_any", "_law_gcd", "_law_lowest", "_law_power", "_law_digits"]
def loose3 : List PySem.Str := ["_law_round", "_law_value", "_law_won", "_law_is", "_law_some_tickets", "_law_all_rows", "_law_sales", "_law_owner", "_law_are_even", "_law_is_made"]
def loose : List PySem.Str := loose0 ++ loose1 ++ loose2 ++ loose3
abbrev LRow : PySem.W.OpenRow := PySem.W.OpenLaw.row PySem.Challenge.rw_evenurn_k48_whole_rows_of_a_machine_draw
abbrev hk : PySem.W.Hook := He.hookX 5 lib.fa lib.fn [] [] lib.ex
def ob (s : PySem.W.SharedT) : He.AlX := He.obsX 5 lib.fa lib.fn [] [] lib.ex (HandSHeadRun.getT s)
theorem ob_eq (s : PySem.W.SharedT) : ob s = hk.obs s.abs := He.obsX_eq (HandSHeadRun.getT_eq s)
def fuel : Nat := 1000000000000
def tb : Tab := lib.tab
abbrev At (C : Calls) (n : Nat) : Prop := AtL tb fuel C n
theorem At.fuel_eq {C : Calls} {n : Nat} (h : At C n) : C.fuel = 1000000000000 := AtL.fuel h
theorem T_is_int : tb[i_is_int]? = some f_is_int := rfl
theorem fr_is_int {C : Calls} {n : Nat} (h : At C n) : C.fr i_is_int = f_is_int.fr := h.fr _ T_is_int
theorem T_is_within : tb[i_is_within]? = some f_is_within := rfl
theorem fr_is_within {C : Calls} {n : Nat} (h : At C n) : C.fr i_is_within = f_is_within.fr := h.fr _ T_is_within
theorem T_is_row : tb[i_is_row]? = some f_is_row := rfl
theorem fr_is_row {C : Calls} {n : Nat} (h : At C n) : C.fr i_is_row = f_is_row.fr := h.fr _ T_is_row
theorem T_divisor : tb[i_divisor]? = some f_divisor := rfl
theorem fr_divisor {C : Calls} {n : Nat} (h : At C n) : C.fr i_divisor = f_divisor.fr := h.fr _ T_divisor
theorem T_fraction : tb[i_fraction]? = some f_fraction := rfl
theorem fr_fraction {C : Calls} {n : Nat} (h : At C n) : C.fr i_fraction = f_fraction.fr := h.fr _ T_fraction
theorem T_product_of : tb[i_product_of]? = some f_product_of := rfl
theorem fr_product_of {C : Calls} {n : Nat} (h : At C n) : C.fr i_product_of = f_product_of.fr := h.fr _ T_product_of
theorem T_all_rows : tb[i_all_rows]? = some f_all_rows := rfl
theorem fr_all_rows {C : Calls} {n : Nat} (h : At C n) : C.fr i_all_rows = f_all_rows.fr := h.fr _ T_all_rows
theorem T_check_sales : tb[i_check_sales]? = some f_check_sales := rfl
theorem fr_check_sales {C : Calls} {n : Nat} (h : At C n) : C.fr i_check_sales = f_check_sales.fr := h.fr _ T_check_sales
theorem T_buyer_of : tb[i_buyer_of]? = some f_buyer_of := rfl
theorem fr_buyer_of {C : Calls} {n : Nat} (h : At C n) : C.fr i_buyer_of = f_buyer_of.fr := h.fr _ T_buyer_of
theorem T_check_tickets : tb[i_check_tickets]? = some f_check_tickets := rfl
theorem fr_check_tickets {C : Calls} {n : Nat} (h : At C n) : C.fr i_check_tickets = f_check_tickets.fr := h.fr _ T_check_tickets
theorem T_check_draw : tb[i_check_draw]? = some f_check_draw := rfl
theorem fr_check_draw {C : Calls} {n : Nat} (h : At C n) : C.fr i_check_draw = f_check_draw.fr := h.fr _ T_check_draw
theorem T_rows_of : tb[i_rows_of]? = some f_rows_of := rfl
theorem fr_rows_of {C : Calls} {n : Nat} (h : At C n) : C.fr i_rows_of = f_rows_of.fr := h.fr _ T_rows_of
theorem T_digits_of : tb[i_digits_of]? = some f_digits_of := rfl
theorem fr_digits_of {C : Calls} {n : Nat} (h : At C n) : C.fr i_digits_of = f_digits_of.fr := h.fr _ T_digits_of
theorem T_digits : tb[i_digits]? = some f_digits := rfl
theorem fr_digits {C : Calls} {n : Nat} (h : At C n) : C.fr i_digits = f_digits.fr := h.fr _ T_digits
theorem T_multiple_of : tb[i_multiple_of]? = some f_multiple_of := rfl
theorem fr_multiple_of {C : Calls} {n : Nat} (h : At C n) : C.fr i_multiple_of = f_multiple_of.fr := h.fr _ T_multiple_of
theorem T_round_of : tb[i_round_of]? = some f_round_of := rfl
theorem fr_round_of {C : Calls} {n : Nat} (h : At C n) : C.fr i_round_of = f_round_of.fr := h.fr _ T_round_of
theorem T_winner : tb[i_winner]? = some f_winner := rfl
theorem fr_winner {C : Calls} {n : Nat} (h : At C n) : C.fr i_winner = f_winner.fr := h.fr _ T_winner
theorem T_odds_of : tb[i_odds_of]? = some f_odds_of := rfl
theorem fr_odds_of {C : Calls} {n : Nat} (h : At C n) : C.fr i_odds_of = f_odds_of.fr := h.fr _ T_odds_of
theorem T_odds : tb[i_odds]? = some f_odds := rfl
theorem fr_odds {C : Calls} {n : Nat} (h : At C n) : C.fr i_odds = f_odds.fr := h.fr _ T_odds
theorem T_check_sizes : tb[i_check_sizes]? = some f_check_sizes := rfl
theorem fr_check_sizes {C : Calls} {n : Nat} (h : At C n) : C.fr i_check_sizes = f_check_sizes.fr := h.fr _ T_check_sizes
theorem T_check_wide : tb[i_check_wide]? = some f_check_wide := rfl
theorem fr_check_wide {C : Calls} {n : Nat} (h : At C n) : C.fr i_check_wide = f_check_wide.fr := h.fr _ T_check_wide
theorem T_check_machine : tb[i_check_machine]? = some f_check_machine := rfl
theorem fr_check_machine {C : Calls} {n : Nat} (h : At C n) : C.fr i_check_machine = f_check_machine.fr := h.fr _ T_check_machine
theorem T_place_of : tb[i_place_of]? = some f_place_of := rfl
theorem fr_place_of {C : Calls} {n : Nat} (h : At C n) : C.fr i_place_of = f_place_of.fr := h.fr _ T_place_of
theorem T_is_numbers : tb[i_is_numbers]? = some f_is_numbers := rfl
theorem fr_is_numbers {C : Calls} {n : Nat} (h : At C n) : C.fr i_is_numbers = f_is_numbers.fr := h.fr _ T_is_numbers
theorem T_told_by : tb[i_told_by]? = some f_told_by := rfl
theorem fr_told_by {C : Calls} {n : Nat} (h : At C n) : C.fr i_told_by = f_told_by.fr := h.fr _ T_told_by
theorem T_outcome : tb[i_outcome]? = some f_outcome := rfl
theorem fr_outcome {C : Calls} {n : Nat} (h : At C n) : C.fr i_outcome = f_outcome.fr := h.fr _ T_outcome
theorem T_check_outcome : tb[i_check_outcome]? = some f_check_outcome := rfl
theorem fr_check_outcome {C : Calls} {n : Nat} (h : At C n) : C.fr i_check_outcome = f_check_outcome.fr := h.fr _ T_check_outcome
theorem T_share_of : tb[i_share_of]? = some f_share_of := rfl
theorem fr_share_of {C : Calls} {n : Nat} (h : At C n) : C.fr i_share_of = f_share_of.fr := h.fr _ T_share_of
theorem T_share : tb[i_share]? = some f_share := rfl
theorem fr_share {C : Calls} {n : Nat} (h : At C n) : C.fr i_share = f_share.fr := h.fr _ T_share
theorem T_is_level : tb[i_is_level]? = some f_is_level := rfl
theorem fr_is_level {C : Calls} {n : Nat} (h : At C n) : C.fr i_is_level = f_is_level.fr := h.fr _ T_is_level
theorem T_summed : tb[i_summed]? = some f_summed := rfl
theorem fr_summed {C : Calls} {n : Nat} (h : At C n) : C.fr i_summed = f_summed.fr := h.fr _ T_summed
theorem T_sum_machine : tb[i_sum_machine]? = some f_sum_machine := rfl
theorem fr_sum_machine {C : Calls} {n : Nat} (h : At C n) : C.fr i_sum_machine = f_sum_machine.fr := h.fr _ T_sum_machine
theorem T__law_gcd : tb[i__law_gcd]? = some f__law_gcd := rfl
theorem fr__law_gcd {C : Calls} {n : Nat} (h : At C n) : C.fr i__law_gcd = f__law_gcd.fr := h.fr _ T__law_gcd
theorem T__law_lowest : tb[i__law_lowest]? = some f__law_lowest := rfl
theorem fr__law_lowest {C : Calls} {n : Nat} (h : At C n) : C.fr i__law_lowest = f__law_lowest.fr := h.fr _ T__law_lowest
theorem T__law_power : tb[i__law_power]? = some f__law_power := rfl
theorem fr__law_power {C : Calls} {n : Nat} (h : At C n) : C.fr i__law_power = f__law_power.fr := h.fr _ T__law_power
theorem T__law_digits : tb[i__law_digits]? = some f__law_digits := rfl
theorem fr__law_digits {C : Calls} {n : Nat} (h : At C n) : C.fr i__law_digits = f__law_digits.fr := h.fr _ T__law_digits
theorem T__law_round : tb[i__law_round]? = some f__law_round := rfl
theorem fr__law_round {C : Calls} {n : Nat} (h : At C n) : C.fr i__law_round = f__law_round.fr := h.fr _ T__law_round
theorem T__law_value : tb[i__law_value]? = some f__law_value := rfl
theorem fr__law_value {C : Calls} {n : Nat} (h : At C n) : C.fr i__law_value = f__law_value.fr := h.fr _ T__law_value
theorem T__law_won : tb[i__law_won]? = some f__law_won := rfl
theorem fr__law_won {C : Calls} {n : Nat} (h : At C n) : C.fr i__law_won = f__law_won.fr := h.fr _ T__law_won
theorem T__law_is : tb[i__law_is]? = some f__law_is := rfl
theorem fr__law_is {C : Calls} {n : Nat} (h : At C n) : C.fr i__law_is = f__law_is.fr := h.fr _ T__law_is
theorem T__law_some_tickets : tb[i__law_some_tickets]? = some f__law_some_tickets := rfl
theorem fr__law_some_tickets {C : Calls} {n : Nat} (h : At C n) : C.fr i__law_some_tickets = f__law_some_tickets.fr := h.fr _ T__law_some_tickets
theorem T__law_all_rows : tb[i__law_all_rows]? = some f__law_all_rows := rfl
theorem fr__law_all_rows {C : Calls} {n : Nat} (h : At C n) : C.fr i__law_all_rows = f__law_all_rows.fr := h.fr _ T__law_all_rows
theorem T__law_sales : tb[i__law_sales]? = some f__law_sales := rfl
theorem fr__law_sales {C : Calls} {n : Nat} (h : At C n) : C.fr i__law_sales = f__law_sales.fr := h.fr _ T__law_sales
theorem T__law_owner : tb[i__law_owner]? = some f__law_owner := rfl
theorem fr__law_owner {C : Calls} {n : Nat} (h : At C n) : C.fr i__law_owner = f__law_owner.fr := h.fr _ T__law_owner
theorem T__law_are_even : tb[i__law_are_even]? = some f__law_are_even := rfl
theorem fr__law_are_even {C : Calls} {n : Nat} (h : At C n) : C.fr i__law_are_even = f__law_are_even.fr := h.fr _ T__law_are_even
theorem T__law_is_made : tb[i__law_is_made]? = some f__law_is_made := rfl
theorem fr__law_is_made {C : Calls} {n : Nat} (h : At C n) : C.fr i__law_is_made = f__law_is_made.fr := h.fr _ T__law_is_made
theorem T_law : tb[i_law]? = some f_law := rfl
theorem fr_law {C : Calls} {n : Nat} (h : At C n) : C.fr i_law = f_law.fr := h.fr _ T_law
theorem T_Machine__init__ : tb[i_Machine__init__]? = some f_Machine__init__ := rfl
theorem T_Machine__eq__ : tb[i_Machine__eq__]? = some f_Machine__eq__ := rfl
abbrev κ : Sh.Kd := ⟨821, some 7, some 40692, 31, 48271, 40014, 2147483563⟩
theorem κok : κ.Ok := ⟨by decide, fun c h => by cases h <;> decide, fun c h => by cases h <;> decide, by decide⟩
abbrev Hand := Sh.Hand
abbrev hd := Sh.hd
theorem hand_ok {C : Calls} (hC : At C 1) (ns : List Int) : C.fn i__law_hand [.scr ns] = .ok (hd (Sh.hand0 κ ns)) [] := Sh.khand_ok κok rfl hC ns
theorem hand_fr {C : Calls} {n : Nat} (hC : At C n) : C.fr i__law_hand = true := hC.fr i__law_hand (fd := Sh.fK_hand κ) rfl
abbrev dv (h : Hand) (b : Int) : Int := h.v κ b
abbrev dn (h : Hand) (b : Int) : Hand := h.nx κ b
theorem draw_ok {C : Calls} (hC : At C 1) (h : Hand) {b : Int} (hb : 0 < b) (db : divOk b = true) : C.fn i__law_draw [hd h, .int b] = .ok (.int (dv h b)) [hd (dn h b)] := Sh.kdraw_ok κok rfl hC h hb db
theorem draw_s {C : Calls} (hC : At C 1) (h : Hand) {b : Int} (hb : 0 < b) (db : b < 1073741824) : C.fn i__law_draw [hd h, .int b] = .ok (.int (dv h b)) [hd (dn h b)] := draw_ok hC h hb (divOk_s hb db)
theorem dv_ge (h : Hand) {b : Int} (hb : 0 < b) : 0 ≤ dv h b := Sh.v_ge κ h hb
theorem dv_lt (h : Hand) {b : Int} (hb : 0 < b) : dv h b < b := Sh.v_lt κ h hb
def pick (h : Hand) (ds : List D) : D := Sh.pick κ h ds
theorem pick_mem (h : Hand) {ds : List D} (hne : ds ≠ []) : pick h ds ∈ ds := Sh.pick_mem κ h hne
theorem any_l {C : Calls} (hC : At C 2) (h : Hand) {ds : List D} (hne : ds ≠ []) (hl : ds.length < 1073741824) : C.fn i__law_any [hd h, .lst ds] = .ok (pick h ds) [hd (dn h ds.length)] := (Sh.kany_ok (jd := i__law_draw) κok rfl rfl hC h hne hl).1
theorem any_t {C : Calls} (hC : At C 2) (h : Hand) {ds : List D} (hne : ds ≠ []) (hl : ds.length < 1073741824) : C.fn i__law_any [hd h, .tup ds] = .ok (pick h ds) [hd (dn h ds.length)] := (Sh.kany_ok (jd := i__law_draw) κok rfl rfl hC h hne hl).2
def law (ns : List Int) : CR := run lib.tab fuel 60 i_law [.scr ns]

/-! ### basics -/
theorem fuel_big {C : Calls} {n : Nat} (h : At C n) : 999999999999 < C.fuel := by rw [h.fuel_eq]; decide
theorem len_s {n m : Nat} (h : n ≤ m) (hm : m ≤ 1000000 := by decide) : n ≤ sizeLine := by rw [sizeLine_eq]; omega
theorem len_l {n m : Nat} (h : n ≤ m) (hm : m ≤ 1000000 := by decide) : n < sizeLine := by rw [sizeLine_eq]; omega
theorem ipow_mono {w : Int} (h : 1 ≤ w) {n m : Nat} (hm : n ≤ m) : w ^ n ≤ w ^ m := by
  induction m with
  | zero => obtain rfl : n = 0 := by omega
            exact Int.le_refl _
  | succ m ih =>
    rcases Nat.lt_or_ge m n with q | q
    · obtain rfl : n = m + 1 := by omega
      exact Int.le_refl _
    · rw [Int.pow_succ]
      have p : 0 < w ^ m := Int.pow_pos (by omega)
      have := Int.mul_le_mul_of_nonneg_left h (Int.le_of_lt p)
      have := ih q
      omega
theorem ipow_lt {n m : Nat} (hm : n < m) : (2 : Int) ^ n < 2 ^ m := by
  have h1 : (2 : Int) ^ (n + 1) ≤ 2 ^ m := ipow_mono (by decide) hm
  rw [Int.pow_succ] at h1
  have p : (0 : Int) < 2 ^ n := Int.pow_pos (by decide)
  omega
theorem boolsOf_map {α : Type} (f : α → Bool) : ∀ l : List α, boolsOf (l.map fun x => D.bl (f x)) = some (l.map f)
  | [] => rfl
  | a :: l => by simp [boolsOf, boolsOf_map f l]
theorem p1_all_map {α : Type} (f : α → Bool) (l : List α) : p1 .all (.lst (l.map fun x => D.bl (f x))) = some (.bl (l.all f)) := by
  show ((boolsOf (l.map fun x => D.bl (f x))).map fun l => D.bl (l.all id)) = _
  rw [boolsOf_map]
  simp
theorem p1_any_map {α : Type} (f : α → Bool) (l : List α) : p1 .any (.lst (l.map fun x => D.bl (f x))) = some (.bl (l.any f)) := by
  show ((boolsOf (l.map fun x => D.bl (f x))).map fun l => D.bl (l.any id)) = _
  rw [boolsOf_map]
  simp
theorem is_int_ok {C : Calls} (hC : At C 1) (n : Int) : C.fn i_is_int [.int n] = .ok (.bl true) [] :=
  stepE T_is_int rfl hC fun C hC => by simp [f_is_int, b_is_int, ss_nil, ss_cons, ev_cst, ev_var, ev_mov, ev_glob, ev_sh, ev_tup, ev_lst, ev_bin, ev_binv, ev_neg, ev_cmp, ev_cmpv, ev_chain, ev_and, ev_or, ev_not, ev_ite, ev_call, ev_p1, ev_p2, ev_isi, ev_sub, ev_subv, ev_slc, ev_slcv, ev_rev, ev_pop, ev_popAt, ev_dnew, ev_lrg, ev_idx, ev_cnt, ev_tupz, ev_nev, ev_mk, ev_fld, ev_isio, ev_cmpI, et_cmpI, ex_nev, ex_asg, ex_par, ex_aug, ex_setI, ex_augI, ex_app, ex_ext, ex_expr, ex_ret, ex_retN, ex_pass, ex_brk, ex_cnt, ex_ifS, ex_raise, ex_forS, ex_whl, evalV, evalT, evalEs, evalA, evalA1, evalO, evalC, evalI, enterE, slotR, ownR, ownC, setD, readR, moveR, outs, mapM, isTys_cons, isFreshF, L2.ixN, fillA, putA, putP]
theorem within_ok {C : Calls} (hC : At C 2) (n a b : Int) : C.fn i_is_within [.int n, .int a, .int b] = .ok (.bl (decide (a ≤ n) && decide (n ≤ b))) [] :=
  stepE T_is_within rfl hC fun C hC => by
    have e := is_int_ok hC.le n
    by_cases h : a ≤ n <;> simp [f_is_within, b_is_within, ss_nil, ss_cons, ev_cst, ev_var, ev_mov, ev_glob, ev_sh, ev_tup, ev_lst, ev_bin, ev_binv, ev_neg, ev_cmp, ev_cmpv, ev_chain, ev_and, ev_or, ev_not, ev_ite, ev_call, ev_p1, ev_p2, ev_isi, ev_sub, ev_subv, ev_slc, ev_slcv, ev_rev, ev_pop, ev_popAt, ev_dnew, ev_lrg, ev_idx, ev_cnt, ev_tupz, ev_nev, ev_mk, ev_fld, ev_isio, ev_cmpI, et_cmpI, ex_nev, ex_asg, ex_par, ex_aug, ex_setI, ex_augI, ex_app, ex_ext, ex_expr, ex_ret, ex_retN, ex_pass, ex_brk, ex_cnt, ex_ifS, ex_raise, ex_forS, ex_whl, evalV, evalT, evalEs, evalA, evalA1, evalO, evalC, evalI, enterE, slotR, ownR, ownC, setD, readR, moveR, outs, mapM, isTys_cons, isFreshF, L2.ixN, fillA, putA, putP, e, h]
theorem product_ok {C : Calls} (hC : At C 1) (xs : List Int) (hx : ∀ x ∈ xs, x.natAbs < 2 ^ 64) {t : D} (ht : t = .lst (xs.map .int) ∨ t = .tup (xs.map .int)) : C.fn i_product_of [t] = .ok (.int xs.prod) [] := by
  have hs : seqOf t = some (xs.map .int) := by rcases ht with rfl | rfl <;> rfl
  have hpr : ∀ i x, xs[i]? = some x → (xs.take (i + 1)).prod = (xs.take i).prod * x := fun i x h => by
    rw [List.take_add_one, h, List.prod_append]
    simp
  refine stepE T_product_of rfl hC fun C hC => ?_
  simp [f_product_of, b_product_of, lp_product_of_1_i, ss_nil, ss_cons, ev_cst, ev_var, ev_mov, ev_glob, ev_sh, ev_tup, ev_lst, ev_bin, ev_binv, ev_neg, ev_cmp, ev_cmpv, ev_chain, ev_and, ev_or, ev_not, ev_ite, ev_call, ev_p1, ev_p2, ev_isi, ev_sub, ev_subv, ev_slc, ev_slcv, ev_rev, ev_pop, ev_popAt, ev_dnew, ev_lrg, ev_idx, ev_cnt, ev_tupz, ev_nev, ev_mk, ev_fld, ev_isio, ev_cmpI, et_cmpI, ex_nev, ex_asg, ex_par, ex_aug, ex_setI, ex_augI, ex_app, ex_ext, ex_expr, ex_ret, ex_retN, ex_pass, ex_brk, ex_cnt, ex_ifS, ex_raise, ex_forS, ex_whl, evalV, evalT, evalEs, evalA, evalA1, evalO, evalC, evalI, enterE, slotR, ownR, ownC, setD, readR, moveR, outs, mapM, isTys_cons, isFreshF, L2.ixN, fillA, putA, putP, hs]
  refine is_for (fun i s => ∃ sl, s = [Sl.sh t, .sh (.int (xs.take i).prod), sl]) (fun _ _ => False) ⟨_, by simp; rfl⟩ ?_ ?_ (fun _ _ h => h.elim)
  · rintro i d hd s ⟨sl, rfl⟩
    rw [List.getElem?_map] at hd
    obtain ⟨x, hx', rfl⟩ := Option.map_eq_some_iff.mp hd
    have m : mulOk (xs.take i).prod x = true := mulOk_r (hx x (List.mem_of_getElem? hx'))
    simp [forB_eq, lp_product_of_1_b, ss_nil, ss_cons, ev_cst, ev_var, ev_mov, ev_glob, ev_sh, ev_tup, ev_lst, ev_bin, ev_binv, ev_neg, ev_cmp, ev_cmpv, ev_chain, ev_and, ev_or, ev_not, ev_ite, ev_call, ev_p1, ev_p2, ev_isi, ev_sub, ev_subv, ev_slc, ev_slcv, ev_rev, ev_pop, ev_popAt, ev_dnew, ev_lrg, ev_idx, ev_cnt, ev_tupz, ev_nev, ev_mk, ev_fld, ev_isio, ev_cmpI, et_cmpI, ex_nev, ex_asg, ex_par, ex_aug, ex_setI, ex_augI, ex_app, ex_ext, ex_expr, ex_ret, ex_retN, ex_pass, ex_brk, ex_cnt, ex_ifS, ex_raise, ex_forS, ex_whl, evalV, evalT, evalEs, evalA, evalA1, evalO, evalC, evalI, enterE, slotR, ownR, ownC, setD, readR, moveR, outs, mapM, isTys_cons, isFreshF, L2.ixN, fillA, putA, putP, bin_mul m, hpr i x hx']
  · rintro s ⟨sl, rfl⟩
    simp [ss_nil, ss_cons, ev_cst, ev_var, ev_mov, ev_glob, ev_sh, ev_tup, ev_lst, ev_bin, ev_binv, ev_neg, ev_cmp, ev_cmpv, ev_chain, ev_and, ev_or, ev_not, ev_ite, ev_call, ev_p1, ev_p2, ev_isi, ev_sub, ev_subv, ev_slc, ev_slcv, ev_rev, ev_pop, ev_popAt, ev_dnew, ev_lrg, ev_idx, ev_cnt, ev_tupz, ev_nev, ev_mk, ev_fld, ev_isio, ev_cmpI, et_cmpI, ex_nev, ex_asg, ex_par, ex_aug, ex_setI, ex_augI, ex_app, ex_ext, ex_expr, ex_ret, ex_retN, ex_pass, ex_brk, ex_cnt, ex_ifS, ex_raise, ex_forS, ex_whl, evalV, evalT, evalEs, evalA, evalA1, evalO, evalC, evalI, enterE, slotR, ownR, ownC, setD, readR, moveR, outs, mapM, isTys_cons, isFreshF, L2.ixN, fillA, putA, putP]
/-! Euclid's numbers -/
def euc (a b : Int) : Int := if h : b = 0 then a else euc b (a % b)
termination_by b.natAbs
decreasing_by
  have h1 := Int.emod_nonneg a h
  have h2 := Int.emod_lt a h
  omega
theorem euc_zero (a : Int) : euc a 0 = a := by rw [euc]; simp
theorem euc_pos {a b : Int} (h : b ≠ 0) : euc a b = euc b (a % b) := by rw [euc]; simp [h]
theorem euc_bound : ∀ (n : Nat) (a b : Int), b.toNat ≤ n → 0 < b → 0 < euc a b ∧ euc a b ≤ b
  | 0, a, b, hn, hb => by omega
  | n + 1, a, b, hn, hb => by
    rw [euc_pos (by omega)]
    have h1 := Int.emod_nonneg a (show b ≠ 0 by omega)
    have h2 := Int.emod_lt_of_pos a hb
    by_cases h0 : a % b = 0
    · rw [h0, euc_zero]; omega
    · have := euc_bound n b (a % b) (by omega) (by omega)
      omega
theorem euc_gt {a b : Int} (hb : 0 < b) : 0 < euc a b := (euc_bound _ a b (Nat.le_refl _) hb).1
theorem euc_le {a b : Int} (hb : 0 < b) : euc a b ≤ b := (euc_bound _ a b (Nat.le_refl _) hb).2
theorem euc_dvd : ∀ (n : Nat) (a b : Int), b.toNat ≤ n → 0 ≤ b → euc a b ∣ a ∧ euc a b ∣ b
  | 0, a, b, hn, hb => by
    obtain rfl : b = 0 := by omega
    rw [euc_zero]
    exact ⟨Int.dvd_refl _, Int.dvd_zero _⟩
  | n + 1, a, b, hn, hb => by
    by_cases h0 : b = 0
    · subst h0
      rw [euc_zero]
      exact ⟨Int.dvd_refl _, Int.dvd_zero _⟩
    · rw [euc_pos h0]
      have h1 := Int.emod_nonneg a h0
      have h2 := Int.emod_lt_of_pos a (show 0 < b by omega)
      obtain ⟨h3, h4⟩ := euc_dvd n b (a % b) (by omega) h1
      refine ⟨?_, h3⟩
      have := Int.dvd_add (Int.dvd_trans h3 (Int.dvd_mul_right b (a / b))) h4
      rw [Int.mul_ediv_add_emod] at this
      exact this
theorem euc_dl {a b : Int} (hb : 0 ≤ b) : euc a b ∣ a := (euc_dvd _ a b (Nat.le_refl _) hb).1
theorem euc_dr {a b : Int} (hb : 0 ≤ b) : euc a b ∣ b := (euc_dvd _ a b (Nat.le_refl _) hb).2
/-- both programs' loops for the common divisor -/
theorem euc_loop {t : Rf.Env → Rf.R Bool} {f : Rf.Env → Rf.S} (ht : ∀ a b : Int, t [Sl.sh (.int a), .sh (.int b)] = .ok (decide (b ≠ 0)) [Sl.sh (.int a), .sh (.int b)])
    (hf : ∀ a b : Int, 0 < b → f [Sl.sh (.int a), .sh (.int b)] = .nx [Sl.sh (.int b), .sh (.int (a % b))]) :
    ∀ (n m : Nat) (a b : Int), 0 ≤ b → b ≤ 2 ^ m → 2 * m + 2 < n → whileL t f n [Sl.sh (.int a), .sh (.int b)] = .nx [Sl.sh (.int (euc a b)), .sh (.int 0)] := by
  have stop : ∀ n a, whileL t f (n + 1) [Sl.sh (.int a), .sh (.int 0)] = .nx [Sl.sh (.int (euc a 0)), .sh (.int 0)] := fun n a => by
    rw [euc_zero]
    simp [whileL, ht]
  have one : ∀ n a b, 0 < b → whileL t f (n + 1) [Sl.sh (.int a), .sh (.int b)] = whileL t f n [Sl.sh (.int b), .sh (.int (a % b))] := fun n a b hb => by
    simp [whileL, ht, hf a b hb, show b ≠ 0 by omega]
  intro n m
  induction m generalizing n with
  | zero =>
    intro a b hb hm hn
    obtain ⟨n, rfl⟩ : ∃ k, n = k + 2 := ⟨n - 2, by omega⟩
    by_cases h0 : b = 0
    · subst h0; exact stop _ a
    · obtain rfl : b = 1 := by simp at hm; omega
      rw [one _ _ _ (by decide), euc_pos (by decide), show a % 1 = 0 by omega]
      exact stop _ 1
  | succ m ih =>
    intro a b hb hm hn
    obtain ⟨n, rfl⟩ : ∃ k, n = k + 2 := ⟨n - 2, by omega⟩
    by_cases h0 : b = 0
    · subst h0; exact stop _ a
    · have h1 := Int.emod_nonneg a h0
      have h2 := Int.emod_lt_of_pos a (show 0 < b by omega)
      rw [one _ _ _ (by omega), euc_pos h0]
      by_cases h3 : a % b = 0
      · rw [h3]; exact stop _ b
      · have h4 := Int.emod_nonneg b h3
        have h5 := Int.emod_lt_of_pos b (show 0 < a % b by omega)
        rw [one _ _ _ (by omega), euc_pos h3]
        refine ih n _ _ h4 ?_ (by omega)
        rw [Int.pow_succ] at hm
        have h6 : b = a % b * (b / (a % b)) + b % (a % b) := (Int.mul_ediv_add_emod b (a % b)).symm
        have h7 : 1 ≤ b / (a % b) := by
          have := Int.ediv_le_ediv (show 0 < a % b by omega) (show a % b ≤ b by omega)
          rw [Int.ediv_self (by omega)] at this
          exact this
        have h8 : a % b * 1 ≤ a % b * (b / (a % b)) := Int.mul_le_mul_of_nonneg_left h7 h1
        omega
theorem divisor_ok {C : Calls} (hC : At C 1) {a b : Int} (hb : 0 < b) (hb2 : b ≤ 2 ^ 9000) : C.fn i_divisor [.int a, .int b] = .ok (.int (euc a b)) [] := by
  refine stepE T_divisor rfl hC fun C hC => ?_
  have hf := fuel_big hC
  have e := euc_loop (t := whlT C lp_divisor_1_t) (f := whlB C lp_divisor_1_b) (fun a b => by simp [whlT_eq, lp_divisor_1_t, ss_nil, ss_cons, ev_cst, ev_var, ev_mov, ev_glob, ev_sh, ev_tup, ev_lst, ev_bin, ev_binv, ev_neg, ev_cmp, ev_cmpv, ev_chain, ev_and, ev_or, ev_not, ev_ite, ev_call, ev_p1, ev_p2, ev_isi, ev_sub, ev_subv, ev_slc, ev_slcv, ev_rev, ev_pop, ev_popAt, ev_dnew, ev_lrg, ev_idx, ev_cnt, ev_tupz, ev_nev, ev_mk, ev_fld, ev_isio, ev_cmpI, et_cmpI, ex_nev, ex_asg, ex_par, ex_aug, ex_setI, ex_augI, ex_app, ex_ext, ex_expr, ex_ret, ex_retN, ex_pass, ex_brk, ex_cnt, ex_ifS, ex_raise, ex_forS, ex_whl, evalV, evalT, evalEs, evalA, evalA1, evalO, evalC, evalI, enterE, slotR, ownR, ownC, setD, readR, moveR, outs, mapM, isTys_cons, isFreshF, L2.ixN, fillA, putA, putP]) (fun a b hb => by simp [whlB_eq, lp_divisor_1_b, ss_nil, ss_cons, ev_cst, ev_var, ev_mov, ev_glob, ev_sh, ev_tup, ev_lst, ev_bin, ev_binv, ev_neg, ev_cmp, ev_cmpv, ev_chain, ev_and, ev_or, ev_not, ev_ite, ev_call, ev_p1, ev_p2, ev_isi, ev_sub, ev_subv, ev_slc, ev_slcv, ev_rev, ev_pop, ev_popAt, ev_dnew, ev_lrg, ev_idx, ev_cnt, ev_tupz, ev_nev, ev_mk, ev_fld, ev_isio, ev_cmpI, et_cmpI, ex_nev, ex_asg, ex_par, ex_aug, ex_setI, ex_augI, ex_app, ex_ext, ex_expr, ex_ret, ex_retN, ex_pass, ex_brk, ex_cnt, ex_ifS, ex_raise, ex_forS, ex_whl, evalV, evalT, evalEs, evalA, evalA1, evalO, evalC, evalI, enterE, slotR, ownR, ownC, setD, readR, moveR, outs, mapM, isTys_cons, isFreshF, L2.ixN, fillA, putA, putP, bin_mod hb]) C.fuel 9000 a b (by omega) hb2 (by omega)
  have hn : ¬ euc a b < 0 := by have := euc_gt (a := a) hb; omega
  simp [f_divisor, b_divisor, ss_nil, ss_cons, ev_cst, ev_var, ev_mov, ev_glob, ev_sh, ev_tup, ev_lst, ev_bin, ev_binv, ev_neg, ev_cmp, ev_cmpv, ev_chain, ev_and, ev_or, ev_not, ev_ite, ev_call, ev_p1, ev_p2, ev_isi, ev_sub, ev_subv, ev_slc, ev_slcv, ev_rev, ev_pop, ev_popAt, ev_dnew, ev_lrg, ev_idx, ev_cnt, ev_tupz, ev_nev, ev_mk, ev_fld, ev_isio, ev_cmpI, et_cmpI, ex_nev, ex_asg, ex_par, ex_aug, ex_setI, ex_augI, ex_app, ex_ext, ex_expr, ex_ret, ex_retN, ex_pass, ex_brk, ex_cnt, ex_ifS, ex_raise, ex_forS, ex_whl, evalV, evalT, evalEs, evalA, evalA1, evalO, evalC, evalI, enterE, slotR, ownR, ownC, setD, readR, moveR, outs, mapM, isTys_cons, isFreshF, L2.ixN, fillA, putA, putP, e, hn]
theorem divOk_w {b : Int} (h : 0 < b) (h2 : b < 2 ^ 8999) : divOk b = true := by
  unfold divOk
  rw [Bool.and_eq_true, Bool.or_eq_true, decide_eq_true_eq, decide_eq_true_eq, decide_eq_true_eq]
  refine ⟨h, .inr ?_⟩
  have : b.natAbs < 2 ^ 8999 := by
    have e : ((2 : Int) ^ 8999).natAbs = 2 ^ 8999 := by rw [Int.natAbs_pow]; rfl
    rw [← e]
    have p : (0:Int) ≤ 2 ^ 8999 := Int.le_of_lt (Int.lt_trans h h2)
    generalize (2 : Int) ^ 8999 = B at *
    omega
  exact Nat.lt_of_lt_of_le ((Nat.log2_lt (by omega)).mpr this) (by decide)
theorem euc_div {a b : Int} (hb : 0 < b) (hb2 : b < 2 ^ 8999) : divOk (euc a b) = true := divOk_w (euc_gt hb) (Int.lt_of_le_of_lt (euc_le hb) hb2)
theorem p8999 : (2 : Int) ^ 8999 ≤ 2 ^ 9000 := ipow_mono (by decide) (by decide)
def lowT (a b : Int) : D := .tup [.int (a / euc a b), .int (b / euc a b)]
theorem fraction_ok {C : Calls} (hC : At C 2) {a b : Int} (hb : 0 < b) (hb2 : b < 2 ^ 8999) : C.fn i_fraction [.int a, .int b] = .ok (lowT a b) [] := by
  refine stepE T_fraction rfl hC fun C hC => ?_
  have e := divisor_ok hC (a := a) hb (Int.le_trans (Int.le_of_lt hb2) p8999)
  have hn : ¬ b < 0 := by omega
  simp [f_fraction, b_fraction, ss_nil, ss_cons, ev_cst, ev_var, ev_mov, ev_glob, ev_sh, ev_tup, ev_lst, ev_bin, ev_binv, ev_neg, ev_cmp, ev_cmpv, ev_chain, ev_and, ev_or, ev_not, ev_ite, ev_call, ev_p1, ev_p2, ev_isi, ev_sub, ev_subv, ev_slc, ev_slcv, ev_rev, ev_pop, ev_popAt, ev_dnew, ev_lrg, ev_idx, ev_cnt, ev_tupz, ev_nev, ev_mk, ev_fld, ev_isio, ev_cmpI, et_cmpI, ex_nev, ex_asg, ex_par, ex_aug, ex_setI, ex_augI, ex_app, ex_ext, ex_expr, ex_ret, ex_retN, ex_pass, ex_brk, ex_cnt, ex_ifS, ex_raise, ex_forS, ex_whl, evalV, evalT, evalEs, evalA, evalA1, evalO, evalC, evalI, enterE, slotR, ownR, ownC, setD, readR, moveR, outs, mapM, isTys_cons, isFreshF, L2.ixN, fillA, putA, putP, e, hn, bin_fdiv (euc_div hb hb2), lowT]
theorem mulOk_w {a b : Int} (k l : Nat) (ha : a.natAbs < 2 ^ k) (hb : b.natAbs < 2 ^ l) (h : k + l ≤ 1000000 := by decide) (hk : 0 < k := by decide) (hl : 0 < l := by decide) : mulOk a b = true := by
  have lg : ∀ {x k : Nat}, x < 2 ^ k → 0 < k → x.log2 < k := fun {x k} h hk => by
    by_cases hx : x = 0
    · subst hx; exact hk
    · exact (Nat.log2_lt hx).mpr h
  have h1 := lg ha hk
  have h2 := lg hb hl
  unfold mulOk
  rw [Bool.or_eq_true, Bool.or_eq_true, decide_eq_true_eq, decide_eq_true_eq, decide_eq_true_eq]
  right
  omega
theorem nat_lt_pow {a : Int} {k : Nat} (h0 : 0 ≤ a) (h : a < 2 ^ k) : a.natAbs < 2 ^ k := by
  have e : ((2 : Int) ^ k).natAbs = 2 ^ k := by rw [Int.natAbs_pow]; rfl
  rw [← e]
  generalize (2 : Int) ^ k = B at *
  omega
theorem isIn_int (k : Int) (l : List Int) : cmp .inn (.int k) (.lst (l.map .int)) = some (decide (k ∈ l)) := by
  have h1 : (l.map D.int).all cmpb = true := by rw [List.all_eq_true]; intro d hd; obtain ⟨i, _, rfl⟩ := List.mem_map.mp hd; rfl
  show isIn (.int k) (l.map .int) = _
  unfold isIn
  rw [h1]
  simp only [cmpb_int, Bool.and_self, if_true]
  congr 1
  rw [List.any_map, Bool.eq_iff_iff, List.any_eq_true, decide_eq_true_eq]
  constructor
  · rintro ⟨x, hx, h⟩
    have : x = k := by simpa [eqd] using h
    exact this ▸ hx
  · intro h
    exact ⟨k, h, by simp [eqd]⟩
@[simp] theorem p1_int_bl (b : Bool) : p1 .int (.bl b) = some (.int (if b then 1 else 0)) := Eq.trans rfl rfl
theorem bin_repT {ds : List D} {b : Int} (h1 : -(2 ^ 62) ≤ b) (h2 : b < 2 ^ 62) (h3 : ds.length * b.toNat ≤ sizeLine) : Rf.bin .mul (.tup ds) (.int b) = some (.tup (List.replicate b.toNat ds).flatten) := by
  have e : (decide (-(2 ^ 62) ≤ b) && decide (b < 2 ^ 62) && decide (ds.length * b.toNat ≤ sizeLine)) = true := by
    rw [decide_eq_true h1, decide_eq_true h2, decide_eq_true h3]; rfl
  simp only [Rf.bin, e, if_true]
theorem zip_map {α : Type} (f g : α → D) : ∀ xs : List α, List.zipWith (fun x y => D.tup [x, y]) (xs.map f) (xs.map g) = xs.map fun x => .tup [f x, g x]
  | [] => rfl
  | x :: xs => by simp [zip_map f g xs]
theorem set_map (xs : List Int) (j : Nat) (v : Int) : (xs.map D.int).set j (.int v) = (xs.set j v).map D.int := by rw [List.map_set]

/-! ### tickets -/
structure Ok (w t : Int) : Prop where
  w2 : 2 ≤ w
  w12 : w ≤ 12
  t1 : 1 ≤ t
  t2 : t ≤ 20000000
theorem small12 {w t : Int} (h : Ok w t) (x : Int) : mulOk x w = true := mulOk_r (by have := h.w2; have := h.w12; omega)
theorem div_t {w t : Int} (h : Ok w t) : divOk t = true := divOk_s (by have := h.t1; omega) (by have := h.t2; omega)
theorem mul_t {w t : Int} (h : Ok w t) (x : Int) : mulOk x t = true := mulOk_r (by have := h.t1; have := h.t2; omega)
/-- n is the least power that reaches t -/
structure Dg (w t : Int) (n : Nat) : Prop where
  le : t ≤ w ^ n
  lt : ∀ m < n, w ^ m < t
theorem Dg.uniq {w t : Int} {n m : Nat} (a : Dg w t n) (b : Dg w t m) : n = m := by
  rcases Nat.lt_trichotomy n m with h | h | h
  · have := b.lt n h; have := a.le; omega
  · exact h
  · have := a.lt m h; have := b.le; omega
theorem pow_ge {w t : Int} (h : Ok w t) (n : Nat) : (2 : Int) ^ n ≤ w ^ n := by
  have h2 := h.w2
  induction n with
  | zero => simp
  | succ n ih =>
    rw [Int.pow_succ, Int.pow_succ]
    have p : (0 : Int) ≤ 2 ^ n := by exact Int.le_of_lt (Int.pow_pos (by decide))
    exact Int.mul_le_mul ih h2 (by decide) (by omega)
theorem pow_pos {w t : Int} (h : Ok w t) (n : Nat) : 0 < w ^ n := Int.pow_pos (by have := h.w2; omega)
theorem pow_lim {w t : Int} (h : Ok w t) {n : Nat} (hl : w ^ n < t) : n ≤ 24 := by
  rcases Nat.lt_or_ge 24 n with q | q
  · have h2 := pow_ge h n
    have h4 : (2 : Int) ^ 25 ≤ 2 ^ n := ipow_mono (by decide) q
    have h3 := h.t2
    have : (2 : Int) ^ 25 = 33554432 := by decide
    omega
  · exact q
theorem Dg.small {w t : Int} (h : Ok w t) {n : Nat} (d : Dg w t n) : n ≤ 25 := by
  cases n with
  | zero => omega
  | succ n => have := pow_lim h (d.lt n (Nat.lt_succ_self n)); omega
theorem pow_top {w t : Int} (h : Ok w t) (n : Nat) : w ^ n ≤ 2 ^ (4 * n) := by
  rw [Int.pow_mul]
  have h2 := h.w2
  have h12 := h.w12
  induction n with
  | zero => simp
  | succ n ih =>
    rw [Int.pow_succ, Int.pow_succ]
    have p := pow_pos h n
    exact Int.mul_le_mul ih (show w ≤ 2 ^ 4 by omega) (by omega) (Int.le_of_lt (Int.pow_pos (by decide)))
theorem Dg.big {w t : Int} (h : Ok w t) {n : Nat} (d : Dg w t n) : w ^ n ≤ 240000000 := by
  cases n with
  | zero => simp
  | succ n =>
    have h1 := d.lt n (Nat.lt_succ_self n)
    have h2 := h.t2
    have h3 := h.w12
    have h4 := h.w2
    rw [Int.pow_succ]
    have p := pow_pos h n
    have : w ^ n * w ≤ w ^ n * 12 := Int.mul_le_mul_of_nonneg_left h3 (by omega)
    omega
theorem tickets_ok {C : Calls} (hC : At C 3) {t : Int} (h1 : 1 ≤ t) (h2 : t ≤ 20000000) : C.fn i_check_tickets [.int t] = .ok .non [] :=
  stepE T_check_tickets rfl hC fun C hC => by
    have e := within_ok hC t 1 20000000
    simp [f_check_tickets, b_check_tickets, ss_nil, ss_cons, ev_cst, ev_var, ev_mov, ev_glob, ev_sh, ev_tup, ev_lst, ev_bin, ev_binv, ev_neg, ev_cmp, ev_cmpv, ev_chain, ev_and, ev_or, ev_not, ev_ite, ev_call, ev_p1, ev_p2, ev_isi, ev_sub, ev_subv, ev_slc, ev_slcv, ev_rev, ev_pop, ev_popAt, ev_dnew, ev_lrg, ev_idx, ev_cnt, ev_tupz, ev_nev, ev_mk, ev_fld, ev_isio, ev_cmpI, et_cmpI, ex_nev, ex_asg, ex_par, ex_aug, ex_setI, ex_augI, ex_app, ex_ext, ex_expr, ex_ret, ex_retN, ex_pass, ex_brk, ex_cnt, ex_ifS, ex_raise, ex_forS, ex_whl, evalV, evalT, evalEs, evalA, evalA1, evalO, evalC, evalI, enterE, slotR, ownR, ownC, setD, readR, moveR, outs, mapM, isTys_cons, isFreshF, L2.ixN, fillA, putA, putP, e, h1, h2]
theorem draw_chk {C : Calls} (hC : At C 4) {w t : Int} (h : Ok w t) : C.fn i_check_draw [.int w, .int t] = .ok .non [] :=
  stepE T_check_draw rfl hC fun C hC => by
    have e := within_ok hC.le w 2 12
    have e2 := tickets_ok hC h.t1 h.t2
    simp [f_check_draw, b_check_draw, ss_nil, ss_cons, ev_cst, ev_var, ev_mov, ev_glob, ev_sh, ev_tup, ev_lst, ev_bin, ev_binv, ev_neg, ev_cmp, ev_cmpv, ev_chain, ev_and, ev_or, ev_not, ev_ite, ev_call, ev_p1, ev_p2, ev_isi, ev_sub, ev_subv, ev_slc, ev_slcv, ev_rev, ev_pop, ev_popAt, ev_dnew, ev_lrg, ev_idx, ev_cnt, ev_tupz, ev_nev, ev_mk, ev_fld, ev_isio, ev_cmpI, et_cmpI, ex_nev, ex_asg, ex_par, ex_aug, ex_setI, ex_augI, ex_app, ex_ext, ex_expr, ex_ret, ex_retN, ex_pass, ex_brk, ex_cnt, ex_ifS, ex_raise, ex_forS, ex_whl, evalV, evalT, evalEs, evalA, evalA1, evalO, evalC, evalI, enterE, slotR, ownR, ownC, setD, readR, moveR, outs, mapM, isTys_cons, isFreshF, L2.ixN, fillA, putA, putP, e, e2, h.w2, h.w12]
theorem rows_ok {C : Calls} (hC : At C 2) (n : Nat) {w t : Int} (h : Ok w t) (hn : n ≤ 1000) : C.fn i_rows_of [.int w, .int n] = .ok (.int (w ^ n)) [] := by
  refine stepE T_rows_of rfl hC fun C hC => ?_
  have hw : w.natAbs < 2 ^ 64 := by have := h.w2; have := h.w12; omega
  have e := product_ok hC (List.replicate n w) (fun x hx => by rw [(List.mem_replicate.mp hx).2]; exact hw) (.inl rfl)
  have eb : Rf.bin .mul (.lst [.int w]) (.int n) = some (.lst (List.replicate n (.int w))) := by
    rw [bin_repL (by omega) (by omega) (by rw [List.length_singleton, Int.toNat_natCast, Nat.one_mul]; exact len_s hn), Int.toNat_natCast, flat_one]
  rw [List.map_replicate, List.prod_replicate_int] at e
  simp [f_rows_of, b_rows_of, ss_nil, ss_cons, ev_cst, ev_var, ev_mov, ev_glob, ev_sh, ev_tup, ev_lst, ev_bin, ev_binv, ev_neg, ev_cmp, ev_cmpv, ev_chain, ev_and, ev_or, ev_not, ev_ite, ev_call, ev_p1, ev_p2, ev_isi, ev_sub, ev_subv, ev_slc, ev_slcv, ev_rev, ev_pop, ev_popAt, ev_dnew, ev_lrg, ev_idx, ev_cnt, ev_tupz, ev_nev, ev_mk, ev_fld, ev_isio, ev_cmpI, et_cmpI, ex_nev, ex_asg, ex_par, ex_aug, ex_setI, ex_augI, ex_app, ex_ext, ex_expr, ex_ret, ex_retN, ex_pass, ex_brk, ex_cnt, ex_ifS, ex_raise, ex_forS, ex_whl, evalV, evalT, evalEs, evalA, evalA1, evalO, evalC, evalI, enterE, slotR, ownR, ownC, setD, readR, moveR, outs, mapM, isTys_cons, isFreshF, L2.ixN, fillA, putA, putP, e, eb]
theorem digits_of_ok {C : Calls} (hC : At C 1) {w t : Int} (h : Ok w t) : ∃ n : Nat, Dg w t n ∧ C.fn i_digits_of [.int w, .int t] = .ok (.int n) [] := by
  have key : (C.fn i_digits_of [.int w, .int t]).is fun d o => ∃ n : Nat, Dg w t n ∧ d = .int n ∧ o = [] := by
    refine stepI T_digits_of rfl hC fun C hC => ?_
    simp [f_digits_of, b_digits_of, ss_nil, ss_cons, ev_cst, ev_var, ev_mov, ev_glob, ev_sh, ev_tup, ev_lst, ev_bin, ev_binv, ev_neg, ev_cmp, ev_cmpv, ev_chain, ev_and, ev_or, ev_not, ev_ite, ev_call, ev_p1, ev_p2, ev_isi, ev_sub, ev_subv, ev_slc, ev_slcv, ev_rev, ev_pop, ev_popAt, ev_dnew, ev_lrg, ev_idx, ev_cnt, ev_tupz, ev_nev, ev_mk, ev_fld, ev_isio, ev_cmpI, et_cmpI, ex_nev, ex_asg, ex_par, ex_aug, ex_setI, ex_augI, ex_app, ex_ext, ex_expr, ex_ret, ex_retN, ex_pass, ex_brk, ex_cnt, ex_ifS, ex_raise, ex_forS, ex_whl, evalV, evalT, evalEs, evalA, evalA1, evalO, evalC, evalI, enterE, slotR, ownR, ownC, setD, readR, moveR, outs, mapM, isTys_cons, isFreshF, L2.ixN, fillA, putA, putP]
    refine is_while (fun s => ∃ n : Nat, s = [Sl.sh (.int w), .sh (.int t), .sh (.int n), .sh (.int (w ^ n))] ∧ n ≤ 25 ∧ ∀ m < n, w ^ m < t) (fun s => ∃ n : Nat, s = [Sl.sh (.int w), .sh (.int t), .sh (.int n), .sh (.int (w ^ n))] ∧ Dg w t n) (fun _ _ => False)
      (fun s => match s[2]? with
        | some (Sl.sh (.int n)) => 30 - n.toNat
        | _ => 0) ⟨0, by simp, by omega, fun m hm => by omega⟩ (Nat.lt_of_le_of_lt (show _ ≤ 30 by simp) (Nat.lt_trans (by decide) (fuel_big hC))) ?_ ?_ (fun _ _ h => h.elim)
    · rintro s ⟨n, rfl, hb, hn⟩
      by_cases hlt : w ^ n < t
      · have hb := pow_lim h hlt
        refine ⟨true, _, by simp [whlT_eq, lp_digits_of_1_t, ss_nil, ss_cons, ev_cst, ev_var, ev_mov, ev_glob, ev_sh, ev_tup, ev_lst, ev_bin, ev_binv, ev_neg, ev_cmp, ev_cmpv, ev_chain, ev_and, ev_or, ev_not, ev_ite, ev_call, ev_p1, ev_p2, ev_isi, ev_sub, ev_subv, ev_slc, ev_slcv, ev_rev, ev_pop, ev_popAt, ev_dnew, ev_lrg, ev_idx, ev_cnt, ev_tupz, ev_nev, ev_mk, ev_fld, ev_isio, ev_cmpI, et_cmpI, ex_nev, ex_asg, ex_par, ex_aug, ex_setI, ex_augI, ex_app, ex_ext, ex_expr, ex_ret, ex_retN, ex_pass, ex_brk, ex_cnt, ex_ifS, ex_raise, ex_forS, ex_whl, evalV, evalT, evalEs, evalA, evalA1, evalO, evalC, evalI, enterE, slotR, ownR, ownC, setD, readR, moveR, outs, mapM, isTys_cons, isFreshF, L2.ixN, fillA, putA, putP, hlt]; rfl, ?_⟩
        simp [whlB_eq, lp_digits_of_1_b, ss_nil, ss_cons, ev_cst, ev_var, ev_mov, ev_glob, ev_sh, ev_tup, ev_lst, ev_bin, ev_binv, ev_neg, ev_cmp, ev_cmpv, ev_chain, ev_and, ev_or, ev_not, ev_ite, ev_call, ev_p1, ev_p2, ev_isi, ev_sub, ev_subv, ev_slc, ev_slcv, ev_rev, ev_pop, ev_popAt, ev_dnew, ev_lrg, ev_idx, ev_cnt, ev_tupz, ev_nev, ev_mk, ev_fld, ev_isio, ev_cmpI, et_cmpI, ex_nev, ex_asg, ex_par, ex_aug, ex_setI, ex_augI, ex_app, ex_ext, ex_expr, ex_ret, ex_retN, ex_pass, ex_brk, ex_cnt, ex_ifS, ex_raise, ex_forS, ex_whl, evalV, evalT, evalEs, evalA, evalA1, evalO, evalC, evalI, enterE, slotR, ownR, ownC, setD, readR, moveR, outs, mapM, isTys_cons, isFreshF, L2.ixN, fillA, putA, putP, bin_mul (small12 h _)]
        refine ⟨⟨n + 1, by simp [Int.pow_succ], by omega, fun m hm => ?_⟩, by omega⟩
        rcases Nat.lt_or_ge m n with q | q
        · exact hn m q
        · have : m = n := by omega
          rw [this]; exact hlt
      · exact ⟨false, _, by simp [whlT_eq, lp_digits_of_1_t, ss_nil, ss_cons, ev_cst, ev_var, ev_mov, ev_glob, ev_sh, ev_tup, ev_lst, ev_bin, ev_binv, ev_neg, ev_cmp, ev_cmpv, ev_chain, ev_and, ev_or, ev_not, ev_ite, ev_call, ev_p1, ev_p2, ev_isi, ev_sub, ev_subv, ev_slc, ev_slcv, ev_rev, ev_pop, ev_popAt, ev_dnew, ev_lrg, ev_idx, ev_cnt, ev_tupz, ev_nev, ev_mk, ev_fld, ev_isio, ev_cmpI, et_cmpI, ex_nev, ex_asg, ex_par, ex_aug, ex_setI, ex_augI, ex_app, ex_ext, ex_expr, ex_ret, ex_retN, ex_pass, ex_brk, ex_cnt, ex_ifS, ex_raise, ex_forS, ex_whl, evalV, evalT, evalEs, evalA, evalA1, evalO, evalC, evalI, enterE, slotR, ownR, ownC, setD, readR, moveR, outs, mapM, isTys_cons, isFreshF, L2.ixN, fillA, putA, putP, hlt]; rfl, by simp; exact ⟨n, ⟨rfl, rfl⟩, by omega, hn⟩⟩
    · rintro s ⟨n, rfl, hd⟩
      simp [ss_nil, ss_cons, ev_cst, ev_var, ev_mov, ev_glob, ev_sh, ev_tup, ev_lst, ev_bin, ev_binv, ev_neg, ev_cmp, ev_cmpv, ev_chain, ev_and, ev_or, ev_not, ev_ite, ev_call, ev_p1, ev_p2, ev_isi, ev_sub, ev_subv, ev_slc, ev_slcv, ev_rev, ev_pop, ev_popAt, ev_dnew, ev_lrg, ev_idx, ev_cnt, ev_tupz, ev_nev, ev_mk, ev_fld, ev_isio, ev_cmpI, et_cmpI, ex_nev, ex_asg, ex_par, ex_aug, ex_setI, ex_augI, ex_app, ex_ext, ex_expr, ex_ret, ex_retN, ex_pass, ex_brk, ex_cnt, ex_ifS, ex_raise, ex_forS, ex_whl, evalV, evalT, evalEs, evalA, evalA1, evalO, evalC, evalI, enterE, slotR, ownR, ownC, setD, readR, moveR, outs, mapM, isTys_cons, isFreshF, L2.ixN, fillA, putA, putP]
      exact ⟨n, hd, rfl⟩
  obtain ⟨d, o, e, n, hn, rfl, rfl⟩ := key.out
  exact ⟨n, hn, e⟩
theorem digits_ok {C : Calls} (hC : At C 5) {w t : Int} (h : Ok w t) {n : Nat} (dn : Dg w t n) : C.fn i_digits [.int w, .int t] = .ok (.int n) [] :=
  stepE T_digits rfl hC fun C hC => by
    obtain ⟨m, dm, e⟩ := digits_of_ok hC.le h
    rw [dm.uniq dn] at e
    have e1 := draw_chk hC h
    simp [f_digits, b_digits, ss_nil, ss_cons, ev_cst, ev_var, ev_mov, ev_glob, ev_sh, ev_tup, ev_lst, ev_bin, ev_binv, ev_neg, ev_cmp, ev_cmpv, ev_chain, ev_and, ev_or, ev_not, ev_ite, ev_call, ev_p1, ev_p2, ev_isi, ev_sub, ev_subv, ev_slc, ev_slcv, ev_rev, ev_pop, ev_popAt, ev_dnew, ev_lrg, ev_idx, ev_cnt, ev_tupz, ev_nev, ev_mk, ev_fld, ev_isio, ev_cmpI, et_cmpI, ex_nev, ex_asg, ex_par, ex_aug, ex_setI, ex_augI, ex_app, ex_ext, ex_expr, ex_ret, ex_retN, ex_pass, ex_brk, ex_cnt, ex_ifS, ex_raise, ex_forS, ex_whl, evalV, evalT, evalEs, evalA, evalA1, evalO, evalC, evalI, enterE, slotR, ownR, ownC, setD, readR, moveR, outs, mapM, isTys_cons, isFreshF, L2.ixN, fillA, putA, putP, e, e1]
theorem multiple_ok {C : Calls} (hC : At C 3) (n : Nat) {w t : Int} (h : Ok w t) (hn : n ≤ 1000) : C.fn i_multiple_of [.int w, .int t, .int n] = .ok (.int (w ^ n / t * t)) [] :=
  stepE T_multiple_of rfl hC fun C hC => by
    have e := rows_ok hC n h hn
    simp [f_multiple_of, b_multiple_of, ss_nil, ss_cons, ev_cst, ev_var, ev_mov, ev_glob, ev_sh, ev_tup, ev_lst, ev_bin, ev_binv, ev_neg, ev_cmp, ev_cmpv, ev_chain, ev_and, ev_or, ev_not, ev_ite, ev_call, ev_p1, ev_p2, ev_isi, ev_sub, ev_subv, ev_slc, ev_slcv, ev_rev, ev_pop, ev_popAt, ev_dnew, ev_lrg, ev_idx, ev_cnt, ev_tupz, ev_nev, ev_mk, ev_fld, ev_isio, ev_cmpI, et_cmpI, ex_nev, ex_asg, ex_par, ex_aug, ex_setI, ex_augI, ex_app, ex_ext, ex_expr, ex_ret, ex_retN, ex_pass, ex_brk, ex_cnt, ex_ifS, ex_raise, ex_forS, ex_whl, evalV, evalT, evalEs, evalA, evalA1, evalO, evalC, evalI, enterE, slotR, ownR, ownC, setD, readR, moveR, outs, mapM, isTys_cons, isFreshF, L2.ixN, fillA, putA, putP, e, bin_fdiv (div_t h), bin_mul (mul_t h _)]
theorem mult_pos {w t : Int} (h : Ok w t) {n : Nat} (hle : t ≤ w ^ n) : 0 < w ^ n / t * t ∧ w ^ n / t * t ≤ w ^ n := by
  have h1 := h.t1
  have d : 1 ≤ w ^ n / t := by
    have := Int.ediv_le_ediv (show 0 < t by omega) hle
    rw [Int.ediv_self (by omega)] at this
    exact this
  have m : w ^ n / t * t ≤ w ^ n := Int.ediv_mul_le _ (by omega)
  have p : 1 * t ≤ w ^ n / t * t := Int.mul_le_mul_of_nonneg_right d (by omega)
  omega
theorem Dg.reach {w t : Int} (h : Ok w t) {n m : Nat} (dn : Dg w t n) (hm : n ≤ m) : t ≤ w ^ m := Int.le_trans dn.le (ipow_mono (by have := h.w2; omega) hm)

/-! ### what the laws share -/
mutual
/-- plain data of which each row has at most a thousand items -/
def sm : D → Bool
  | .non => true
  | .bl _ => true
  | .int _ => true
  | .tup ds => decide (ds.length ≤ 1000000) && sms ds
  | .lst ds => decide (ds.length ≤ 1000000) && sms ds
  | _ => false
def sms : List D → Bool
  | [] => true
  | d :: ds => sm d && sms ds
end
theorem sms_mem : ∀ {ds : List D}, sms ds = true → ∀ d ∈ ds, sm d = true ∧ dep d ≤ deps ds
  | [], _, d, h => by cases h
  | e :: ds, hs, d, h => by
    simp only [sms, Bool.and_eq_true] at hs
    simp only [deps]
    rcases List.mem_cons.mp h with rfl | h
    · exact ⟨hs.1, Nat.le_max_left ..⟩
    · obtain ⟨h1, h2⟩ := sms_mem hs.2 d h
      exact ⟨h1, Nat.le_trans h2 (Nat.le_max_right ..)⟩
theorem sms_of : ∀ {ds : List D}, (∀ d ∈ ds, sm d = true) → sms ds = true
  | [], _ => rfl
  | d :: ds, h => by simp [sms, h d List.mem_cons_self, sms_of fun e he => h e (List.mem_cons_of_mem _ he)]
theorem zip_self : ∀ ds : List D, List.zipWith (fun x y => D.tup [x, y]) ds ds = ds.map fun d => .tup [d, d]
  | [] => rfl
  | d :: ds => by simp [zip_self ds]
theorem all_tt {α : Type} (l : List α) : p1 .all (.lst (l.map fun _ => D.bl true)) = some (.bl true) := by
  rw [p1_all_map]
  simp
theorem is_same : ∀ (n : Nat) {C : Calls} (d : D), At C (n + 1) → dep d ≤ n → sm d = true → C.fn i__law_is [d, d] = .ok (.bl true) []
  | n, C, d, hC, hd, hs => by
    have seq : ∀ ds : List D, (d = .tup ds ∨ d = .lst ds) → deps ds + 1 ≤ n → sms ds = true → ds.length ≤ 1000000 → C.fn i__law_is [d, d] = .ok (.bl true) [] := fun ds ht hn hs hl => by
      cases n with
      | zero => omega
      | succ n =>
        refine stepE T__law_is rfl hC fun C hC => ?_
        have hc : ∀ c ∈ ds, C.fn i__law_is [c, c] = .ok (.bl true) [] := fun c hc => by
          obtain ⟨h1, h2⟩ := sms_mem hs c hc
          exact is_same n c hC (by omega) h1
        have hi : evalI C lc__law_is_1_i [Sl.sh d, .sh d, .no, .no] = .ok (ds.map fun d => .tup [d, d]) [Sl.sh d, .sh d, .no, .no] := by
          rw [← zip_self]
          rcases ht with rfl | rfl <;> simp [lc__law_is_1_i, ss_nil, ss_cons, ev_cst, ev_var, ev_mov, ev_glob, ev_sh, ev_tup, ev_lst, ev_bin, ev_binv, ev_neg, ev_cmp, ev_cmpv, ev_chain, ev_and, ev_or, ev_not, ev_ite, ev_call, ev_p1, ev_p2, ev_isi, ev_sub, ev_subv, ev_slc, ev_slcv, ev_rev, ev_pop, ev_popAt, ev_dnew, ev_lrg, ev_idx, ev_cnt, ev_tupz, ev_nev, ev_mk, ev_fld, ev_isio, ev_cmpI, et_cmpI, ex_nev, ex_asg, ex_par, ex_aug, ex_setI, ex_augI, ex_app, ex_ext, ex_expr, ex_ret, ex_retN, ex_pass, ex_brk, ex_cnt, ex_ifS, ex_raise, ex_forS, ex_whl, evalV, evalT, evalEs, evalA, evalA1, evalO, evalC, evalI, enterE, slotR, ownR, ownC, setD, readR, moveR, outs, mapM, isTys_cons, isFreshF, L2.ixN, fillA, putA, putP]
        have el := lc_it (C := C) (elt := lc__law_is_1_e) (tg := .tp [.nm 2, .nm 3]) (cond := none) (own := [2, 3]) ds (fun d => .tup [d, d]) (fun _ => D.bl true) hi (fun c hm => by simp [turn_w, lc__law_is_1_e, ss_nil, ss_cons, ev_cst, ev_var, ev_mov, ev_glob, ev_sh, ev_tup, ev_lst, ev_bin, ev_binv, ev_neg, ev_cmp, ev_cmpv, ev_chain, ev_and, ev_or, ev_not, ev_ite, ev_call, ev_p1, ev_p2, ev_isi, ev_sub, ev_subv, ev_slc, ev_slcv, ev_rev, ev_pop, ev_popAt, ev_dnew, ev_lrg, ev_idx, ev_cnt, ev_tupz, ev_nev, ev_mk, ev_fld, ev_isio, ev_cmpI, et_cmpI, ex_nev, ex_asg, ex_par, ex_aug, ex_setI, ex_augI, ex_app, ex_ext, ex_expr, ex_ret, ex_retN, ex_pass, ex_brk, ex_cnt, ex_ifS, ex_raise, ex_forS, ex_whl, evalV, evalT, evalEs, evalA, evalA1, evalO, evalC, evalI, enterE, slotR, ownR, ownC, setD, readR, moveR, outs, mapM, isTys_cons, isFreshF, L2.ixN, fillA, putA, putP, hc c hm, wipeE]) (len_s hl)
        have el : evalE C lc__law_is_1 [Sl.sh d, .sh d, .no, .no] = _ := el
        have ea := all_tt ds
        rcases ht with rfl | rfl <;> simp [wipeE, backE] at el <;> simp [f__law_is, b__law_is, ss_nil, ss_cons, ev_cst, ev_var, ev_mov, ev_glob, ev_sh, ev_tup, ev_lst, ev_bin, ev_binv, ev_neg, ev_cmp, ev_cmpv, ev_chain, ev_and, ev_or, ev_not, ev_ite, ev_call, ev_p1, ev_p2, ev_isi, ev_sub, ev_subv, ev_slc, ev_slcv, ev_rev, ev_pop, ev_popAt, ev_dnew, ev_lrg, ev_idx, ev_cnt, ev_tupz, ev_nev, ev_mk, ev_fld, ev_isio, ev_cmpI, et_cmpI, ex_nev, ex_asg, ex_par, ex_aug, ex_setI, ex_augI, ex_app, ex_ext, ex_expr, ex_ret, ex_retN, ex_pass, ex_brk, ex_cnt, ex_ifS, ex_raise, ex_forS, ex_whl, evalV, evalT, evalEs, evalA, evalA1, evalO, evalC, evalI, enterE, slotR, ownR, ownC, setD, readR, moveR, outs, mapM, isTys_cons, isFreshF, L2.ixN, fillA, putA, putP, el, ea]
    cases d with
    | non => exact stepE T__law_is rfl hC fun C hC => by simp [f__law_is, b__law_is, ss_nil, ss_cons, ev_cst, ev_var, ev_mov, ev_glob, ev_sh, ev_tup, ev_lst, ev_bin, ev_binv, ev_neg, ev_cmp, ev_cmpv, ev_chain, ev_and, ev_or, ev_not, ev_ite, ev_call, ev_p1, ev_p2, ev_isi, ev_sub, ev_subv, ev_slc, ev_slcv, ev_rev, ev_pop, ev_popAt, ev_dnew, ev_lrg, ev_idx, ev_cnt, ev_tupz, ev_nev, ev_mk, ev_fld, ev_isio, ev_cmpI, et_cmpI, ex_nev, ex_asg, ex_par, ex_aug, ex_setI, ex_augI, ex_app, ex_ext, ex_expr, ex_ret, ex_retN, ex_pass, ex_brk, ex_cnt, ex_ifS, ex_raise, ex_forS, ex_whl, evalV, evalT, evalEs, evalA, evalA1, evalO, evalC, evalI, enterE, slotR, ownR, ownC, setD, readR, moveR, outs, mapM, isTys_cons, isFreshF, L2.ixN, fillA, putA, putP]
    | bl b => exact stepE T__law_is rfl hC fun C hC => by simp [f__law_is, b__law_is, ss_nil, ss_cons, ev_cst, ev_var, ev_mov, ev_glob, ev_sh, ev_tup, ev_lst, ev_bin, ev_binv, ev_neg, ev_cmp, ev_cmpv, ev_chain, ev_and, ev_or, ev_not, ev_ite, ev_call, ev_p1, ev_p2, ev_isi, ev_sub, ev_subv, ev_slc, ev_slcv, ev_rev, ev_pop, ev_popAt, ev_dnew, ev_lrg, ev_idx, ev_cnt, ev_tupz, ev_nev, ev_mk, ev_fld, ev_isio, ev_cmpI, et_cmpI, ex_nev, ex_asg, ex_par, ex_aug, ex_setI, ex_augI, ex_app, ex_ext, ex_expr, ex_ret, ex_retN, ex_pass, ex_brk, ex_cnt, ex_ifS, ex_raise, ex_forS, ex_whl, evalV, evalT, evalEs, evalA, evalA1, evalO, evalC, evalI, enterE, slotR, ownR, ownC, setD, readR, moveR, outs, mapM, isTys_cons, isFreshF, L2.ixN, fillA, putA, putP]
    | int i => exact stepE T__law_is rfl hC fun C hC => by simp [f__law_is, b__law_is, ss_nil, ss_cons, ev_cst, ev_var, ev_mov, ev_glob, ev_sh, ev_tup, ev_lst, ev_bin, ev_binv, ev_neg, ev_cmp, ev_cmpv, ev_chain, ev_and, ev_or, ev_not, ev_ite, ev_call, ev_p1, ev_p2, ev_isi, ev_sub, ev_subv, ev_slc, ev_slcv, ev_rev, ev_pop, ev_popAt, ev_dnew, ev_lrg, ev_idx, ev_cnt, ev_tupz, ev_nev, ev_mk, ev_fld, ev_isio, ev_cmpI, et_cmpI, ex_nev, ex_asg, ex_par, ex_aug, ex_setI, ex_augI, ex_app, ex_ext, ex_expr, ex_ret, ex_retN, ex_pass, ex_brk, ex_cnt, ex_ifS, ex_raise, ex_forS, ex_whl, evalV, evalT, evalEs, evalA, evalA1, evalO, evalC, evalI, enterE, slotR, ownR, ownC, setD, readR, moveR, outs, mapM, isTys_cons, isFreshF, L2.ixN, fillA, putA, putP]
    | tup ds =>
      simp only [sm, Bool.and_eq_true, decide_eq_true_eq] at hs
      exact seq ds (.inl rfl) hd hs.2 hs.1
    | lst ds =>
      simp only [sm, Bool.and_eq_true, decide_eq_true_eq] at hs
      exact seq ds (.inr rfl) hd hs.2 hs.1
    | _ => cases hs
theorem power_ok {C : Calls} (hC : At C 1) (n : Nat) {w : Int} (hw : w.natAbs < 2 ^ 64) (hn : n ≤ 1000) : C.fn i__law_power [.int w, .int n] = .ok (.int (w ^ n)) [] := by
  refine stepE T__law_power rfl hC fun C hC => ?_
  have hr : ∀ a b : Sl, evalI C lp__law_power_1_i [Sl.sh (.int w), .sh (.int n), a, b] = .ok (rangeD 0 n) [Sl.sh (.int w), .sh (.int n), a, b] := fun a b => rng1_ok (by simp [ss_nil, ss_cons, ev_cst, ev_var, ev_mov, ev_glob, ev_sh, ev_tup, ev_lst, ev_bin, ev_binv, ev_neg, ev_cmp, ev_cmpv, ev_chain, ev_and, ev_or, ev_not, ev_ite, ev_call, ev_p1, ev_p2, ev_isi, ev_sub, ev_subv, ev_slc, ev_slcv, ev_rev, ev_pop, ev_popAt, ev_dnew, ev_lrg, ev_idx, ev_cnt, ev_tupz, ev_nev, ev_mk, ev_fld, ev_isio, ev_cmpI, et_cmpI, ex_nev, ex_asg, ex_par, ex_aug, ex_setI, ex_augI, ex_app, ex_ext, ex_expr, ex_ret, ex_retN, ex_pass, ex_brk, ex_cnt, ex_ifS, ex_raise, ex_forS, ex_whl, evalV, evalT, evalEs, evalA, evalA1, evalO, evalC, evalI, enterE, slotR, ownR, ownC, setD, readR, moveR, outs, mapM, isTys_cons, isFreshF, L2.ixN, fillA, putA, putP]) (by omega)
  simp [f__law_power, b__law_power, ss_nil, ss_cons, ev_cst, ev_var, ev_mov, ev_glob, ev_sh, ev_tup, ev_lst, ev_bin, ev_binv, ev_neg, ev_cmp, ev_cmpv, ev_chain, ev_and, ev_or, ev_not, ev_ite, ev_call, ev_p1, ev_p2, ev_isi, ev_sub, ev_subv, ev_slc, ev_slcv, ev_rev, ev_pop, ev_popAt, ev_dnew, ev_lrg, ev_idx, ev_cnt, ev_tupz, ev_nev, ev_mk, ev_fld, ev_isio, ev_cmpI, et_cmpI, ex_nev, ex_asg, ex_par, ex_aug, ex_setI, ex_augI, ex_app, ex_ext, ex_expr, ex_ret, ex_retN, ex_pass, ex_brk, ex_cnt, ex_ifS, ex_raise, ex_forS, ex_whl, evalV, evalT, evalEs, evalA, evalA1, evalO, evalC, evalI, enterE, slotR, ownR, ownC, setD, readR, moveR, outs, mapM, isTys_cons, isFreshF, L2.ixN, fillA, putA, putP, hr]
  refine is_for (fun i s => ∃ sl, s = [Sl.sh (.int w), .sh (.int n), .sh (.int (w ^ i)), sl]) (fun _ _ => False) ⟨_, by simp; rfl⟩ ?_ ?_ (fun _ _ h => h.elim)
  · rintro i d hd s ⟨sl, rfl⟩
    simp [forB_eq, lp__law_power_1_b, ss_nil, ss_cons, ev_cst, ev_var, ev_mov, ev_glob, ev_sh, ev_tup, ev_lst, ev_bin, ev_binv, ev_neg, ev_cmp, ev_cmpv, ev_chain, ev_and, ev_or, ev_not, ev_ite, ev_call, ev_p1, ev_p2, ev_isi, ev_sub, ev_subv, ev_slc, ev_slcv, ev_rev, ev_pop, ev_popAt, ev_dnew, ev_lrg, ev_idx, ev_cnt, ev_tupz, ev_nev, ev_mk, ev_fld, ev_isio, ev_cmpI, et_cmpI, ex_nev, ex_asg, ex_par, ex_aug, ex_setI, ex_augI, ex_app, ex_ext, ex_expr, ex_ret, ex_retN, ex_pass, ex_brk, ex_cnt, ex_ifS, ex_raise, ex_forS, ex_whl, evalV, evalT, evalEs, evalA, evalA1, evalO, evalC, evalI, enterE, slotR, ownR, ownC, setD, readR, moveR, outs, mapM, isTys_cons, isFreshF, L2.ixN, fillA, putA, putP, bin_mul (mulOk_r (a := w ^ i) hw), Int.pow_succ]
  · rintro s ⟨sl, rfl⟩
    simp [ss_nil, ss_cons, ev_cst, ev_var, ev_mov, ev_glob, ev_sh, ev_tup, ev_lst, ev_bin, ev_binv, ev_neg, ev_cmp, ev_cmpv, ev_chain, ev_and, ev_or, ev_not, ev_ite, ev_call, ev_p1, ev_p2, ev_isi, ev_sub, ev_subv, ev_slc, ev_slcv, ev_rev, ev_pop, ev_popAt, ev_dnew, ev_lrg, ev_idx, ev_cnt, ev_tupz, ev_nev, ev_mk, ev_fld, ev_isio, ev_cmpI, et_cmpI, ex_nev, ex_asg, ex_par, ex_aug, ex_setI, ex_augI, ex_app, ex_ext, ex_expr, ex_ret, ex_retN, ex_pass, ex_brk, ex_cnt, ex_ifS, ex_raise, ex_forS, ex_whl, evalV, evalT, evalEs, evalA, evalA1, evalO, evalC, evalI, enterE, slotR, ownR, ownC, setD, readR, moveR, outs, mapM, isTys_cons, isFreshF, L2.ixN, fillA, putA, putP]
theorem ldigits_ok {C : Calls} (hC : At C 2) {w t : Int} (h : Ok w t) : ∃ n : Nat, Dg w t n ∧ C.fn i__law_digits [.int w, .int t] = .ok (.int n) [] := by
  have key : (C.fn i__law_digits [.int w, .int t]).is fun d o => ∃ n : Nat, Dg w t n ∧ d = .int n ∧ o = [] := by
    refine stepI T__law_digits rfl hC fun C hC => ?_
    have hw : w.natAbs < 2 ^ 64 := by have := h.w2; have := h.w12; omega
    have ep := fun (n : Nat) (hn : n ≤ 1000) => power_ok hC n hw hn
    simp [f__law_digits, b__law_digits, ss_nil, ss_cons, ev_cst, ev_var, ev_mov, ev_glob, ev_sh, ev_tup, ev_lst, ev_bin, ev_binv, ev_neg, ev_cmp, ev_cmpv, ev_chain, ev_and, ev_or, ev_not, ev_ite, ev_call, ev_p1, ev_p2, ev_isi, ev_sub, ev_subv, ev_slc, ev_slcv, ev_rev, ev_pop, ev_popAt, ev_dnew, ev_lrg, ev_idx, ev_cnt, ev_tupz, ev_nev, ev_mk, ev_fld, ev_isio, ev_cmpI, et_cmpI, ex_nev, ex_asg, ex_par, ex_aug, ex_setI, ex_augI, ex_app, ex_ext, ex_expr, ex_ret, ex_retN, ex_pass, ex_brk, ex_cnt, ex_ifS, ex_raise, ex_forS, ex_whl, evalV, evalT, evalEs, evalA, evalA1, evalO, evalC, evalI, enterE, slotR, ownR, ownC, setD, readR, moveR, outs, mapM, isTys_cons, isFreshF, L2.ixN, fillA, putA, putP]
    refine is_while (fun s => ∃ n : Nat, s = [Sl.sh (.int w), .sh (.int t), .sh (.int n)] ∧ n ≤ 25 ∧ ∀ m < n, w ^ m < t) (fun s => ∃ n : Nat, s = [Sl.sh (.int w), .sh (.int t), .sh (.int n)] ∧ Dg w t n) (fun _ _ => False)
      (fun s => match s[2]? with
        | some (Sl.sh (.int n)) => 30 - n.toNat
        | _ => 0) ⟨0, by simp, by omega, fun m hm => by omega⟩ (Nat.lt_of_le_of_lt (show _ ≤ 30 by simp) (Nat.lt_trans (by decide) (fuel_big hC))) ?_ ?_ (fun _ _ h => h.elim)
    · rintro s ⟨n, rfl, hb, hn⟩
      have e := ep n (by omega)
      by_cases hlt : w ^ n < t
      · have hb := pow_lim h hlt
        refine ⟨true, _, by simp [whlT_eq, lp__law_digits_1_t, ss_nil, ss_cons, ev_cst, ev_var, ev_mov, ev_glob, ev_sh, ev_tup, ev_lst, ev_bin, ev_binv, ev_neg, ev_cmp, ev_cmpv, ev_chain, ev_and, ev_or, ev_not, ev_ite, ev_call, ev_p1, ev_p2, ev_isi, ev_sub, ev_subv, ev_slc, ev_slcv, ev_rev, ev_pop, ev_popAt, ev_dnew, ev_lrg, ev_idx, ev_cnt, ev_tupz, ev_nev, ev_mk, ev_fld, ev_isio, ev_cmpI, et_cmpI, ex_nev, ex_asg, ex_par, ex_aug, ex_setI, ex_augI, ex_app, ex_ext, ex_expr, ex_ret, ex_retN, ex_pass, ex_brk, ex_cnt, ex_ifS, ex_raise, ex_forS, ex_whl, evalV, evalT, evalEs, evalA, evalA1, evalO, evalC, evalI, enterE, slotR, ownR, ownC, setD, readR, moveR, outs, mapM, isTys_cons, isFreshF, L2.ixN, fillA, putA, putP, e, hlt]; rfl, ?_⟩
        simp [whlB_eq, lp__law_digits_1_b, ss_nil, ss_cons, ev_cst, ev_var, ev_mov, ev_glob, ev_sh, ev_tup, ev_lst, ev_bin, ev_binv, ev_neg, ev_cmp, ev_cmpv, ev_chain, ev_and, ev_or, ev_not, ev_ite, ev_call, ev_p1, ev_p2, ev_isi, ev_sub, ev_subv, ev_slc, ev_slcv, ev_rev, ev_pop, ev_popAt, ev_dnew, ev_lrg, ev_idx, ev_cnt, ev_tupz, ev_nev, ev_mk, ev_fld, ev_isio, ev_cmpI, et_cmpI, ex_nev, ex_asg, ex_par, ex_aug, ex_setI, ex_augI, ex_app, ex_ext, ex_expr, ex_ret, ex_retN, ex_pass, ex_brk, ex_cnt, ex_ifS, ex_raise, ex_forS, ex_whl, evalV, evalT, evalEs, evalA, evalA1, evalO, evalC, evalI, enterE, slotR, ownR, ownC, setD, readR, moveR, outs, mapM, isTys_cons, isFreshF, L2.ixN, fillA, putA, putP]
        refine ⟨⟨n + 1, by simp, by omega, fun m hm => ?_⟩, by omega⟩
        rcases Nat.lt_or_ge m n with q | q
        · exact hn m q
        · have : m = n := by omega
          rw [this]; exact hlt
      · exact ⟨false, _, by simp [whlT_eq, lp__law_digits_1_t, ss_nil, ss_cons, ev_cst, ev_var, ev_mov, ev_glob, ev_sh, ev_tup, ev_lst, ev_bin, ev_binv, ev_neg, ev_cmp, ev_cmpv, ev_chain, ev_and, ev_or, ev_not, ev_ite, ev_call, ev_p1, ev_p2, ev_isi, ev_sub, ev_subv, ev_slc, ev_slcv, ev_rev, ev_pop, ev_popAt, ev_dnew, ev_lrg, ev_idx, ev_cnt, ev_tupz, ev_nev, ev_mk, ev_fld, ev_isio, ev_cmpI, et_cmpI, ex_nev, ex_asg, ex_par, ex_aug, ex_setI, ex_augI, ex_app, ex_ext, ex_expr, ex_ret, ex_retN, ex_pass, ex_brk, ex_cnt, ex_ifS, ex_raise, ex_forS, ex_whl, evalV, evalT, evalEs, evalA, evalA1, evalO, evalC, evalI, enterE, slotR, ownR, ownC, setD, readR, moveR, outs, mapM, isTys_cons, isFreshF, L2.ixN, fillA, putA, putP, e, hlt]; rfl, by simp; exact ⟨n, rfl, by omega, hn⟩⟩
    · rintro s ⟨n, rfl, hd⟩
      simp [ss_nil, ss_cons, ev_cst, ev_var, ev_mov, ev_glob, ev_sh, ev_tup, ev_lst, ev_bin, ev_binv, ev_neg, ev_cmp, ev_cmpv, ev_chain, ev_and, ev_or, ev_not, ev_ite, ev_call, ev_p1, ev_p2, ev_isi, ev_sub, ev_subv, ev_slc, ev_slcv, ev_rev, ev_pop, ev_popAt, ev_dnew, ev_lrg, ev_idx, ev_cnt, ev_tupz, ev_nev, ev_mk, ev_fld, ev_isio, ev_cmpI, et_cmpI, ex_nev, ex_asg, ex_par, ex_aug, ex_setI, ex_augI, ex_app, ex_ext, ex_expr, ex_ret, ex_retN, ex_pass, ex_brk, ex_cnt, ex_ifS, ex_raise, ex_forS, ex_whl, evalV, evalT, evalEs, evalA, evalA1, evalO, evalC, evalI, enterE, slotR, ownR, ownC, setD, readR, moveR, outs, mapM, isTys_cons, isFreshF, L2.ixN, fillA, putA, putP]
      exact ⟨n, hd, rfl⟩
  obtain ⟨d, o, e, n, hn, rfl, rfl⟩ := key.out
  exact ⟨n, hn, e⟩
theorem p105 : Rf.bin .pow (.int 10) (.int 5) = some (.int 100000) := rfl
theorem p107 : Rf.bin .pow (.int 10) (.int 7) = some (.int 10000000) := rfl
theorem m2e7 : Rf.bin .mul (.int 2) (.int 10000000) = some (.int 20000000) := rfl
theorem some_ok {C : Calls} (hC : At C 3) (h : Hand) {w : Int} (w2 : 2 ≤ w) (w12 : w ≤ 12) : ∃ t h', C.fn i__law_some_tickets [hd h, .int w] = .ok (.int t) [hd h'] ∧ 1 ≤ t ∧ t ≤ 20000000 := by
  have key : (C.fn i__law_some_tickets [hd h, .int w]).is fun d o => ∃ t h', d = .int t ∧ o = [hd h'] ∧ 1 ≤ t ∧ t ≤ 20000000 := by
    refine stepI T__law_some_tickets rfl hC fun C hC => ?_
    have d4 := draw_s hC.le h (b := 4) (by decide) (by decide)
    by_cases k0 : dv h 4 = 0
    · have d20 := draw_s hC.le (dn h 4) (b := 20) (by decide) (by decide)
      have b1 := dv_ge (dn h 4) (b := 20) (by decide)
      have b2 := dv_lt (dn h 4) (b := 20) (by decide)
      simp [f__law_some_tickets, b__law_some_tickets, ss_nil, ss_cons, ev_cst, ev_var, ev_mov, ev_glob, ev_sh, ev_tup, ev_lst, ev_bin, ev_binv, ev_neg, ev_cmp, ev_cmpv, ev_chain, ev_and, ev_or, ev_not, ev_ite, ev_call, ev_p1, ev_p2, ev_isi, ev_sub, ev_subv, ev_slc, ev_slcv, ev_rev, ev_pop, ev_popAt, ev_dnew, ev_lrg, ev_idx, ev_cnt, ev_tupz, ev_nev, ev_mk, ev_fld, ev_isio, ev_cmpI, et_cmpI, ex_nev, ex_asg, ex_par, ex_aug, ex_setI, ex_augI, ex_app, ex_ext, ex_expr, ex_ret, ex_retN, ex_pass, ex_brk, ex_cnt, ex_ifS, ex_raise, ex_forS, ex_whl, evalV, evalT, evalEs, evalA, evalA1, evalO, evalC, evalI, enterE, slotR, ownR, ownC, setD, readR, moveR, outs, mapM, isTys_cons, isFreshF, L2.ixN, fillA, putA, putP, d4, k0, d20]
      omega
    · by_cases k1 : dv h 4 = 1
      · have d8 := draw_s hC.le (dn h 4) (b := 8) (by decide) (by decide)
        have b1 := dv_ge (dn h 4) (b := 8) (by decide)
        have b2 := dv_lt (dn h 4) (b := 8) (by decide)
        have d3 := draw_s hC.le (dn (dn h 4) 8) (b := 3) (by decide) (by decide)
        obtain ⟨n, hn⟩ := Int.eq_ofNat_of_zero_le b1
        have ep := power_ok hC.le n (w := w) (by omega) (by omega)
        simp [f__law_some_tickets, b__law_some_tickets, ss_nil, ss_cons, ev_cst, ev_var, ev_mov, ev_glob, ev_sh, ev_tup, ev_lst, ev_bin, ev_binv, ev_neg, ev_cmp, ev_cmpv, ev_chain, ev_and, ev_or, ev_not, ev_ite, ev_call, ev_p1, ev_p2, ev_isi, ev_sub, ev_subv, ev_slc, ev_slcv, ev_rev, ev_pop, ev_popAt, ev_dnew, ev_lrg, ev_idx, ev_cnt, ev_tupz, ev_nev, ev_mk, ev_fld, ev_isio, ev_cmpI, et_cmpI, ex_nev, ex_asg, ex_par, ex_aug, ex_setI, ex_augI, ex_app, ex_ext, ex_expr, ex_ret, ex_retN, ex_pass, ex_brk, ex_cnt, ex_ifS, ex_raise, ex_forS, ex_whl, evalV, evalT, evalEs, evalA, evalA1, evalO, evalC, evalI, enterE, slotR, ownR, ownC, setD, readR, moveR, outs, mapM, isTys_cons, isFreshF, L2.ixN, fillA, putA, putP, d4, k1, d8, d3, hn, ep, p107, m2e7]
        generalize w ^ n + dv (dn (dn h 4) 8) 3 - 1 = x
        constructor <;> split <;> (try split) <;> omega
      · have da := any_l hC (dn h 4) (ds := [.int 200, .int 100000, .int 20000000]) (by simp) (by simp)
        have pm := pick_mem (dn h 4) (ds := [.int 200, .int 100000, .int 20000000]) (by simp)
        obtain ⟨b, hb, b0, b1⟩ : ∃ b : Int, pick (dn h 4) [.int 200, .int 100000, .int 20000000] = .int b ∧ 0 < b ∧ b ≤ 20000000 := by
          simp at pm
          rcases pm with e | e | e <;> exact ⟨_, e, by decide, by decide⟩
        rw [hb] at da
        have dl := draw_s hC.le (dn (dn h 4) (List.length [D.int 200, .int 100000, .int 20000000])) (b := b) b0 (by omega)
        have v1 := dv_ge (dn (dn h 4) (List.length [D.int 200, .int 100000, .int 20000000])) b0
        have v2 := dv_lt (dn (dn h 4) (List.length [D.int 200, .int 100000, .int 20000000])) b0
        simp at da dl v1 v2
        simp [f__law_some_tickets, b__law_some_tickets, ss_nil, ss_cons, ev_cst, ev_var, ev_mov, ev_glob, ev_sh, ev_tup, ev_lst, ev_bin, ev_binv, ev_neg, ev_cmp, ev_cmpv, ev_chain, ev_and, ev_or, ev_not, ev_ite, ev_call, ev_p1, ev_p2, ev_isi, ev_sub, ev_subv, ev_slc, ev_slcv, ev_rev, ev_pop, ev_popAt, ev_dnew, ev_lrg, ev_idx, ev_cnt, ev_tupz, ev_nev, ev_mk, ev_fld, ev_isio, ev_cmpI, et_cmpI, ex_nev, ex_asg, ex_par, ex_aug, ex_setI, ex_augI, ex_app, ex_ext, ex_expr, ex_ret, ex_retN, ex_pass, ex_brk, ex_cnt, ex_ifS, ex_raise, ex_forS, ex_whl, evalV, evalT, evalEs, evalA, evalA1, evalO, evalC, evalI, enterE, slotR, ownR, ownC, setD, readR, moveR, outs, mapM, isTys_cons, isFreshF, L2.ixN, fillA, putA, putP, d4, k0, k1, p105, p107, m2e7, da, dl]
        omega
  obtain ⟨d, o, e, t, h', rfl, rfl, hh⟩ := key.out
  exact ⟨t, h', e, hh⟩
theorem gcd_ok {C : Calls} (hC : At C 1) {a b : Int} (hb : 0 < b) (hb2 : b ≤ 2 ^ 9000) : C.fn i__law_gcd [.int a, .int b] = .ok (.int (euc a b)) [] := by
  refine stepE T__law_gcd rfl hC fun C hC => ?_
  have hf := fuel_big hC
  have e := euc_loop (t := whlT C lp__law_gcd_1_t) (f := whlB C lp__law_gcd_1_b) (fun a b => by simp [whlT_eq, lp__law_gcd_1_t, ss_nil, ss_cons, ev_cst, ev_var, ev_mov, ev_glob, ev_sh, ev_tup, ev_lst, ev_bin, ev_binv, ev_neg, ev_cmp, ev_cmpv, ev_chain, ev_and, ev_or, ev_not, ev_ite, ev_call, ev_p1, ev_p2, ev_isi, ev_sub, ev_subv, ev_slc, ev_slcv, ev_rev, ev_pop, ev_popAt, ev_dnew, ev_lrg, ev_idx, ev_cnt, ev_tupz, ev_nev, ev_mk, ev_fld, ev_isio, ev_cmpI, et_cmpI, ex_nev, ex_asg, ex_par, ex_aug, ex_setI, ex_augI, ex_app, ex_ext, ex_expr, ex_ret, ex_retN, ex_pass, ex_brk, ex_cnt, ex_ifS, ex_raise, ex_forS, ex_whl, evalV, evalT, evalEs, evalA, evalA1, evalO, evalC, evalI, enterE, slotR, ownR, ownC, setD, readR, moveR, outs, mapM, isTys_cons, isFreshF, L2.ixN, fillA, putA, putP]) (fun a b hb => by simp [whlB_eq, lp__law_gcd_1_b, ss_nil, ss_cons, ev_cst, ev_var, ev_mov, ev_glob, ev_sh, ev_tup, ev_lst, ev_bin, ev_binv, ev_neg, ev_cmp, ev_cmpv, ev_chain, ev_and, ev_or, ev_not, ev_ite, ev_call, ev_p1, ev_p2, ev_isi, ev_sub, ev_subv, ev_slc, ev_slcv, ev_rev, ev_pop, ev_popAt, ev_dnew, ev_lrg, ev_idx, ev_cnt, ev_tupz, ev_nev, ev_mk, ev_fld, ev_isio, ev_cmpI, et_cmpI, ex_nev, ex_asg, ex_par, ex_aug, ex_setI, ex_augI, ex_app, ex_ext, ex_expr, ex_ret, ex_retN, ex_pass, ex_brk, ex_cnt, ex_ifS, ex_raise, ex_forS, ex_whl, evalV, evalT, evalEs, evalA, evalA1, evalO, evalC, evalI, enterE, slotR, ownR, ownC, setD, readR, moveR, outs, mapM, isTys_cons, isFreshF, L2.ixN, fillA, putA, putP, bin_mod hb]) C.fuel 9000 a b (by omega) hb2 (by omega)
  simp [f__law_gcd, b__law_gcd, ss_nil, ss_cons, ev_cst, ev_var, ev_mov, ev_glob, ev_sh, ev_tup, ev_lst, ev_bin, ev_binv, ev_neg, ev_cmp, ev_cmpv, ev_chain, ev_and, ev_or, ev_not, ev_ite, ev_call, ev_p1, ev_p2, ev_isi, ev_sub, ev_subv, ev_slc, ev_slcv, ev_rev, ev_pop, ev_popAt, ev_dnew, ev_lrg, ev_idx, ev_cnt, ev_tupz, ev_nev, ev_mk, ev_fld, ev_isio, ev_cmpI, et_cmpI, ex_nev, ex_asg, ex_par, ex_aug, ex_setI, ex_augI, ex_app, ex_ext, ex_expr, ex_ret, ex_retN, ex_pass, ex_brk, ex_cnt, ex_ifS, ex_raise, ex_forS, ex_whl, evalV, evalT, evalEs, evalA, evalA1, evalO, evalC, evalI, enterE, slotR, ownR, ownC, setD, readR, moveR, outs, mapM, isTys_cons, isFreshF, L2.ixN, fillA, putA, putP, e]
theorem lowest_ok {C : Calls} (hC : At C 2) {a b : Int} (hb : 0 < b) (hb2 : b < 2 ^ 8999) : C.fn i__law_lowest [.int a, .int b] = .ok (lowT a b) [] := by
  refine stepE T__law_lowest rfl hC fun C hC => ?_
  have e := gcd_ok hC (a := a) hb (Int.le_trans (Int.le_of_lt hb2) p8999)
  simp [f__law_lowest, b__law_lowest, ss_nil, ss_cons, ev_cst, ev_var, ev_mov, ev_glob, ev_sh, ev_tup, ev_lst, ev_bin, ev_binv, ev_neg, ev_cmp, ev_cmpv, ev_chain, ev_and, ev_or, ev_not, ev_ite, ev_call, ev_p1, ev_p2, ev_isi, ev_sub, ev_subv, ev_slc, ev_slcv, ev_rev, ev_pop, ev_popAt, ev_dnew, ev_lrg, ev_idx, ev_cnt, ev_tupz, ev_nev, ev_mk, ev_fld, ev_isio, ev_cmpI, et_cmpI, ex_nev, ex_asg, ex_par, ex_aug, ex_setI, ex_augI, ex_app, ex_ext, ex_expr, ex_ret, ex_retN, ex_pass, ex_brk, ex_cnt, ex_ifS, ex_raise, ex_forS, ex_whl, evalV, evalT, evalEs, evalA, evalA1, evalO, evalC, evalI, enterE, slotR, ownR, ownC, setD, readR, moveR, outs, mapM, isTys_cons, isFreshF, L2.ixN, fillA, putA, putP, e, bin_fdiv (euc_div hb hb2), lowT]

/-! ### prizes, in plain numbers -/
/-- the ticket that a number tells among those that are left -/
def nxt (gs : List Int) (n : Int) : Int := gs.foldl (fun t g => if g ≤ t then t + 1 else t) n
def below (gs : List Int) (t : Int) : Nat := (gs.filter fun g => decide (g < t)).length
theorem nxt_far : ∀ {gs : List Int} {n : Int}, (∀ g ∈ gs, n < g) → nxt gs n = n
  | [], _, _ => rfl
  | g :: gs, n, h => by
    have h1 := h g List.mem_cons_self
    unfold nxt
    rw [List.foldl_cons, if_neg (by omega)]
    exact nxt_far fun x hx => h x (List.mem_cons_of_mem _ hx)
theorem below_far {gs : List Int} {n : Int} (h : ∀ g ∈ gs, n < g) : below gs n = 0 := by
  unfold below
  rw [List.length_eq_zero_iff, List.filter_eq_nil_iff]
  intro g hg
  have := h g hg
  simp
  omega
theorem nxt_spec : ∀ {gs : List Int} {n : Int}, gs.Pairwise (· < ·) → n ≤ nxt gs n ∧ nxt gs n = n + below gs (nxt gs n) ∧ nxt gs n ∉ gs
  | [], n, _ => by simp [nxt, below]
  | g :: gs, n, h => by
    obtain ⟨h1, h2⟩ := List.pairwise_cons.mp h
    by_cases hg : g ≤ n
    · have e : nxt (g :: gs) n = nxt gs (n + 1) := by unfold nxt; rw [List.foldl_cons, if_pos hg]
      rw [e]
      obtain ⟨a, b, c⟩ := nxt_spec (n := n + 1) h2
      refine ⟨by omega, ?_, ?_⟩
      · unfold below at b ⊢
        rw [List.filter_cons, if_pos (by simp; omega), List.length_cons]
        omega
      · intro hm
        rcases List.mem_cons.mp hm with hm | hm
        · omega
        · exact c hm
    · have far : ∀ x ∈ g :: gs, n < x := fun x hx => by
        rcases List.mem_cons.mp hx with rfl | hx
        · omega
        · have := h1 x hx; omega
      rw [nxt_far far, below_far far]
      refine ⟨Int.le_refl _, by omega, fun hm => ?_⟩
      have := far n hm
      omega
theorem below_le (gs : List Int) (t : Int) : below gs t ≤ gs.length := List.length_filter_le _ _
theorem nxt_inj {gs : List Int} {n m : Int} (h : gs.Pairwise (· < ·)) (e : nxt gs n = nxt gs m) : n = m := by
  have h1 := (nxt_spec (n := n) h).2.1
  have h2 := (nxt_spec (n := m) h).2.1
  rw [e] at h1
  omega
/-- two lists without doubles, one within the other, of one length -/
theorem perm_of {α : Type} [DecidableEq α] : ∀ {a b : List α}, a.Nodup → (∀ x ∈ a, x ∈ b) → b.length ≤ a.length → a.Perm b
  | [], b, _, _, hl => by
    have : b = [] := List.length_eq_zero_iff.mp (by simpa using hl)
    rw [this]
  | x :: a, b, nd, hs, hl => by
    obtain ⟨h1, h2⟩ := List.nodup_cons.mp nd
    have hx := hs x List.mem_cons_self
    have p := List.perm_cons_erase hx
    refine (List.Perm.cons x (perm_of h2 (fun y hy => ?_) ?_)).trans p.symm
    · have hy' := hs y (List.mem_cons_of_mem _ hy)
      rcases List.mem_cons.mp (p.mem_iff.mp hy') with rfl | h
      · exact absurd hy h1
      · exact h
    · have := p.length_eq
      simp at this hl
      omega
/-- the tickets, the first so many -/
def tix (T : Nat) : List Int := (List.range T).map fun (n : Nat) => (n : Int)
theorem mem_tix {T : Nat} {x : Int} : x ∈ tix T ↔ 0 ≤ x ∧ x < T := by
  unfold tix
  rw [List.mem_map]
  constructor
  · rintro ⟨n, hn, rfl⟩
    have := List.mem_range.mp hn
    omega
  · rintro ⟨h1, h2⟩
    exact ⟨x.toNat, List.mem_range.mpr (by omega), by omega⟩
theorem tix_len (T : Nat) : (tix T).length = T := by simp [tix]
theorem tix_nodup (T : Nat) : (tix T).Nodup := by
  unfold tix
  rw [List.Nodup, List.pairwise_map]
  refine List.Pairwise.imp ?_ (List.nodup_range (n := T))
  intro a b h e
  exact h (by omega)
theorem filter_two {α : Type} (p : α → Bool) : ∀ l : List α, (l.filter p).length + (l.filter fun x => !p x).length = l.length
  | [] => rfl
  | a :: l => by
    have := filter_two p l
    cases h : p a <;> simp [h] <;> omega
/-- how many tickets are left where those of F are gone -/
theorem left_len {T : Nat} {F : List Int} (nd : F.Nodup) (hF : ∀ x ∈ F, 0 ≤ x ∧ x < T) : ((tix T).filter fun x => !decide (x ∈ F)).length + F.length = T := by
  have p : F.Perm ((tix T).filter fun x => decide (x ∈ F)) := by
    refine perm_of nd (fun x hx => List.mem_filter.mpr ⟨mem_tix.mpr (hF x hx), by simpa using hx⟩) ?_
    have q : ((tix T).filter fun x => decide (x ∈ F)).Perm (((tix T).filter fun x => decide (x ∈ F))) := .refl _
    have nd2 : ((tix T).filter fun x => decide (x ∈ F)).Nodup := (tix_nodup T).sublist List.filter_sublist
    -- the other way round
    have h : ∀ {a b : List Int}, a.Nodup → (∀ x ∈ a, x ∈ b) → a.length ≤ b.length := by
      intro a
      induction a with
      | nil => intro b _ _; simp
      | cons x a ih =>
        intro b nd hs
        obtain ⟨h1, h2⟩ := List.nodup_cons.mp nd
        have hx := hs x List.mem_cons_self
        have p := List.perm_cons_erase hx
        have := ih (b := b.erase x) h2 fun y hy => by
          rcases List.mem_cons.mp (p.mem_iff.mp (hs y (List.mem_cons_of_mem _ hy))) with rfl | h
          · exact absurd hy h1
          · exact h
        have := p.length_eq
        simp at this ⊢
        omega
    exact h nd2 fun x hx => by simpa using (List.mem_filter.mp hx).2
  have := filter_two (fun x => decide (x ∈ F)) (tix T)
  rw [tix_len, ← p.length_eq] at this
  omega
/-- all that numbers tell are all that are left -/
theorem nxt_perm {T : Nat} {F G : List Int} (nd : F.Nodup) (hF : ∀ x ∈ F, 0 ≤ x ∧ x < T) (hG : G.Perm F) (hs : G.Pairwise (· < ·)) : ((tix (T - F.length)).map (nxt G)).Perm ((tix T).filter fun x => !decide (x ∈ F)) := by
  have hl := left_len nd hF
  refine perm_of ?_ ?_ (by rw [List.length_map, tix_len]; omega)
  · rw [List.Nodup, List.pairwise_map]
    exact List.Pairwise.imp (fun {a b} (h : a ≠ b) e => h (nxt_inj hs e)) (tix_nodup _)
  · intro x hx
    obtain ⟨n, hn, rfl⟩ := List.mem_map.mp hx
    have hn := mem_tix.mp hn
    obtain ⟨a, b, c⟩ := nxt_spec (n := n) hs
    have d := below_le G (nxt G n)
    have e := hG.length_eq
    refine List.mem_filter.mpr ⟨mem_tix.mpr ⟨by omega, by omega⟩, ?_⟩
    simp
    exact fun h => c (hG.mem_iff.mpr h)
theorem sortI_lt {l : List Int} (nd : l.Nodup) : (sortI l).Pairwise (· < ·) := by
  have h1 := sortI_sorted l
  have h2 : (sortI l).Nodup := (sortI_perm l).nodup_iff.mpr nd
  exact List.Pairwise.imp (fun ⟨a, b⟩ => by omega) (List.Pairwise.and h1 h2)
/-- the winners, found ahead and those that numbers tell -/
def winsOf : List Int → List Int → List Int
  | found, [] => found
  | found, n :: ns => winsOf (found ++ [nxt (sortI found) n]) ns
theorem winsOf_append : ∀ (found a b : List Int), winsOf found (a ++ b) = winsOf (winsOf found a) b
  | found, [], b => rfl
  | found, n :: a, b => by simp only [List.cons_append, winsOf]; exact winsOf_append _ a b
/-- so many numbers, each of those that are left -/
def IsNums (T : Nat) (ns : List Int) : Prop := ∀ (i : Nat) n, ns[i]? = some n → 0 ≤ n ∧ n < (T : Int) - i
theorem IsNums.snoc {T : Nat} {ns : List Int} {n : Int} (h : IsNums T ns) (h0 : 0 ≤ n) (h1 : n < (T : Int) - ns.length) : IsNums T (ns ++ [n]) := fun i m hm => by
  rw [List.getElem?_append] at hm
  split at hm
  · exact h i m hm
  · have : i - ns.length = 0 := by
      rcases Nat.eq_zero_or_pos (i - ns.length) with e | e
      · exact e
      · rw [List.getElem?_eq_none (by simp; omega)] at hm; cases hm
    rw [this] at hm
    simp at hm
    subst hm
    omega
theorem IsNums.take {T : Nat} {ns ms : List Int} (h : IsNums T (ns ++ ms)) : IsNums T ns := fun i n hn => h i n (by rw [List.getElem?_append_left (List.getElem?_eq_some_iff.mp hn).1]; exact hn)
/-- winners are unlike tickets -/
structure IsWins (T : Nat) (F : List Int) : Prop where
  nd : F.Nodup
  in_ : ∀ x ∈ F, 0 ≤ x ∧ x < T
theorem IsWins.add {T : Nat} {F : List Int} (w : IsWins T F) {n : Int} (h0 : 0 ≤ n) (h1 : n < (T : Int) - F.length) : IsWins T (F ++ [nxt (sortI F) n]) := by
  obtain ⟨a, b, c⟩ := nxt_spec (n := n) (sortI_lt w.nd)
  have d := below_le (sortI F) (nxt (sortI F) n)
  have e := (sortI_perm F).length_eq
  have c' : nxt (sortI F) n ∉ F := fun h => c ((sortI_perm F).mem_iff.mpr h)
  refine ⟨?_, fun x hx => ?_⟩
  · rw [List.nodup_append]
    exact ⟨w.nd, by simp, fun x hx y hy => by rw [List.mem_singleton.mp hy]; rintro rfl; exact c' hx⟩
  · rcases List.mem_append.mp hx with hx | hx
    · exact w.in_ x hx
    · rw [List.mem_singleton.mp hx]; omega
theorem winsOf_ok {T : Nat} : ∀ {ns F : List Int}, IsWins T F → (∀ (i : Nat) n, ns[i]? = some n → 0 ≤ n ∧ n < (T : Int) - F.length - i) → IsWins T (winsOf F ns) ∧ (winsOf F ns).length = F.length + ns.length
  | [], F, w, _ => ⟨w, rfl⟩
  | n :: ns, F, w, h => by
    have h0 := h 0 n rfl
    have := winsOf_ok (ns := ns) (w.add h0.1 (by omega)) fun i m hm => by
      have := h (i + 1) m (by simpa using hm)
      simp
      omega
    simp only [winsOf]
    refine ⟨this.1, ?_⟩
    rw [this.2]
    simp
    omega
theorem wins_ok {T : Nat} {ns : List Int} (h : IsNums T ns) : IsWins T (winsOf [] ns) ∧ (winsOf [] ns).length = ns.length := by
  have := winsOf_ok (T := T) (ns := ns) (F := []) ⟨by simp, by simp⟩ fun i n hn => by have := h i n hn; simp; omega
  simpa using this

/-! ### counting rows -/
/-- all rows of numbers -/
def rowsL (T : Nat) : Nat → List (List Int)
  | 0 => [[]]
  | c + 1 => (rowsL T c).flatMap fun r => (tix (T - c)).map fun n => r ++ [n]
theorem rowsL_ok {T : Nat} : ∀ {c : Nat} {r : List Int}, r ∈ rowsL T c → r.length = c ∧ IsNums T r
  | 0, r, h => by
    have : r = [] := by simpa [rowsL] using h
    subst this
    exact ⟨rfl, fun i n hn => by simp at hn⟩
  | c + 1, r, h => by
    simp only [rowsL, List.mem_flatMap, List.mem_map] at h
    obtain ⟨r', h', n, hn, rfl⟩ := h
    obtain ⟨h1, h2⟩ := rowsL_ok h'
    have := mem_tix.mp hn
    exact ⟨by simp [h1], h2.snoc this.1 (by rw [h1]; omega)⟩
def botN (T : Nat) : Nat → Nat
  | 0 => 1
  | i + 1 => botN T i * (T - i)
def topN (T own : Nat) : Nat → Nat
  | 0 => 1
  | i + 1 => topN T own i * (T - own - i)
theorem flat_sum {α β : Type} (f : α → List β) : ∀ l : List α, (l.flatMap f).length = (l.map fun a => (f a).length).sum
  | [] => rfl
  | a :: l => by simp [List.flatMap_cons]
theorem sum_const {α : Type} (l : List α) (f : α → Nat) (k : Nat) (h : ∀ a ∈ l, f a = k) : (l.map f).sum = l.length * k := by
  induction l with
  | nil => simp
  | cons a l ih =>
    rw [List.map_cons, List.sum_cons, h a List.mem_cons_self, ih fun b hb => h b (List.mem_cons_of_mem _ hb), List.length_cons, Nat.succ_mul]
    omega
theorem rows_len (T : Nat) : ∀ c, (rowsL T c).length = botN T c
  | 0 => rfl
  | c + 1 => by
    rw [rowsL, flat_sum, sum_const _ _ (T - c) (fun r _ => by simp [tix_len]), rows_len T c]
    rfl
/-- no winner is one of these -/
def free (p : Int → Bool) (r : List Int) : Bool := (winsOf [] r).all fun t => !p t
theorem filter_flat {α β : Type} (q : β → Bool) (f : α → List β) : ∀ l : List α, ((l.flatMap f).filter q).length = (l.map fun a => ((f a).filter q).length).sum
  | [] => rfl
  | a :: l => by simp [List.flatMap_cons, List.filter_append, filter_flat q f l]
theorem sum_pick {α : Type} (p : α → Bool) (f : α → Nat) (k : Nat) : ∀ l : List α, (∀ a ∈ l, f a = if p a then k else 0) → (l.map f).sum = (l.filter p).length * k
  | [], _ => by simp
  | a :: l, h => by
    rw [List.map_cons, List.sum_cons, sum_pick p f k l fun b hb => h b (List.mem_cons_of_mem _ hb), h a List.mem_cons_self]
    cases hp : p a <;> simp [hp, Nat.succ_mul]; omega
theorem free_snoc (p : Int → Bool) (r : List Int) (n : Int) : free p (r ++ [n]) = (free p r && !p (nxt (sortI (winsOf [] r)) n)) := by
  unfold free
  rw [winsOf_append]
  simp [winsOf]
theorem filter_map_len {α β : Type} (f : α → β) (q : β → Bool) : ∀ l : List α, ((l.map f).filter q).length = (l.filter fun a => q (f a)).length
  | [] => rfl
  | a :: l => by
    have := filter_map_len f q l
    cases h : q (f a) <;> simp [h, this]
/-- so many rows leave out tickets of which there are own -/
theorem free_count {T own : Nat} {p : Int → Bool} (hp : ((tix T).filter p).length = own) : ∀ c, ((rowsL T c).filter (free p)).length = topN T own c
  | 0 => by
    show (List.filter (free p) [[]]).length = 1
    rw [List.filter_cons, if_pos (by rfl)]
    rfl
  | c + 1 => by
    rw [rowsL, filter_flat]
    have key : ∀ r ∈ rowsL T c, (((tix (T - c)).map fun n => r ++ [n]).filter (free p)).length = if free p r then T - own - c else 0 := fun r hr => by
      obtain ⟨h1, h2⟩ := rowsL_ok hr
      obtain ⟨w, wl⟩ := wins_ok h2
      rw [filter_map_len]
      simp only [free_snoc]
      cases hf : free p r with
      | false => simp
      | true =>
        simp only [Bool.true_and, if_true]
        have pm := nxt_perm w.nd w.in_ (sortI_perm _) (sortI_lt w.nd)
        rw [wl, h1] at pm
        rw [← filter_map_len (nxt (sortI (winsOf [] r))) (fun t => !p t), (pm.filter _).length_eq, List.filter_filter]
        have e1 := left_len w.nd w.in_
        rw [wl, h1] at e1
        have e2 := filter_two p ((tix T).filter fun x => !decide (x ∈ winsOf [] r))
        rw [List.filter_filter, List.filter_filter] at e2
        have e3 : ((tix T).filter fun x => p x && !decide (x ∈ winsOf [] r)) = (tix T).filter p := by
          refine List.filter_congr fun x hx => ?_
          cases hpx : p x with
          | false => rfl
          | true =>
            have : x ∉ winsOf [] r := fun hm => by
              have := List.all_eq_true.mp hf x hm
              rw [hpx] at this
              cases this
            simp [this]
        rw [e3, hp] at e2
        omega
    rw [sum_pick (free p) _ _ _ key, free_count hp c]
    rfl
/-! chances -/
theorem top_le (T own : Nat) : ∀ c, topN T own c ≤ botN T c
  | 0 => Nat.le_refl _
  | c + 1 => Nat.mul_le_mul (top_le T own c) (by omega)
theorem bot_pos {T : Nat} : ∀ {c : Nat}, c ≤ T → 0 < botN T c
  | 0, _ => Nat.one_pos
  | c + 1, h => Nat.mul_pos (bot_pos (by omega)) (by omega)
theorem top_part {T own : Nat} (ho : own ≤ T) : ∀ c, topN T own (c + 1) * T ≤ (T - own) * botN T (c + 1)
  | 0 => by simp [topN, botN]
  | c + 1 => by
    have ih := top_part ho c
    rw [topN, botN, Nat.mul_right_comm, ← Nat.mul_assoc]
    exact Nat.mul_le_mul ih (by omega)
theorem bot_big {T : Nat} (hT : T ≤ 20000000) : ∀ c, botN T c ≤ 2 ^ (25 * c)
  | 0 => by simp [botN]
  | c + 1 => by
    rw [botN, Nat.mul_add, Nat.pow_add]
    exact Nat.mul_le_mul (bot_big hT c) (by omega)
theorem tix_add (a b : Nat) : tix (a + b) = tix a ++ (tix b).map (· + (a : Int)) := by
  unfold tix
  rw [List.range_add, List.map_append, List.map_map, List.map_map]
  congr 1
  refine List.map_congr_left fun x _ => ?_
  simp [Int.add_comm]

/-! ### sales, prizes -/
structure Sal (xs : List Int) : Prop where
  l1 : 1 ≤ xs.length
  l20 : xs.length ≤ 20
  lo : ∀ x ∈ xs, 1 ≤ x
  hi : ∀ x ∈ xs, x ≤ 1000000
theorem intsOf_map (l : List Int) : intsOf (l.map .int) = some l := by
  induction l with
  | nil => rfl
  | cons a l ih => simp [intsOf, ih]
theorem p1_sum_t (l : List Int) : p1 .sum (.tup (l.map .int)) = some (.int l.sum) := by
  show (intsOf (l.map .int)).map _ = _
  rw [intsOf_map]; rfl
theorem p1_sum_l (l : List Int) : p1 .sum (.lst (l.map .int)) = some (.int l.sum) := by
  show (intsOf (l.map .int)).map _ = _
  rw [intsOf_map]; rfl
theorem p1_sorted_t (l : List Int) : p1 .sorted (.tup (l.map .int)) = some (.lst ((sortI l).map .int)) := by
  show (intsOf (l.map .int)).map _ = _
  rw [intsOf_map]; rfl
theorem p1_sorted_l (l : List Int) : p1 .sorted (.lst (l.map .int)) = some (.lst ((sortI l).map .int)) := by
  show (intsOf (l.map .int)).map _ = _
  rw [intsOf_map]; rfl
theorem sum_nonneg : ∀ {ys : List Int}, (∀ y ∈ ys, 0 ≤ y) → 0 ≤ ys.sum
  | [], _ => by simp
  | a :: ys, h => by
    have h1 := h a List.mem_cons_self
    have h2 := sum_nonneg fun y hy => h y (List.mem_cons_of_mem _ hy)
    rw [List.sum_cons]
    omega
theorem sum_bound {xs : List Int} (h1 : ∀ x ∈ xs, 1 ≤ x) {m : Int} (h2 : ∀ x ∈ xs, x ≤ m) : (xs.length : Int) ≤ xs.sum ∧ xs.sum ≤ xs.length * m := by
  induction xs with
  | nil => simp
  | cons a xs ih =>
    have := ih (fun x hx => h1 x (List.mem_cons_of_mem _ hx)) fun x hx => h2 x (List.mem_cons_of_mem _ hx)
    have a1 := h1 a List.mem_cons_self
    have a2 := h2 a List.mem_cons_self
    rw [List.sum_cons, List.length_cons, Int.natCast_add, Int.add_mul]
    omega
theorem Sal.sum {xs : List Int} (s : Sal xs) : 1 ≤ xs.sum ∧ xs.sum ≤ 20000000 := by
  have := sum_bound s.lo s.hi
  have := s.l1
  have := s.l20
  omega
theorem sales_ok {C : Calls} (hC : At C 3) {xs : List Int} (s : Sal xs) : C.fn i_check_sales [.tup (xs.map .int)] = .ok .non [] := by
  refine stepE T_check_sales rfl hC fun C hC => ?_
  have e := fun x => within_ok hC x 1 1000000
  have el : ∀ a : Sl, evalE C lc_check_sales_1 [Sl.sh (.tup (xs.map .int)), a] = .ok (.lst (xs.map fun _ => .bl true)) [Sl.sh (.tup (xs.map .int)), a.keep] := fun a => by
    rw [lc_it (s1 := [Sl.sh (.tup (xs.map .int)), a]) xs D.int (fun _ => .bl true) (by simp [lc_check_sales_1_i, ss_nil, ss_cons, ev_cst, ev_var, ev_mov, ev_glob, ev_sh, ev_tup, ev_lst, ev_bin, ev_binv, ev_neg, ev_cmp, ev_cmpv, ev_chain, ev_and, ev_or, ev_not, ev_ite, ev_call, ev_p1, ev_p2, ev_isi, ev_sub, ev_subv, ev_slc, ev_slcv, ev_rev, ev_pop, ev_popAt, ev_dnew, ev_lrg, ev_idx, ev_cnt, ev_tupz, ev_nev, ev_mk, ev_fld, ev_isio, ev_cmpI, et_cmpI, ex_nev, ex_asg, ex_par, ex_aug, ex_setI, ex_augI, ex_app, ex_ext, ex_expr, ex_ret, ex_retN, ex_pass, ex_brk, ex_cnt, ex_ifS, ex_raise, ex_forS, ex_whl, evalV, evalT, evalEs, evalA, evalA1, evalO, evalC, evalI, enterE, slotR, ownR, ownC, setD, readR, moveR, outs, mapM, isTys_cons, isFreshF, L2.ixN, fillA, putA, putP]) (fun x hx => by simp [turn_w, lc_check_sales_1_e, ss_nil, ss_cons, ev_cst, ev_var, ev_mov, ev_glob, ev_sh, ev_tup, ev_lst, ev_bin, ev_binv, ev_neg, ev_cmp, ev_cmpv, ev_chain, ev_and, ev_or, ev_not, ev_ite, ev_call, ev_p1, ev_p2, ev_isi, ev_sub, ev_subv, ev_slc, ev_slcv, ev_rev, ev_pop, ev_popAt, ev_dnew, ev_lrg, ev_idx, ev_cnt, ev_tupz, ev_nev, ev_mk, ev_fld, ev_isio, ev_cmpI, et_cmpI, ex_nev, ex_asg, ex_par, ex_aug, ex_setI, ex_augI, ex_app, ex_ext, ex_expr, ex_ret, ex_retN, ex_pass, ex_brk, ex_cnt, ex_ifS, ex_raise, ex_forS, ex_whl, evalV, evalT, evalEs, evalA, evalA1, evalO, evalC, evalI, enterE, slotR, ownR, ownC, setD, readR, moveR, outs, mapM, isTys_cons, isFreshF, L2.ixN, fillA, putA, putP, wipeE, e, s.lo x hx, s.hi x hx]) (len_s s.l20)]
    cases a <;> rfl
  have ea := p1_all_map (fun _ => true) xs
  have h1 := s.l1
  have h20 := s.l20
  simp [f_check_sales, b_check_sales, ss_nil, ss_cons, ev_cst, ev_var, ev_mov, ev_glob, ev_sh, ev_tup, ev_lst, ev_bin, ev_binv, ev_neg, ev_cmp, ev_cmpv, ev_chain, ev_and, ev_or, ev_not, ev_ite, ev_call, ev_p1, ev_p2, ev_isi, ev_sub, ev_subv, ev_slc, ev_slcv, ev_rev, ev_pop, ev_popAt, ev_dnew, ev_lrg, ev_idx, ev_cnt, ev_tupz, ev_nev, ev_mk, ev_fld, ev_isio, ev_cmpI, et_cmpI, ex_nev, ex_asg, ex_par, ex_aug, ex_setI, ex_augI, ex_app, ex_ext, ex_expr, ex_ret, ex_retN, ex_pass, ex_brk, ex_cnt, ex_ifS, ex_raise, ex_forS, ex_whl, evalV, evalT, evalEs, evalA, evalA1, evalO, evalC, evalI, enterE, slotR, ownR, ownC, setD, readR, moveR, outs, mapM, isTys_cons, isFreshF, L2.ixN, fillA, putA, putP, el, ea, show (1 : Int) ≤ xs.length by omega, show (xs.length : Int) ≤ 20 by omega]
/-- the buyer of a ticket -/
def bo : List Int → Int → Nat
  | [], _ => 0
  | x :: xs, t => if x ≤ t then bo xs (t - x) + 1 else 0
theorem bo_drop {xs : List Int} {n : Nat} {x l : Int} (h : xs[n]? = some x) (hl : x ≤ l) : bo (xs.drop n) l = bo (xs.drop (n + 1)) (l - x) + 1 := by
  obtain ⟨h1, h2⟩ := List.getElem?_eq_some_iff.mp h
  rw [List.drop_eq_getElem_cons h1, h2, bo, if_pos hl]
theorem bo_stop {xs : List Int} {n : Nat} {x l : Int} (h : xs[n]? = some x) (hl : ¬ x ≤ l) : bo (xs.drop n) l = 0 := by
  obtain ⟨h1, h2⟩ := List.getElem?_eq_some_iff.mp h
  rw [List.drop_eq_getElem_cons h1, h2, bo, if_neg hl]
theorem drop_sum {xs : List Int} {n : Nat} {x : Int} (h : xs[n]? = some x) : (xs.drop n).sum = x + (xs.drop (n + 1)).sum := by
  obtain ⟨h1, h2⟩ := List.getElem?_eq_some_iff.mp h
  rw [List.drop_eq_getElem_cons h1, h2, List.sum_cons]
theorem buyer_ok {C : Calls} (hC : At C 4) {xs : List Int} (s : Sal xs) {t : Int} (h0 : 0 ≤ t) (h1 : t < xs.sum) : C.fn i_buyer_of [.tup (xs.map .int), .int t] = .ok (.int (bo xs t)) [] := by
  refine stepE T_buyer_of rfl hC fun C hC => ?_
  have e := sales_ok hC s
  have e2 := within_ok hC.le t 0 (xs.sum - 1)
  have es := p1_sum_t xs
  have hit : ∀ (n : Nat) (x : Int), xs[n]? = some x → L2.atI (xs.map D.int) (n : Int) = some (.int x) := fun n x h => L2.atI_nat (by rw [List.getElem?_map, h]; rfl)
  simp [f_buyer_of, b_buyer_of, ss_nil, ss_cons, ev_cst, ev_var, ev_mov, ev_glob, ev_sh, ev_tup, ev_lst, ev_bin, ev_binv, ev_neg, ev_cmp, ev_cmpv, ev_chain, ev_and, ev_or, ev_not, ev_ite, ev_call, ev_p1, ev_p2, ev_isi, ev_sub, ev_subv, ev_slc, ev_slcv, ev_rev, ev_pop, ev_popAt, ev_dnew, ev_lrg, ev_idx, ev_cnt, ev_tupz, ev_nev, ev_mk, ev_fld, ev_isio, ev_cmpI, et_cmpI, ex_nev, ex_asg, ex_par, ex_aug, ex_setI, ex_augI, ex_app, ex_ext, ex_expr, ex_ret, ex_retN, ex_pass, ex_brk, ex_cnt, ex_ifS, ex_raise, ex_forS, ex_whl, evalV, evalT, evalEs, evalA, evalA1, evalO, evalC, evalI, enterE, slotR, ownR, ownC, setD, readR, moveR, outs, mapM, isTys_cons, isFreshF, L2.ixN, fillA, putA, putP, e, e2, es, h0, show t ≤ xs.sum - 1 by omega]
  refine is_while (fun st => ∃ (n : Nat) (l : Int), st = [Sl.sh (.tup (xs.map .int)), .sh (.int t), .sh (.int n), .sh (.int l)] ∧ 0 ≤ l ∧ l < (xs.drop n).sum ∧ bo xs t = n + bo (xs.drop n) l) (fun st => st = [Sl.sh (.tup (xs.map .int)), .sh (.int t), .sh (.int (bo xs t)), st.getD 3 .no]) (fun _ _ => False)
    (fun st => match st[2]? with
      | some (Sl.sh (.int n)) => 30 - n.toNat
      | _ => 0) ⟨0, t, by simp, h0, by simpa using h1, by simp⟩ (Nat.lt_of_le_of_lt (show _ ≤ 30 by simp) (Nat.lt_trans (by decide) (fuel_big hC))) ?_ ?_ (fun _ _ h => h.elim)
  · rintro st ⟨n, l, rfl, l0, l1, hb⟩
    have hn : n < xs.length := by
      rcases Nat.lt_or_ge n xs.length with q | q
      · exact q
      · rw [List.drop_eq_nil_of_le q] at l1; simp at l1; omega
    have hx : xs[n]? = some xs[n] := by simp
    have hi := hit n _ hx
    have hs := drop_sum hx
    have h20 := s.l20
    by_cases hle : xs[n] ≤ l
    · refine ⟨true, _, by simp [whlT_eq, lp_buyer_of_1_t, ss_nil, ss_cons, ev_cst, ev_var, ev_mov, ev_glob, ev_sh, ev_tup, ev_lst, ev_bin, ev_binv, ev_neg, ev_cmp, ev_cmpv, ev_chain, ev_and, ev_or, ev_not, ev_ite, ev_call, ev_p1, ev_p2, ev_isi, ev_sub, ev_subv, ev_slc, ev_slcv, ev_rev, ev_pop, ev_popAt, ev_dnew, ev_lrg, ev_idx, ev_cnt, ev_tupz, ev_nev, ev_mk, ev_fld, ev_isio, ev_cmpI, et_cmpI, ex_nev, ex_asg, ex_par, ex_aug, ex_setI, ex_augI, ex_app, ex_ext, ex_expr, ex_ret, ex_retN, ex_pass, ex_brk, ex_cnt, ex_ifS, ex_raise, ex_forS, ex_whl, evalV, evalT, evalEs, evalA, evalA1, evalO, evalC, evalI, enterE, slotR, ownR, ownC, setD, readR, moveR, outs, mapM, isTys_cons, isFreshF, L2.ixN, fillA, putA, putP, hi, hle]; rfl, ?_⟩
      have := bo_drop hx hle
      simp [whlB_eq, lp_buyer_of_1_b, ss_nil, ss_cons, ev_cst, ev_var, ev_mov, ev_glob, ev_sh, ev_tup, ev_lst, ev_bin, ev_binv, ev_neg, ev_cmp, ev_cmpv, ev_chain, ev_and, ev_or, ev_not, ev_ite, ev_call, ev_p1, ev_p2, ev_isi, ev_sub, ev_subv, ev_slc, ev_slcv, ev_rev, ev_pop, ev_popAt, ev_dnew, ev_lrg, ev_idx, ev_cnt, ev_tupz, ev_nev, ev_mk, ev_fld, ev_isio, ev_cmpI, et_cmpI, ex_nev, ex_asg, ex_par, ex_aug, ex_setI, ex_augI, ex_app, ex_ext, ex_expr, ex_ret, ex_retN, ex_pass, ex_brk, ex_cnt, ex_ifS, ex_raise, ex_forS, ex_whl, evalV, evalT, evalEs, evalA, evalA1, evalO, evalC, evalI, enterE, slotR, ownR, ownC, setD, readR, moveR, outs, mapM, isTys_cons, isFreshF, L2.ixN, fillA, putA, putP, hi]
      exact ⟨⟨n + 1, l - xs[n], by simp, by omega, by omega, by omega⟩, by omega⟩
    · have := bo_stop hx hle
      refine ⟨false, _, by simp [whlT_eq, lp_buyer_of_1_t, ss_nil, ss_cons, ev_cst, ev_var, ev_mov, ev_glob, ev_sh, ev_tup, ev_lst, ev_bin, ev_binv, ev_neg, ev_cmp, ev_cmpv, ev_chain, ev_and, ev_or, ev_not, ev_ite, ev_call, ev_p1, ev_p2, ev_isi, ev_sub, ev_subv, ev_slc, ev_slcv, ev_rev, ev_pop, ev_popAt, ev_dnew, ev_lrg, ev_idx, ev_cnt, ev_tupz, ev_nev, ev_mk, ev_fld, ev_isio, ev_cmpI, et_cmpI, ex_nev, ex_asg, ex_par, ex_aug, ex_setI, ex_augI, ex_app, ex_ext, ex_expr, ex_ret, ex_retN, ex_pass, ex_brk, ex_cnt, ex_ifS, ex_raise, ex_forS, ex_whl, evalV, evalT, evalEs, evalA, evalA1, evalO, evalC, evalI, enterE, slotR, ownR, ownC, setD, readR, moveR, outs, mapM, isTys_cons, isFreshF, L2.ixN, fillA, putA, putP, hi, hle]; rfl, ?_⟩
      have e : bo xs t = n := by omega
      simp [e]
  · rintro st hst
    rw [hst]
    simp [ss_nil, ss_cons, ev_cst, ev_var, ev_mov, ev_glob, ev_sh, ev_tup, ev_lst, ev_bin, ev_binv, ev_neg, ev_cmp, ev_cmpv, ev_chain, ev_and, ev_or, ev_not, ev_ite, ev_call, ev_p1, ev_p2, ev_isi, ev_sub, ev_subv, ev_slc, ev_slcv, ev_rev, ev_pop, ev_popAt, ev_dnew, ev_lrg, ev_idx, ev_cnt, ev_tupz, ev_nev, ev_mk, ev_fld, ev_isio, ev_cmpI, et_cmpI, ex_nev, ex_asg, ex_par, ex_aug, ex_setI, ex_augI, ex_app, ex_ext, ex_expr, ex_ret, ex_retN, ex_pass, ex_brk, ex_cnt, ex_ifS, ex_raise, ex_forS, ex_whl, evalV, evalT, evalEs, evalA, evalA1, evalO, evalC, evalI, enterE, slotR, ownR, ownC, setD, readR, moveR, outs, mapM, isTys_cons, isFreshF, L2.ixN, fillA, putA, putP]
def botI (T : Int) : Nat → Int
  | 0 => 1
  | i + 1 => botI T i * (T - i)
def topI (T own : Int) : Nat → Int
  | 0 => 1
  | i + 1 => topI T own i * (if (0 : Int) < T - own - i then T - own - i else 0)
theorem botI_eq {T : Nat} : ∀ {n : Nat}, n ≤ T → botI T n = (botN T n : Nat)
  | 0, _ => rfl
  | n + 1, h => by
    rw [botI, botN, botI_eq (by omega), Int.natCast_mul]
    congr 1
    omega
theorem topI_eq {T own : Nat} (ho : own ≤ T) : ∀ n : Nat, topI T own n = (topN T own n : Nat)
  | 0 => rfl
  | n + 1 => by
    rw [topI, topN, topI_eq ho n, Int.natCast_mul]
    congr 1
    split <;> omega
theorem bot_lim {T : Nat} (hT : T ≤ 20000000) {n : Nat} (h1 : n ≤ T) (h2 : n ≤ 20) : 0 < botI T n ∧ botI T n ≤ 2 ^ 500 := by
  rw [botI_eq h1]
  have a := bot_pos h1
  have b := bot_big hT n
  have c : 2 ^ (25 * n) ≤ 2 ^ 500 := Nat.pow_le_pow_right (by decide) (by omega)
  have d : ((botN T n : Nat) : Int) ≤ ((2 ^ 500 : Nat) : Int) := by exact_mod_cast Nat.le_trans b c
  have e : ((2 ^ 500 : Nat) : Int) = 2 ^ 500 := by simp
  rw [e] at d
  exact ⟨by omega, d⟩
theorem bot_lt {T : Nat} (hT : T ≤ 20000000) {n : Nat} (h1 : n ≤ T) (h2 : n ≤ 20) : botI T n < 2 ^ 8999 := Int.lt_of_le_of_lt (bot_lim hT h1 h2).2 (ipow_lt (by decide))
/-- the chance of own tickets -/
def oddT (T own : Int) (n : Nat) : D := lowT (botI T n - topI T own n) (botI T n)
theorem odds_of_ok {C : Calls} (hC : At C 3) {T own : Nat} (hT : T ≤ 20000000) (ho : own ≤ T) {n : Nat} (h1 : n ≤ T) (h2 : n ≤ 20) : C.fn i_odds_of [.int T, .int own, .int n] = .ok (oddT T own n) [] := by
  refine stepE T_odds_of rfl hC fun C hC => ?_
  have hr : ∀ a b c : Sl, evalI C lp_odds_of_1_i [Sl.sh (.int T), .sh (.int own), .sh (.int n), a, b, c] = .ok (rangeD 0 n) [Sl.sh (.int T), .sh (.int own), .sh (.int n), a, b, c] := fun a b c => rng1_s (by simp [ss_nil, ss_cons, ev_cst, ev_var, ev_mov, ev_glob, ev_sh, ev_tup, ev_lst, ev_bin, ev_binv, ev_neg, ev_cmp, ev_cmpv, ev_chain, ev_and, ev_or, ev_not, ev_ite, ev_call, ev_p1, ev_p2, ev_isi, ev_sub, ev_subv, ev_slc, ev_slcv, ev_rev, ev_pop, ev_popAt, ev_dnew, ev_lrg, ev_idx, ev_cnt, ev_tupz, ev_nev, ev_mk, ev_fld, ev_isio, ev_cmpI, et_cmpI, ex_nev, ex_asg, ex_par, ex_aug, ex_setI, ex_augI, ex_app, ex_ext, ex_expr, ex_ret, ex_retN, ex_pass, ex_brk, ex_cnt, ex_ifS, ex_raise, ex_forS, ex_whl, evalV, evalT, evalEs, evalA, evalA1, evalO, evalC, evalI, enterE, slotR, ownR, ownC, setD, readR, moveR, outs, mapM, isTys_cons, isFreshF, L2.ixN, fillA, putA, putP]) (by omega)
  have ef := fraction_ok hC (a := botI T n - topI T own n) (bot_lim hT h1 h2).1 (bot_lt hT h1 h2)
  simp [f_odds_of, b_odds_of, ss_nil, ss_cons, ev_cst, ev_var, ev_mov, ev_glob, ev_sh, ev_tup, ev_lst, ev_bin, ev_binv, ev_neg, ev_cmp, ev_cmpv, ev_chain, ev_and, ev_or, ev_not, ev_ite, ev_call, ev_p1, ev_p2, ev_isi, ev_sub, ev_subv, ev_slc, ev_slcv, ev_rev, ev_pop, ev_popAt, ev_dnew, ev_lrg, ev_idx, ev_cnt, ev_tupz, ev_nev, ev_mk, ev_fld, ev_isio, ev_cmpI, et_cmpI, ex_nev, ex_asg, ex_par, ex_aug, ex_setI, ex_augI, ex_app, ex_ext, ex_expr, ex_ret, ex_retN, ex_pass, ex_brk, ex_cnt, ex_ifS, ex_raise, ex_forS, ex_whl, evalV, evalT, evalEs, evalA, evalA1, evalO, evalC, evalI, enterE, slotR, ownR, ownC, setD, readR, moveR, outs, mapM, isTys_cons, isFreshF, L2.ixN, fillA, putA, putP, hr]
  refine is_for (fun i s => ∃ a, s = [Sl.sh (.int T), .sh (.int own), .sh (.int n), a, .sh (.int (topI T own i)), .sh (.int (botI T i))]) (fun _ _ => False) ⟨.no, by simp [topI, botI]⟩ ?_ ?_ (fun _ _ h => h.elim)
  · rintro i d hd s ⟨a, rfl⟩
    obtain ⟨rfl, hi⟩ := range_at hd
    have m1 : mulOk (topI T own i) (if (0 : Int) < (T : Int) - own - i then (T : Int) - own - i else 0) = true := mulOk_r (by split <;> omega)
    have m2 : mulOk (botI T i) ((T : Int) - i) = true := mulOk_r (by omega)
    have m1 := bin_mul m1
    simp at m1
    simp [forB_eq, lp_odds_of_1_b, ss_nil, ss_cons, ev_cst, ev_var, ev_mov, ev_glob, ev_sh, ev_tup, ev_lst, ev_bin, ev_binv, ev_neg, ev_cmp, ev_cmpv, ev_chain, ev_and, ev_or, ev_not, ev_ite, ev_call, ev_p1, ev_p2, ev_isi, ev_sub, ev_subv, ev_slc, ev_slcv, ev_rev, ev_pop, ev_popAt, ev_dnew, ev_lrg, ev_idx, ev_cnt, ev_tupz, ev_nev, ev_mk, ev_fld, ev_isio, ev_cmpI, et_cmpI, ex_nev, ex_asg, ex_par, ex_aug, ex_setI, ex_augI, ex_app, ex_ext, ex_expr, ex_ret, ex_retN, ex_pass, ex_brk, ex_cnt, ex_ifS, ex_raise, ex_forS, ex_whl, evalV, evalT, evalEs, evalA, evalA1, evalO, evalC, evalI, enterE, slotR, ownR, ownC, setD, readR, moveR, outs, mapM, isTys_cons, isFreshF, L2.ixN, fillA, putA, putP, m1, bin_mul m2, topI, botI]
  · rw [range_len]
    rintro s ⟨a, rfl⟩
    simp [ss_nil, ss_cons, ev_cst, ev_var, ev_mov, ev_glob, ev_sh, ev_tup, ev_lst, ev_bin, ev_binv, ev_neg, ev_cmp, ev_cmpv, ev_chain, ev_and, ev_or, ev_not, ev_ite, ev_call, ev_p1, ev_p2, ev_isi, ev_sub, ev_subv, ev_slc, ev_slcv, ev_rev, ev_pop, ev_popAt, ev_dnew, ev_lrg, ev_idx, ev_cnt, ev_tupz, ev_nev, ev_mk, ev_fld, ev_isio, ev_cmpI, et_cmpI, ex_nev, ex_asg, ex_par, ex_aug, ex_setI, ex_augI, ex_app, ex_ext, ex_expr, ex_ret, ex_retN, ex_pass, ex_brk, ex_cnt, ex_ifS, ex_raise, ex_forS, ex_whl, evalV, evalT, evalEs, evalA, evalA1, evalO, evalC, evalI, enterE, slotR, ownR, ownC, setD, readR, moveR, outs, mapM, isTys_cons, isFreshF, L2.ixN, fillA, putA, putP, ef, oddT]
theorem odds_ok {C : Calls} (hC : At C 4) {xs : List Int} (s : Sal xs) {n : Int} (h1 : 1 ≤ n) (h2 : n ≤ 20) (h3 : n ≤ xs.sum) : C.fn i_odds [.tup (xs.map .int), .int n] = .ok (.tup (xs.map fun own => oddT xs.sum own n.toNat)) [] := by
  refine stepE T_odds rfl hC fun C hC => ?_
  have e := sales_ok hC s
  have e2 := within_ok hC.le n 1 (if xs.sum < 20 then xs.sum else 20)
  obtain ⟨s1, s2⟩ := s.sum
  have es := p1_sum_t xs
  have own_le : ∀ x ∈ xs, 1 ≤ x ∧ x ≤ xs.sum := fun x hx => ⟨s.lo x hx, by
    obtain ⟨l, r, rfl⟩ := List.append_of_mem hx
    have h0 : ∀ {ys : List Int}, (∀ y ∈ ys, 1 ≤ y) → 0 ≤ ys.sum := fun {ys} h => sum_nonneg fun y hy => by have := h y hy; omega
    have h1 := h0 (ys := l) fun y hy => s.lo y (by simp [hy])
    have h2 := h0 (ys := r) fun y hy => s.lo y (by simp [hy])
    rw [List.sum_append, List.sum_cons]
    omega⟩
  obtain ⟨m, rfl⟩ := Int.eq_ofNat_of_zero_le (show 0 ≤ n by omega)
  obtain ⟨T, hT⟩ := Int.eq_ofNat_of_zero_le (show 0 ≤ xs.sum by omega)
  rw [hT] at s1 s2 h3 own_le es
  have eo := fun (x : Int) (hx : x ∈ xs) => (by
    obtain ⟨a, b⟩ := own_le x hx
    obtain ⟨y, rfl⟩ := Int.eq_ofNat_of_zero_le (show 0 ≤ x by omega)
    exact odds_of_ok hC (T := T) (own := y) (by omega) (by omega) (n := m) (by omega) (by omega) : C.fn i_odds_of [.int T, .int x, .int m] = .ok (oddT T x m) [])
  have el : ∀ a : Sl, evalE C lc_odds_1 [Sl.sh (.tup (xs.map .int)), .sh (.int m), a] = .ok (.lst (xs.map fun own => oddT T own m)) [Sl.sh (.tup (xs.map .int)), .sh (.int m), a.keep] := fun a => by
    rw [lc_it (s1 := [Sl.sh (.tup (xs.map .int)), .sh (.int m), a]) xs D.int (fun own => oddT T own m) (by simp [lc_odds_1_i, ss_nil, ss_cons, ev_cst, ev_var, ev_mov, ev_glob, ev_sh, ev_tup, ev_lst, ev_bin, ev_binv, ev_neg, ev_cmp, ev_cmpv, ev_chain, ev_and, ev_or, ev_not, ev_ite, ev_call, ev_p1, ev_p2, ev_isi, ev_sub, ev_subv, ev_slc, ev_slcv, ev_rev, ev_pop, ev_popAt, ev_dnew, ev_lrg, ev_idx, ev_cnt, ev_tupz, ev_nev, ev_mk, ev_fld, ev_isio, ev_cmpI, et_cmpI, ex_nev, ex_asg, ex_par, ex_aug, ex_setI, ex_augI, ex_app, ex_ext, ex_expr, ex_ret, ex_retN, ex_pass, ex_brk, ex_cnt, ex_ifS, ex_raise, ex_forS, ex_whl, evalV, evalT, evalEs, evalA, evalA1, evalO, evalC, evalI, enterE, slotR, ownR, ownC, setD, readR, moveR, outs, mapM, isTys_cons, isFreshF, L2.ixN, fillA, putA, putP]) (fun x hx => by simp [turn_w, lc_odds_1_e, ss_nil, ss_cons, ev_cst, ev_var, ev_mov, ev_glob, ev_sh, ev_tup, ev_lst, ev_bin, ev_binv, ev_neg, ev_cmp, ev_cmpv, ev_chain, ev_and, ev_or, ev_not, ev_ite, ev_call, ev_p1, ev_p2, ev_isi, ev_sub, ev_subv, ev_slc, ev_slcv, ev_rev, ev_pop, ev_popAt, ev_dnew, ev_lrg, ev_idx, ev_cnt, ev_tupz, ev_nev, ev_mk, ev_fld, ev_isio, ev_cmpI, et_cmpI, ex_nev, ex_asg, ex_par, ex_aug, ex_setI, ex_augI, ex_app, ex_ext, ex_expr, ex_ret, ex_retN, ex_pass, ex_brk, ex_cnt, ex_ifS, ex_raise, ex_forS, ex_whl, evalV, evalT, evalEs, evalA, evalA1, evalO, evalC, evalI, enterE, slotR, ownR, ownC, setD, readR, moveR, outs, mapM, isTys_cons, isFreshF, L2.ixN, fillA, putA, putP, wipeE, es, eo x hx]) (len_s s.l20)]
    cases a <;> rfl
  rw [hT] at e2 ⊢
  have hmin : (m : Int) ≤ if (T : Int) < 20 then (T : Int) else 20 := by split <;> omega
  rw [decide_eq_true hmin] at e2
  simp at e2
  simp [f_odds, b_odds, ss_nil, ss_cons, ev_cst, ev_var, ev_mov, ev_glob, ev_sh, ev_tup, ev_lst, ev_bin, ev_binv, ev_neg, ev_cmp, ev_cmpv, ev_chain, ev_and, ev_or, ev_not, ev_ite, ev_call, ev_p1, ev_p2, ev_isi, ev_sub, ev_subv, ev_slc, ev_slcv, ev_rev, ev_pop, ev_popAt, ev_dnew, ev_lrg, ev_idx, ev_cnt, ev_tupz, ev_nev, ev_mk, ev_fld, ev_isio, ev_cmpI, et_cmpI, ex_nev, ex_asg, ex_par, ex_aug, ex_setI, ex_augI, ex_app, ex_ext, ex_expr, ex_ret, ex_retN, ex_pass, ex_brk, ex_cnt, ex_ifS, ex_raise, ex_forS, ex_whl, evalV, evalT, evalEs, evalA, evalA1, evalO, evalC, evalI, enterE, slotR, ownR, ownC, setD, readR, moveR, outs, mapM, isTys_cons, isFreshF, L2.ixN, fillA, putA, putP, e, e2, es, el, show (1 : Int) ≤ m by omega]

/-! ### tuples of either kind -/
structure IsT (t : D) (ds : List D) : Prop where
  or : t = .tup ds ∨ t = .tpz ds
theorem IsT.t {ds : List D} : IsT (.tup ds) ds := ⟨.inl rfl⟩
theorem IsT.z {ds : List D} : IsT (.tpz ds) ds := ⟨.inr rfl⟩
section
variable {t u : D} {ds es : List D}
theorem IsT.tu (h : IsT t ds) : isTy t .tuple = some true := by rcases h.or with rfl | rfl <;> rfl
theorem IsT.ls (h : IsT t ds) : isTy t .list = some false := by rcases h.or with rfl | rfl <;> rfl
theorem IsT.ln (h : IsT t ds) : p1 .len t = some (.int ds.length) := by rcases h.or with rfl | rfl <;> rfl
theorem IsT.sq (h : IsT t ds) : seqOf t = some ds := by rcases h.or with rfl | rfl <;> rfl
theorem IsT.it (h : IsT t ds) (i : Int) : item t (.int i) = L2.atI ds i := by rcases h.or with rfl | rfl <;> rfl
theorem IsT.c (h : IsT t ds) : isC t = false := by rcases h.or with rfl | rfl <;> rfl
theorem IsT.sl (h : IsT t ds) (b : Bool) : mkSl b t = .sh t := by rcases h.or with rfl | rfl <;> cases b <;> rfl
theorem zip_T {C : Calls} {a b : E} {s s1 s2 : Rf.Env} {x y : D} (h : evalE C a s = .ok x s1) (h2 : evalE C b s1 = .ok y s2) (hx : IsT x ds) (hy : IsT y es) : evalI C (.zip a b) s = .ok (List.zipWith (fun x y => D.tup [x, y]) ds es) s2 := by
  have e1 := hx.sq
  have e2 := hy.sq
  simp [evalI, h, h2, e1, e2]
theorem zip_S {C : Calls} {a b : E} {s s1 s2 : Rf.Env} {x y : D} (h : evalE C a s = .ok x s1) (h2 : evalE C b s1 = .ok y s2) (hx : seqOf x = some ds) (hy : seqOf y = some es) : evalI C (.zip a b) s = .ok (List.zipWith (fun x y => D.tup [x, y]) ds es) s2 := by
  simp [evalI, h, h2, hx, hy]
theorem enum_T {C : Calls} {a : E} {s s1 : Rf.Env} {x : D} (h : evalE C a s = .ok x s1) (hx : IsT x ds) : evalI C (.enum a) s = .ok (enumD 0 ds) s1 := by
  rcases hx.or with rfl | rfl <;> simp [evalI, h]
end
theorem enum_at : ∀ (ds : List D) (n i : Nat) (d : D), (enumD n ds)[i]? = some d → ∃ x, ds[i]? = some x ∧ d = .tup [.int ((n + i : Nat) : Int), x]
  | [], _, _, _, h => by simp [enumD] at h
  | x :: xs, n, 0, d, h => by simp [enumD] at h; exact ⟨x, rfl, h.symm⟩
  | x :: xs, n, i + 1, d, h => by
    obtain ⟨y, h1, h2⟩ := enum_at xs (n + 1) i d (by simpa [enumD] using h)
    exact ⟨y, by simpa using h1, by rw [h2, show n + 1 + i = n + (i + 1) by omega]⟩
@[simp] theorem enum_len : ∀ (ds : List D) (n : Nat), (enumD n ds).length = ds.length
  | [], _ => rfl
  | x :: xs, n => by simp [enumD, enum_len xs]
/-! ### machines -/
def mc (t : D) (w : Int) (u : D) : D := .ins "Machine" ["sizes", "wide", "table"] [t, .int w, u]
@[simp] theorem fg_s {t w u : D} : fget ["sizes", "wide", "table"] [t, w, u] "sizes" = some t := rfl
@[simp] theorem fg_w {t w u : D} : fget ["sizes", "wide", "table"] [t, w, u] "wide" = some w := rfl
@[simp] theorem fg_t {t w u : D} : fget ["sizes", "wide", "table"] [t, w, u] "table" = some u := rfl
/-- right sizes -/
structure Sz (S : List Int) : Prop where
  ne : S ≠ []
  le : S.length ≤ 8
  it : ∀ s ∈ S, 2 ≤ s ∧ s ≤ 12
  pr : S.prod ≤ 20000
theorem small64 {s : Int} (h : 2 ≤ s ∧ s ≤ 12) : s.natAbs < 2 ^ 64 := by omega
theorem Sz.m {S : List Int} (h : Sz S) : ∀ s ∈ S, s.natAbs < 2 ^ 64 := fun s hs => small64 (h.it s hs)
theorem prod_T {C : Calls} (hC : At C 1) (xs : List Int) (hx : ∀ x ∈ xs, x.natAbs < 2 ^ 64) {t : D} (ht : IsT t (xs.map .int)) : C.fn i_product_of [t] = .ok (.int xs.prod) [] := by
  have hs := ht.sq
  have hpr : ∀ i x, xs[i]? = some x → (xs.take (i + 1)).prod = (xs.take i).prod * x := fun i x h => by
    rw [List.take_add_one, h, List.prod_append]
    simp
  refine stepE T_product_of rfl hC fun C hC => ?_
  simp [f_product_of, b_product_of, lp_product_of_1_i, ss_nil, ss_cons, ev_cst, ev_var, ev_mov, ev_glob, ev_sh, ev_tup, ev_lst, ev_bin, ev_binv, ev_neg, ev_cmp, ev_cmpv, ev_chain, ev_and, ev_or, ev_not, ev_ite, ev_call, ev_p1, ev_p2, ev_isi, ev_sub, ev_subv, ev_slc, ev_slcv, ev_rev, ev_pop, ev_popAt, ev_dnew, ev_lrg, ev_idx, ev_cnt, ev_tupz, ev_nev, ev_mk, ev_fld, ev_isio, ev_cmpI, et_cmpI, ex_nev, ex_asg, ex_par, ex_aug, ex_setI, ex_augI, ex_app, ex_ext, ex_expr, ex_ret, ex_retN, ex_pass, ex_brk, ex_cnt, ex_ifS, ex_raise, ex_forS, ex_whl, evalV, evalT, evalEs, evalA, evalA1, evalO, evalC, evalI, enterE, slotR, ownR, ownC, setD, readR, moveR, outs, mapM, isTys_cons, isFreshF, L2.ixN, fillA, putA, putP, hs]
  refine is_for (fun i s => ∃ sl, s = [Sl.sh t, .sh (.int (xs.take i).prod), sl]) (fun _ _ => False) ⟨_, by simp; rfl⟩ ?_ ?_ (fun _ _ h => h.elim)
  · rintro i d hd s ⟨sl, rfl⟩
    rw [List.getElem?_map] at hd
    obtain ⟨x, hx', rfl⟩ := Option.map_eq_some_iff.mp hd
    have m : mulOk (xs.take i).prod x = true := mulOk_r (hx x (List.mem_of_getElem? hx'))
    simp [forB_eq, lp_product_of_1_b, ss_nil, ss_cons, ev_cst, ev_var, ev_mov, ev_glob, ev_sh, ev_tup, ev_lst, ev_bin, ev_binv, ev_neg, ev_cmp, ev_cmpv, ev_chain, ev_and, ev_or, ev_not, ev_ite, ev_call, ev_p1, ev_p2, ev_isi, ev_sub, ev_subv, ev_slc, ev_slcv, ev_rev, ev_pop, ev_popAt, ev_dnew, ev_lrg, ev_idx, ev_cnt, ev_tupz, ev_nev, ev_mk, ev_fld, ev_isio, ev_cmpI, et_cmpI, ex_nev, ex_asg, ex_par, ex_aug, ex_setI, ex_augI, ex_app, ex_ext, ex_expr, ex_ret, ex_retN, ex_pass, ex_brk, ex_cnt, ex_ifS, ex_raise, ex_forS, ex_whl, evalV, evalT, evalEs, evalA, evalA1, evalO, evalC, evalI, enterE, slotR, ownR, ownC, setD, readR, moveR, outs, mapM, isTys_cons, isFreshF, L2.ixN, fillA, putA, putP, bin_mul m, hpr i x hx']
  · rintro s ⟨sl, rfl⟩
    simp [ss_nil, ss_cons, ev_cst, ev_var, ev_mov, ev_glob, ev_sh, ev_tup, ev_lst, ev_bin, ev_binv, ev_neg, ev_cmp, ev_cmpv, ev_chain, ev_and, ev_or, ev_not, ev_ite, ev_call, ev_p1, ev_p2, ev_isi, ev_sub, ev_subv, ev_slc, ev_slcv, ev_rev, ev_pop, ev_popAt, ev_dnew, ev_lrg, ev_idx, ev_cnt, ev_tupz, ev_nev, ev_mk, ev_fld, ev_isio, ev_cmpI, et_cmpI, ex_nev, ex_asg, ex_par, ex_aug, ex_setI, ex_augI, ex_app, ex_ext, ex_expr, ex_ret, ex_retN, ex_pass, ex_brk, ex_cnt, ex_ifS, ex_raise, ex_forS, ex_whl, evalV, evalT, evalEs, evalA, evalA1, evalO, evalC, evalI, enterE, slotR, ownR, ownC, setD, readR, moveR, outs, mapM, isTys_cons, isFreshF, L2.ixN, fillA, putA, putP]
theorem csizes_ok {C : Calls} (hC : At C 4) {S : List Int} (hS : Sz S) {t : D} (ht : IsT t (S.map .int)) : C.fn i_check_sizes [t] = .ok .non [] := by
  refine stepE T_check_sizes rfl hC fun C hC => ?_
  have h1 := ht.tu
  have h2 := ht.ln
  have hl : ¬ S.length = 0 := fun h => hS.ne (List.eq_nil_of_length_eq_zero h)
  have hp := prod_T hC.le S hS.m ht
  have hn : ¬ 20000 < S.prod := by have := hS.pr; omega
  have hi : evalI C lp_check_sizes_1_i [Sl.sh t, .no, .no] = .ok (enumD 0 (S.map .int)) [Sl.sh t, .no, .no] := enum_T (by simp [ss_nil, ss_cons, ev_cst, ev_var, ev_mov, ev_glob, ev_sh, ev_tup, ev_lst, ev_bin, ev_binv, ev_neg, ev_cmp, ev_cmpv, ev_chain, ev_and, ev_or, ev_not, ev_ite, ev_call, ev_p1, ev_p2, ev_isi, ev_sub, ev_subv, ev_slc, ev_slcv, ev_rev, ev_pop, ev_popAt, ev_dnew, ev_lrg, ev_idx, ev_cnt, ev_tupz, ev_nev, ev_mk, ev_fld, ev_isio, ev_cmpI, et_cmpI, ex_nev, ex_asg, ex_par, ex_aug, ex_setI, ex_augI, ex_app, ex_ext, ex_expr, ex_ret, ex_retN, ex_pass, ex_brk, ex_cnt, ex_ifS, ex_raise, ex_forS, ex_whl, evalV, evalT, evalEs, evalA, evalA1, evalO, evalC, evalI, enterE, slotR, ownR, ownC, setD, readR, moveR, outs, mapM, isTys_cons, isFreshF, L2.ixN, fillA, putA, putP]) ht
  simp [f_check_sizes, b_check_sizes, ss_nil, ss_cons, ev_cst, ev_var, ev_mov, ev_glob, ev_sh, ev_tup, ev_lst, ev_bin, ev_binv, ev_neg, ev_cmp, ev_cmpv, ev_chain, ev_and, ev_or, ev_not, ev_ite, ev_call, ev_p1, ev_p2, ev_isi, ev_sub, ev_subv, ev_slc, ev_slcv, ev_rev, ev_pop, ev_popAt, ev_dnew, ev_lrg, ev_idx, ev_cnt, ev_tupz, ev_nev, ev_mk, ev_fld, ev_isio, ev_cmpI, et_cmpI, ex_nev, ex_asg, ex_par, ex_aug, ex_setI, ex_augI, ex_app, ex_ext, ex_expr, ex_ret, ex_retN, ex_pass, ex_brk, ex_cnt, ex_ifS, ex_raise, ex_forS, ex_whl, evalV, evalT, evalEs, evalA, evalA1, evalO, evalC, evalI, enterE, slotR, ownR, ownC, setD, readR, moveR, outs, mapM, isTys_cons, isFreshF, L2.ixN, fillA, putA, putP, h1, h2, hl, hi]
  refine is_for (fun i s => ∃ a b, s = [Sl.sh t, a, b]) (fun _ _ => False) ⟨_, _, rfl⟩ ?_ ?_ (fun _ _ h => h.elim)
  · rintro i d hd s ⟨a, b, rfl⟩
    obtain ⟨x, hx, rfl⟩ := enum_at _ _ _ _ hd
    rw [List.getElem?_map] at hx
    obtain ⟨y, hy, rfl⟩ := Option.map_eq_some_iff.mp hx
    have hy2 := hS.it y (List.mem_of_getElem? hy)
    have hi8 : i < 8 := by have := (List.getElem?_eq_some_iff.mp hy).1; have := hS.le; omega
    have e := within_ok hC.le y 2 12
    have n8 : ¬ ((i : Nat) : Int) = 8 := by omega
    simp [forB_eq, lp_check_sizes_1_b, ss_nil, ss_cons, ev_cst, ev_var, ev_mov, ev_glob, ev_sh, ev_tup, ev_lst, ev_bin, ev_binv, ev_neg, ev_cmp, ev_cmpv, ev_chain, ev_and, ev_or, ev_not, ev_ite, ev_call, ev_p1, ev_p2, ev_isi, ev_sub, ev_subv, ev_slc, ev_slcv, ev_rev, ev_pop, ev_popAt, ev_dnew, ev_lrg, ev_idx, ev_cnt, ev_tupz, ev_nev, ev_mk, ev_fld, ev_isio, ev_cmpI, et_cmpI, ex_nev, ex_asg, ex_par, ex_aug, ex_setI, ex_augI, ex_app, ex_ext, ex_expr, ex_ret, ex_retN, ex_pass, ex_brk, ex_cnt, ex_ifS, ex_raise, ex_forS, ex_whl, evalV, evalT, evalEs, evalA, evalA1, evalO, evalC, evalI, enterE, slotR, ownR, ownC, setD, readR, moveR, outs, mapM, isTys_cons, isFreshF, L2.ixN, fillA, putA, putP, e, n8, hy2.1, hy2.2]
  · rintro s ⟨a, b, rfl⟩
    simp [ss_nil, ss_cons, ev_cst, ev_var, ev_mov, ev_glob, ev_sh, ev_tup, ev_lst, ev_bin, ev_binv, ev_neg, ev_cmp, ev_cmpv, ev_chain, ev_and, ev_or, ev_not, ev_ite, ev_call, ev_p1, ev_p2, ev_isi, ev_sub, ev_subv, ev_slc, ev_slcv, ev_rev, ev_pop, ev_popAt, ev_dnew, ev_lrg, ev_idx, ev_cnt, ev_tupz, ev_nev, ev_mk, ev_fld, ev_isio, ev_cmpI, et_cmpI, ex_nev, ex_asg, ex_par, ex_aug, ex_setI, ex_augI, ex_app, ex_ext, ex_expr, ex_ret, ex_retN, ex_pass, ex_brk, ex_cnt, ex_ifS, ex_raise, ex_forS, ex_whl, evalV, evalT, evalEs, evalA, evalA1, evalO, evalC, evalI, enterE, slotR, ownR, ownC, setD, readR, moveR, outs, mapM, isTys_cons, isFreshF, L2.ixN, fillA, putA, putP, hp, hn]
theorem cwide_ok {C : Calls} (hC : At C 3) {w : Int} (w1 : 1 ≤ w) (w2 : w ≤ 12) : C.fn i_check_wide [.int w] = .ok .non [] := by
  refine stepE T_check_wide rfl hC fun C hC => ?_
  have e := within_ok hC.le w 1 12
  simp [f_check_wide, b_check_wide, ss_nil, ss_cons, ev_cst, ev_var, ev_mov, ev_glob, ev_sh, ev_tup, ev_lst, ev_bin, ev_binv, ev_neg, ev_cmp, ev_cmpv, ev_chain, ev_and, ev_or, ev_not, ev_ite, ev_call, ev_p1, ev_p2, ev_isi, ev_sub, ev_subv, ev_slc, ev_slcv, ev_rev, ev_pop, ev_popAt, ev_dnew, ev_lrg, ev_idx, ev_cnt, ev_tupz, ev_nev, ev_mk, ev_fld, ev_isio, ev_cmpI, et_cmpI, ex_nev, ex_asg, ex_par, ex_aug, ex_setI, ex_augI, ex_app, ex_ext, ex_expr, ex_ret, ex_retN, ex_pass, ex_brk, ex_cnt, ex_ifS, ex_raise, ex_forS, ex_whl, evalV, evalT, evalEs, evalA, evalA1, evalO, evalC, evalI, enterE, slotR, ownR, ownC, setD, readR, moveR, outs, mapM, isTys_cons, isFreshF, L2.ixN, fillA, putA, putP, e, w1, w2]
theorem cmach_ok {C : Calls} (hC : At C 1) (t : D) (w : Int) (u : D) : C.fn i_check_machine [mc t w u] = .ok .non [] := by
  refine stepE T_check_machine rfl hC fun C hC => ?_
  simp [f_check_machine, b_check_machine, ss_nil, ss_cons, ev_cst, ev_var, ev_mov, ev_glob, ev_sh, ev_tup, ev_lst, ev_bin, ev_binv, ev_neg, ev_cmp, ev_cmpv, ev_chain, ev_and, ev_or, ev_not, ev_ite, ev_call, ev_p1, ev_p2, ev_isi, ev_sub, ev_subv, ev_slc, ev_slcv, ev_rev, ev_pop, ev_popAt, ev_dnew, ev_lrg, ev_idx, ev_cnt, ev_tupz, ev_nev, ev_mk, ev_fld, ev_isio, ev_cmpI, et_cmpI, ex_nev, ex_asg, ex_par, ex_aug, ex_setI, ex_augI, ex_app, ex_ext, ex_expr, ex_ret, ex_retN, ex_pass, ex_brk, ex_cnt, ex_ifS, ex_raise, ex_forS, ex_whl, evalV, evalT, evalEs, evalA, evalA1, evalO, evalC, evalI, enterE, slotR, ownR, ownC, setD, readR, moveR, outs, mapM, isTys_cons, isFreshF, L2.ixN, fillA, putA, putP, mc]
/-- a right table -/
structure Tb (S : List Int) (w : Int) (T : List Int) : Prop where
  ln : (T.length : Int) = S.prod
  it : ∀ x ∈ T, 0 ≤ x ∧ x < w
theorem init_ok {C : Calls} (hC : At C 5) {S : List Int} (hS : Sz S) {w : Int} (w1 : 1 ≤ w) (w2 : w ≤ 12) {T : List Int} (hT : Tb S w T) {t u : D} (ht : IsT t (S.map .int)) (hu : IsT u (T.map .int)) :
    C.fn i_Machine__init__ [.fn "", t, .int w, u] = .ok (.tup [t, .int w, u]) [] := by
  refine stepE T_Machine__init__ rfl hC fun C hC => ?_
  have c1 := csizes_ok hC.le hS ht
  have c2 := cwide_ok hC.le w1 w2
  have h1 := hu.tu
  have h2 := hu.ln
  have hp := prod_T hC.le S hS.m ht
  have hl : ¬ (T.length : Int) < S.prod := by have := hT.ln; omega
  have hi : ∀ a b c : Sl, evalI C lp_Machine__init___1_i [Sl.sh (.fn ""), .sh t, .sh (.int w), .sh u, a, b, c] = .ok (enumD 0 (T.map .int)) [Sl.sh (.fn ""), .sh t, .sh (.int w), .sh u, a, b, c] := fun a b c => enum_T (by simp [ss_nil, ss_cons, ev_cst, ev_var, ev_mov, ev_glob, ev_sh, ev_tup, ev_lst, ev_bin, ev_binv, ev_neg, ev_cmp, ev_cmpv, ev_chain, ev_and, ev_or, ev_not, ev_ite, ev_call, ev_p1, ev_p2, ev_isi, ev_sub, ev_subv, ev_slc, ev_slcv, ev_rev, ev_pop, ev_popAt, ev_dnew, ev_lrg, ev_idx, ev_cnt, ev_tupz, ev_nev, ev_mk, ev_fld, ev_isio, ev_cmpI, et_cmpI, ex_nev, ex_asg, ex_par, ex_aug, ex_setI, ex_augI, ex_app, ex_ext, ex_expr, ex_ret, ex_retN, ex_pass, ex_brk, ex_cnt, ex_ifS, ex_raise, ex_forS, ex_whl, evalV, evalT, evalEs, evalA, evalA1, evalO, evalC, evalI, enterE, slotR, ownR, ownC, setD, readR, moveR, outs, mapM, isTys_cons, isFreshF, L2.ixN, fillA, putA, putP]) hu
  simp [f_Machine__init__, b_Machine__init__, ss_nil, ss_cons, ev_cst, ev_var, ev_mov, ev_glob, ev_sh, ev_tup, ev_lst, ev_bin, ev_binv, ev_neg, ev_cmp, ev_cmpv, ev_chain, ev_and, ev_or, ev_not, ev_ite, ev_call, ev_p1, ev_p2, ev_isi, ev_sub, ev_subv, ev_slc, ev_slcv, ev_rev, ev_pop, ev_popAt, ev_dnew, ev_lrg, ev_idx, ev_cnt, ev_tupz, ev_nev, ev_mk, ev_fld, ev_isio, ev_cmpI, et_cmpI, ex_nev, ex_asg, ex_par, ex_aug, ex_setI, ex_augI, ex_app, ex_ext, ex_expr, ex_ret, ex_retN, ex_pass, ex_brk, ex_cnt, ex_ifS, ex_raise, ex_forS, ex_whl, evalV, evalT, evalEs, evalA, evalA1, evalO, evalC, evalI, enterE, slotR, ownR, ownC, setD, readR, moveR, outs, mapM, isTys_cons, isFreshF, L2.ixN, fillA, putA, putP, c1, c2, h1, hp, hi]
  refine is_for (fun i s => ∃ a b, s = [Sl.sh (.fn ""), .sh t, .sh (.int w), .sh u, .sh (.int S.prod), a, b]) (fun _ _ => False) ⟨_, _, rfl⟩ ?_ ?_ (fun _ _ h => h.elim)
  · rintro i d hd s ⟨a, b, rfl⟩
    obtain ⟨x, hx, rfl⟩ := enum_at _ _ _ _ hd
    rw [List.getElem?_map] at hx
    obtain ⟨y, hy, rfl⟩ := Option.map_eq_some_iff.mp hx
    have hy2 := hT.it y (List.mem_of_getElem? hy)
    have hlt : ¬ ((i : Nat) : Int) = S.prod := by have := (List.getElem?_eq_some_iff.mp hy).1; have := hT.ln; omega
    have e := within_ok hC.le y 0 (w - 1)
    simp [forB_eq, lp_Machine__init___1_b, ss_nil, ss_cons, ev_cst, ev_var, ev_mov, ev_glob, ev_sh, ev_tup, ev_lst, ev_bin, ev_binv, ev_neg, ev_cmp, ev_cmpv, ev_chain, ev_and, ev_or, ev_not, ev_ite, ev_call, ev_p1, ev_p2, ev_isi, ev_sub, ev_subv, ev_slc, ev_slcv, ev_rev, ev_pop, ev_popAt, ev_dnew, ev_lrg, ev_idx, ev_cnt, ev_tupz, ev_nev, ev_mk, ev_fld, ev_isio, ev_cmpI, et_cmpI, ex_nev, ex_asg, ex_par, ex_aug, ex_setI, ex_augI, ex_app, ex_ext, ex_expr, ex_ret, ex_retN, ex_pass, ex_brk, ex_cnt, ex_ifS, ex_raise, ex_forS, ex_whl, evalV, evalT, evalEs, evalA, evalA1, evalO, evalC, evalI, enterE, slotR, ownR, ownC, setD, readR, moveR, outs, mapM, isTys_cons, isFreshF, L2.ixN, fillA, putA, putP, e, hlt, hy2.1, show y ≤ w - 1 by omega]
  · rintro s ⟨a, b, rfl⟩
    simp [ss_nil, ss_cons, ev_cst, ev_var, ev_mov, ev_glob, ev_sh, ev_tup, ev_lst, ev_bin, ev_binv, ev_neg, ev_cmp, ev_cmpv, ev_chain, ev_and, ev_or, ev_not, ev_ite, ev_call, ev_p1, ev_p2, ev_isi, ev_sub, ev_subv, ev_slc, ev_slcv, ev_rev, ev_pop, ev_popAt, ev_dnew, ev_lrg, ev_idx, ev_cnt, ev_tupz, ev_nev, ev_mk, ev_fld, ev_isio, ev_cmpI, et_cmpI, ex_nev, ex_asg, ex_par, ex_aug, ex_setI, ex_augI, ex_app, ex_ext, ex_expr, ex_ret, ex_retN, ex_pass, ex_brk, ex_cnt, ex_ifS, ex_raise, ex_forS, ex_whl, evalV, evalT, evalEs, evalA, evalA1, evalO, evalC, evalI, enterE, slotR, ownR, ownC, setD, readR, moveR, outs, mapM, isTys_cons, isFreshF, L2.ixN, fillA, putA, putP, h2, hl]

/-! ### == of machines -/
theorem eqds_int : ∀ xs ys : List Int, eqds (xs.map .int) (ys.map .int) = decide (xs = ys)
  | [], [] => rfl
  | [], y :: ys => by simp [eqds]
  | x :: xs, [] => by simp [eqds]
  | x :: xs, y :: ys => by
    simp only [List.map_cons, eqds, eqds_int xs ys, eqd]
    by_cases h : x = y <;> by_cases h2 : xs = ys <;> simp [h, h2]
theorem eqd_T {t u : D} {xs ys : List Int} (ht : IsT t (xs.map .int)) (hu : IsT u (ys.map .int)) : eqd t u = decide (xs = ys) := by
  rcases ht.or with rfl | rfl <;> rcases hu.or with rfl | rfl <;> exact eqds_int xs ys
theorem plains_int : ∀ xs : List Int, plains (xs.map .int) = true
  | [] => rfl
  | x :: xs => by simp [plains, Rf.plain, plains_int xs]
theorem deps_int : ∀ xs : List Int, deps (xs.map .int) = 0
  | [] => rfl
  | x :: xs => by simp [deps, dep, deps_int xs]
theorem plain_T {t : D} {xs : List Int} (ht : IsT t (xs.map .int)) : Rf.plain t = true ∧ dep t = 1 := by
  rcases ht.or with rfl | rfl <;> exact ⟨plains_int xs, by simp [dep, deps_int]⟩
/-- two triples of numbers, a number, numbers -/
theorem eq3 {t t' u u' : D} {S S' T T' : List Int} {w w' : Int} (ht : IsT t (S.map .int)) (ht' : IsT t' (S'.map .int)) (hu : IsT u (T.map .int)) (hu' : IsT u' (T'.map .int)) :
    cmp .eq (.tup [t, .int w, u]) (.tup [t', .int w', u']) = some (decide (S = S') && (decide (w = w') && decide (T = T'))) := by
  have c : ∀ {t u : D} {S T : List Int} {w : Int}, IsT t (S.map .int) → IsT u (T.map .int) → cmpb (.tup [t, .int w, u]) = true := fun {t u S T w} h1 h2 => by
    obtain ⟨a1, a2⟩ := plain_T h1
    obtain ⟨b1, b2⟩ := plain_T h2
    simp [cmpb, Rf.plain, plains, dep, deps, a1, a2, b1, b2]
  show eqD _ _ = _
  unfold eqD
  rw [c ht hu, c ht' hu']
  simp only [Bool.and_self, if_true, eqd, eqds, eqd_T ht ht', eqd_T hu hu', Bool.and_true]
theorem meq_ok {C : Calls} (hC : At C 1) {t t' u u' : D} {S S' T T' : List Int} {w w' : Int} (ht : IsT t (S.map .int)) (ht' : IsT t' (S'.map .int)) (hu : IsT u (T.map .int)) (hu' : IsT u' (T'.map .int)) :
    C.fn i_Machine__eq__ [mc t w u, mc t' w' u'] = .ok (.bl (decide (S = S') && (decide (w = w') && decide (T = T')))) [] := by
  refine stepE T_Machine__eq__ rfl hC fun C hC => ?_
  have e := eq3 (w := w) (w' := w') ht ht' hu hu'
  simp [f_Machine__eq__, b_Machine__eq__, ss_nil, ss_cons, ev_cst, ev_var, ev_mov, ev_glob, ev_sh, ev_tup, ev_lst, ev_bin, ev_binv, ev_neg, ev_cmp, ev_cmpv, ev_chain, ev_and, ev_or, ev_not, ev_ite, ev_call, ev_p1, ev_p2, ev_isi, ev_sub, ev_subv, ev_slc, ev_slcv, ev_rev, ev_pop, ev_popAt, ev_dnew, ev_lrg, ev_idx, ev_cnt, ev_tupz, ev_nev, ev_mk, ev_fld, ev_isio, ev_cmpI, et_cmpI, ex_nev, ex_asg, ex_par, ex_aug, ex_setI, ex_augI, ex_app, ex_ext, ex_expr, ex_ret, ex_retN, ex_pass, ex_brk, ex_cnt, ex_ifS, ex_raise, ex_forS, ex_whl, evalV, evalT, evalEs, evalA, evalA1, evalO, evalC, evalI, enterE, slotR, ownR, ownC, setD, readR, moveR, outs, mapM, isTys_cons, isFreshF, L2.ixN, fillA, putA, putP, mc, e]
/-- the place of a row -/
def plc : List Int → List Int → Int → Int
  | s :: S, n :: N, a => plc S N (a * s + n)
  | _, _, a => a
theorem place_ok {C : Calls} (hC : At C 1) {S N : List Int} (hS : ∀ s ∈ S, s.natAbs < 2 ^ 64) {t u : D} (ht : IsT t (S.map .int)) (hu : IsT u (N.map .int)) : C.fn i_place_of [t, u] = .ok (.int (plc S N 0)) [] := by
  refine stepE T_place_of rfl hC fun C hC => ?_
  have hi : evalI C lp_place_of_1_i [Sl.sh t, .sh u, .sh (.int 0), .no, .no] = .ok (List.zipWith (fun x y => D.tup [.int x, .int y]) S N) [Sl.sh t, .sh u, .sh (.int 0), .no, .no] := by
    have h := zip_T (C := C) (a := .var 0) (b := .var 1) (s := [Sl.sh t, .sh u, .sh (.int 0), .no, .no]) (s1 := [Sl.sh t, .sh u, .sh (.int 0), .no, .no]) (s2 := [Sl.sh t, .sh u, .sh (.int 0), .no, .no]) (by simp [ss_nil, ss_cons, ev_cst, ev_var, ev_mov, ev_glob, ev_sh, ev_tup, ev_lst, ev_bin, ev_binv, ev_neg, ev_cmp, ev_cmpv, ev_chain, ev_and, ev_or, ev_not, ev_ite, ev_call, ev_p1, ev_p2, ev_isi, ev_sub, ev_subv, ev_slc, ev_slcv, ev_rev, ev_pop, ev_popAt, ev_dnew, ev_lrg, ev_idx, ev_cnt, ev_tupz, ev_nev, ev_mk, ev_fld, ev_isio, ev_cmpI, et_cmpI, ex_nev, ex_asg, ex_par, ex_aug, ex_setI, ex_augI, ex_app, ex_ext, ex_expr, ex_ret, ex_retN, ex_pass, ex_brk, ex_cnt, ex_ifS, ex_raise, ex_forS, ex_whl, evalV, evalT, evalEs, evalA, evalA1, evalO, evalC, evalI, enterE, slotR, ownR, ownC, setD, readR, moveR, outs, mapM, isTys_cons, isFreshF, L2.ixN, fillA, putA, putP]) (by simp [ss_nil, ss_cons, ev_cst, ev_var, ev_mov, ev_glob, ev_sh, ev_tup, ev_lst, ev_bin, ev_binv, ev_neg, ev_cmp, ev_cmpv, ev_chain, ev_and, ev_or, ev_not, ev_ite, ev_call, ev_p1, ev_p2, ev_isi, ev_sub, ev_subv, ev_slc, ev_slcv, ev_rev, ev_pop, ev_popAt, ev_dnew, ev_lrg, ev_idx, ev_cnt, ev_tupz, ev_nev, ev_mk, ev_fld, ev_isio, ev_cmpI, et_cmpI, ex_nev, ex_asg, ex_par, ex_aug, ex_setI, ex_augI, ex_app, ex_ext, ex_expr, ex_ret, ex_retN, ex_pass, ex_brk, ex_cnt, ex_ifS, ex_raise, ex_forS, ex_whl, evalV, evalT, evalEs, evalA, evalA1, evalO, evalC, evalI, enterE, slotR, ownR, ownC, setD, readR, moveR, outs, mapM, isTys_cons, isFreshF, L2.ixN, fillA, putA, putP]) ht hu
    rw [List.zipWith_map] at h
    exact h
  simp [f_place_of, b_place_of, ss_nil, ss_cons, ev_cst, ev_var, ev_mov, ev_glob, ev_sh, ev_tup, ev_lst, ev_bin, ev_binv, ev_neg, ev_cmp, ev_cmpv, ev_chain, ev_and, ev_or, ev_not, ev_ite, ev_call, ev_p1, ev_p2, ev_isi, ev_sub, ev_subv, ev_slc, ev_slcv, ev_rev, ev_pop, ev_popAt, ev_dnew, ev_lrg, ev_idx, ev_cnt, ev_tupz, ev_nev, ev_mk, ev_fld, ev_isio, ev_cmpI, et_cmpI, ex_nev, ex_asg, ex_par, ex_aug, ex_setI, ex_augI, ex_app, ex_ext, ex_expr, ex_ret, ex_retN, ex_pass, ex_brk, ex_cnt, ex_ifS, ex_raise, ex_forS, ex_whl, evalV, evalT, evalEs, evalA, evalA1, evalO, evalC, evalI, enterE, slotR, ownR, ownC, setD, readR, moveR, outs, mapM, isTys_cons, isFreshF, L2.ixN, fillA, putA, putP, hi]
  refine is_for (fun i s => ∃ x a b, s = [Sl.sh t, .sh u, .sh (.int x), a, b] ∧ plc (S.drop i) (N.drop i) x = plc S N 0) (fun _ _ => False) ⟨_, _, _, rfl, by simp⟩ ?_ ?_ (fun _ _ h => h.elim)
  · rintro i d hd s ⟨x, a, b, rfl, hx⟩
    rw [List.getElem?_zipWith] at hd
    cases e1 : S[i]? with
    | none => rw [e1] at hd; simp at hd
    | some si =>
      cases e2 : N[i]? with
      | none => rw [e1, e2] at hd; simp at hd
      | some ni =>
        rw [e1, e2] at hd
        simp at hd
        subst hd
        have m : mulOk x si = true := mulOk_r (hS si (List.mem_of_getElem? e1))
        obtain ⟨h1, h1'⟩ := List.getElem?_eq_some_iff.mp e1
        obtain ⟨h2, h2'⟩ := List.getElem?_eq_some_iff.mp e2
        rw [List.drop_eq_getElem_cons h1, List.drop_eq_getElem_cons h2, h1', h2'] at hx
        simp [forB_eq, lp_place_of_1_b, ss_nil, ss_cons, ev_cst, ev_var, ev_mov, ev_glob, ev_sh, ev_tup, ev_lst, ev_bin, ev_binv, ev_neg, ev_cmp, ev_cmpv, ev_chain, ev_and, ev_or, ev_not, ev_ite, ev_call, ev_p1, ev_p2, ev_isi, ev_sub, ev_subv, ev_slc, ev_slcv, ev_rev, ev_pop, ev_popAt, ev_dnew, ev_lrg, ev_idx, ev_cnt, ev_tupz, ev_nev, ev_mk, ev_fld, ev_isio, ev_cmpI, et_cmpI, ex_nev, ex_asg, ex_par, ex_aug, ex_setI, ex_augI, ex_app, ex_ext, ex_expr, ex_ret, ex_retN, ex_pass, ex_brk, ex_cnt, ex_ifS, ex_raise, ex_forS, ex_whl, evalV, evalT, evalEs, evalA, evalA1, evalO, evalC, evalI, enterE, slotR, ownR, ownC, setD, readR, moveR, outs, mapM, isTys_cons, isFreshF, L2.ixN, fillA, putA, putP, bin_mul m]
        exact hx
  · rintro s ⟨x, a, b, rfl, hx⟩
    have : plc (S.drop (List.zipWith (fun x y => D.tup [.int x, .int y]) S N).length) (N.drop (List.zipWith (fun x y => D.tup [.int x, .int y]) S N).length) x = x := by
      rw [List.length_zipWith]
      rcases Nat.le_total S.length N.length with h | h
      · rw [Nat.min_eq_left h, List.drop_length]; rfl
      · rw [Nat.min_eq_right h, List.drop_length]; cases S.drop N.length <;> rfl
    rw [this] at hx
    simp [ss_nil, ss_cons, ev_cst, ev_var, ev_mov, ev_glob, ev_sh, ev_tup, ev_lst, ev_bin, ev_binv, ev_neg, ev_cmp, ev_cmpv, ev_chain, ev_and, ev_or, ev_not, ev_ite, ev_call, ev_p1, ev_p2, ev_isi, ev_sub, ev_subv, ev_slc, ev_slcv, ev_rev, ev_pop, ev_popAt, ev_dnew, ev_lrg, ev_idx, ev_cnt, ev_tupz, ev_nev, ev_mk, ev_fld, ev_isio, ev_cmpI, et_cmpI, ex_nev, ex_asg, ex_par, ex_aug, ex_setI, ex_augI, ex_app, ex_ext, ex_expr, ex_ret, ex_retN, ex_pass, ex_brk, ex_cnt, ex_ifS, ex_raise, ex_forS, ex_whl, evalV, evalT, evalEs, evalA, evalA1, evalO, evalC, evalI, enterE, slotR, ownR, ownC, setD, readR, moveR, outs, mapM, isTys_cons, isFreshF, L2.ixN, fillA, putA, putP, hx]
theorem told_ok {C : Calls} (hC : At C 2) {S N T : List Int} {w x : Int} (hS : ∀ s ∈ S, s.natAbs < 2 ^ 64) {t u v : D} (ht : IsT t (S.map .int)) (hu : IsT u (T.map .int)) (hv : IsT v (N.map .int)) (hx : L2.atI (T.map D.int) (plc S N 0) = some (.int x)) : C.fn i_told_by [mc t w u, v] = .ok (.int x) [] := by
  refine stepE T_told_by rfl hC fun C hC => ?_
  have e := place_ok hC.le hS ht hv
  have e2 := hu.it (plc S N 0)
  rw [hx] at e2
  have h1 := ht.c
  have h2 := hu.c
  have h3 := hv.c
  simp [f_told_by, b_told_by, ss_nil, ss_cons, ev_cst, ev_var, ev_mov, ev_glob, ev_sh, ev_tup, ev_lst, ev_bin, ev_binv, ev_neg, ev_cmp, ev_cmpv, ev_chain, ev_and, ev_or, ev_not, ev_ite, ev_call, ev_p1, ev_p2, ev_isi, ev_sub, ev_subv, ev_slc, ev_slcv, ev_rev, ev_pop, ev_popAt, ev_dnew, ev_lrg, ev_idx, ev_cnt, ev_tupz, ev_nev, ev_mk, ev_fld, ev_isio, ev_cmpI, et_cmpI, ex_nev, ex_asg, ex_par, ex_aug, ex_setI, ex_augI, ex_app, ex_ext, ex_expr, ex_ret, ex_retN, ex_pass, ex_brk, ex_cnt, ex_ifS, ex_raise, ex_forS, ex_whl, evalV, evalT, evalEs, evalA, evalA1, evalO, evalC, evalI, enterE, slotR, ownR, ownC, setD, readR, moveR, outs, mapM, isTys_cons, isFreshF, L2.ixN, fillA, putA, putP, mc, e, e2]
/-! ### all rows -/
def rws : List Int → List (List Int)
  | [] => [[]]
  | s :: S => (List.range s.toNat).flatMap fun (n : Nat) => (rws S).map fun r => (n : Int) :: r
/-- one more hand behind -/
def rwx (f : List (List Int)) (s : Int) : List (List Int) := f.flatMap fun r => (List.range s.toNat).map fun (n : Nat) => r ++ [(n : Int)]
theorem rwx_eq : ∀ (S : List Int) (f : List (List Int)), S.foldl rwx f = f.flatMap fun r => (rws S).map fun q => r ++ q
  | [], f => by
    simp only [List.foldl_nil, rws, List.map_cons, List.map_nil, List.append_nil]
    induction f with
    | nil => rfl
    | cons a f ih => rw [List.flatMap_cons, ← ih]; rfl
  | s :: S, f => by
    rw [List.foldl_cons, rwx_eq S]
    unfold rwx
    rw [List.flatMap_assoc]
    congr 1
    funext r
    rw [List.flatMap_map]
    simp only [rws, List.map_flatMap, List.map_map]
    congr 1
    funext n
    congr 1
    funext q
    simp
theorem rws_fold (S : List Int) : rws S = S.foldl rwx [[]] := by rw [rwx_eq]; simp
theorem rws_mem : ∀ {S r : List Int}, r ∈ rws S → r.length = S.length ∧ ∀ (i : Nat) s n, S[i]? = some s → r[i]? = some n → 0 ≤ n ∧ n < s
  | [], r, h => by
    simp only [rws, List.mem_singleton] at h
    subst h
    exact ⟨rfl, fun i s n h => by simp at h⟩
  | s :: S, r, h => by
    simp only [rws, List.mem_flatMap, List.mem_map, List.mem_range] at h
    obtain ⟨n, hn, q, hq, rfl⟩ := h
    obtain ⟨h1, h2⟩ := rws_mem hq
    refine ⟨by simp [h1], fun i s' n' hs hn' => ?_⟩
    cases i with
    | zero => simp at hs hn'; subst hs hn'; omega
    | succ i => exact h2 i s' n' (by simpa using hs) (by simpa using hn')
theorem sum_same {α : Type} (k : Nat) : ∀ l : List α, (l.map fun _ => k).sum = l.length * k
  | [] => by simp
  | a :: l => by rw [List.map_cons, List.sum_cons, sum_same k l, List.length_cons, Nat.succ_mul]; omega
theorem nprod {S : List Int} (h : ∀ s ∈ S, 0 ≤ s) : 0 ≤ S.prod := by
  induction S with
  | nil => simp
  | cons s S ih => rw [List.prod_cons]; exact Int.mul_nonneg (h s List.mem_cons_self) (ih fun x hx => h x (List.mem_cons_of_mem _ hx))
theorem rws_len : ∀ {S : List Int}, (∀ s ∈ S, 0 ≤ s) → ((rws S).length : Int) = S.prod
  | [], _ => rfl
  | s :: S, h => by
    have ih := rws_len (S := S) fun x hx => h x (List.mem_cons_of_mem _ hx)
    have h0 := h s List.mem_cons_self
    simp only [rws, List.length_flatMap, List.length_map, List.prod_cons]
    rw [sum_same, List.length_range, ← ih]
    push_cast
    rw [Int.toNat_of_nonneg h0]
theorem plc_shift : ∀ (S N : List Int) (a : Int), S.length = N.length → plc S N a = a * S.prod + plc S N 0
  | [], [], a, _ => by simp [plc]
  | s :: S, n :: N, a, h => by
    have h : S.length = N.length := by simpa using h
    simp only [plc]
    rw [plc_shift S N (a * s + n) h, plc_shift S N (0 * s + n) h, List.prod_cons]
    grind
  | [], _ :: _, _, h => by simp at h
  | _ :: _, [], _, h => by simp at h
theorem plc_app : ∀ (S S' N N' : List Int) (a : Int), S.length = N.length → plc (S ++ S') (N ++ N') a = plc S' N' (plc S N a)
  | [], S', [], N', a, _ => rfl
  | s :: S, S', n :: N, N', a, h => by
    simp only [List.cons_append, plc]
    exact plc_app S S' N N' _ (by simpa using h)
  | [], _, _ :: _, _, _, h => by simp at h
  | _ :: _, _, [], _, _, h => by simp at h
/-- the places of all rows: one behind another -/
theorem rws_plc : ∀ {S : List Int}, (∀ s ∈ S, 0 ≤ s) → (rws S).map (fun r => plc S r 0) = (List.range (rws S).length).map fun (i : Nat) => (i : Int)
  | [], _ => rfl
  | s :: S, h => by
    have ih := rws_plc (S := S) fun x hx => h x (List.mem_cons_of_mem _ hx)
    have hl := rws_len (S := S) fun x hx => h x (List.mem_cons_of_mem _ hx)
    have h0 := h s List.mem_cons_self
    have key : ∀ m : Nat, ((List.range m).flatMap fun (n : Nat) => (rws S).map fun r => (n : Int) :: r).map (fun r => plc (s :: S) r 0) = (List.range (m * (rws S).length)).map fun (i : Nat) => (i : Int) := by
      intro m
      induction m with
      | zero => simp
      | succ m ihm =>
        rw [List.range_succ, List.flatMap_append, List.map_append, ihm, Nat.succ_mul, List.range_add, List.map_append]
        congr 1
        simp only [List.flatMap_cons, List.flatMap_nil, List.append_nil, List.map_map]
        have e : ((fun r => plc (s :: S) r 0) ∘ fun r => (m : Int) :: r) = fun r => plc S r (m : Int) := by funext r; simp [plc]
        rw [e]
        have e2 : (rws S).map (fun r => plc S r (m : Int)) = ((rws S).map fun r => plc S r 0).map fun x => (m : Int) * S.prod + x := by
          rw [List.map_map]
          refine List.map_congr_left fun r hr => ?_
          exact plc_shift S r m (rws_mem hr).1.symm
        rw [e2, ih, List.map_map]
        refine List.map_congr_left fun i _ => ?_
        simp only [Function.comp, ← hl]
        push_cast
        rfl
    have hlen : (rws (s :: S)).length = s.toNat * (rws S).length := by
      simp only [rws, List.length_flatMap, List.length_map]
      rw [sum_same, List.length_range]
    rw [hlen]
    exact key s.toNat

/-! ### rows reckoned -/
abbrev tI (r : List Int) : D := .tup (r.map .int)
/-- sizes whose rows are few -/
structure Fw (S : List Int) : Prop where
  it : ∀ s ∈ S, 1 ≤ s
  pr : S.prod ≤ 1000000
  le : S.length ≤ 1000
theorem Sz.fw {S : List Int} (h : Sz S) : Fw S := ⟨fun s hs => by have := h.it s hs; omega, by have := h.pr; omega, by have := h.le; omega⟩
theorem Sz.nn {S : List Int} (h : Sz S) : ∀ s ∈ S, 0 ≤ s := fun s hs => by have := h.it s hs; omega
theorem Fw.nn {S : List Int} (h : Fw S) : ∀ s ∈ S, 0 ≤ s := fun s hs => by have := h.it s hs; omega
theorem prod_pos {S : List Int} (h : ∀ s ∈ S, 1 ≤ s) : 1 ≤ S.prod := by
  induction S with
  | nil => simp
  | cons s S ih =>
    rw [List.prod_cons]
    have h1 := h s List.mem_cons_self
    have h2 := ih fun x hx => h x (List.mem_cons_of_mem _ hx)
    have := Int.mul_le_mul h1 h2 (by omega) (by omega)
    omega
theorem take_prod {S : List Int} (h : ∀ s ∈ S, 1 ≤ s) (i : Nat) : (S.take i).prod ≤ S.prod := by
  have e : S.prod = (S.take i).prod * (S.drop i).prod := by rw [← List.prod_append, List.take_append_drop]
  have h1 := prod_pos (S := S.take i) fun s hs => h s (List.mem_of_mem_take hs)
  have h2 := prod_pos (S := S.drop i) fun s hs => h s (List.mem_of_mem_drop hs)
  have := Int.mul_le_mul_of_nonneg_left h2 (show 0 ≤ (S.take i).prod by omega)
  rw [e]; omega
theorem Fw.take {S : List Int} (h : Fw S) (i : Nat) : Fw (S.take i) := ⟨fun s hs => h.it s (List.mem_of_mem_take hs), Int.le_trans (take_prod h.it i) h.pr, by have := h.le; rw [List.length_take]; omega⟩
theorem Fw.rws_le {S : List Int} (h : Fw S) : (rws S).length ≤ 1000000 := by have := rws_len h.nn; have := h.pr; omega
theorem rwx_take {S : List Int} {i : Nat} {s : Int} (h : S[i]? = some s) : rws (S.take (i + 1)) = rwx (rws (S.take i)) s := by
  rw [rws_fold, rws_fold, List.take_add_one, h, List.foldl_append]; rfl
theorem Fw.s62 {S : List Int} (h : Fw S) {s : Int} (hs : s ∈ S) : s ≤ 1000000 := by
  obtain ⟨i, hi, rfl⟩ := List.mem_iff_getElem.mp hs
  have h1 := take_prod h.it (i + 1)
  rw [List.take_add_one, List.getElem?_eq_getElem hi, List.prod_append] at h1
  have h2 := prod_pos (S := S.take i) fun s hs => h.it s (List.mem_of_mem_take hs)
  have h3 := h.it _ hs
  have h4 := h.pr
  simp at h1
  have := Int.mul_le_mul_of_nonneg_right h2 (show 0 ≤ S[i] by omega)
  omega
theorem allrows_ok {C : Calls} (hC : At C 1) {S : List Int} (hS : Fw S) {t : D} (ht : IsT t (S.map .int)) : C.fn i_all_rows [t] = .ok (.lst ((rws S).map tI)) [] := by
  refine stepE T_all_rows rfl hC fun C hC => ?_
  have hs := ht.sq
  simp [f_all_rows, b_all_rows, lp_all_rows_1_i, ss_nil, ss_cons, ev_cst, ev_var, ev_mov, ev_glob, ev_sh, ev_tup, ev_lst, ev_bin, ev_binv, ev_neg, ev_cmp, ev_cmpv, ev_chain, ev_and, ev_or, ev_not, ev_ite, ev_call, ev_p1, ev_p2, ev_isi, ev_sub, ev_subv, ev_slc, ev_slcv, ev_rev, ev_pop, ev_popAt, ev_dnew, ev_lrg, ev_idx, ev_cnt, ev_tupz, ev_nev, ev_mk, ev_fld, ev_isio, ev_cmpI, et_cmpI, ex_nev, ex_asg, ex_par, ex_aug, ex_setI, ex_augI, ex_app, ex_ext, ex_expr, ex_ret, ex_retN, ex_pass, ex_brk, ex_cnt, ex_ifS, ex_raise, ex_forS, ex_whl, evalV, evalT, evalEs, evalA, evalA1, evalO, evalC, evalI, enterE, slotR, ownR, ownC, setD, readR, moveR, outs, mapM, isTys_cons, isFreshF, L2.ixN, fillA, putA, putP, hs]
  refine is_for (fun i s => ∃ a, s = [Sl.sh t, .sh (.lst ((rws (S.take i)).map tI)), a, .no, .no]) (fun _ _ => False) ⟨.no, by simp [rws]⟩ ?_ ?_ (fun _ _ h => h.elim)
  · rintro i d hd s ⟨a, rfl⟩
    rw [List.getElem?_map] at hd
    obtain ⟨x, hx, rfl⟩ := Option.map_eq_some_iff.mp hd
    have hm := List.mem_of_getElem? hx
    have h1 := hS.it x hm
    have h2 := hS.s62 hm
    have hf := hS.take i
    have el := lc2_it (C := C) (elt := lc_all_rows_1_e) (tg := .nm 3) (it := lc_all_rows_1_i) (tg1 := .nm 4) (it1 := lc_all_rows_1_j) (cond1 := none) (own := [3, 4]) (own1 := [4]) (s := [Sl.sh t, .sh (.lst ((rws (S.take i)).map tI)), .sh (.int x), .no, .no]) (s1 := [Sl.sh t, .sh (.lst ((rws (S.take i)).map tI)), .sh (.int x), .no, .no])
      (rws (S.take i)) tI (fun _ => List.range x.toNat) (fun n => .int (n : Nat)) (fun r n => tI (r ++ [(n : Int)])) (by simp [lc_all_rows_1_i, ss_nil, ss_cons, ev_cst, ev_var, ev_mov, ev_glob, ev_sh, ev_tup, ev_lst, ev_bin, ev_binv, ev_neg, ev_cmp, ev_cmpv, ev_chain, ev_and, ev_or, ev_not, ev_ite, ev_call, ev_p1, ev_p2, ev_isi, ev_sub, ev_subv, ev_slc, ev_slcv, ev_rev, ev_pop, ev_popAt, ev_dnew, ev_lrg, ev_idx, ev_cnt, ev_tupz, ev_nev, ev_mk, ev_fld, ev_isio, ev_cmpI, et_cmpI, ex_nev, ex_asg, ex_par, ex_aug, ex_setI, ex_augI, ex_app, ex_ext, ex_expr, ex_ret, ex_retN, ex_pass, ex_brk, ex_cnt, ex_ifS, ex_raise, ex_forS, ex_whl, evalV, evalT, evalEs, evalA, evalA1, evalO, evalC, evalI, enterE, slotR, ownR, ownC, setD, readR, moveR, outs, mapM, isTys_cons, isFreshF, L2.ixN, fillA, putA, putP]) (fun r hr => ?_) ?_
    · have e2 : (rws (S.take i)).flatMap (fun r => (List.range x.toNat).map fun (n : Nat) => tI (r ++ [(n : Int)])) = (rws (S.take (i + 1))).map tI := by
        rw [rwx_take hx]
        simp only [rwx, List.map_flatMap, List.map_map]
        rfl
      rw [e2] at el
      have el : evalE C lc_all_rows_1 _ = _ := el
      simp [wipeE, backE] at el
      simp [forB_eq, lp_all_rows_1_b, ss_nil, ss_cons, ev_cst, ev_var, ev_mov, ev_glob, ev_sh, ev_tup, ev_lst, ev_bin, ev_binv, ev_neg, ev_cmp, ev_cmpv, ev_chain, ev_and, ev_or, ev_not, ev_ite, ev_call, ev_p1, ev_p2, ev_isi, ev_sub, ev_subv, ev_slc, ev_slcv, ev_rev, ev_pop, ev_popAt, ev_dnew, ev_lrg, ev_idx, ev_cnt, ev_tupz, ev_nev, ev_mk, ev_fld, ev_isio, ev_cmpI, et_cmpI, ex_nev, ex_asg, ex_par, ex_aug, ex_setI, ex_augI, ex_app, ex_ext, ex_expr, ex_ret, ex_retN, ex_pass, ex_brk, ex_cnt, ex_ifS, ex_raise, ex_forS, ex_whl, evalV, evalT, evalEs, evalA, evalA1, evalO, evalC, evalI, enterE, slotR, ownR, ownC, setD, readR, moveR, outs, mapM, isTys_cons, isFreshF, L2.ixN, fillA, putA, putP, el]
    · have hl := (rws_mem hr).1
      have hle : r.length ≤ 1000 := by rw [hl]; exact hf.le
      have hr1 : evalI C lc_all_rows_1_j [Sl.sh t, .sh (.lst ((rws (S.take i)).map tI)), .sh (.int x), .sh (tI r), .no] = .ok (rangeD 0 x.toNat) [Sl.sh t, .sh (.lst ((rws (S.take i)).map tI)), .sh (.int x), .sh (tI r), .no] := rng1_ok (n := x.toNat) (by simp [ss_nil, ss_cons, ev_cst, ev_var, ev_mov, ev_glob, ev_sh, ev_tup, ev_lst, ev_bin, ev_binv, ev_neg, ev_cmp, ev_cmpv, ev_chain, ev_and, ev_or, ev_not, ev_ite, ev_call, ev_p1, ev_p2, ev_isi, ev_sub, ev_subv, ev_slc, ev_slcv, ev_rev, ev_pop, ev_popAt, ev_dnew, ev_lrg, ev_idx, ev_cnt, ev_tupz, ev_nev, ev_mk, ev_fld, ev_isio, ev_cmpI, et_cmpI, ex_nev, ex_asg, ex_par, ex_aug, ex_setI, ex_augI, ex_app, ex_ext, ex_expr, ex_ret, ex_retN, ex_pass, ex_brk, ex_cnt, ex_ifS, ex_raise, ex_forS, ex_whl, evalV, evalT, evalEs, evalA, evalA1, evalO, evalC, evalI, enterE, slotR, ownR, ownC, setD, readR, moveR, outs, mapM, isTys_cons, isFreshF, L2.ixN, fillA, putA, putP]; omega) (by omega)
      refine ⟨_, _, by simp [wipeE]; rfl, by rw [hr1, Rf.range_map]; simp; rfl, by simp [wipeE], fun n hn => ?_⟩
      have cat := bin_catT (ds := r.map D.int) (es := [D.int (n : Nat)]) (by simp; exact len_s (n := r.length + 1) (m := 1001) (by omega))
      simp [turn_w, lc_all_rows_1_e, ss_nil, ss_cons, ev_cst, ev_var, ev_mov, ev_glob, ev_sh, ev_tup, ev_lst, ev_bin, ev_binv, ev_neg, ev_cmp, ev_cmpv, ev_chain, ev_and, ev_or, ev_not, ev_ite, ev_call, ev_p1, ev_p2, ev_isi, ev_sub, ev_subv, ev_slc, ev_slcv, ev_rev, ev_pop, ev_popAt, ev_dnew, ev_lrg, ev_idx, ev_cnt, ev_tupz, ev_nev, ev_mk, ev_fld, ev_isio, ev_cmpI, et_cmpI, ex_nev, ex_asg, ex_par, ex_aug, ex_setI, ex_augI, ex_app, ex_ext, ex_expr, ex_ret, ex_retN, ex_pass, ex_brk, ex_cnt, ex_ifS, ex_raise, ex_forS, ex_whl, evalV, evalT, evalEs, evalA, evalA1, evalO, evalC, evalI, enterE, slotR, ownR, ownC, setD, readR, moveR, outs, mapM, isTys_cons, isFreshF, L2.ixN, fillA, putA, putP, wipeE, cat]
    · have h3 := (hS.take (i + 1)).rws_le
      rw [rwx_take hx] at h3
      simp only [rwx, List.length_flatMap, List.length_map] at h3 ⊢
      exact len_s h3
  · rintro s ⟨a, rfl⟩
    simp [ss_nil, ss_cons, ev_cst, ev_var, ev_mov, ev_glob, ev_sh, ev_tup, ev_lst, ev_bin, ev_binv, ev_neg, ev_cmp, ev_cmpv, ev_chain, ev_and, ev_or, ev_not, ev_ite, ev_call, ev_p1, ev_p2, ev_isi, ev_sub, ev_subv, ev_slc, ev_slcv, ev_rev, ev_pop, ev_popAt, ev_dnew, ev_lrg, ev_idx, ev_cnt, ev_tupz, ev_nev, ev_mk, ev_fld, ev_isio, ev_cmpI, et_cmpI, ex_nev, ex_asg, ex_par, ex_aug, ex_setI, ex_augI, ex_app, ex_ext, ex_expr, ex_ret, ex_retN, ex_pass, ex_brk, ex_cnt, ex_ifS, ex_raise, ex_forS, ex_whl, evalV, evalT, evalEs, evalA, evalA1, evalO, evalC, evalI, enterE, slotR, ownR, ownC, setD, readR, moveR, outs, mapM, isTys_cons, isFreshF, L2.ixN, fillA, putA, putP]
theorem is_row_ok {C : Calls} (hC : At C 3) {xs : List Int} {n a b : Int} {t : D} (ht : IsT t (xs.map .int)) (hl : xs.length ≤ 1000000) : C.fn i_is_row [t, .int n, .int a, .int b] = .ok (.bl (decide ((xs.length : Int) = n) && xs.all fun x => decide (a ≤ x) && decide (x ≤ b))) [] := by
  refine stepE T_is_row rfl hC fun C hC => ?_
  have h1 := ht.tu
  have h2 := ht.ln
  have hs := ht.sq
  have e := fun x => within_ok (hC.le : At C 2) x a b
  have el := lc_it (C := C) (elt := lc_is_row_1_e) (tg := .nm 4) (it := lc_is_row_1_i) (cond := none) (own := [4]) (s := [Sl.sh t, .sh (.int n), .sh (.int a), .sh (.int b), .no]) (s1 := [Sl.sh t, .sh (.int n), .sh (.int a), .sh (.int b), .no]) xs D.int (fun x => .bl (decide (a ≤ x) && decide (x ≤ b)))
    (by simp [lc_is_row_1_i, ss_nil, ss_cons, ev_cst, ev_var, ev_mov, ev_glob, ev_sh, ev_tup, ev_lst, ev_bin, ev_binv, ev_neg, ev_cmp, ev_cmpv, ev_chain, ev_and, ev_or, ev_not, ev_ite, ev_call, ev_p1, ev_p2, ev_isi, ev_sub, ev_subv, ev_slc, ev_slcv, ev_rev, ev_pop, ev_popAt, ev_dnew, ev_lrg, ev_idx, ev_cnt, ev_tupz, ev_nev, ev_mk, ev_fld, ev_isio, ev_cmpI, et_cmpI, ex_nev, ex_asg, ex_par, ex_aug, ex_setI, ex_augI, ex_app, ex_ext, ex_expr, ex_ret, ex_retN, ex_pass, ex_brk, ex_cnt, ex_ifS, ex_raise, ex_forS, ex_whl, evalV, evalT, evalEs, evalA, evalA1, evalO, evalC, evalI, enterE, slotR, ownR, ownC, setD, readR, moveR, outs, mapM, isTys_cons, isFreshF, L2.ixN, fillA, putA, putP, hs]) (fun x _ => by simp [turn_w, lc_is_row_1_e, ss_nil, ss_cons, ev_cst, ev_var, ev_mov, ev_glob, ev_sh, ev_tup, ev_lst, ev_bin, ev_binv, ev_neg, ev_cmp, ev_cmpv, ev_chain, ev_and, ev_or, ev_not, ev_ite, ev_call, ev_p1, ev_p2, ev_isi, ev_sub, ev_subv, ev_slc, ev_slcv, ev_rev, ev_pop, ev_popAt, ev_dnew, ev_lrg, ev_idx, ev_cnt, ev_tupz, ev_nev, ev_mk, ev_fld, ev_isio, ev_cmpI, et_cmpI, ex_nev, ex_asg, ex_par, ex_aug, ex_setI, ex_augI, ex_app, ex_ext, ex_expr, ex_ret, ex_retN, ex_pass, ex_brk, ex_cnt, ex_ifS, ex_raise, ex_forS, ex_whl, evalV, evalT, evalEs, evalA, evalA1, evalO, evalC, evalI, enterE, slotR, ownR, ownC, setD, readR, moveR, outs, mapM, isTys_cons, isFreshF, L2.ixN, fillA, putA, putP, wipeE, e x]) (len_s hl)
  have el : evalE C lc_is_row_1 _ = _ := el
  simp [wipeE, backE] at el
  have ea := p1_all_map (fun x => decide (a ≤ x) && decide (x ≤ b)) xs

  by_cases hn : (xs.length : Int) = n <;> simp [f_is_row, b_is_row, ss_nil, ss_cons, ev_cst, ev_var, ev_mov, ev_glob, ev_sh, ev_tup, ev_lst, ev_bin, ev_binv, ev_neg, ev_cmp, ev_cmpv, ev_chain, ev_and, ev_or, ev_not, ev_ite, ev_call, ev_p1, ev_p2, ev_isi, ev_sub, ev_subv, ev_slc, ev_slcv, ev_rev, ev_pop, ev_popAt, ev_dnew, ev_lrg, ev_idx, ev_cnt, ev_tupz, ev_nev, ev_mk, ev_fld, ev_isio, ev_cmpI, et_cmpI, ex_nev, ex_asg, ex_par, ex_aug, ex_setI, ex_augI, ex_app, ex_ext, ex_expr, ex_ret, ex_retN, ex_pass, ex_brk, ex_cnt, ex_ifS, ex_raise, ex_forS, ex_whl, evalV, evalT, evalEs, evalA, evalA1, evalO, evalC, evalI, enterE, slotR, ownR, ownC, setD, readR, moveR, outs, mapM, isTys_cons, isFreshF, L2.ixN, fillA, putA, putP, h1, h2, hn, el, ea]

/-! ### machines made of machines -/
theorem intsOf_int : ∀ xs : List Int, intsOf (xs.map .int) = some xs
  | [] => rfl
  | x :: xs => by simp [intsOf, intsOf_int xs]
theorem sum_int (xs : List Int) : p1 .sum (.lst (xs.map .int)) = some (.int xs.sum) := by
  show ((seqOf (.lst (xs.map .int))).bind fun ds => (intsOf ds).map fun l => D.int l.sum) = _
  simp [intsOf_int]
theorem sum_intT (xs : List Int) : p1 .sum (.tup (xs.map .int)) = some (.int xs.sum) := by
  show ((seqOf (.tup (xs.map .int))).bind fun ds => (intsOf ds).map fun l => D.int l.sum) = _
  simp [intsOf_int]
theorem add_T {t u : D} {ds es : List D} (ht : IsT t ds) (hu : IsT u es) (h1 : ds ≠ []) (h2 : es ≠ []) (hl : ds.length + es.length ≤ sizeLine) : Rf.bin .add t u = some (.tup (ds ++ es)) := by
  have e1 : ds.isEmpty = false := by cases ds <;> simp_all
  have e2 : es.isEmpty = false := by cases es <;> simp_all
  rcases ht.or with rfl | rfl <;> rcases hu.or with rfl | rfl <;> simp only [Rf.bin, hl, if_true, e1, e2, Bool.false_eq_true, if_false]
theorem Sz.app {S S' : List Int} (h : Sz S) (h' : Sz S') (hl : S.length + S'.length ≤ 8) (hp : S.prod * S'.prod ≤ 20000) : Sz (S ++ S') :=
  ⟨fun e => h.ne (List.append_eq_nil_iff.mp e).1, by rw [List.length_append]; exact hl, fun s hs => (List.mem_append.mp hs).elim (h.it s) (h'.it s), by rw [List.prod_append]; exact hp⟩
theorem Sz.ne' {S : List Int} (h : Sz S) : S.map D.int ≠ [] := fun e => h.ne (List.map_eq_nil_iff.mp e)
/-- the number at a place -/
def gt (N : List Int) (x : Int) : Int := N.getD x.toNat 0
theorem gt_at {N : List Int} {x : Int} (h0 : 0 ≤ x) (h : x < N.length) : N[x.toNat]? = some (gt N x) := by
  have : x.toNat < N.length := by omega
  unfold gt
  rw [List.getD_eq_getElem?_getD, List.getElem?_eq_getElem this]; rfl
theorem gt_mem {N : List Int} {x : Int} (h0 : 0 ≤ x) (h : x < N.length) : gt N x ∈ N := List.mem_of_getElem? (gt_at h0 h)
/-- a thing whose items are these numbers -/
def ItN (t : D) (N : List Int) : Prop := ∀ x : Int, 0 ≤ x → x < N.length → item t (.int x) = some (.int (gt N x))
theorem atI_gt {N : List Int} {x : Int} (h0 : 0 ≤ x) (h : x < N.length) : L2.atI (N.map D.int) x = some (.int (gt N x)) := by
  have h1 := gt_at h0 h
  have : L2.atI (N.map D.int) ((x.toNat : Nat) : Int) = some (.int (gt N x)) := L2.atI_nat (by rw [List.getElem?_map, h1]; rfl)
  rwa [Int.toNat_of_nonneg h0] at this
theorem IsT.itn {t : D} {N : List Int} (h : IsT t (N.map .int)) : ItN t N := fun x h0 hx => by rw [h.it]; exact atI_gt h0 hx
theorem itn_lst {N : List Int} : ItN (.lst (N.map .int)) N := fun x h0 hx => by rw [item_lst_]; exact atI_gt h0 hx
theorem mapI {α : Type} (f : α → Int) (l : List α) : l.map (fun x => D.int (f x)) = (l.map f).map D.int := by simp
/-- the row at a place -/
theorem rws_at {S r : List Int} (h : ∀ s ∈ S, 0 ≤ s) (hl : r.length = S.length) (hr : ∀ (i : Nat) s n, S[i]? = some s → r[i]? = some n → 0 ≤ n ∧ n < s) : 0 ≤ plc S r 0 ∧ plc S r 0 < S.prod ∧ (rws S)[(plc S r 0).toNat]? = some r := by
  have hm : r ∈ rws S := by
    clear h
    induction S generalizing r with
    | nil => simp [rws]; exact List.eq_nil_of_length_eq_zero hl
    | cons s S ih =>
      cases r with
      | nil => simp at hl
      | cons n r =>
        have h0 := hr 0 s n rfl rfl
        simp only [rws, List.mem_flatMap, List.mem_map, List.mem_range]
        exact ⟨n.toNat, by omega, r, ih (by simpa using hl) fun i s' n' h1 h2 => hr (i + 1) s' n' (by simpa using h1) (by simpa using h2), by rw [Int.toNat_of_nonneg h0.1]⟩
  obtain ⟨i, hi, e⟩ := List.mem_iff_getElem.mp hm
  have hp := rws_plc h
  have h1 : ((rws S).map fun r => plc S r 0)[i]? = some (plc S r 0) := by rw [List.getElem?_map, List.getElem?_eq_getElem hi, e]; rfl
  rw [hp, List.getElem?_map, List.getElem?_range hi] at h1
  have h2 : (i : Int) = plc S r 0 := by simpa using h1
  have hl2 := rws_len h
  rw [← h2]
  refine ⟨by omega, by omega, ?_⟩
  rw [Int.toNat_natCast, List.getElem?_eq_getElem hi, e]
theorem gt_map {f : List Int → Int} {S r : List Int} (h : ∀ s ∈ S, 0 ≤ s) (hl : r.length = S.length) (hr : ∀ (i : Nat) s n, S[i]? = some s → r[i]? = some n → 0 ≤ n ∧ n < s) : gt ((rws S).map f) (plc S r 0) = f r := by
  obtain ⟨_, _, h3⟩ := rws_at h hl hr
  unfold gt
  rw [List.getD_eq_getElem?_getD, List.getElem?_map, h3]; rfl
theorem pair_ok {a b x y : Int} (hx : 0 ≤ x ∧ x < a) (hy : 0 ≤ y ∧ y < b) : ∀ (i : Nat) s n, [a, b][i]? = some s → [x, y][i]? = some n → 0 ≤ n ∧ n < s := fun i s n h1 h2 => by
  match i with
  | 0 => simp at h1 h2; subst h1 h2; exact hx
  | 1 => simp at h1 h2; subst h1 h2; exact hy
  | i + 2 => simp at h1
theorem zw_zip {α β γ : Type} (f : α → β → γ) : ∀ (l : List α) (r : List β), List.zipWith f l r = (l.zip r).map fun p => f p.1 p.2
  | [], _ => by simp
  | _ :: _, [] => by simp
  | a :: l, b :: r => by simp [zw_zip f l r]

theorem summed_ok {C : Calls} (hC : At C 6) {S W : List Int} {w : Int} (hS : Sz S) (w1 : 1 ≤ w) (w2 : w ≤ 12) {t m : D} (ht : IsT t (S.map .int)) (hm : IsT m (W.map .int)) :
    C.fn i_summed [t, .int w, m] = .ok (mc t w (.tpz (((rws S).map fun r => (List.zipWith (· * ·) W r).sum % w).map .int))) [] := by
  refine stepE T_summed rfl hC fun C hC => ?_
  have c1 := allrows_ok hC.le hS.fw ht
  have hlen := hS.fw.rws_le
  have hTb : Tb S w ((rws S).map fun r => (List.zipWith (· * ·) W r).sum % w) := ⟨by rw [List.length_map, rws_len hS.nn], fun x hx => by
    obtain ⟨r, _, rfl⟩ := List.mem_map.mp hx
    exact ⟨Int.emod_nonneg _ (by omega), Int.emod_lt_of_pos _ (by omega)⟩⟩
  have c4 := init_ok hC.le hS w1 w2 hTb ht (IsT.z (ds := ((rws S).map fun r => (List.zipWith (· * ·) W r).sum % w).map .int))
  have el := lc_it (C := C) (elt := lc_summed_1_e) (tg := .nm 4) (it := lc_summed_1_i) (cond := none) (own := [4]) (s := [Sl.sh t, .sh (.int w), .sh m, .sh (.lst ((rws S).map tI)), .no, .no, .no]) (s1 := [Sl.sh t, .sh (.int w), .sh m, .sh (.lst ((rws S).map tI)), .no, .no, .no]) (rws S) tI (fun r => .int ((List.zipWith (· * ·) W r).sum % w))
    (by simp [lc_summed_1_i, ss_nil, ss_cons, ev_cst, ev_var, ev_mov, ev_glob, ev_sh, ev_tup, ev_lst, ev_bin, ev_binv, ev_neg, ev_cmp, ev_cmpv, ev_chain, ev_and, ev_or, ev_not, ev_ite, ev_call, ev_p1, ev_p2, ev_isi, ev_sub, ev_subv, ev_slc, ev_slcv, ev_rev, ev_pop, ev_popAt, ev_dnew, ev_lrg, ev_idx, ev_cnt, ev_tupz, ev_nev, ev_mk, ev_fld, ev_isio, ev_cmpI, et_cmpI, ex_nev, ex_asg, ex_par, ex_aug, ex_setI, ex_augI, ex_app, ex_ext, ex_expr, ex_ret, ex_retN, ex_pass, ex_brk, ex_cnt, ex_ifS, ex_raise, ex_forS, ex_whl, evalV, evalT, evalEs, evalA, evalA1, evalO, evalC, evalI, enterE, slotR, ownR, ownC, setD, readR, moveR, outs, mapM, isTys_cons, isFreshF, L2.ixN, fillA, putA, putP]) (fun r hr => by
      obtain ⟨h1, h2⟩ := rws_mem hr
      have hrl : r.length ≤ 8 := by rw [h1]; exact hS.le
      have hz := zip_T (C := C) (a := .var 2) (b := .var 4) (s := [Sl.sh t, .sh (.int w), .sh m, .sh (.lst ((rws S).map tI)), .sh (tI r), .no, .no]) (s1 := [Sl.sh t, .sh (.int w), .sh m, .sh (.lst ((rws S).map tI)), .sh (tI r), .no, .no]) (s2 := [Sl.sh t, .sh (.int w), .sh m, .sh (.lst ((rws S).map tI)), .sh (tI r), .no, .no]) (by simp [ss_nil, ss_cons, ev_cst, ev_var, ev_mov, ev_glob, ev_sh, ev_tup, ev_lst, ev_bin, ev_binv, ev_neg, ev_cmp, ev_cmpv, ev_chain, ev_and, ev_or, ev_not, ev_ite, ev_call, ev_p1, ev_p2, ev_isi, ev_sub, ev_subv, ev_slc, ev_slcv, ev_rev, ev_pop, ev_popAt, ev_dnew, ev_lrg, ev_idx, ev_cnt, ev_tupz, ev_nev, ev_mk, ev_fld, ev_isio, ev_cmpI, et_cmpI, ex_nev, ex_asg, ex_par, ex_aug, ex_setI, ex_augI, ex_app, ex_ext, ex_expr, ex_ret, ex_retN, ex_pass, ex_brk, ex_cnt, ex_ifS, ex_raise, ex_forS, ex_whl, evalV, evalT, evalEs, evalA, evalA1, evalO, evalC, evalI, enterE, slotR, ownR, ownC, setD, readR, moveR, outs, mapM, isTys_cons, isFreshF, L2.ixN, fillA, putA, putP]) (by simp [ss_nil, ss_cons, ev_cst, ev_var, ev_mov, ev_glob, ev_sh, ev_tup, ev_lst, ev_bin, ev_binv, ev_neg, ev_cmp, ev_cmpv, ev_chain, ev_and, ev_or, ev_not, ev_ite, ev_call, ev_p1, ev_p2, ev_isi, ev_sub, ev_subv, ev_slc, ev_slcv, ev_rev, ev_pop, ev_popAt, ev_dnew, ev_lrg, ev_idx, ev_cnt, ev_tupz, ev_nev, ev_mk, ev_fld, ev_isio, ev_cmpI, et_cmpI, ex_nev, ex_asg, ex_par, ex_aug, ex_setI, ex_augI, ex_app, ex_ext, ex_expr, ex_ret, ex_retN, ex_pass, ex_brk, ex_cnt, ex_ifS, ex_raise, ex_forS, ex_whl, evalV, evalT, evalEs, evalA, evalA1, evalO, evalC, evalI, enterE, slotR, ownR, ownC, setD, readR, moveR, outs, mapM, isTys_cons, isFreshF, L2.ixN, fillA, putA, putP]) hm (IsT.t (ds := r.map .int))
      rw [List.zipWith_map, zw_zip] at hz
      have el2 := lc_it (C := C) (elt := lc_summed_2_e) (tg := .tp [.nm 5, .nm 6]) (it := lc_summed_2_i) (cond := none) (own := [5, 6]) (s := [Sl.sh t, .sh (.int w), .sh m, .sh (.lst ((rws S).map tI)), .sh (tI r), .no, .no]) (s1 := [Sl.sh t, .sh (.int w), .sh m, .sh (.lst ((rws S).map tI)), .sh (tI r), .no, .no]) (W.zip r) (fun p => .tup [.int p.1, .int p.2]) (fun p => .int (p.1 * p.2)) hz (fun p hp => by
        have hp2 := (List.of_mem_zip hp).2
        obtain ⟨i, hi, e⟩ := List.mem_iff_getElem.mp hp2
        have h3 : p.2.natAbs < 2 ^ 64 := by
          have hi2 : i < S.length := by omega
          have := h2 i S[i] p.2 (List.getElem?_eq_getElem hi2) (by rw [List.getElem?_eq_getElem hi, e])
          have := hS.it S[i] (List.getElem_mem hi2)
          omega
        simp [turn_w, lc_summed_2_e, ss_nil, ss_cons, ev_cst, ev_var, ev_mov, ev_glob, ev_sh, ev_tup, ev_lst, ev_bin, ev_binv, ev_neg, ev_cmp, ev_cmpv, ev_chain, ev_and, ev_or, ev_not, ev_ite, ev_call, ev_p1, ev_p2, ev_isi, ev_sub, ev_subv, ev_slc, ev_slcv, ev_rev, ev_pop, ev_popAt, ev_dnew, ev_lrg, ev_idx, ev_cnt, ev_tupz, ev_nev, ev_mk, ev_fld, ev_isio, ev_cmpI, et_cmpI, ex_nev, ex_asg, ex_par, ex_aug, ex_setI, ex_augI, ex_app, ex_ext, ex_expr, ex_ret, ex_retN, ex_pass, ex_brk, ex_cnt, ex_ifS, ex_raise, ex_forS, ex_whl, evalV, evalT, evalEs, evalA, evalA1, evalO, evalC, evalI, enterE, slotR, ownR, ownC, setD, readR, moveR, outs, mapM, isTys_cons, isFreshF, L2.ixN, fillA, putA, putP, wipeE, bin_mul (mulOk_r (a := p.1) h3)]) (len_s (m := 8) (by rw [List.length_zip]; omega))
      rw [mapI fun p : Int × Int => p.1 * p.2] at el2
      have e3 : (W.zip r).map (fun p => p.1 * p.2) = List.zipWith (· * ·) W r := by rw [zw_zip]
      rw [e3] at el2
      have el2 : evalE C lc_summed_2 _ = _ := el2
      simp only [wipeE, backE] at el2
      have hs := sum_int (List.zipWith (· * ·) W r)
      generalize List.zipWith (· * ·) W r = Z at *
      simp [backE] at el2
      simp [turn_w, lc_summed_1_e, ss_nil, ss_cons, ev_cst, ev_var, ev_mov, ev_glob, ev_sh, ev_tup, ev_lst, ev_bin, ev_binv, ev_neg, ev_cmp, ev_cmpv, ev_chain, ev_and, ev_or, ev_not, ev_ite, ev_call, ev_p1, ev_p2, ev_isi, ev_sub, ev_subv, ev_slc, ev_slcv, ev_rev, ev_pop, ev_popAt, ev_dnew, ev_lrg, ev_idx, ev_cnt, ev_tupz, ev_nev, ev_mk, ev_fld, ev_isio, ev_cmpI, et_cmpI, ex_nev, ex_asg, ex_par, ex_aug, ex_setI, ex_augI, ex_app, ex_ext, ex_expr, ex_ret, ex_retN, ex_pass, ex_brk, ex_cnt, ex_ifS, ex_raise, ex_forS, ex_whl, evalV, evalT, evalEs, evalA, evalA1, evalO, evalC, evalI, enterE, slotR, ownR, ownC, setD, readR, moveR, outs, mapM, isTys_cons, isFreshF, L2.ixN, fillA, putA, putP, wipeE, el2, hs, bin_mod (show 0 < w by omega)]) (len_s hlen)
  rw [mapI fun r : List Int => (List.zipWith (· * ·) W r).sum % w] at el
  have el : evalE C lc_summed_1 _ = _ := el
  generalize ((rws S).map fun r => (List.zipWith (· * ·) W r).sum % w) = Z at *
  simp [wipeE, backE] at el
  simp only [mc] at *
  have hc := ht.c
  have q : C.fr i_all_rows = false := fr_all_rows hC
  simp [f_summed, b_summed, ss_nil, ss_cons, ev_cst, ev_var, ev_mov, ev_glob, ev_sh, ev_tup, ev_lst, ev_bin, ev_binv, ev_neg, ev_cmp, ev_cmpv, ev_chain, ev_and, ev_or, ev_not, ev_ite, ev_call, ev_p1, ev_p2, ev_isi, ev_sub, ev_subv, ev_slc, ev_slcv, ev_rev, ev_pop, ev_popAt, ev_dnew, ev_lrg, ev_idx, ev_cnt, ev_tupz, ev_nev, ev_mk, ev_fld, ev_isio, ev_cmpI, et_cmpI, ex_nev, ex_asg, ex_par, ex_aug, ex_setI, ex_augI, ex_app, ex_ext, ex_expr, ex_ret, ex_retN, ex_pass, ex_brk, ex_cnt, ex_ifS, ex_raise, ex_forS, ex_whl, evalV, evalT, evalEs, evalA, evalA1, evalO, evalC, evalI, enterE, slotR, ownR, ownC, setD, readR, moveR, outs, mapM, isTys_cons, isFreshF, L2.ixN, fillA, putA, putP, c1, el, c4, q]
theorem sum_machine_ok {C : Calls} (hC : At C 7) {S W : List Int} {w : Int} (hS : Sz S) (w1 : 1 ≤ w) (w2 : w ≤ 12) {t m : D} (ht : IsT t (S.map .int)) (hm : IsT m (W.map .int)) (hW : W.length = S.length) :
    C.fn i_sum_machine [t, .int w, m] = .ok (mc t w (.tpz (((rws S).map fun r => (List.zipWith (· * ·) W r).sum % w).map .int))) [] := by
  refine stepE T_sum_machine rfl hC fun C hC => ?_
  have c1 := csizes_ok hC.le hS ht
  have c2 := cwide_ok hC.le w1 w2
  have c3 := summed_ok hC hS w1 w2 ht hm
  have h1 := hm.tu
  have h2 := hm.ln
  have h3 := ht.ln
  have hs := hm.sq
  have e := fun x => is_int_ok (hC.le : At C 1) x
  have hl8 := hS.le
  have el := lc_it (C := C) (elt := lc_sum_machine_1_e) (tg := .nm 3) (it := lc_sum_machine_1_i) (cond := none) (own := [3]) (s := [Sl.sh t, .sh (.int w), .sh m, .no]) (s1 := [Sl.sh t, .sh (.int w), .sh m, .no]) W D.int (fun x => .bl true)
    (by simp [lc_sum_machine_1_i, ss_nil, ss_cons, ev_cst, ev_var, ev_mov, ev_glob, ev_sh, ev_tup, ev_lst, ev_bin, ev_binv, ev_neg, ev_cmp, ev_cmpv, ev_chain, ev_and, ev_or, ev_not, ev_ite, ev_call, ev_p1, ev_p2, ev_isi, ev_sub, ev_subv, ev_slc, ev_slcv, ev_rev, ev_pop, ev_popAt, ev_dnew, ev_lrg, ev_idx, ev_cnt, ev_tupz, ev_nev, ev_mk, ev_fld, ev_isio, ev_cmpI, et_cmpI, ex_nev, ex_asg, ex_par, ex_aug, ex_setI, ex_augI, ex_app, ex_ext, ex_expr, ex_ret, ex_retN, ex_pass, ex_brk, ex_cnt, ex_ifS, ex_raise, ex_forS, ex_whl, evalV, evalT, evalEs, evalA, evalA1, evalO, evalC, evalI, enterE, slotR, ownR, ownC, setD, readR, moveR, outs, mapM, isTys_cons, isFreshF, L2.ixN, fillA, putA, putP, hs]) (fun x _ => by simp [turn_w, lc_sum_machine_1_e, ss_nil, ss_cons, ev_cst, ev_var, ev_mov, ev_glob, ev_sh, ev_tup, ev_lst, ev_bin, ev_binv, ev_neg, ev_cmp, ev_cmpv, ev_chain, ev_and, ev_or, ev_not, ev_ite, ev_call, ev_p1, ev_p2, ev_isi, ev_sub, ev_subv, ev_slc, ev_slcv, ev_rev, ev_pop, ev_popAt, ev_dnew, ev_lrg, ev_idx, ev_cnt, ev_tupz, ev_nev, ev_mk, ev_fld, ev_isio, ev_cmpI, et_cmpI, ex_nev, ex_asg, ex_par, ex_aug, ex_setI, ex_augI, ex_app, ex_ext, ex_expr, ex_ret, ex_retN, ex_pass, ex_brk, ex_cnt, ex_ifS, ex_raise, ex_forS, ex_whl, evalV, evalT, evalEs, evalA, evalA1, evalO, evalC, evalI, enterE, slotR, ownR, ownC, setD, readR, moveR, outs, mapM, isTys_cons, isFreshF, L2.ixN, fillA, putA, putP, wipeE, e x]) (len_s (m := 8) (by omega))
  have el : evalE C lc_sum_machine_1 _ = _ := el
  have ha : p1 .all (.lst (W.map fun _ => D.bl true)) = some (.bl true) := by rw [p1_all_map (fun _ => true)]; simp
  generalize (W.map fun _ => D.bl true) = Z at *
  generalize mc t w _ = M at *
  simp [wipeE, backE] at el
  simp [f_sum_machine, b_sum_machine, ss_nil, ss_cons, ev_cst, ev_var, ev_mov, ev_glob, ev_sh, ev_tup, ev_lst, ev_bin, ev_binv, ev_neg, ev_cmp, ev_cmpv, ev_chain, ev_and, ev_or, ev_not, ev_ite, ev_call, ev_p1, ev_p2, ev_isi, ev_sub, ev_subv, ev_slc, ev_slcv, ev_rev, ev_pop, ev_popAt, ev_dnew, ev_lrg, ev_idx, ev_cnt, ev_tupz, ev_nev, ev_mk, ev_fld, ev_isio, ev_cmpI, et_cmpI, ex_nev, ex_asg, ex_par, ex_aug, ex_setI, ex_augI, ex_app, ex_ext, ex_expr, ex_ret, ex_retN, ex_pass, ex_brk, ex_cnt, ex_ifS, ex_raise, ex_forS, ex_whl, evalV, evalT, evalEs, evalA, evalA1, evalO, evalC, evalI, enterE, slotR, ownR, ownC, setD, readR, moveR, outs, mapM, isTys_cons, isFreshF, L2.ixN, fillA, putA, putP, c1, c2, c3, h1, h2, h3, hW, el, ha]

/-! ### winners -/
structure IsRow (w : Int) (n : Nat) (xs : List Int) : Prop where
  len : xs.length = n
  lo : ∀ x ∈ xs, 0 ≤ x
  hi : ∀ x ∈ xs, x < w
def hor (w : Int) (xs : List Int) : Int := xs.foldl (fun a d => a * w + d) 0
theorem hor_snoc {w : Int} {xs : List Int} {i : Nat} {x : Int} (h : xs[i]? = some x) : hor w (xs.take (i + 1)) = hor w (xs.take i) * w + x := by
  unfold hor
  rw [List.take_add_one, h, List.foldl_append]; rfl
def won (w t : Int) (n : Nat) (xs : List Int) : D := if hor w xs < w ^ n / t * t then .int (hor w xs % t) else .non
theorem rowT_ok {C : Calls} (hC : At C 3) {w : Int} {n : Nat} {xs : List Int} (r : IsRow w n xs) (hl : n ≤ 1000) : C.fn i_is_row [.tup (xs.map .int), .int n, .int 0, .int (w - 1)] = .ok (.bl true) [] := by
  have e := is_row_ok hC (xs := xs) (n := n) (a := 0) (b := w - 1) (.t) (by rw [r.len]; omega)
  rw [e]
  have : (xs.all fun x => decide (0 ≤ x) && decide (x ≤ w - 1)) = true := by
    rw [List.all_eq_true]; intro x hx; have := r.lo x hx; have := r.hi x hx; simp; omega
  rw [this, r.len]; simp
theorem winner_ok {C : Calls} (hC : At C 6) {w t : Int} (h : Ok w t) {n : Nat} (dn : Dg w t n) {xs : List Int} (r : IsRow w n xs) : C.fn i_winner [.int w, .int t, .tup (xs.map .int)] = .ok (won w t n xs) [] := by
  refine stepE T_winner rfl hC fun C hC => ?_
  obtain ⟨m, dm, e⟩ := digits_of_ok hC.le h
  rw [dm.uniq dn] at e
  have hn := dn.small h
  have e1 := draw_chk hC.le h
  have e2 := rowT_ok hC.le r (by omega)
  have e3 := multiple_ok hC.le n h (by omega)
  have ht : 0 < t := by have := h.t1; omega
  have hw : w.natAbs < 2 ^ 64 := by have := h.w2; have := h.w12; omega
  simp [f_winner, b_winner, lp_winner_1_i, ss_nil, ss_cons, ev_cst, ev_var, ev_mov, ev_glob, ev_sh, ev_tup, ev_lst, ev_bin, ev_binv, ev_neg, ev_cmp, ev_cmpv, ev_chain, ev_and, ev_or, ev_not, ev_ite, ev_call, ev_p1, ev_p2, ev_isi, ev_sub, ev_subv, ev_slc, ev_slcv, ev_rev, ev_pop, ev_popAt, ev_dnew, ev_lrg, ev_idx, ev_cnt, ev_tupz, ev_nev, ev_mk, ev_fld, ev_isio, ev_cmpI, et_cmpI, ex_nev, ex_asg, ex_par, ex_aug, ex_setI, ex_augI, ex_app, ex_ext, ex_expr, ex_ret, ex_retN, ex_pass, ex_brk, ex_cnt, ex_ifS, ex_raise, ex_forS, ex_whl, evalV, evalT, evalEs, evalA, evalA1, evalO, evalC, evalI, enterE, slotR, ownR, ownC, setD, readR, moveR, outs, mapM, isTys_cons, isFreshF, L2.ixN, fillA, putA, putP, e, e1, e2]
  refine is_for (fun i s => ∃ sl, s = [Sl.sh (.int w), .sh (.int t), .sh (.tup (xs.map .int)), .sh (.int n), .sh (.int (hor w (xs.take i))), sl]) (fun _ _ => False) ⟨_, by simp [hor]; rfl⟩ ?_ ?_ (fun _ _ h => h.elim)
  · rintro i d hd s ⟨sl, rfl⟩
    rw [List.getElem?_map] at hd
    obtain ⟨x, hx', rfl⟩ := Option.map_eq_some_iff.mp hd
    simp [forB_eq, lp_winner_1_b, ss_nil, ss_cons, ev_cst, ev_var, ev_mov, ev_glob, ev_sh, ev_tup, ev_lst, ev_bin, ev_binv, ev_neg, ev_cmp, ev_cmpv, ev_chain, ev_and, ev_or, ev_not, ev_ite, ev_call, ev_p1, ev_p2, ev_isi, ev_sub, ev_subv, ev_slc, ev_slcv, ev_rev, ev_pop, ev_popAt, ev_dnew, ev_lrg, ev_idx, ev_cnt, ev_tupz, ev_nev, ev_mk, ev_fld, ev_isio, ev_cmpI, et_cmpI, ex_nev, ex_asg, ex_par, ex_aug, ex_setI, ex_augI, ex_app, ex_ext, ex_expr, ex_ret, ex_retN, ex_pass, ex_brk, ex_cnt, ex_ifS, ex_raise, ex_forS, ex_whl, evalV, evalT, evalEs, evalA, evalA1, evalO, evalC, evalI, enterE, slotR, ownR, ownC, setD, readR, moveR, outs, mapM, isTys_cons, isFreshF, L2.ixN, fillA, putA, putP, bin_mul (mulOk_r (a := hor w (xs.take i)) hw), hor_snoc hx']
  · rintro s ⟨sl, rfl⟩
    rw [List.length_map, List.take_length]
    unfold won
    by_cases hq : hor w xs < w ^ n / t * t <;> simp [ss_nil, ss_cons, ev_cst, ev_var, ev_mov, ev_glob, ev_sh, ev_tup, ev_lst, ev_bin, ev_binv, ev_neg, ev_cmp, ev_cmpv, ev_chain, ev_and, ev_or, ev_not, ev_ite, ev_call, ev_p1, ev_p2, ev_isi, ev_sub, ev_subv, ev_slc, ev_slcv, ev_rev, ev_pop, ev_popAt, ev_dnew, ev_lrg, ev_idx, ev_cnt, ev_tupz, ev_nev, ev_mk, ev_fld, ev_isio, ev_cmpI, et_cmpI, ex_nev, ex_asg, ex_par, ex_aug, ex_setI, ex_augI, ex_app, ex_ext, ex_expr, ex_ret, ex_retN, ex_pass, ex_brk, ex_cnt, ex_ifS, ex_raise, ex_forS, ex_whl, evalV, evalT, evalEs, evalA, evalA1, evalO, evalC, evalI, enterE, slotR, ownR, ownC, setD, readR, moveR, outs, mapM, isTys_cons, isFreshF, L2.ixN, fillA, putA, putP, e3, hq, bin_mod ht]
theorem lvalue_ok {C : Calls} (hC : At C 1) {w : Int} (hw : w.natAbs < 2 ^ 64) (xs : List Int) {t : D} (ht : seqOf t = some (xs.map .int)) : C.fn i__law_value [.int w, t] = .ok (.int (hor w xs)) [] := by
  refine stepE T__law_value rfl hC fun C hC => ?_
  simp [f__law_value, b__law_value, lp__law_value_1_i, ss_nil, ss_cons, ev_cst, ev_var, ev_mov, ev_glob, ev_sh, ev_tup, ev_lst, ev_bin, ev_binv, ev_neg, ev_cmp, ev_cmpv, ev_chain, ev_and, ev_or, ev_not, ev_ite, ev_call, ev_p1, ev_p2, ev_isi, ev_sub, ev_subv, ev_slc, ev_slcv, ev_rev, ev_pop, ev_popAt, ev_dnew, ev_lrg, ev_idx, ev_cnt, ev_tupz, ev_nev, ev_mk, ev_fld, ev_isio, ev_cmpI, et_cmpI, ex_nev, ex_asg, ex_par, ex_aug, ex_setI, ex_augI, ex_app, ex_ext, ex_expr, ex_ret, ex_retN, ex_pass, ex_brk, ex_cnt, ex_ifS, ex_raise, ex_forS, ex_whl, evalV, evalT, evalEs, evalA, evalA1, evalO, evalC, evalI, enterE, slotR, ownR, ownC, setD, readR, moveR, outs, mapM, isTys_cons, isFreshF, L2.ixN, fillA, putA, putP, ht]
  refine is_for (fun i s => ∃ sl, s = [Sl.sh (.int w), .sh t, .sh (.int (hor w (xs.take i))), sl]) (fun _ _ => False) ⟨_, by simp [hor]; rfl⟩ ?_ ?_ (fun _ _ h => h.elim)
  · rintro i d hd s ⟨sl, rfl⟩
    rw [List.getElem?_map] at hd
    obtain ⟨x, hx', rfl⟩ := Option.map_eq_some_iff.mp hd
    simp [forB_eq, lp__law_value_1_b, ss_nil, ss_cons, ev_cst, ev_var, ev_mov, ev_glob, ev_sh, ev_tup, ev_lst, ev_bin, ev_binv, ev_neg, ev_cmp, ev_cmpv, ev_chain, ev_and, ev_or, ev_not, ev_ite, ev_call, ev_p1, ev_p2, ev_isi, ev_sub, ev_subv, ev_slc, ev_slcv, ev_rev, ev_pop, ev_popAt, ev_dnew, ev_lrg, ev_idx, ev_cnt, ev_tupz, ev_nev, ev_mk, ev_fld, ev_isio, ev_cmpI, et_cmpI, ex_nev, ex_asg, ex_par, ex_aug, ex_setI, ex_augI, ex_app, ex_ext, ex_expr, ex_ret, ex_retN, ex_pass, ex_brk, ex_cnt, ex_ifS, ex_raise, ex_forS, ex_whl, evalV, evalT, evalEs, evalA, evalA1, evalO, evalC, evalI, enterE, slotR, ownR, ownC, setD, readR, moveR, outs, mapM, isTys_cons, isFreshF, L2.ixN, fillA, putA, putP, bin_mul (mulOk_r (a := hor w (xs.take i)) hw), hor_snoc hx']
  · rintro s ⟨sl, rfl⟩
    rw [List.length_map, List.take_length]
    simp [ss_nil, ss_cons, ev_cst, ev_var, ev_mov, ev_glob, ev_sh, ev_tup, ev_lst, ev_bin, ev_binv, ev_neg, ev_cmp, ev_cmpv, ev_chain, ev_and, ev_or, ev_not, ev_ite, ev_call, ev_p1, ev_p2, ev_isi, ev_sub, ev_subv, ev_slc, ev_slcv, ev_rev, ev_pop, ev_popAt, ev_dnew, ev_lrg, ev_idx, ev_cnt, ev_tupz, ev_nev, ev_mk, ev_fld, ev_isio, ev_cmpI, et_cmpI, ex_nev, ex_asg, ex_par, ex_aug, ex_setI, ex_augI, ex_app, ex_ext, ex_expr, ex_ret, ex_retN, ex_pass, ex_brk, ex_cnt, ex_ifS, ex_raise, ex_forS, ex_whl, evalV, evalT, evalEs, evalA, evalA1, evalO, evalC, evalI, enterE, slotR, ownR, ownC, setD, readR, moveR, outs, mapM, isTys_cons, isFreshF, L2.ixN, fillA, putA, putP]
theorem lround_ok {C : Calls} (hC : At C 3) {w t : Int} (h : Ok w t) {n : Nat} (dn : Dg w t n) : C.fn i__law_round [.int w, .int t] = .ok (.int (w ^ n / t * t)) [] := by
  refine stepE T__law_round rfl hC fun C hC => ?_
  obtain ⟨m, dm, e⟩ := ldigits_ok hC.le h
  rw [dm.uniq dn] at e
  have e1 := power_ok hC.le n (w := w) (by have := h.w2; have := h.w12; omega) (by have := dn.small h; omega)
  simp [f__law_round, b__law_round, ss_nil, ss_cons, ev_cst, ev_var, ev_mov, ev_glob, ev_sh, ev_tup, ev_lst, ev_bin, ev_binv, ev_neg, ev_cmp, ev_cmpv, ev_chain, ev_and, ev_or, ev_not, ev_ite, ev_call, ev_p1, ev_p2, ev_isi, ev_sub, ev_subv, ev_slc, ev_slcv, ev_rev, ev_pop, ev_popAt, ev_dnew, ev_lrg, ev_idx, ev_cnt, ev_tupz, ev_nev, ev_mk, ev_fld, ev_isio, ev_cmpI, et_cmpI, ex_nev, ex_asg, ex_par, ex_aug, ex_setI, ex_augI, ex_app, ex_ext, ex_expr, ex_ret, ex_retN, ex_pass, ex_brk, ex_cnt, ex_ifS, ex_raise, ex_forS, ex_whl, evalV, evalT, evalEs, evalA, evalA1, evalO, evalC, evalI, enterE, slotR, ownR, ownC, setD, readR, moveR, outs, mapM, isTys_cons, isFreshF, L2.ixN, fillA, putA, putP, e, e1, bin_fdiv (div_t h), bin_mul (mul_t h _)]
theorem lwon_ok {C : Calls} (hC : At C 4) {w t : Int} (h : Ok w t) {n : Nat} (dn : Dg w t n) (xs : List Int) {u : D} (hu : seqOf u = some (xs.map .int)) : C.fn i__law_won [.int w, .int t, u] = .ok (won w t n xs) [] := by
  refine stepE T__law_won rfl hC fun C hC => ?_
  have hw : w.natAbs < 2 ^ 64 := by have := h.w2; have := h.w12; omega
  have e := lvalue_ok hC.le hw xs hu
  have e1 := lround_ok hC h dn
  have ht : 0 < t := by have := h.t1; omega
  unfold won
  by_cases hq : hor w xs < w ^ n / t * t <;> simp [f__law_won, b__law_won, ss_nil, ss_cons, ev_cst, ev_var, ev_mov, ev_glob, ev_sh, ev_tup, ev_lst, ev_bin, ev_binv, ev_neg, ev_cmp, ev_cmpv, ev_chain, ev_and, ev_or, ev_not, ev_ite, ev_call, ev_p1, ev_p2, ev_isi, ev_sub, ev_subv, ev_slc, ev_slcv, ev_rev, ev_pop, ev_popAt, ev_dnew, ev_lrg, ev_idx, ev_cnt, ev_tupz, ev_nev, ev_mk, ev_fld, ev_isio, ev_cmpI, et_cmpI, ex_nev, ex_asg, ex_par, ex_aug, ex_setI, ex_augI, ex_app, ex_ext, ex_expr, ex_ret, ex_retN, ex_pass, ex_brk, ex_cnt, ex_ifS, ex_raise, ex_forS, ex_whl, evalV, evalT, evalEs, evalA, evalA1, evalO, evalC, evalI, enterE, slotR, ownR, ownC, setD, readR, moveR, outs, mapM, isTys_cons, isFreshF, L2.ixN, fillA, putA, putP, e, e1, hq, bin_mod ht]
theorem round_ok {C : Calls} (hC : At C 5) {w t : Int} (h : Ok w t) {n : Nat} (dn : Dg w t n) : C.fn i_round_of [.int w, .int t] = .ok (.int (w ^ n / t * t)) [] := by
  refine stepE T_round_of rfl hC fun C hC => ?_
  obtain ⟨m, dm, e⟩ := digits_of_ok hC.le h
  rw [dm.uniq dn] at e
  have e1 := draw_chk hC.le h
  have e3 := multiple_ok hC.le n h (by have := dn.small h; omega)
  simp [f_round_of, b_round_of, ss_nil, ss_cons, ev_cst, ev_var, ev_mov, ev_glob, ev_sh, ev_tup, ev_lst, ev_bin, ev_binv, ev_neg, ev_cmp, ev_cmpv, ev_chain, ev_and, ev_or, ev_not, ev_ite, ev_call, ev_p1, ev_p2, ev_isi, ev_sub, ev_subv, ev_slc, ev_slcv, ev_rev, ev_pop, ev_popAt, ev_dnew, ev_lrg, ev_idx, ev_cnt, ev_tupz, ev_nev, ev_mk, ev_fld, ev_isio, ev_cmpI, et_cmpI, ex_nev, ex_asg, ex_par, ex_aug, ex_setI, ex_augI, ex_app, ex_ext, ex_expr, ex_ret, ex_retN, ex_pass, ex_brk, ex_cnt, ex_ifS, ex_raise, ex_forS, ex_whl, evalV, evalT, evalEs, evalA, evalA1, evalO, evalC, evalI, enterE, slotR, ownR, ownC, setD, readR, moveR, outs, mapM, isTys_cons, isFreshF, L2.ixN, fillA, putA, putP, e, e1, e3]

/-! ### the law's all rows -/
theorem rwx_snoc {f : List (List Int)} {s : Int} {i : Nat} {r : List Int} (h : f[i]? = some r) : rwx (f.take (i + 1)) s = rwx (f.take i) s ++ (List.range s.toNat).map fun (n : Nat) => r ++ [(n : Int)] := by
  unfold rwx
  rw [List.take_add_one, h, List.flatMap_append]
  simp
theorem rwx_rep (n : Nat) (w : Int) : rws (List.replicate (n + 1) w) = rwx (rws (List.replicate n w)) w := by
  rw [rws_fold, rws_fold, List.replicate_succ', List.foldl_append]; rfl
theorem rwx_len (f : List (List Int)) (s : Int) : (rwx f s).length = f.length * s.toNat := by
  unfold rwx
  rw [List.length_flatMap]
  simp only [List.length_map, List.length_range]
  exact sum_same _ _
theorem fw_rep {w : Int} {n : Nat} (h1 : 1 ≤ w) (h2 : w ^ n ≤ 1000000) (h3 : n ≤ 1000) : Fw (List.replicate n w) := ⟨fun s hs => by rw [(List.mem_replicate.mp hs).2]; exact h1, by rw [List.prod_replicate_int]; exact h2, by rw [List.length_replicate]; exact h3⟩
theorem lrows_ok {C : Calls} (hC : At C 1) {w : Int} {n : Nat} (w1 : 2 ≤ w) (w2 : w ≤ 12) (h2 : w ^ n ≤ 1000000) (h3 : n ≤ 1000) : C.fn i__law_all_rows [.int w, .int n] = .ok (.lst ((rws (List.replicate n w)).map tI)) [] := by
  have hlen : ∀ i ≤ n, (rws (List.replicate i w)).length ≤ 1000000 := fun i hi => (fw_rep (by omega) (Int.le_trans (ipow_mono (by omega) hi) h2) (by omega)).rws_le
  refine stepE T__law_all_rows rfl hC fun C hC => ?_
  have hr : ∀ a b c d e : Sl, evalI C lp__law_all_rows_1_i [Sl.sh (.int w), .sh (.int n), a, b, c, d, e] = .ok (rangeD 0 n) [Sl.sh (.int w), .sh (.int n), a, b, c, d, e] := fun a b c d e => rng1_ok (by simp [ss_nil, ss_cons, ev_cst, ev_var, ev_mov, ev_glob, ev_sh, ev_tup, ev_lst, ev_bin, ev_binv, ev_neg, ev_cmp, ev_cmpv, ev_chain, ev_and, ev_or, ev_not, ev_ite, ev_call, ev_p1, ev_p2, ev_isi, ev_sub, ev_subv, ev_slc, ev_slcv, ev_rev, ev_pop, ev_popAt, ev_dnew, ev_lrg, ev_idx, ev_cnt, ev_tupz, ev_nev, ev_mk, ev_fld, ev_isio, ev_cmpI, et_cmpI, ex_nev, ex_asg, ex_par, ex_aug, ex_setI, ex_augI, ex_app, ex_ext, ex_expr, ex_ret, ex_retN, ex_pass, ex_brk, ex_cnt, ex_ifS, ex_raise, ex_forS, ex_whl, evalV, evalT, evalEs, evalA, evalA1, evalO, evalC, evalI, enterE, slotR, ownR, ownC, setD, readR, moveR, outs, mapM, isTys_cons, isFreshF, L2.ixN, fillA, putA, putP]) (by omega)
  simp [f__law_all_rows, b__law_all_rows, ss_nil, ss_cons, ev_cst, ev_var, ev_mov, ev_glob, ev_sh, ev_tup, ev_lst, ev_bin, ev_binv, ev_neg, ev_cmp, ev_cmpv, ev_chain, ev_and, ev_or, ev_not, ev_ite, ev_call, ev_p1, ev_p2, ev_isi, ev_sub, ev_subv, ev_slc, ev_slcv, ev_rev, ev_pop, ev_popAt, ev_dnew, ev_lrg, ev_idx, ev_cnt, ev_tupz, ev_nev, ev_mk, ev_fld, ev_isio, ev_cmpI, et_cmpI, ex_nev, ex_asg, ex_par, ex_aug, ex_setI, ex_augI, ex_app, ex_ext, ex_expr, ex_ret, ex_retN, ex_pass, ex_brk, ex_cnt, ex_ifS, ex_raise, ex_forS, ex_whl, evalV, evalT, evalEs, evalA, evalA1, evalO, evalC, evalI, enterE, slotR, ownR, ownC, setD, readR, moveR, outs, mapM, isTys_cons, isFreshF, L2.ixN, fillA, putA, putP, hr]
  refine is_for (fun i s => ∃ a b c, s = [Sl.sh (.int w), .sh (.int n), .sh (.lst ((rws (List.replicate i w)).map tI)), a, b, c, .no]) (fun _ _ => False) ⟨.no, .no, .no, by simp [rws]⟩ ?_ ?_ (fun _ _ h => h.elim)
  · rintro i d hd s ⟨a, b, c, rfl⟩
    obtain ⟨rfl, hi⟩ := range_at hd
    have hl := hlen (i + 1) (by omega)
    rw [rwx_rep]
    rw [rwx_rep] at hl
    have hrow : ∀ r ∈ rws (List.replicate i w), r.length ≤ 1000 := fun r hr => by rw [(rws_mem hr).1, List.length_replicate]; omega
    generalize rws (List.replicate i w) = R at *
    simp [forB_eq, lp__law_all_rows_1_b, lp__law_all_rows_2_i, ss_nil, ss_cons, ev_cst, ev_var, ev_mov, ev_glob, ev_sh, ev_tup, ev_lst, ev_bin, ev_binv, ev_neg, ev_cmp, ev_cmpv, ev_chain, ev_and, ev_or, ev_not, ev_ite, ev_call, ev_p1, ev_p2, ev_isi, ev_sub, ev_subv, ev_slc, ev_slcv, ev_rev, ev_pop, ev_popAt, ev_dnew, ev_lrg, ev_idx, ev_cnt, ev_tupz, ev_nev, ev_mk, ev_fld, ev_isio, ev_cmpI, et_cmpI, ex_nev, ex_asg, ex_par, ex_aug, ex_setI, ex_augI, ex_app, ex_ext, ex_expr, ex_ret, ex_retN, ex_pass, ex_brk, ex_cnt, ex_ifS, ex_raise, ex_forS, ex_whl, evalV, evalT, evalEs, evalA, evalA1, evalO, evalC, evalI, enterE, slotR, ownR, ownC, setD, readR, moveR, outs, mapM, isTys_cons, isFreshF, L2.ixN, fillA, putA, putP]
    refine w_for (fun j s => ∃ c, s = [Sl.sh (.int w), .sh (.int n), .sh (.lst (R.map tI)), .sh (.int i), .ow (.lst ((rwx (R.take j) w).map tI)), c, .no]) (fun _ _ => False) ⟨c, by simp [rwx]⟩ ?_ ?_ (fun _ _ h => h)
    · rintro j d hd s ⟨c, rfl⟩
      rw [List.getElem?_map] at hd
      obtain ⟨r, hr, rfl⟩ := Option.map_eq_some_iff.mp hd
      have hle := hrow r (List.mem_of_getElem? hr)
      have e1 := rwx_len (R.take (j + 1)) w
      rw [rwx_len] at hl
      have e2 := Nat.mul_le_mul_right w.toNat (show (R.take (j + 1)).length ≤ R.length by rw [List.length_take]; omega)
      rw [rwx_snoc hr] at e1 ⊢
      rw [List.length_append, List.length_map, List.length_range] at e1
      generalize rwx (R.take j) w = B at *
      have hr1 : evalI C lc__law_all_rows_1_i [Sl.sh (.int w), .sh (.int n), .sh (.lst (R.map tI)), .sh (.int i), .ow (.lst (B.map tI)), .sh (tI r), .no] = .ok (rangeD 0 w.toNat) [Sl.sh (.int w), .sh (.int n), .sh (.lst (R.map tI)), .sh (.int i), .ow (.lst (B.map tI)), .sh (tI r), .no] := rng1_ok (n := w.toNat) (by simp [ss_nil, ss_cons, ev_cst, ev_var, ev_mov, ev_glob, ev_sh, ev_tup, ev_lst, ev_bin, ev_binv, ev_neg, ev_cmp, ev_cmpv, ev_chain, ev_and, ev_or, ev_not, ev_ite, ev_call, ev_p1, ev_p2, ev_isi, ev_sub, ev_subv, ev_slc, ev_slcv, ev_rev, ev_pop, ev_popAt, ev_dnew, ev_lrg, ev_idx, ev_cnt, ev_tupz, ev_nev, ev_mk, ev_fld, ev_isio, ev_cmpI, et_cmpI, ex_nev, ex_asg, ex_par, ex_aug, ex_setI, ex_augI, ex_app, ex_ext, ex_expr, ex_ret, ex_retN, ex_pass, ex_brk, ex_cnt, ex_ifS, ex_raise, ex_forS, ex_whl, evalV, evalT, evalEs, evalA, evalA1, evalO, evalC, evalI, enterE, slotR, ownR, ownC, setD, readR, moveR, outs, mapM, isTys_cons, isFreshF, L2.ixN, fillA, putA, putP]; omega) (by omega)
      rw [Rf.range_map] at hr1
      have el := lc_it (C := C) (elt := lc__law_all_rows_1_e) (tg := .nm 6) (cond := none) (own := [6]) _ _ (fun (m : Nat) => tI (r ++ [(m : Int)])) hr1 (fun m hm => by
        have cat := bin_catT (ds := r.map D.int) (es := [D.int (m : Nat)]) (by simp; exact len_s (n := r.length + 1) (m := 1001) (by omega))
        simp [turn_w, lc__law_all_rows_1_e, ss_nil, ss_cons, ev_cst, ev_var, ev_mov, ev_glob, ev_sh, ev_tup, ev_lst, ev_bin, ev_binv, ev_neg, ev_cmp, ev_cmpv, ev_chain, ev_and, ev_or, ev_not, ev_ite, ev_call, ev_p1, ev_p2, ev_isi, ev_sub, ev_subv, ev_slc, ev_slcv, ev_rev, ev_pop, ev_popAt, ev_dnew, ev_lrg, ev_idx, ev_cnt, ev_tupz, ev_nev, ev_mk, ev_fld, ev_isio, ev_cmpI, et_cmpI, ex_nev, ex_asg, ex_par, ex_aug, ex_setI, ex_augI, ex_app, ex_ext, ex_expr, ex_ret, ex_retN, ex_pass, ex_brk, ex_cnt, ex_ifS, ex_raise, ex_forS, ex_whl, evalV, evalT, evalEs, evalA, evalA1, evalO, evalC, evalI, enterE, slotR, ownR, ownC, setD, readR, moveR, outs, mapM, isTys_cons, isFreshF, L2.ixN, fillA, putA, putP, wipeE, cat]) (by rw [List.length_range]; exact len_s (m := 12) (by omega))
      have el : evalE C lc__law_all_rows_1 _ = _ := el
      have e6 : B.map tI ++ (List.range w.toNat).map (fun (m : Nat) => tI (r ++ [(m : Int)])) = (B ++ (List.range w.toNat).map fun (m : Nat) => r ++ [(m : Int)]).map tI := by rw [List.map_append, List.map_map]; rfl
      have hz : ((List.range w.toNat).map fun (m : Nat) => tI (r ++ [(m : Int)])).length = w.toNat := by rw [List.length_map, List.length_range]
      generalize ((List.range w.toNat).map fun (m : Nat) => tI (r ++ [(m : Int)])) = Z at *
      rw [← e6]
      have h4 : B.length + w.toNat ≤ sizeLine := len_s (m := 1000000) (by omega)
      simp [wipeE, backE] at el
      simp [forB_eq, lp__law_all_rows_2_b, ss_nil, ss_cons, ev_cst, ev_var, ev_mov, ev_glob, ev_sh, ev_tup, ev_lst, ev_bin, ev_binv, ev_neg, ev_cmp, ev_cmpv, ev_chain, ev_and, ev_or, ev_not, ev_ite, ev_call, ev_p1, ev_p2, ev_isi, ev_sub, ev_subv, ev_slc, ev_slcv, ev_rev, ev_pop, ev_popAt, ev_dnew, ev_lrg, ev_idx, ev_cnt, ev_tupz, ev_nev, ev_mk, ev_fld, ev_isio, ev_cmpI, et_cmpI, ex_nev, ex_asg, ex_par, ex_aug, ex_setI, ex_augI, ex_app, ex_ext, ex_expr, ex_ret, ex_retN, ex_pass, ex_brk, ex_cnt, ex_ifS, ex_raise, ex_forS, ex_whl, evalV, evalT, evalEs, evalA, evalA1, evalO, evalC, evalI, enterE, slotR, ownR, ownC, setD, readR, moveR, outs, mapM, isTys_cons, isFreshF, L2.ixN, fillA, putA, putP, el, hz, h4]
    · rintro s ⟨c, rfl⟩
      rw [List.length_map, List.take_length]
      simp [ss_nil, ss_cons, ev_cst, ev_var, ev_mov, ev_glob, ev_sh, ev_tup, ev_lst, ev_bin, ev_binv, ev_neg, ev_cmp, ev_cmpv, ev_chain, ev_and, ev_or, ev_not, ev_ite, ev_call, ev_p1, ev_p2, ev_isi, ev_sub, ev_subv, ev_slc, ev_slcv, ev_rev, ev_pop, ev_popAt, ev_dnew, ev_lrg, ev_idx, ev_cnt, ev_tupz, ev_nev, ev_mk, ev_fld, ev_isio, ev_cmpI, et_cmpI, ex_nev, ex_asg, ex_par, ex_aug, ex_setI, ex_augI, ex_app, ex_ext, ex_expr, ex_ret, ex_retN, ex_pass, ex_brk, ex_cnt, ex_ifS, ex_raise, ex_forS, ex_whl, evalV, evalT, evalEs, evalA, evalA1, evalO, evalC, evalI, enterE, slotR, ownR, ownC, setD, readR, moveR, outs, mapM, isTys_cons, isFreshF, L2.ixN, fillA, putA, putP]
  · rw [range_len]
    rintro s ⟨a, b, c, rfl⟩
    simp [ss_nil, ss_cons, ev_cst, ev_var, ev_mov, ev_glob, ev_sh, ev_tup, ev_lst, ev_bin, ev_binv, ev_neg, ev_cmp, ev_cmpv, ev_chain, ev_and, ev_or, ev_not, ev_ite, ev_call, ev_p1, ev_p2, ev_isi, ev_sub, ev_subv, ev_slc, ev_slcv, ev_rev, ev_pop, ev_popAt, ev_dnew, ev_lrg, ev_idx, ev_cnt, ev_tupz, ev_nev, ev_mk, ev_fld, ev_isio, ev_cmpI, et_cmpI, ex_nev, ex_asg, ex_par, ex_aug, ex_setI, ex_augI, ex_app, ex_ext, ex_expr, ex_ret, ex_retN, ex_pass, ex_brk, ex_cnt, ex_ifS, ex_raise, ex_forS, ex_whl, evalV, evalT, evalEs, evalA, evalA1, evalO, evalC, evalI, enterE, slotR, ownR, ownC, setD, readR, moveR, outs, mapM, isTys_cons, isFreshF, L2.ixN, fillA, putA, putP]

/-! ### sales and owners -/
theorem lsales_ok {C : Calls} (hC : At C 4) (h : Hand) {m : Int} (m1 : 1 ≤ m) (m2 : m ≤ 100) : ∃ xs h', C.fn i__law_sales [hd h, .int m] = .ok (.tup (xs.map .int)) [hd h'] ∧ Sal xs ∧ xs.sum ≤ m := by
  have key : (C.fn i__law_sales [hd h, .int m]).is fun d o => ∃ xs h', d = .tup (xs.map .int) ∧ o = [hd h'] ∧ Sal xs ∧ xs.sum ≤ m := by
    refine stepI T__law_sales rfl hC fun C hC => ?_
    have d5 := draw_s hC.le h (b := 5) (by decide) (by decide)
    have b1 := dv_ge h (b := 5) (by decide)
    have b2 := dv_lt h (b := 5) (by decide)
    obtain ⟨n, hn⟩ := Int.eq_ofNat_of_zero_le (show 0 ≤ 1 + dv h 5 by omega)
    have hi : evalI C lp__law_sales_1_i [Sl.ow (hd h), .sh (.int m), .ow (.lst []), .no] = .ok (rangeD 0 n) [Sl.ow (hd (dn h 5)), .sh (.int m), .ow (.lst []), .no] := rng1_ok (by simp [ss_nil, ss_cons, ev_cst, ev_var, ev_mov, ev_glob, ev_sh, ev_tup, ev_lst, ev_bin, ev_binv, ev_neg, ev_cmp, ev_cmpv, ev_chain, ev_and, ev_or, ev_not, ev_ite, ev_call, ev_p1, ev_p2, ev_isi, ev_sub, ev_subv, ev_slc, ev_slcv, ev_rev, ev_pop, ev_popAt, ev_dnew, ev_lrg, ev_idx, ev_cnt, ev_tupz, ev_nev, ev_mk, ev_fld, ev_isio, ev_cmpI, et_cmpI, ex_nev, ex_asg, ex_par, ex_aug, ex_setI, ex_augI, ex_app, ex_ext, ex_expr, ex_ret, ex_retN, ex_pass, ex_brk, ex_cnt, ex_ifS, ex_raise, ex_forS, ex_whl, evalV, evalT, evalEs, evalA, evalA1, evalO, evalC, evalI, enterE, slotR, ownR, ownC, setD, readR, moveR, outs, mapM, isTys_cons, isFreshF, L2.ixN, fillA, putA, putP, d5, hn]) (by omega)
    simp [f__law_sales, b__law_sales, ss_nil, ss_cons, ev_cst, ev_var, ev_mov, ev_glob, ev_sh, ev_tup, ev_lst, ev_bin, ev_binv, ev_neg, ev_cmp, ev_cmpv, ev_chain, ev_and, ev_or, ev_not, ev_ite, ev_call, ev_p1, ev_p2, ev_isi, ev_sub, ev_subv, ev_slc, ev_slcv, ev_rev, ev_pop, ev_popAt, ev_dnew, ev_lrg, ev_idx, ev_cnt, ev_tupz, ev_nev, ev_mk, ev_fld, ev_isio, ev_cmpI, et_cmpI, ex_nev, ex_asg, ex_par, ex_aug, ex_setI, ex_augI, ex_app, ex_ext, ex_expr, ex_ret, ex_retN, ex_pass, ex_brk, ex_cnt, ex_ifS, ex_raise, ex_forS, ex_whl, evalV, evalT, evalEs, evalA, evalA1, evalO, evalC, evalI, enterE, slotR, ownR, ownC, setD, readR, moveR, outs, mapM, isTys_cons, isFreshF, L2.ixN, fillA, putA, putP, hi]
    refine is_for (fun i s => ∃ h xs a, s = [Sl.ow (hd h), .sh (.int m), .ow (.lst (xs.map .int)), a] ∧ xs.length ≤ i ∧ (1 ≤ i → 1 ≤ xs.length) ∧ (∀ x ∈ xs, 1 ≤ x) ∧ xs.sum ≤ m) (fun _ _ => False) ⟨_, [], .no, rfl, by simp, by simp, by simp, by simp; omega⟩ ?_ ?_ (fun _ _ h => h.elim)
    · rintro i d hd s ⟨h, xs, a, rfl, hl, hz, hp, hs⟩
      obtain ⟨rfl, hi⟩ := range_at hd
      have es := p1_sum_l xs
      by_cases hq : xs.sum < m
      · have dd := draw_s hC.le h (b := m - xs.sum) (by omega) (by have := sum_nonneg (ys := xs) fun y hy => by have := hp y hy; omega
                                                                   omega)
        have v1 := dv_ge h (b := m - xs.sum) (by omega)
        have v2 := dv_lt h (b := m - xs.sum) (by omega)
        have len : xs.length < sizeLine := len_l (show xs.length ≤ 100 by omega)
        simp [forB_eq, lp__law_sales_1_b, ss_nil, ss_cons, ev_cst, ev_var, ev_mov, ev_glob, ev_sh, ev_tup, ev_lst, ev_bin, ev_binv, ev_neg, ev_cmp, ev_cmpv, ev_chain, ev_and, ev_or, ev_not, ev_ite, ev_call, ev_p1, ev_p2, ev_isi, ev_sub, ev_subv, ev_slc, ev_slcv, ev_rev, ev_pop, ev_popAt, ev_dnew, ev_lrg, ev_idx, ev_cnt, ev_tupz, ev_nev, ev_mk, ev_fld, ev_isio, ev_cmpI, et_cmpI, ex_nev, ex_asg, ex_par, ex_aug, ex_setI, ex_augI, ex_app, ex_ext, ex_expr, ex_ret, ex_retN, ex_pass, ex_brk, ex_cnt, ex_ifS, ex_raise, ex_forS, ex_whl, evalV, evalT, evalEs, evalA, evalA1, evalO, evalC, evalI, enterE, slotR, ownR, ownC, setD, readR, moveR, outs, mapM, isTys_cons, isFreshF, L2.ixN, fillA, putA, putP, es, hq, dd, len]
        refine ⟨_, xs ++ [1 + dv h (m - xs.sum)], ⟨rfl, by simp⟩, by simp; omega, by simp, fun x hx => ?_, by rw [List.sum_append]; simp; omega⟩
        rcases List.mem_append.mp hx with hx | hx
        · exact hp x hx
        · rw [List.mem_singleton] at hx; omega
      · simp [forB_eq, lp__law_sales_1_b, ss_nil, ss_cons, ev_cst, ev_var, ev_mov, ev_glob, ev_sh, ev_tup, ev_lst, ev_bin, ev_binv, ev_neg, ev_cmp, ev_cmpv, ev_chain, ev_and, ev_or, ev_not, ev_ite, ev_call, ev_p1, ev_p2, ev_isi, ev_sub, ev_subv, ev_slc, ev_slcv, ev_rev, ev_pop, ev_popAt, ev_dnew, ev_lrg, ev_idx, ev_cnt, ev_tupz, ev_nev, ev_mk, ev_fld, ev_isio, ev_cmpI, et_cmpI, ex_nev, ex_asg, ex_par, ex_aug, ex_setI, ex_augI, ex_app, ex_ext, ex_expr, ex_ret, ex_retN, ex_pass, ex_brk, ex_cnt, ex_ifS, ex_raise, ex_forS, ex_whl, evalV, evalT, evalEs, evalA, evalA1, evalO, evalC, evalI, enterE, slotR, ownR, ownC, setD, readR, moveR, outs, mapM, isTys_cons, isFreshF, L2.ixN, fillA, putA, putP, es, hq]
        refine ⟨_, xs, ⟨rfl, rfl⟩, by omega, ?_, hp, hs⟩
        rcases xs with _ | ⟨x, xs⟩
        · simp at hq; omega
        · simp
    · rw [range_len]
      rintro s ⟨h, xs, a, rfl, hl, hz, hp, hs⟩
      simp [ss_nil, ss_cons, ev_cst, ev_var, ev_mov, ev_glob, ev_sh, ev_tup, ev_lst, ev_bin, ev_binv, ev_neg, ev_cmp, ev_cmpv, ev_chain, ev_and, ev_or, ev_not, ev_ite, ev_call, ev_p1, ev_p2, ev_isi, ev_sub, ev_subv, ev_slc, ev_slcv, ev_rev, ev_pop, ev_popAt, ev_dnew, ev_lrg, ev_idx, ev_cnt, ev_tupz, ev_nev, ev_mk, ev_fld, ev_isio, ev_cmpI, et_cmpI, ex_nev, ex_asg, ex_par, ex_aug, ex_setI, ex_augI, ex_app, ex_ext, ex_expr, ex_ret, ex_retN, ex_pass, ex_brk, ex_cnt, ex_ifS, ex_raise, ex_forS, ex_whl, evalV, evalT, evalEs, evalA, evalA1, evalO, evalC, evalI, enterE, slotR, ownR, ownC, setD, readR, moveR, outs, mapM, isTys_cons, isFreshF, L2.ixN, fillA, putA, putP]
      refine ⟨xs, rfl, ⟨by omega, by omega, hp, fun x hx => ?_⟩, hs⟩
      obtain ⟨l, r, rfl⟩ := List.append_of_mem hx
      have h1 := sum_nonneg (ys := l) fun y hy => by have := hp y (by simp [hy]); omega
      have h2 := sum_nonneg (ys := r) fun y hy => by have := hp y (by simp [hy]); omega
      rw [List.sum_append, List.sum_cons] at hs
      omega
  obtain ⟨d, o, e, xs, h', rfl, rfl, hh⟩ := key.out
  exact ⟨xs, h', e, hh⟩
theorem owner_ok {C : Calls} (hC : At C 1) {xs : List Int} (h20 : xs.length ≤ 20) {t : Int} (h0 : 0 ≤ t) (h1 : t < xs.sum) : C.fn i__law_owner [.tup (xs.map .int), .int t] = .ok (.int (bo xs t)) [] := by
  refine stepE T__law_owner rfl hC fun C hC => ?_
  have hi : evalI C lp__law_owner_1_i [Sl.sh (.tup (xs.map .int)), .sh (.int t), .no, .no] = .ok (enumD 0 (xs.map .int)) [Sl.sh (.tup (xs.map .int)), .sh (.int t), .no, .no] := enum_T (by simp [ss_nil, ss_cons, ev_cst, ev_var, ev_mov, ev_glob, ev_sh, ev_tup, ev_lst, ev_bin, ev_binv, ev_neg, ev_cmp, ev_cmpv, ev_chain, ev_and, ev_or, ev_not, ev_ite, ev_call, ev_p1, ev_p2, ev_isi, ev_sub, ev_subv, ev_slc, ev_slcv, ev_rev, ev_pop, ev_popAt, ev_dnew, ev_lrg, ev_idx, ev_cnt, ev_tupz, ev_nev, ev_mk, ev_fld, ev_isio, ev_cmpI, et_cmpI, ex_nev, ex_asg, ex_par, ex_aug, ex_setI, ex_augI, ex_app, ex_ext, ex_expr, ex_ret, ex_retN, ex_pass, ex_brk, ex_cnt, ex_ifS, ex_raise, ex_forS, ex_whl, evalV, evalT, evalEs, evalA, evalA1, evalO, evalC, evalI, enterE, slotR, ownR, ownC, setD, readR, moveR, outs, mapM, isTys_cons, isFreshF, L2.ixN, fillA, putA, putP]) IsT.t
  simp [f__law_owner, b__law_owner, ss_nil, ss_cons, ev_cst, ev_var, ev_mov, ev_glob, ev_sh, ev_tup, ev_lst, ev_bin, ev_binv, ev_neg, ev_cmp, ev_cmpv, ev_chain, ev_and, ev_or, ev_not, ev_ite, ev_call, ev_p1, ev_p2, ev_isi, ev_sub, ev_subv, ev_slc, ev_slcv, ev_rev, ev_pop, ev_popAt, ev_dnew, ev_lrg, ev_idx, ev_cnt, ev_tupz, ev_nev, ev_mk, ev_fld, ev_isio, ev_cmpI, et_cmpI, ex_nev, ex_asg, ex_par, ex_aug, ex_setI, ex_augI, ex_app, ex_ext, ex_expr, ex_ret, ex_retN, ex_pass, ex_brk, ex_cnt, ex_ifS, ex_raise, ex_forS, ex_whl, evalV, evalT, evalEs, evalA, evalA1, evalO, evalC, evalI, enterE, slotR, ownR, ownC, setD, readR, moveR, outs, mapM, isTys_cons, isFreshF, L2.ixN, fillA, putA, putP, hi]
  refine is_for (fun i s => ∃ l a b, s = [Sl.sh (.tup (xs.map .int)), .sh (.int l), a, b] ∧ 0 ≤ l ∧ l < (xs.drop i).sum ∧ bo xs t = i + bo (xs.drop i) l) (fun d s => ∃ a b c, s = [Sl.sh (.tup (xs.map .int)), a, b, c] ∧ d = .int (bo xs t)) ⟨t, .no, .no, rfl, h0, by simpa using h1, by simp⟩ ?_ ?_ ?_
  · rintro i d hd s ⟨l, a, b, rfl, hl0, hl, hb⟩
    obtain ⟨x, hx, rfl⟩ := enum_at _ _ _ _ hd
    rw [List.getElem?_map] at hx
    obtain ⟨y, hy, rfl⟩ := Option.map_eq_some_iff.mp hx
    have hs := drop_sum hy
    rw [Nat.zero_add]
    by_cases hq : l < y
    · have := bo_stop hy (l := l) (by omega)
      have hq' : bo xs t = i := by omega
      simp [forB_eq, lp__law_owner_1_b, ss_nil, ss_cons, ev_cst, ev_var, ev_mov, ev_glob, ev_sh, ev_tup, ev_lst, ev_bin, ev_binv, ev_neg, ev_cmp, ev_cmpv, ev_chain, ev_and, ev_or, ev_not, ev_ite, ev_call, ev_p1, ev_p2, ev_isi, ev_sub, ev_subv, ev_slc, ev_slcv, ev_rev, ev_pop, ev_popAt, ev_dnew, ev_lrg, ev_idx, ev_cnt, ev_tupz, ev_nev, ev_mk, ev_fld, ev_isio, ev_cmpI, et_cmpI, ex_nev, ex_asg, ex_par, ex_aug, ex_setI, ex_augI, ex_app, ex_ext, ex_expr, ex_ret, ex_retN, ex_pass, ex_brk, ex_cnt, ex_ifS, ex_raise, ex_forS, ex_whl, evalV, evalT, evalEs, evalA, evalA1, evalO, evalC, evalI, enterE, slotR, ownR, ownC, setD, readR, moveR, outs, mapM, isTys_cons, isFreshF, L2.ixN, fillA, putA, putP, hq, hq']
    · have := bo_drop hy (l := l) (by omega)
      simp [forB_eq, lp__law_owner_1_b, ss_nil, ss_cons, ev_cst, ev_var, ev_mov, ev_glob, ev_sh, ev_tup, ev_lst, ev_bin, ev_binv, ev_neg, ev_cmp, ev_cmpv, ev_chain, ev_and, ev_or, ev_not, ev_ite, ev_call, ev_p1, ev_p2, ev_isi, ev_sub, ev_subv, ev_slc, ev_slcv, ev_rev, ev_pop, ev_popAt, ev_dnew, ev_lrg, ev_idx, ev_cnt, ev_tupz, ev_nev, ev_mk, ev_fld, ev_isio, ev_cmpI, et_cmpI, ex_nev, ex_asg, ex_par, ex_aug, ex_setI, ex_augI, ex_app, ex_ext, ex_expr, ex_ret, ex_retN, ex_pass, ex_brk, ex_cnt, ex_ifS, ex_raise, ex_forS, ex_whl, evalV, evalT, evalEs, evalA, evalA1, evalO, evalC, evalI, enterE, slotR, ownR, ownC, setD, readR, moveR, outs, mapM, isTys_cons, isFreshF, L2.ixN, fillA, putA, putP, hq]
      exact ⟨by omega, by omega, by omega⟩
  · rintro s ⟨l, a, b, rfl, hl0, hl, hb⟩
    exfalso
    simp at hl
    omega
  · rintro d s ⟨a, b, c, rfl, rfl⟩
    simp [ss_nil, ss_cons, ev_cst, ev_var, ev_mov, ev_glob, ev_sh, ev_tup, ev_lst, ev_bin, ev_binv, ev_neg, ev_cmp, ev_cmpv, ev_chain, ev_and, ev_or, ev_not, ev_ite, ev_call, ev_p1, ev_p2, ev_isi, ev_sub, ev_subv, ev_slc, ev_slcv, ev_rev, ev_pop, ev_popAt, ev_dnew, ev_lrg, ev_idx, ev_cnt, ev_tupz, ev_nev, ev_mk, ev_fld, ev_isio, ev_cmpI, et_cmpI, ex_nev, ex_asg, ex_par, ex_aug, ex_setI, ex_augI, ex_app, ex_ext, ex_expr, ex_ret, ex_retN, ex_pass, ex_brk, ex_cnt, ex_ifS, ex_raise, ex_forS, ex_whl, evalV, evalT, evalEs, evalA, evalA1, evalO, evalC, evalI, enterE, slotR, ownR, ownC, setD, readR, moveR, outs, mapM, isTys_cons, isFreshF, L2.ixN, fillA, putA, putP]
/-! ### what is drawn, counted -/
def oD : Option Nat → D
  | none => .non
  | some k => .int k
theorem eqd_oD (a b : Option Nat) : eqd (oD a) (oD b) = decide (a = b) := by
  cases a <;> cases b <;> simp [oD, eqd] <;> omega
theorem cnt_oD (l : List (Option Nat)) (o : Option Nat) (h : l.length ≤ 1000000) : cntD (l.map oD) (oD o) = some (.int (l.filter fun x => decide (x = o)).length) := by
  have hc : ∀ a : Option Nat, cmpb (oD a) = true := fun a => by cases a <;> rfl
  unfold cntD
  have h1 : (l.map oD).all cmpb = true := by rw [List.all_eq_true]; intro d hd; obtain ⟨a, _, rfl⟩ := List.mem_map.mp hd; exact hc a
  have h2 : (l.map oD).length ≤ sizeLine := by rw [List.length_map]; exact len_s h
  rw [h1, hc o, decide_eq_true h2]
  simp only [Bool.and_self, if_true]
  congr 3
  rw [List.filter_map, List.length_map]
  congr 2
  funext x
  simp only [Function.comp]
  exact eqd_oD x o
/-- what is drawn by the rows in turn -/
def drw (T N : Nat) : List (Option Nat) := (List.range N).map fun i => if i < N / T * T then some (i % T) else none
theorem drw_eq (T N : Nat) (hT : 0 < T) : drw T N = ((List.range (N / T)).flatMap fun _ => (List.range T).map some) ++ List.replicate (N % T) none := by
  have hN : N = N / T * T + N % T := by rw [Nat.mul_comm]; exact (Nat.div_add_mod N T).symm
  have key : ∀ q : Nat, (List.range (q * T)).map (fun i => some (i % T)) = (List.range q).flatMap fun _ => (List.range T).map some := by
    intro q
    induction q with
    | zero => simp
    | succ q ih =>
      rw [Nat.succ_mul, List.range_add, List.map_append, ih, List.range_succ, List.flatMap_append]
      congr 1
      simp only [List.flatMap_cons, List.flatMap_nil, List.append_nil, List.map_map]
      refine List.map_congr_left fun i hi => ?_
      have := List.mem_range.mp hi
      simp only [Function.comp]
      rw [Nat.mul_comm, Nat.mul_add_mod, Nat.mod_eq_of_lt this]
  unfold drw
  rw [← key]
  generalize N / T = q at *
  generalize N % T = r at *
  subst hN
  rw [List.range_add, List.map_append]
  congr 1
  · refine List.map_congr_left fun i hi => ?_
    rw [if_pos (List.mem_range.mp hi)]
  · rw [List.map_map, List.eq_replicate_iff]
    refine ⟨by simp, fun o ho => ?_⟩
    obtain ⟨i, _, rfl⟩ := List.mem_map.mp ho
    simp only [Function.comp]
    rw [if_neg (by omega)]
theorem flat_cnt {α β : Type} (l : List α) (f : List β) (p : β → Bool) : ((l.flatMap fun _ => f).filter p).length = l.length * (f.filter p).length := by
  induction l with
  | nil => simp
  | cons a l ih => rw [List.flatMap_cons, List.filter_append, List.length_append, ih, List.length_cons, Nat.succ_mul]; omega
theorem one_range (T k : Nat) (h : k < T) : ((List.range T).filter fun x => decide (x = k)).length = 1 := by
  induction T with
  | zero => omega
  | succ T ih =>
    rw [List.range_succ, List.filter_append, List.length_append]
    by_cases hk : k = T
    · subst hk
      have : (List.range k).filter (fun x => decide (x = k)) = [] := by
        rw [List.filter_eq_nil_iff]; intro a ha; have := List.mem_range.mp ha; simp; omega
      rw [this]; simp
    · rw [ih (by omega)]
      have : ([T].filter fun x => decide (x = k)) = [] := by
        rw [List.filter_eq_nil_iff]; intro a ha; simp at ha; simp; omega
      rw [this]; simp
theorem drw_some (T N k : Nat) (h : k < T) : ((drw T N).filter fun x => decide (x = some k)).length = N / T := by
  rw [drw_eq T N (by omega), List.filter_append, List.length_append, flat_cnt, List.filter_map, List.length_map, List.length_range]
  have e : ((fun x : Option Nat => decide (x = some k)) ∘ some) = fun x => decide (x = k) := by funext x; simp
  rw [e, one_range T k h]
  have : (List.replicate (N % T) (none : Option Nat)).filter (fun x => decide (x = some k)) = [] := by
    rw [List.filter_eq_nil_iff]; intro a ha; rw [(List.mem_replicate.mp ha).2]; simp
  rw [this]; simp
theorem drw_none (T N : Nat) (h : 0 < T) : ((drw T N).filter fun x => decide (x = none)).length = N % T := by
  rw [drw_eq T N h, List.filter_append, List.length_append, flat_cnt, List.filter_map, List.length_map]
  have e : ((List.range T).filter ((fun x : Option Nat => decide (x = none)) ∘ some)) = [] := by
    rw [List.filter_eq_nil_iff]; intro a ha; simp
  rw [e]
  have : (List.replicate (N % T) (none : Option Nat)).filter (fun x => decide (x = none)) = List.replicate (N % T) none := by
    rw [List.filter_eq_self]; intro a ha; rw [(List.mem_replicate.mp ha).2]; simp
  rw [this]; simp
/-! the buyers of all tickets -/
theorem bo_cnt : ∀ (xs : List Int) (b : Nat), (∀ x ∈ xs, 0 ≤ x) → b < xs.length → ((((List.range xs.sum.toNat).map fun (i : Nat) => bo xs i).filter fun x => decide (x = b)).length : Int) = xs.getD b 0
  | [], b, _, h => by simp at h
  | x :: xs, b, hp, h => by
    have hx := hp x List.mem_cons_self
    have hs := sum_nonneg (ys := xs) fun y hy => hp y (List.mem_cons_of_mem _ hy)
    have e : (x :: xs).sum.toNat = x.toNat + xs.sum.toNat := by rw [List.sum_cons]; omega
    rw [e, List.range_add, List.map_append, List.filter_append, List.length_append]
    have e1 : (List.range x.toNat).map (fun (i : Nat) => bo (x :: xs) i) = List.replicate x.toNat 0 := by
      rw [List.eq_replicate_iff]
      refine ⟨by simp, fun o ho => ?_⟩
      obtain ⟨i, hi, rfl⟩ := List.mem_map.mp ho
      have := List.mem_range.mp hi
      rw [bo, if_neg (by omega)]
    have e2 : ((List.range xs.sum.toNat).map (x.toNat + ·)).map (fun (i : Nat) => bo (x :: xs) i) = ((List.range xs.sum.toNat).map fun (i : Nat) => bo xs i).map (· + 1) := by
      rw [List.map_map, List.map_map]
      refine List.map_congr_left fun i hi => ?_
      simp only [Function.comp]
      rw [bo, if_pos (by omega)]
      congr 2
      omega
    rw [e1, e2, List.filter_map, List.length_map]
    cases b with
    | zero =>
      have f1 : (List.replicate x.toNat 0).filter (fun y => decide (y = 0)) = List.replicate x.toNat 0 := by
        rw [List.filter_eq_self]; intro a ha; rw [(List.mem_replicate.mp ha).2]; simp
      have f2 : ((List.range xs.sum.toNat).map fun (i : Nat) => bo xs i).filter ((fun y => decide (y = 0)) ∘ (· + 1)) = [] := by
        rw [List.filter_eq_nil_iff]; intro a ha; simp
      rw [f1, f2]
      simp
      omega
    | succ b =>
      have f1 : (List.replicate x.toNat 0).filter (fun y => decide (y = b + 1)) = [] := by
        rw [List.filter_eq_nil_iff]; intro a ha; rw [(List.mem_replicate.mp ha).2]; simp
      have f2 : ((fun y => decide (y = b + 1)) ∘ (· + 1)) = fun y => decide (y = b) := by funext y; simp
      have := bo_cnt xs b (fun y hy => hp y (List.mem_cons_of_mem _ hy)) (by simpa using h)
      rw [f1, f2]
      simp only [List.length_nil, Nat.zero_add, this]
      simp
/-! fractions of scaled numbers -/
theorem euc_mul {q : Int} (hq : 0 < q) : ∀ (n : Nat) (a b : Int), b.toNat ≤ n → 0 ≤ b → euc (q * a) (q * b) = q * euc a b
  | 0, a, b, hn, hb => by
    obtain rfl : b = 0 := by omega
    rw [Int.mul_zero, euc_zero, euc_zero]
  | n + 1, a, b, hn, hb => by
    by_cases h0 : b = 0
    · subst h0; rw [Int.mul_zero, euc_zero, euc_zero]
    · have h1 := Int.emod_nonneg a h0
      have h2 := Int.emod_lt_of_pos a (show 0 < b by omega)
      rw [euc_pos (a := a) h0, euc_pos (a := q * a) (b := q * b) (by have := Int.mul_pos hq (show 0 < b by omega); omega), Int.mul_emod_mul_of_pos _ _ hq]
      exact euc_mul hq n b (a % b) (by omega) h1
theorem low_mul {q a b : Int} (hq : 0 < q) (hb : 0 ≤ b) : lowT (q * a) (q * b) = lowT a b := by
  unfold lowT
  rw [euc_mul hq _ a b (Nat.le_refl _) hb, Int.mul_ediv_mul_of_pos _ _ hq, Int.mul_ediv_mul_of_pos _ _ hq]
/-! ### the rows of a round -/
theorem hor_plc (w : Int) (r : List Int) : plc (List.replicate r.length w) r 0 = hor w r := by
  have key : ∀ (r : List Int) (a : Int), plc (List.replicate r.length w) r a = r.foldl (fun a d => a * w + d) a := fun r => by
    induction r with
    | nil => intro a; rfl
    | cons x r ih => intro a; rw [List.length_cons, List.replicate_succ, plc, ih]; rfl
  exact key r 0
theorem row_of {w : Int} {n : Nat} {r : List Int} (h : r ∈ rws (List.replicate n w)) : IsRow w n r := by
  obtain ⟨h1, h2⟩ := rws_mem h
  rw [List.length_replicate] at h1
  have key : ∀ x ∈ r, 0 ≤ x ∧ x < w := fun x hx => by
    obtain ⟨i, hi, rfl⟩ := List.mem_iff_getElem.mp hx
    exact h2 i w r[i] (by rw [List.getElem?_replicate, if_pos (by omega)]) (List.getElem?_eq_getElem hi)
  exact ⟨h1, fun x hx => (key x hx).1, fun x hx => (key x hx).2⟩
theorem rows_hor {w : Int} {n : Nat} (hw : 0 ≤ w) : (rws (List.replicate n w)).map (hor w) = (List.range (rws (List.replicate n w)).length).map fun (i : Nat) => (i : Int) := by
  rw [← rws_plc (S := List.replicate n w) fun s hs => by rw [(List.mem_replicate.mp hs).2]; exact hw]
  refine List.map_congr_left fun r hr => ?_
  rw [← (row_of hr).len]
  exact (hor_plc w r).symm
theorem rows_drw {w : Int} {n T N : Nat} (hw : 0 ≤ w) (hT : 0 < T) (hN : w ^ n = N) : (rws (List.replicate n w)).map (won w T n) = (drw T N).map oD := by
  have hl := rws_len (S := List.replicate n w) fun s hs => by rw [(List.mem_replicate.mp hs).2]; exact hw
  rw [List.prod_replicate_int, hN] at hl
  have hl : (rws (List.replicate n w)).length = N := by omega
  have e : won w T n = (fun v : Int => if v < ((N / T * T : Nat) : Int) then D.int (v % T) else .non) ∘ hor w := by
    funext r
    simp only [won, Function.comp, hN]
    push_cast
    rfl
  rw [e, ← List.map_map, rows_hor hw, hl, drw, List.map_map, List.map_map]
  refine List.map_congr_left fun i _ => ?_
  simp only [Function.comp]
  by_cases h : i < N / T * T
  · rw [if_pos h, if_pos (by omega)]; simp [oD]
  · rw [if_neg h, if_neg (by omega)]; rfl
theorem drw_len (T N : Nat) : (drw T N).length = N := by simp [drw]
theorem sm_drw (T N : Nat) (h : N ≤ 1000000) : sm (.lst ((drw T N).map oD)) = true ∧ dep (.lst ((drw T N).map oD)) ≤ 2 := by
  constructor
  · simp only [sm, Bool.and_eq_true, decide_eq_true_eq, List.length_map, drw_len]
    exact ⟨h, sms_of fun d hd => by obtain ⟨o, _, rfl⟩ := List.mem_map.mp hd; cases o <;> rfl⟩
  · have : ∀ l : List (Option Nat), deps (l.map oD) ≤ 1 := fun l => by
      induction l with
      | nil => simp [deps]
      | cons o l ih => cases o <;> simp [deps, dep, oD] <;> exact ih
    have := this (drw T N)
    simp only [dep]
    omega
theorem own_le {xs : List Int} (h : ∀ x ∈ xs, 1 ≤ x) {x : Int} (hx : x ∈ xs) : x ≤ xs.sum := by
  obtain ⟨l, r, rfl⟩ := List.append_of_mem hx
  have h1 := sum_nonneg (ys := l) fun y hy => by have := h y (by simp [hy]); omega
  have h2 := sum_nonneg (ys := r) fun y hy => by have := h y (by simp [hy]); omega
  rw [List.sum_append, List.sum_cons]
  omega
theorem odd_one {T own : Nat} (h : own ≤ T) : oddT T own 1 = lowT own T := by
  unfold oddT
  simp only [botI, topI]
  congr 1
  · simp only [Int.one_mul, Int.natCast_zero, Int.sub_zero]
    split <;> omega
  · simp
theorem deep2 (xs : List Int) (h : xs.length ≤ 1000000) (f g : Int → Int) : dep (.tup (xs.map fun x => D.tup [.int (f x), .int (g x)])) ≤ 2 ∧ sm (.tup (xs.map fun x => D.tup [.int (f x), .int (g x)])) = true := by
  constructor
  · simp only [dep]
    have : deps (xs.map fun x => D.tup [.int (f x), .int (g x)]) ≤ 1 := by
      clear h
      induction xs with
      | nil => simp [deps]
      | cons y ys ih => simp only [List.map_cons, deps, dep] at ih ⊢; omega
    omega
  · simp only [sm, Bool.and_eq_true, decide_eq_true_eq, List.length_map]
    exact ⟨h, sms_of fun d hd => by obtain ⟨x, _, rfl⟩ := List.mem_map.mp hd; rfl⟩
theorem drw_filter (T N : Nat) (hT : 0 < T) : (drw T N).filter Option.isSome = (List.range (N / T)).flatMap fun _ => (List.range T).map some := by
  rw [drw_eq T N hT, List.filter_append]
  have e1 : ((List.range (N / T)).flatMap fun _ => (List.range T).map some).filter Option.isSome = (List.range (N / T)).flatMap fun _ => (List.range T).map some := by
    rw [List.filter_eq_self]
    intro o ho
    obtain ⟨_, _, h⟩ := List.mem_flatMap.mp ho
    obtain ⟨k, _, rfl⟩ := List.mem_map.mp h
    rfl
  have e2 : (List.replicate (N % T) (none : Option Nat)).filter Option.isSome = [] := by
    rw [List.filter_eq_nil_iff]; intro a ha; rw [(List.mem_replicate.mp ha).2]; simp
  rw [e1, e2, List.append_nil]
theorem owners_cnt {xs : List Int} {T N : Nat} (hT : xs.sum = T) (h0 : 0 < T) (hp : ∀ x ∈ xs, 0 ≤ x) {b : Nat} (hb : b < xs.length) :
    (((((drw T N).filter Option.isSome).map fun o => ((bo xs (o.getD 0 : Nat) : Nat) : Int)).filter fun x => decide (x = (b : Int))).length : Int) = (N : Int) / T * xs.getD b 0 := by
  rw [drw_filter T N h0, List.map_flatMap, flat_cnt, List.length_range]
  have := bo_cnt xs b hp hb
  rw [hT, Int.toNat_natCast] at this
  rw [← this]
  push_cast
  congr 1
  rw [List.map_map, List.filter_map, List.filter_map, List.length_map, List.length_map]
  congr 3
  funext i
  simp [Function.comp]
  omega
theorem drw_mem {T N k : Nat} (hT : 0 < T) (h : some k ∈ drw T N) : k < T := by
  obtain ⟨i, _, e⟩ := List.mem_map.mp h
  by_cases q : i < N / T * T
  · rw [if_pos q] at e; cases e; exact Nat.mod_lt _ hT
  · rw [if_neg q] at e; cases e
theorem range_getD (xs : List Int) (f : Int → D) : ((List.range xs.length).map fun (b : Nat) => f (xs.getD b 0)) = xs.map f := by
  apply List.ext_getElem
  · simp
  · intro i h1 h2
    simp at h1
    simp [h1]
theorem even_ok {C : Calls} (hC : At C 8) {w : Int} (w2 : 2 ≤ w) (w12 : w ≤ 12) {xs : List Int} (s : Sal xs) (hs : xs.sum ≤ 100) : C.fn i__law_are_even [.int w, .tup (xs.map .int)] = .ok (.bl true) [] := by
  refine stepEh T__law_are_even rfl hC fun C hC => ?_
  have s1 := s.sum.1
  have es := p1_sum_t xs
  have h20 := s.l20
  have hpos : ∀ x ∈ xs, 0 ≤ x := fun x hx => by have := s.lo x hx; omega
  obtain ⟨T, hT⟩ := Int.eq_ofNat_of_zero_le (show 0 ≤ xs.sum by omega)
  have ok : Ok w T := ⟨w2, w12, by omega, by omega⟩
  obtain ⟨n, dn, ed⟩ := ldigits_ok (hC.le : At C 2) ok
  have hn := dn.small ok
  have hb : w ^ n ≤ 2000 := by
    cases n with
    | zero => simp
    | succ m =>
      have h1 := dn.lt m (Nat.lt_succ_self m)
      have p := pow_pos ok m
      rw [Int.pow_succ]
      have : w ^ m * w ≤ w ^ m * 12 := Int.mul_le_mul_of_nonneg_left w12 (by omega)
      omega
  have hp := pow_pos ok n
  obtain ⟨N, hN⟩ := Int.eq_ofNat_of_zero_le (show 0 ≤ w ^ n by omega)
  have er := lround_ok (hC.le : At C 3) ok dn
  have er2 := round_ok (hC.le : At C 5) ok dn
  have ea := lrows_ok (hC.le : At C 1) (n := n) w2 w12 (by omega) (by omega)
  have ew := fun (r : List Int) (hr : r ∈ rws (List.replicate n w)) => winner_ok (hC.le : At C 6) ok dn (row_of hr)
  have el := fun (r : List Int) => lwon_ok (hC.le : At C 4) ok dn r (u := tI r) rfl
  have eg := digits_ok (hC.le : At C 5) ok dn
  have ed1 := rows_drw (w := w) (n := n) (T := T) (by omega) (by omega) hN
  have hl := rws_len (S := List.replicate n w) fun s hs => by rw [(List.mem_replicate.mp hs).2]; omega
  rw [List.prod_replicate_int, hN] at hl
  have hl : (rws (List.replicate n w)).length = N := by omega
  have hrl : ∀ r ∈ rws (List.replicate n w), r.length = n := fun r hr => (row_of hr).len
  obtain ⟨sd1, sd2⟩ := sm_drw T N (by omega)
  have isd := is_same 2 (C := C) (.lst ((drw T N).map oD)) hC.le sd2 sd1
  have c0 := cnt_oD (drw T N) none (by rw [drw_len]; omega)
  have c1 := fun k (hk : k < T) => cnt_oD (drw T N) (some k) (by rw [drw_len]; omega)
  rw [drw_none T N (by omega)] at c0
  have c1 := fun k (hk : k < T) => by have := c1 k hk; rw [drw_some T N k hk] at this; exact this
  rw [hN] at er er2
  have eb := fun k (hk : k < T) => buyer_ok (hC.le : At C 4) s (t := (k : Nat)) (by omega) (by omega)
  have eo := fun k (hk : k < T) => owner_ok (hC.le : At C 1) h20 (t := (k : Nat)) (by omega) (by omega)
  have isb := fun k => is_same 2 (C := C) (.int (bo xs k)) hC.le (by simp [dep]) rfl
  have od := odds_ok (hC.le : At C 4) s (n := 1) (by decide) (by decide) s1
  rw [hT] at es od
  generalize hSL : D.tup (xs.map D.int) = SL at es eb eo od ⊢
  have cSL : isC SL = false := by rw [← hSL]; rfl
  have kSL : ∀ b, mkSl b SL = .sh SL := fun b => by rw [← hSL]; cases b <;> rfl
  have lSL : p1 .len SL = some (.int xs.length) := by rw [← hSL]; simp
  generalize hRD : D.lst ((rws (List.replicate n w)).map tI) = RD at ea
  have sRD : seqOf RD = some ((rws (List.replicate n w)).map tI) := by rw [← hRD]; rfl
  have lRD : p1 .len RD = some (.int N) := by rw [← hRD]; simp [hl]
  have iRD : ∃ r0 : List Int, r0.length = n ∧ item RD (.int 0) = some (tI r0) := by
    rw [← hRD]
    cases hR : rws (List.replicate n w) with
    | nil => rw [hR] at hl; simp at hl; omega
    | cons r0 R => exact ⟨r0, hrl r0 (by rw [hR]; simp), (item_lst_ ..).trans (L2.atI_nat (j := 0) rfl)⟩
  obtain ⟨r0, hr0, iRD⟩ := iRD
  have cRD : isC RD = true := by rw [← hRD]; rfl
  have kRD : mkSl f__law_all_rows.fr RD = .sh RD := by rw [← hRD]; rfl
  have e1 := lc_it (C := C) (elt := lc__law_are_even_1_e) (tg := .nm 9) (it := lc__law_are_even_1_i) (cond := none) (own := [9]) (s := [Sl.sh (.int w), .sh SL, .sh (.int T), .no, .no, .no, .no, .sh RD, .sh (.int ((N : Int) / T * T)), .no, .no]) (s1 := [Sl.sh (.int w), .sh SL, .sh (.int T), .no, .no, .no, .no, .sh RD, .sh (.int ((N : Int) / T * T)), .no, .no]) (rws (List.replicate n w)) tI (won w T n)
    (by simp [lc__law_are_even_1_i, ss_nil, ss_cons, ev_cst, ev_var, ev_mov, ev_glob, ev_sh, ev_tup, ev_lst, ev_bin, ev_binv, ev_neg, ev_cmp, ev_cmpv, ev_chain, ev_and, ev_or, ev_not, ev_ite, ev_call, ev_p1, ev_p2, ev_isi, ev_sub, ev_subv, ev_slc, ev_slcv, ev_rev, ev_pop, ev_popAt, ev_dnew, ev_lrg, ev_idx, ev_cnt, ev_tupz, ev_nev, ev_mk, ev_fld, ev_isio, ev_cmpI, et_cmpI, ex_nev, ex_asg, ex_par, ex_aug, ex_setI, ex_augI, ex_app, ex_ext, ex_expr, ex_ret, ex_retN, ex_pass, ex_brk, ex_cnt, ex_ifS, ex_raise, ex_forS, ex_whl, evalV, evalT, evalEs, evalA, evalA1, evalO, evalC, evalI, enterE, slotR, ownR, ownC, setD, readR, moveR, outs, mapM, isTys_cons, isFreshF, L2.ixN, fillA, putA, putP, sRD]) (fun r hr => by
      have := ew r hr
      generalize won w T n r = W at *
      simp [turn_w, lc__law_are_even_1_e, ss_nil, ss_cons, ev_cst, ev_var, ev_mov, ev_glob, ev_sh, ev_tup, ev_lst, ev_bin, ev_binv, ev_neg, ev_cmp, ev_cmpv, ev_chain, ev_and, ev_or, ev_not, ev_ite, ev_call, ev_p1, ev_p2, ev_isi, ev_sub, ev_subv, ev_slc, ev_slcv, ev_rev, ev_pop, ev_popAt, ev_dnew, ev_lrg, ev_idx, ev_cnt, ev_tupz, ev_nev, ev_mk, ev_fld, ev_isio, ev_cmpI, et_cmpI, ex_nev, ex_asg, ex_par, ex_aug, ex_setI, ex_augI, ex_app, ex_ext, ex_expr, ex_ret, ex_retN, ex_pass, ex_brk, ex_cnt, ex_ifS, ex_raise, ex_forS, ex_whl, evalV, evalT, evalEs, evalA, evalA1, evalO, evalC, evalI, enterE, slotR, ownR, ownC, setD, readR, moveR, outs, mapM, isTys_cons, isFreshF, L2.ixN, fillA, putA, putP, wipeE, this]) (len_s (m := 2000) (by omega))
  rw [ed1] at e1
  have e1 : evalE C lc__law_are_even_1 _ = _ := e1
  have e2 := lc_it (C := C) (elt := lc__law_are_even_2_e) (tg := .nm 9) (it := lc__law_are_even_2_i) (cond := none) (own := [9]) (s := [Sl.sh (.int w), .sh SL, .sh (.int T), .sh (.lst ((drw T N).map oD)), .no, .no, .no, .sh RD, .sh (.int ((N : Int) / T * T)), .no, .no]) (s1 := [Sl.sh (.int w), .sh SL, .sh (.int T), .sh (.lst ((drw T N).map oD)), .no, .no, .no, .sh RD, .sh (.int ((N : Int) / T * T)), .no, .no]) (rws (List.replicate n w)) tI (won w T n)
    (by simp [lc__law_are_even_2_i, ss_nil, ss_cons, ev_cst, ev_var, ev_mov, ev_glob, ev_sh, ev_tup, ev_lst, ev_bin, ev_binv, ev_neg, ev_cmp, ev_cmpv, ev_chain, ev_and, ev_or, ev_not, ev_ite, ev_call, ev_p1, ev_p2, ev_isi, ev_sub, ev_subv, ev_slc, ev_slcv, ev_rev, ev_pop, ev_popAt, ev_dnew, ev_lrg, ev_idx, ev_cnt, ev_tupz, ev_nev, ev_mk, ev_fld, ev_isio, ev_cmpI, et_cmpI, ex_nev, ex_asg, ex_par, ex_aug, ex_setI, ex_augI, ex_app, ex_ext, ex_expr, ex_ret, ex_retN, ex_pass, ex_brk, ex_cnt, ex_ifS, ex_raise, ex_forS, ex_whl, evalV, evalT, evalEs, evalA, evalA1, evalO, evalC, evalI, enterE, slotR, ownR, ownC, setD, readR, moveR, outs, mapM, isTys_cons, isFreshF, L2.ixN, fillA, putA, putP, sRD]) (fun r hr => by
      have := el r
      generalize won w T n r = W at *
      simp [turn_w, lc__law_are_even_2_e, ss_nil, ss_cons, ev_cst, ev_var, ev_mov, ev_glob, ev_sh, ev_tup, ev_lst, ev_bin, ev_binv, ev_neg, ev_cmp, ev_cmpv, ev_chain, ev_and, ev_or, ev_not, ev_ite, ev_call, ev_p1, ev_p2, ev_isi, ev_sub, ev_subv, ev_slc, ev_slcv, ev_rev, ev_pop, ev_popAt, ev_dnew, ev_lrg, ev_idx, ev_cnt, ev_tupz, ev_nev, ev_mk, ev_fld, ev_isio, ev_cmpI, et_cmpI, ex_nev, ex_asg, ex_par, ex_aug, ex_setI, ex_augI, ex_app, ex_ext, ex_expr, ex_ret, ex_retN, ex_pass, ex_brk, ex_cnt, ex_ifS, ex_raise, ex_forS, ex_whl, evalV, evalT, evalEs, evalA, evalA1, evalO, evalC, evalI, enterE, slotR, ownR, ownC, setD, readR, moveR, outs, mapM, isTys_cons, isFreshF, L2.ixN, fillA, putA, putP, wipeE, this]) (len_s (m := 2000) (by omega))
  rw [ed1] at e2
  have e2 : evalE C lc__law_are_even_2 _ = _ := e2
  generalize hDD : (drw T N).map oD = DD at *
  simp [wipeE, backE] at e1 e2
  have hrt : ∀ a b c d e f g h : Sl, evalI C lp__law_are_even_1_i [a, b, .sh (.int T), c, d, e, f, g, h, .no, .no] = .ok (rangeD 0 T) [a, b, .sh (.int T), c, d, e, f, g, h, .no, .no] := fun a b c d e f g h => rng1_ok (by simp [ss_nil, ss_cons, ev_cst, ev_var, ev_mov, ev_glob, ev_sh, ev_tup, ev_lst, ev_bin, ev_binv, ev_neg, ev_cmp, ev_cmpv, ev_chain, ev_and, ev_or, ev_not, ev_ite, ev_call, ev_p1, ev_p2, ev_isi, ev_sub, ev_subv, ev_slc, ev_slcv, ev_rev, ev_pop, ev_popAt, ev_dnew, ev_lrg, ev_idx, ev_cnt, ev_tupz, ev_nev, ev_mk, ev_fld, ev_isio, ev_cmpI, et_cmpI, ex_nev, ex_asg, ex_par, ex_aug, ex_setI, ex_augI, ex_app, ex_ext, ex_expr, ex_ret, ex_retN, ex_pass, ex_brk, ex_cnt, ex_ifS, ex_raise, ex_forS, ex_whl, evalV, evalT, evalEs, evalA, evalA1, evalO, evalC, evalI, enterE, slotR, ownR, ownC, setD, readR, moveR, outs, mapM, isTys_cons, isFreshF, L2.ixN, fillA, putA, putP]) (by omega)
  refine ⟨?_⟩
  simp [f__law_are_even, b__law_are_even, ss_nil, ss_cons, ev_cst, ev_var, ev_mov, ev_glob, ev_sh, ev_tup, ev_lst, ev_bin, ev_binv, ev_neg, ev_cmp, ev_cmpv, ev_chain, ev_and, ev_or, ev_not, ev_ite, ev_call, ev_p1, ev_p2, ev_isi, ev_sub, ev_subv, ev_slc, ev_slcv, ev_rev, ev_pop, ev_popAt, ev_dnew, ev_lrg, ev_idx, ev_cnt, ev_tupz, ev_nev, ev_mk, ev_fld, ev_isio, ev_cmpI, et_cmpI, ex_nev, ex_asg, ex_par, ex_aug, ex_setI, ex_augI, ex_app, ex_ext, ex_expr, ex_ret, ex_retN, ex_pass, ex_brk, ex_cnt, ex_ifS, ex_raise, ex_forS, ex_whl, evalV, evalT, evalEs, evalA, evalA1, evalO, evalC, evalI, enterE, slotR, ownR, ownC, setD, readR, moveR, outs, mapM, isTys_cons, isFreshF, L2.ixN, fillA, putA, putP, es, ed, er, ea, cRD, cSL, fr__law_all_rows hC, kRD, e1, e2, isd, hrt]
  have mod : ((N % T : Nat) : Int) = (N : Int) - (N : Int) / T * T := by
    have := Int.mul_ediv_add_emod N T
    rw [Int.mul_comm] at this
    push_cast
    omega
  have c1 : ∀ k : Nat, k < T → cntD DD (.int (k : Nat)) = some (.int ((N : Int) / T)) := fun k hk => by
    have := c1 k hk
    push_cast at this
    exact this
  have c0 : cntD DD .non = some (.int ((N : Int) - (N : Int) / T * T)) := by rw [← mod]; exact c0
  refine is_for (fun i s => ∃ a, (a = Sl.no ∨ ∃ d, a = Sl.sh d) ∧ s = [Sl.sh (.int w), .sh SL, .sh (.int T), .sh (.lst DD), a, .no, .no, .sh RD, .sh (.int ((N : Int) / T * T)), .no, .no]) (fun _ _ => False) ⟨.no, .inl rfl, rfl⟩ ?_ ?_ (fun _ _ h => h.elim)
  · rintro i d hd s ⟨a, _, rfl⟩
    obtain ⟨rfl, hi⟩ := range_at hd
    have q1 := c1 i hi
    have q2 := eb i hi
    have q3 := eo i hi
    have q4 := isb i
    have mu : mulOk ((N : Int) / T) T = true := mulOk_r (by omega)
    simp [forB_eq, lp__law_are_even_1_b, ss_nil, ss_cons, ev_cst, ev_var, ev_mov, ev_glob, ev_sh, ev_tup, ev_lst, ev_bin, ev_binv, ev_neg, ev_cmp, ev_cmpv, ev_chain, ev_and, ev_or, ev_not, ev_ite, ev_call, ev_p1, ev_p2, ev_isi, ev_sub, ev_subv, ev_slc, ev_slcv, ev_rev, ev_pop, ev_popAt, ev_dnew, ev_lrg, ev_idx, ev_cnt, ev_tupz, ev_nev, ev_mk, ev_fld, ev_isio, ev_cmpI, et_cmpI, ex_nev, ex_asg, ex_par, ex_aug, ex_setI, ex_augI, ex_app, ex_ext, ex_expr, ex_ret, ex_retN, ex_pass, ex_brk, ex_cnt, ex_ifS, ex_raise, ex_forS, ex_whl, evalV, evalT, evalEs, evalA, evalA1, evalO, evalC, evalI, enterE, slotR, ownR, ownC, setD, readR, moveR, outs, mapM, isTys_cons, isFreshF, L2.ixN, fillA, putA, putP, q1, q2, q3, q4, er2, bin_mul mu]
  · rintro s ⟨a, ha, rfl⟩
    have l0 : p1 .len (tI r0) = some (.int n) := by rw [← hr0]; simp [tI]
    have T0 : 0 < T := by omega
    have e3 := lc_if (C := C) (elt := lc__law_are_even_3_e) (tg := .nm 4) (it := lc__law_are_even_3_i) (cond := some lc__law_are_even_3_c) (own := [4]) (s := [Sl.sh (.int w), .sh SL, .sh (.int T), .sh (.lst DD), a, .no, .no, .sh RD, .sh (.int ((N : Int) / T * T)), .no, .no]) (s1 := [Sl.sh (.int w), .sh SL, .sh (.int T), .sh (.lst DD), a, .no, .no, .sh RD, .sh (.int ((N : Int) / T * T)), .no, .no]) (drw T N) oD Option.isSome (fun o => .int ((bo xs (o.getD 0 : Nat) : Nat) : Int))
      (by simp [lc__law_are_even_3_i, ss_nil, ss_cons, ev_cst, ev_var, ev_mov, ev_glob, ev_sh, ev_tup, ev_lst, ev_bin, ev_binv, ev_neg, ev_cmp, ev_cmpv, ev_chain, ev_and, ev_or, ev_not, ev_ite, ev_call, ev_p1, ev_p2, ev_isi, ev_sub, ev_subv, ev_slc, ev_slcv, ev_rev, ev_pop, ev_popAt, ev_dnew, ev_lrg, ev_idx, ev_cnt, ev_tupz, ev_nev, ev_mk, ev_fld, ev_isio, ev_cmpI, et_cmpI, ex_nev, ex_asg, ex_par, ex_aug, ex_setI, ex_augI, ex_app, ex_ext, ex_expr, ex_ret, ex_retN, ex_pass, ex_brk, ex_cnt, ex_ifS, ex_raise, ex_forS, ex_whl, evalV, evalT, evalEs, evalA, evalA1, evalO, evalC, evalI, enterE, slotR, ownR, ownC, setD, readR, moveR, outs, mapM, isTys_cons, isFreshF, L2.ixN, fillA, putA, putP, hDD]) (fun o ho => by
        cases o with
        | none => simp [turn_w, lc__law_are_even_3_e, lc__law_are_even_3_c, ss_nil, ss_cons, ev_cst, ev_var, ev_mov, ev_glob, ev_sh, ev_tup, ev_lst, ev_bin, ev_binv, ev_neg, ev_cmp, ev_cmpv, ev_chain, ev_and, ev_or, ev_not, ev_ite, ev_call, ev_p1, ev_p2, ev_isi, ev_sub, ev_subv, ev_slc, ev_slcv, ev_rev, ev_pop, ev_popAt, ev_dnew, ev_lrg, ev_idx, ev_cnt, ev_tupz, ev_nev, ev_mk, ev_fld, ev_isio, ev_cmpI, et_cmpI, ex_nev, ex_asg, ex_par, ex_aug, ex_setI, ex_augI, ex_app, ex_ext, ex_expr, ex_ret, ex_retN, ex_pass, ex_brk, ex_cnt, ex_ifS, ex_raise, ex_forS, ex_whl, evalV, evalT, evalEs, evalA, evalA1, evalO, evalC, evalI, enterE, slotR, ownR, ownC, setD, readR, moveR, outs, mapM, isTys_cons, isFreshF, L2.ixN, fillA, putA, putP, wipeE, oD]
        | some k =>
          have := eo k (drw_mem T0 ho)
          simp [turn_w, lc__law_are_even_3_e, lc__law_are_even_3_c, ss_nil, ss_cons, ev_cst, ev_var, ev_mov, ev_glob, ev_sh, ev_tup, ev_lst, ev_bin, ev_binv, ev_neg, ev_cmp, ev_cmpv, ev_chain, ev_and, ev_or, ev_not, ev_ite, ev_call, ev_p1, ev_p2, ev_isi, ev_sub, ev_subv, ev_slc, ev_slcv, ev_rev, ev_pop, ev_popAt, ev_dnew, ev_lrg, ev_idx, ev_cnt, ev_tupz, ev_nev, ev_mk, ev_fld, ev_isio, ev_cmpI, et_cmpI, ex_nev, ex_asg, ex_par, ex_aug, ex_setI, ex_augI, ex_app, ex_ext, ex_expr, ex_ret, ex_retN, ex_pass, ex_brk, ex_cnt, ex_ifS, ex_raise, ex_forS, ex_whl, evalV, evalT, evalEs, evalA, evalA1, evalO, evalC, evalI, enterE, slotR, ownR, ownC, setD, readR, moveR, outs, mapM, isTys_cons, isFreshF, L2.ixN, fillA, putA, putP, wipeE, oD, this]) (len_s (m := 2000) (by rw [drw_len]; omega))
    rw [mapI fun o : Option Nat => ((bo xs (o.getD 0 : Nat) : Nat) : Int)] at e3
    have e3 : evalE C lc__law_are_even_3 _ = _ := e3
    simp only [wipeE, backE] at e3
    have lo : ((drw T N).filter Option.isSome).length ≤ 2000 := Nat.le_trans (List.length_filter_le ..) (by rw [drw_len]; omega)
    have oc := fun b (hb : b < xs.length) => cntD_int (((drw T N).filter Option.isSome).map fun o => ((bo xs (o.getD 0 : Nat) : Nat) : Int)) (b : Nat) (by rw [List.length_map]; exact len_s (m := 2000) lo)
    have oc := fun b (hb : b < xs.length) => by have := oc b hb; rw [owners_cnt hT T0 hpos hb] at this; exact this
    generalize (((drw T N).filter Option.isSome).map fun o => ((bo xs (o.getD 0 : Nat) : Nat) : Int)) = OW at *
    have q1 : 1 ≤ (N : Int) / T := by
      have := Int.ediv_le_ediv (show 0 < (T : Int) by omega) (show (T : Int) ≤ N by have := dn.le; omega)
      rw [Int.ediv_self (by omega)] at this
      exact this
    have q2 : (N : Int) / T * T ≤ N := Int.ediv_mul_le _ (by omega)
    have q3 : 0 < (N : Int) / T * T := Int.mul_pos (by omega) (by omega)
    have ll := fun x => lowest_ok (hC.le : At C 2) (a := (N : Int) / T * x) (b := (N : Int) / T * T) q3 (Int.lt_of_le_of_lt (show _ ≤ (2000 : Int) by omega) (Int.lt_of_lt_of_le (show (2000 : Int) < 2 ^ 25 by decide) (ipow_mono (by decide) (by decide))))
    have ll := fun x => by have := ll x; rw [low_mul (by omega) (by omega)] at this; exact this
    have hr4 : evalI C lc__law_are_even_4_i [Sl.sh (.int w), .sh SL, .sh (.int T), .sh (.lst DD), a, .sh (.lst (OW.map .int)), .no, .sh RD, .sh (.int ((N : Int) / T * T)), .no, .no] = .ok (rangeD 0 xs.length) [Sl.sh (.int w), .sh SL, .sh (.int T), .sh (.lst DD), a, .sh (.lst (OW.map .int)), .no, .sh RD, .sh (.int ((N : Int) / T * T)), .no, .no] := rng1_ok (by simp [ss_nil, ss_cons, ev_cst, ev_var, ev_mov, ev_glob, ev_sh, ev_tup, ev_lst, ev_bin, ev_binv, ev_neg, ev_cmp, ev_cmpv, ev_chain, ev_and, ev_or, ev_not, ev_ite, ev_call, ev_p1, ev_p2, ev_isi, ev_sub, ev_subv, ev_slc, ev_slcv, ev_rev, ev_pop, ev_popAt, ev_dnew, ev_lrg, ev_idx, ev_cnt, ev_tupz, ev_nev, ev_mk, ev_fld, ev_isio, ev_cmpI, et_cmpI, ex_nev, ex_asg, ex_par, ex_aug, ex_setI, ex_augI, ex_app, ex_ext, ex_expr, ex_ret, ex_retN, ex_pass, ex_brk, ex_cnt, ex_ifS, ex_raise, ex_forS, ex_whl, evalV, evalT, evalEs, evalA, evalA1, evalO, evalC, evalI, enterE, slotR, ownR, ownC, setD, readR, moveR, outs, mapM, isTys_cons, isFreshF, L2.ixN, fillA, putA, putP, lSL]) (by omega)
    rw [Rf.range_map] at hr4
    have e4 := lc_it (C := C) (elt := lc__law_are_even_4_e) (tg := .nm 10) (cond := none) (own := [10]) _ _ (fun (b : Nat) => lowT (xs.getD b 0) T) hr4 (fun b hb => by
      have h1 := oc b (List.mem_range.mp hb)
      have h2 := ll (xs.getD b 0)
      generalize lowT (xs.getD b 0) T = LT at *
      generalize xs.getD b 0 = X at *
      simp [turn_w, lc__law_are_even_4_e, ss_nil, ss_cons, ev_cst, ev_var, ev_mov, ev_glob, ev_sh, ev_tup, ev_lst, ev_bin, ev_binv, ev_neg, ev_cmp, ev_cmpv, ev_chain, ev_and, ev_or, ev_not, ev_ite, ev_call, ev_p1, ev_p2, ev_isi, ev_sub, ev_subv, ev_slc, ev_slcv, ev_rev, ev_pop, ev_popAt, ev_dnew, ev_lrg, ev_idx, ev_cnt, ev_tupz, ev_nev, ev_mk, ev_fld, ev_isio, ev_cmpI, et_cmpI, ex_nev, ex_asg, ex_par, ex_aug, ex_setI, ex_augI, ex_app, ex_ext, ex_expr, ex_ret, ex_retN, ex_pass, ex_brk, ex_cnt, ex_ifS, ex_raise, ex_forS, ex_whl, evalV, evalT, evalEs, evalA, evalA1, evalO, evalC, evalI, enterE, slotR, ownR, ownC, setD, readR, moveR, outs, mapM, isTys_cons, isFreshF, L2.ixN, fillA, putA, putP, wipeE, h1, h2]) (len_s (m := 20) (by rw [List.length_range]; exact h20))
    rw [range_getD xs fun x => lowT x T] at e4
    have e4 : evalE C lc__law_are_even_4 _ = _ := e4
    simp only [wipeE, backE] at e4
    have od2 : (xs.map fun own => oddT T own (Int.toNat 1)) = xs.map fun x => lowT x T := List.map_congr_left fun x hx => by
      have a1 := hpos x hx
      have a2 := own_le s.lo hx
      obtain ⟨y, rfl⟩ := Int.eq_ofNat_of_zero_le a1
      exact odd_one (by omega)
    rw [od2] at od
    have iso := is_same 2 (C := C) (.tup (xs.map fun x => lowT x T)) hC.le (deep2 xs (by omega) _ _).1 (deep2 xs (by omega) _ _).2
    generalize (xs.map fun x => lowT x T) = LL at *
    rcases ha with rfl | ⟨d, rfl⟩ <;> simp [backE] at e3 e4 <;> simp [ss_nil, ss_cons, ev_cst, ev_var, ev_mov, ev_glob, ev_sh, ev_tup, ev_lst, ev_bin, ev_binv, ev_neg, ev_cmp, ev_cmpv, ev_chain, ev_and, ev_or, ev_not, ev_ite, ev_call, ev_p1, ev_p2, ev_isi, ev_sub, ev_subv, ev_slc, ev_slcv, ev_rev, ev_pop, ev_popAt, ev_dnew, ev_lrg, ev_idx, ev_cnt, ev_tupz, ev_nev, ev_mk, ev_fld, ev_isio, ev_cmpI, et_cmpI, ex_nev, ex_asg, ex_par, ex_aug, ex_setI, ex_augI, ex_app, ex_ext, ex_expr, ex_ret, ex_retN, ex_pass, ex_brk, ex_cnt, ex_ifS, ex_raise, ex_forS, ex_whl, evalV, evalT, evalEs, evalA, evalA1, evalO, evalC, evalI, enterE, slotR, ownR, ownC, setD, readR, moveR, outs, mapM, isTys_cons, isFreshF, L2.ixN, fillA, putA, putP, c0, lRD, eg, iRD, l0, e3, e4, od, iso]
/-! ### sums drawn evenly -/
theorem swap_cnt {α β γ : Type} (l : List α) (R : List β) (f : α → β → γ) (p : γ → Bool) : ((l.flatMap fun n => R.map (f n)).filter p).length = (R.map fun r => ((l.map fun n => f n r).filter p).length).sum := by
  induction l with
  | nil => have := sum_same 0 R; simp only [List.flatMap_nil, List.map_nil, List.filter_nil, List.length_nil]; omega
  | cons a l ih =>
    rw [List.flatMap_cons, List.filter_append, List.length_append, ih]
    clear ih
    induction R with
    | nil => simp
    | cons r R ihR =>
      simp only [List.map_cons, List.sum_cons, List.filter_cons] at ihR ⊢
      by_cases h : p (f a r) = true <;> simp only [h, if_true, if_false, List.length_cons, Bool.false_eq_true] at ihR ⊢ <;> omega
theorem one_sol {w w0 c v : Int} (w2 : 2 ≤ w) (w12 : w ≤ 12) (h : w0 = 1 ∨ w0 = w - 1 ∨ w0 = 1 - 2 * w) (v0 : 0 ≤ v) (v1 : v < w) : ((List.range w.toNat).filter fun n => decide ((w0 * (n : Nat) + c) % w = v)).length = 1 := by
  obtain ⟨k, hk, e⟩ : ∃ k : Nat, k < w.toNat ∧ ∀ n : Nat, n < w.toNat → ((w0 * n + c) % w = v ↔ n = k) := by
    have key : ∀ m : Int, (∀ n : Nat, n < w.toNat → ((w0 * n + c) % w = v ↔ (n : Int) = m % w)) → ∃ k : Nat, k < w.toNat ∧ ∀ n : Nat, n < w.toNat → ((w0 * n + c) % w = v ↔ n = k) := fun m hm => by
      have a := Int.emod_nonneg m (show w ≠ 0 by omega)
      have b := Int.emod_lt_of_pos m (show 0 < w by omega)
      refine ⟨(m % w).toNat, by omega, fun n hn => (hm n hn).trans ?_⟩
      omega
    obtain hw : w = 2 ∨ w = 3 ∨ w = 4 ∨ w = 5 ∨ w = 6 ∨ w = 7 ∨ w = 8 ∨ w = 9 ∨ w = 10 ∨ w = 11 ∨ w = 12 := by omega
    rcases h with rfl | rfl | rfl
    · refine key (v - c) fun n hn => ?_
      rcases hw with rfl | rfl | rfl | rfl | rfl | rfl | rfl | rfl | rfl | rfl | rfl <;> omega
    · refine key (c - v) fun n hn => ?_
      rcases hw with rfl | rfl | rfl | rfl | rfl | rfl | rfl | rfl | rfl | rfl | rfl <;> omega
    · refine key (v - c) fun n hn => ?_
      rcases hw with rfl | rfl | rfl | rfl | rfl | rfl | rfl | rfl | rfl | rfl | rfl <;> omega
  rw [← one_range w.toNat k hk]
  congr 1
  refine List.filter_congr fun n hn => ?_
  have := e n (List.mem_range.mp hn)
  simp [this]
/-- what a sum's table tells -/
def smT (w : Int) (S W : List Int) : List Int := (rws S).map fun r => (List.zipWith (· * ·) W r).sum % w
theorem smT_cnt {w w0 v : Int} {S W : List Int} (w2 : 2 ≤ w) (w12 : w ≤ 12) (h : w0 = 1 ∨ w0 = w - 1 ∨ w0 = 1 - 2 * w) (v0 : 0 ≤ v) (v1 : v < w) : ((smT w (w :: S) (w0 :: W)).filter fun x => decide (x = v)).length = (rws S).length := by
  have e : smT w (w :: S) (w0 :: W) = (List.range w.toNat).flatMap fun (n : Nat) => (rws S).map fun r => (w0 * n + (List.zipWith (· * ·) W r).sum) % w := by
    unfold smT
    rw [rws, List.map_flatMap]
    congr 1
    funext n
    rw [List.map_map]
    refine List.map_congr_left fun r _ => ?_
    simp [Function.comp]
  rw [e, swap_cnt]
  have : ∀ r : List Int, (((List.range w.toNat).map fun (n : Nat) => (w0 * n + (List.zipWith (· * ·) W r).sum) % w).filter fun x => decide (x = v)).length = 1 := fun r => by
    rw [List.filter_map, List.length_map]
    exact one_sol w2 w12 h v0 v1
  simp only [this]
  rw [sum_same, Nat.mul_one]
theorem dups_same {x : Int} : ∀ l : List Int, l ≠ [] → (∀ y ∈ l, y = x) → l.eraseDups = [x]
  | [], h, _ => absurd rfl h
  | y :: l, _, h => by
    obtain rfl := h y List.mem_cons_self
    rw [List.eraseDups_cons]
    have : l.filter (fun b => !b == y) = [] := by
      rw [List.filter_eq_nil_iff]; intro a ha; rw [h a (List.mem_cons_of_mem _ ha)]; simp
    rw [this]; simp
/-! ### the made machine -/
theorem level_ok {C : Calls} (hC : At C 2) {w P : Int} {T : List Int} {t u : D} (w2 : 1 ≤ w) (w12 : w ≤ 12) (hu : u = .tpz (T.map .int)) (hl : T.length ≤ 1000000) (hc : ∀ v, 0 ≤ v → v < w → ((T.filter fun x => decide (x = v)).length : Int) = P) : C.fn i_is_level [mc t w u] = .ok (.bl true) [] := by
  refine stepE T_is_level rfl hC fun C hC => ?_
  have c1 := cmach_ok hC t w u
  have hr : evalI C lc_is_level_1_i [Sl.sh (mc t w u), .no] = .ok (rangeD 0 w.toNat) [Sl.sh (mc t w u), .no] := rng1_ok (n := w.toNat) (by simp [ss_nil, ss_cons, ev_cst, ev_var, ev_mov, ev_glob, ev_sh, ev_tup, ev_lst, ev_bin, ev_binv, ev_neg, ev_cmp, ev_cmpv, ev_chain, ev_and, ev_or, ev_not, ev_ite, ev_call, ev_p1, ev_p2, ev_isi, ev_sub, ev_subv, ev_slc, ev_slcv, ev_rev, ev_pop, ev_popAt, ev_dnew, ev_lrg, ev_idx, ev_cnt, ev_tupz, ev_nev, ev_mk, ev_fld, ev_isio, ev_cmpI, et_cmpI, ex_nev, ex_asg, ex_par, ex_aug, ex_setI, ex_augI, ex_app, ex_ext, ex_expr, ex_ret, ex_retN, ex_pass, ex_brk, ex_cnt, ex_ifS, ex_raise, ex_forS, ex_whl, evalV, evalT, evalEs, evalA, evalA1, evalO, evalC, evalI, enterE, slotR, ownR, ownC, setD, readR, moveR, outs, mapM, isTys_cons, isFreshF, L2.ixN, fillA, putA, putP, mc]; omega) (by omega)
  rw [Rf.range_map] at hr
  have e1 := lc_it (C := C) (elt := lc_is_level_1_e) (tg := .nm 1) (cond := none) (own := [1]) _ _ (fun (b : Nat) => .int P) hr (fun b hb => by
    have h1 := cntD_int T (b : Nat) (len_s hl)
    rw [hc b (by omega) (by have := List.mem_range.mp hb; omega)] at h1
    simp [turn_w, lc_is_level_1_e, ss_nil, ss_cons, ev_cst, ev_var, ev_mov, ev_glob, ev_sh, ev_tup, ev_lst, ev_bin, ev_binv, ev_neg, ev_cmp, ev_cmpv, ev_chain, ev_and, ev_or, ev_not, ev_ite, ev_call, ev_p1, ev_p2, ev_isi, ev_sub, ev_subv, ev_slc, ev_slcv, ev_rev, ev_pop, ev_popAt, ev_dnew, ev_lrg, ev_idx, ev_cnt, ev_tupz, ev_nev, ev_mk, ev_fld, ev_isio, ev_cmpI, et_cmpI, ex_nev, ex_asg, ex_par, ex_aug, ex_setI, ex_augI, ex_app, ex_ext, ex_expr, ex_ret, ex_retN, ex_pass, ex_brk, ex_cnt, ex_ifS, ex_raise, ex_forS, ex_whl, evalV, evalT, evalEs, evalA, evalA1, evalO, evalC, evalI, enterE, slotR, ownR, ownC, setD, readR, moveR, outs, mapM, isTys_cons, isFreshF, L2.ixN, fillA, putA, putP, wipeE, mc, hu, h1]) (len_s (m := 12) (by rw [List.length_range]; omega))
  rw [mapI fun _ : Nat => P] at e1
  have e1 : evalE C lc_is_level_1 _ = _ := e1
  have hd := dups_same (x := P) ((List.range w.toNat).map fun _ => P) (by simp; omega) (fun y hy => by obtain ⟨_, _, rfl⟩ := List.mem_map.mp hy; rfl)
  have hz : ((List.range w.toNat).map fun _ => P).length ≤ 12 := by rw [List.length_map, List.length_range]; omega
  generalize ((List.range w.toNat).map fun _ => P) = Z at *
  have el : p1 .lenset (.lst (Z.map .int)) = some (.int 1) := by
    show ((intsOf (Z.map .int)).bind fun l => if l.length + 1 < 4096 then some (D.int l.eraseDups.length) else none) = _
    rw [intsOf_int]
    simp only [Option.bind_some]
    rw [if_pos (by omega), hd]; rfl
  simp [wipeE, backE] at e1
  simp only [mc] at *
  simp [f_is_level, b_is_level, ss_nil, ss_cons, ev_cst, ev_var, ev_mov, ev_glob, ev_sh, ev_tup, ev_lst, ev_bin, ev_binv, ev_neg, ev_cmp, ev_cmpv, ev_chain, ev_and, ev_or, ev_not, ev_ite, ev_call, ev_p1, ev_p2, ev_isi, ev_sub, ev_subv, ev_slc, ev_slcv, ev_rev, ev_pop, ev_popAt, ev_dnew, ev_lrg, ev_idx, ev_cnt, ev_tupz, ev_nev, ev_mk, ev_fld, ev_isio, ev_cmpI, et_cmpI, ex_nev, ex_asg, ex_par, ex_aug, ex_setI, ex_augI, ex_app, ex_ext, ex_expr, ex_ret, ex_retN, ex_pass, ex_brk, ex_cnt, ex_ifS, ex_raise, ex_forS, ex_whl, evalV, evalT, evalEs, evalA, evalA1, evalO, evalC, evalI, enterE, slotR, ownR, ownC, setD, readR, moveR, outs, mapM, isTys_cons, isFreshF, L2.ixN, fillA, putA, putP, c1, e1, el]
theorem euc_one {w : Int} (h : 2 ≤ w) : euc 1 w = 1 := by
  rw [euc_pos (by omega), Int.emod_eq_of_lt (by omega) (by omega), euc_pos (by omega), show w % 1 = 0 by omega, euc_zero]
theorem low_one {P w : Int} (hP : 0 < P) (h : 2 ≤ w) : lowT P (P * w) = .tup [.int 1, .int w] := by
  have e := low_mul (q := P) (a := 1) (b := w) hP (by omega)
  rw [Int.mul_one] at e
  rw [e]
  unfold lowT
  rw [euc_one h]
  simp
theorem share_ok {C : Calls} (hC : At C 4) {w P v : Int} {T : List Int} {t u : D} (w2 : 2 ≤ w) (hP : 0 < P) (hu : u = .tpz (T.map .int)) (hl : T.length ≤ 1000000) (hc : ((T.filter fun x => decide (x = v)).length : Int) = P) (hT : (T.length : Int) = P * w) (v0 : 0 ≤ v) (v1 : v < w) : C.fn i_share [mc t w u, .int v] = .ok (.tup [.int 1, .int w]) [] := by
  have h1 := cntD_int T v (len_s hl)
  rw [hc] at h1
  have so : ∀ {C : Calls}, At C 3 → C.fn i_share_of [mc t w u, .int v] = .ok (.tup [.int 1, .int w]) [] := fun {C} hC => by
    refine stepE T_share_of rfl hC fun C hC => ?_
    have hp := Int.mul_pos hP (show 0 < w by omega)
    have e := fraction_ok hC (a := P) (b := P * w) hp (Int.lt_of_le_of_lt (show _ ≤ (1000000 : Int) by omega) (Int.lt_of_lt_of_le (show (1000000 : Int) < 2 ^ 25 by decide) (ipow_mono (by decide) (by decide))))
    rw [low_one hP w2] at e
    simp [f_share_of, b_share_of, ss_nil, ss_cons, ev_cst, ev_var, ev_mov, ev_glob, ev_sh, ev_tup, ev_lst, ev_bin, ev_binv, ev_neg, ev_cmp, ev_cmpv, ev_chain, ev_and, ev_or, ev_not, ev_ite, ev_call, ev_p1, ev_p2, ev_isi, ev_sub, ev_subv, ev_slc, ev_slcv, ev_rev, ev_pop, ev_popAt, ev_dnew, ev_lrg, ev_idx, ev_cnt, ev_tupz, ev_nev, ev_mk, ev_fld, ev_isio, ev_cmpI, et_cmpI, ex_nev, ex_asg, ex_par, ex_aug, ex_setI, ex_augI, ex_app, ex_ext, ex_expr, ex_ret, ex_retN, ex_pass, ex_brk, ex_cnt, ex_ifS, ex_raise, ex_forS, ex_whl, evalV, evalT, evalEs, evalA, evalA1, evalO, evalC, evalI, enterE, slotR, ownR, ownC, setD, readR, moveR, outs, mapM, isTys_cons, isFreshF, L2.ixN, fillA, putA, putP, mc, hu, h1, hT, e]
  have co : ∀ {C : Calls}, At C 3 → C.fn i_check_outcome [mc t w u, .int v] = .ok .non [] := fun {C} hC => by
    refine stepE T_check_outcome rfl hC fun C hC => ?_
    have e := within_ok hC v 0 (w - 1)
    simp [f_check_outcome, b_check_outcome, ss_nil, ss_cons, ev_cst, ev_var, ev_mov, ev_glob, ev_sh, ev_tup, ev_lst, ev_bin, ev_binv, ev_neg, ev_cmp, ev_cmpv, ev_chain, ev_and, ev_or, ev_not, ev_ite, ev_call, ev_p1, ev_p2, ev_isi, ev_sub, ev_subv, ev_slc, ev_slcv, ev_rev, ev_pop, ev_popAt, ev_dnew, ev_lrg, ev_idx, ev_cnt, ev_tupz, ev_nev, ev_mk, ev_fld, ev_isio, ev_cmpI, et_cmpI, ex_nev, ex_asg, ex_par, ex_aug, ex_setI, ex_augI, ex_app, ex_ext, ex_expr, ex_ret, ex_retN, ex_pass, ex_brk, ex_cnt, ex_ifS, ex_raise, ex_forS, ex_whl, evalV, evalT, evalEs, evalA, evalA1, evalO, evalC, evalI, enterE, slotR, ownR, ownC, setD, readR, moveR, outs, mapM, isTys_cons, isFreshF, L2.ixN, fillA, putA, putP, mc, e, v0, show v ≤ w - 1 by omega]
  refine stepE T_share rfl hC fun C hC => ?_
  have c1 := cmach_ok hC.le t w u
  have c2 := co hC
  have c3 := so hC
  generalize mc t w u = M at *
  simp [f_share, b_share, ss_nil, ss_cons, ev_cst, ev_var, ev_mov, ev_glob, ev_sh, ev_tup, ev_lst, ev_bin, ev_binv, ev_neg, ev_cmp, ev_cmpv, ev_chain, ev_and, ev_or, ev_not, ev_ite, ev_call, ev_p1, ev_p2, ev_isi, ev_sub, ev_subv, ev_slc, ev_slcv, ev_rev, ev_pop, ev_popAt, ev_dnew, ev_lrg, ev_idx, ev_cnt, ev_tupz, ev_nev, ev_mk, ev_fld, ev_isio, ev_cmpI, et_cmpI, ex_nev, ex_asg, ex_par, ex_aug, ex_setI, ex_augI, ex_app, ex_ext, ex_expr, ex_ret, ex_retN, ex_pass, ex_brk, ex_cnt, ex_ifS, ex_raise, ex_forS, ex_whl, evalV, evalT, evalEs, evalA, evalA1, evalO, evalC, evalI, enterE, slotR, ownR, ownC, setD, readR, moveR, outs, mapM, isTys_cons, isFreshF, L2.ixN, fillA, putA, putP, c1, c2, c3]
theorem numbers_ok {C : Calls} (hC : At C 3) {S N : List Int} {t v : D} (ht : IsT t (S.map .int)) (hv : IsT v (N.map .int)) (hl : N.length = S.length) (h8 : S.length ≤ 1000) (hr : ∀ (i : Nat) s n, S[i]? = some s → N[i]? = some n → 0 ≤ n ∧ n < s) : C.fn i_is_numbers [t, v] = .ok (.bl true) [] := by
  refine stepE T_is_numbers rfl hC fun C hC => ?_
  have h1 := hv.tu
  have h2 := hv.ln
  have h3 := ht.ln
  have e := fun x s => within_ok (hC : At C 2) x 0 (s - 1)
  have hz := zip_T (C := C) (a := .var 1) (b := .var 0) (s := [Sl.sh t, .sh v, .no, .no]) (s1 := [Sl.sh t, .sh v, .no, .no]) (s2 := [Sl.sh t, .sh v, .no, .no]) (by simp [ss_nil, ss_cons, ev_cst, ev_var, ev_mov, ev_glob, ev_sh, ev_tup, ev_lst, ev_bin, ev_binv, ev_neg, ev_cmp, ev_cmpv, ev_chain, ev_and, ev_or, ev_not, ev_ite, ev_call, ev_p1, ev_p2, ev_isi, ev_sub, ev_subv, ev_slc, ev_slcv, ev_rev, ev_pop, ev_popAt, ev_dnew, ev_lrg, ev_idx, ev_cnt, ev_tupz, ev_nev, ev_mk, ev_fld, ev_isio, ev_cmpI, et_cmpI, ex_nev, ex_asg, ex_par, ex_aug, ex_setI, ex_augI, ex_app, ex_ext, ex_expr, ex_ret, ex_retN, ex_pass, ex_brk, ex_cnt, ex_ifS, ex_raise, ex_forS, ex_whl, evalV, evalT, evalEs, evalA, evalA1, evalO, evalC, evalI, enterE, slotR, ownR, ownC, setD, readR, moveR, outs, mapM, isTys_cons, isFreshF, L2.ixN, fillA, putA, putP]) (by simp [ss_nil, ss_cons, ev_cst, ev_var, ev_mov, ev_glob, ev_sh, ev_tup, ev_lst, ev_bin, ev_binv, ev_neg, ev_cmp, ev_cmpv, ev_chain, ev_and, ev_or, ev_not, ev_ite, ev_call, ev_p1, ev_p2, ev_isi, ev_sub, ev_subv, ev_slc, ev_slcv, ev_rev, ev_pop, ev_popAt, ev_dnew, ev_lrg, ev_idx, ev_cnt, ev_tupz, ev_nev, ev_mk, ev_fld, ev_isio, ev_cmpI, et_cmpI, ex_nev, ex_asg, ex_par, ex_aug, ex_setI, ex_augI, ex_app, ex_ext, ex_expr, ex_ret, ex_retN, ex_pass, ex_brk, ex_cnt, ex_ifS, ex_raise, ex_forS, ex_whl, evalV, evalT, evalEs, evalA, evalA1, evalO, evalC, evalI, enterE, slotR, ownR, ownC, setD, readR, moveR, outs, mapM, isTys_cons, isFreshF, L2.ixN, fillA, putA, putP]) hv ht
  rw [List.zipWith_map, zw_zip] at hz
  have el := lc_it (C := C) (elt := lc_is_numbers_1_e) (tg := .tp [.nm 2, .nm 3]) (it := lc_is_numbers_1_i) (cond := none) (own := [2, 3]) (N.zip S) (fun p => .tup [.int p.1, .int p.2]) (fun _ => .bl true) hz (fun p hp => by
    obtain ⟨i, hi, rfl⟩ := List.mem_iff_getElem.mp hp
    rw [List.length_zip] at hi
    have := hr i (S[i]'(by omega)) (N[i]'(by omega)) (List.getElem?_eq_getElem (by omega)) (List.getElem?_eq_getElem (by omega))
    simp [turn_w, lc_is_numbers_1_e, ss_nil, ss_cons, ev_cst, ev_var, ev_mov, ev_glob, ev_sh, ev_tup, ev_lst, ev_bin, ev_binv, ev_neg, ev_cmp, ev_cmpv, ev_chain, ev_and, ev_or, ev_not, ev_ite, ev_call, ev_p1, ev_p2, ev_isi, ev_sub, ev_subv, ev_slc, ev_slcv, ev_rev, ev_pop, ev_popAt, ev_dnew, ev_lrg, ev_idx, ev_cnt, ev_tupz, ev_nev, ev_mk, ev_fld, ev_isio, ev_cmpI, et_cmpI, ex_nev, ex_asg, ex_par, ex_aug, ex_setI, ex_augI, ex_app, ex_ext, ex_expr, ex_ret, ex_retN, ex_pass, ex_brk, ex_cnt, ex_ifS, ex_raise, ex_forS, ex_whl, evalV, evalT, evalEs, evalA, evalA1, evalO, evalC, evalI, enterE, slotR, ownR, ownC, setD, readR, moveR, outs, mapM, isTys_cons, isFreshF, L2.ixN, fillA, putA, putP, wipeE, e, this.1, show N[i] ≤ S[i] - 1 by omega]) (len_s (m := 1000) (by rw [List.length_zip]; omega))
  have el : evalE C lc_is_numbers_1 _ = _ := el
  have ha : p1 .all (.lst ((N.zip S).map fun _ => D.bl true)) = some (.bl true) := by rw [p1_all_map (fun _ => true)]; simp
  generalize ((N.zip S).map fun _ => D.bl true) = Z at *
  simp [wipeE, backE] at el
  simp [f_is_numbers, b_is_numbers, ss_nil, ss_cons, ev_cst, ev_var, ev_mov, ev_glob, ev_sh, ev_tup, ev_lst, ev_bin, ev_binv, ev_neg, ev_cmp, ev_cmpv, ev_chain, ev_and, ev_or, ev_not, ev_ite, ev_call, ev_p1, ev_p2, ev_isi, ev_sub, ev_subv, ev_slc, ev_slcv, ev_rev, ev_pop, ev_popAt, ev_dnew, ev_lrg, ev_idx, ev_cnt, ev_tupz, ev_nev, ev_mk, ev_fld, ev_isio, ev_cmpI, et_cmpI, ex_nev, ex_asg, ex_par, ex_aug, ex_setI, ex_augI, ex_app, ex_ext, ex_expr, ex_ret, ex_retN, ex_pass, ex_brk, ex_cnt, ex_ifS, ex_raise, ex_forS, ex_whl, evalV, evalT, evalEs, evalA, evalA1, evalO, evalC, evalI, enterE, slotR, ownR, ownC, setD, readR, moveR, outs, mapM, isTys_cons, isFreshF, L2.ixN, fillA, putA, putP, h1, h2, h3, hl, el, ha]
theorem outcome_ok {C : Calls} (hC : At C 4) {S W N : List Int} {w : Int} {t u : D} (hS : Sz S) (ht : IsT t (S.map .int)) (hu : IsT u ((smT w S W).map .int)) (hl : N.length = S.length) (hr : ∀ (i : Nat) s n, S[i]? = some s → N[i]? = some n → 0 ≤ n ∧ n < s) : C.fn i_outcome [mc t w u, tI N] = .ok (.int ((List.zipWith (· * ·) W N).sum % w)) [] := by
  obtain ⟨TN, hTN⟩ : ∃ x, x = tI N := ⟨_, rfl⟩
  rw [← hTN]
  have hv : IsT TN (N.map .int) := hTN ▸ IsT.t
  refine stepE T_outcome rfl hC fun C hC => ?_
  have c1 := cmach_ok hC.le t w u
  have c2 := numbers_ok hC.le ht hv hl (by have := hS.le; omega) hr
  obtain ⟨p0, p1, _⟩ := rws_at hS.nn hl hr
  have hg := gt_map (f := fun r => (List.zipWith (· * ·) W r).sum % w) hS.nn hl hr
  have c3 := told_ok hC.le (w := w) (T := smT w S W) (N := N) (x := (List.zipWith (· * ·) W N).sum % w) hS.m ht hu hv (by
    have := atI_gt (N := smT w S W) p0 (by unfold smT; rw [List.length_map, rws_len hS.nn]; exact p1)
    rw [this]
    unfold smT
    rw [hg])
  have tc := ht.c
  have cN := hv.c
  clear hTN
  simp only [mc] at *
  simp [f_outcome, b_outcome, ss_nil, ss_cons, ev_cst, ev_var, ev_mov, ev_glob, ev_sh, ev_tup, ev_lst, ev_bin, ev_binv, ev_neg, ev_cmp, ev_cmpv, ev_chain, ev_and, ev_or, ev_not, ev_ite, ev_call, ev_p1, ev_p2, ev_isi, ev_sub, ev_subv, ev_slc, ev_slcv, ev_rev, ev_pop, ev_popAt, ev_dnew, ev_lrg, ev_idx, ev_cnt, ev_tupz, ev_nev, ev_mk, ev_fld, ev_isio, ev_cmpI, et_cmpI, ex_nev, ex_asg, ex_par, ex_aug, ex_setI, ex_augI, ex_app, ex_ext, ex_expr, ex_ret, ex_retN, ex_pass, ex_brk, ex_cnt, ex_ifS, ex_raise, ex_forS, ex_whl, evalV, evalT, evalEs, evalA, evalA1, evalO, evalC, evalI, enterE, slotR, ownR, ownC, setD, readR, moveR, outs, mapM, isTys_cons, isFreshF, L2.ixN, fillA, putA, putP, c1, c2, c3]
theorem slice_tail (a : D) (ds : List D) : slice (.tup (a :: ds)) (some 1) none = some (.tup ds) := by
  show some (D.tup (cut (a :: ds) (some 1) none)) = _
  unfold cut
  rw [show HT.sIx (a :: ds).length (a :: ds).length none = (a :: ds).length from rfl, show (some (1 : Int)) = some ((1 : Nat) : Int) from rfl, HT.sIx_nat]
  simp
theorem ints_at {r : List D} {q : Nat → Int → Prop} (h : ∀ (i : Nat) x, r[i]? = some x → ∃ v, x = .int v ∧ q i v) : ∃ xs : List Int, r = xs.map .int ∧ ∀ (i : Nat) v, xs[i]? = some v → q i v := by
  refine ⟨r.map fun d => match d with | .int v => v | _ => 0, ?_, fun i v hv => ?_⟩
  · rw [List.map_map]
    refine (List.ext_getElem? fun i => ?_)
    rw [List.getElem?_map]
    cases e : r[i]? with
    | none => rfl
    | some x =>
      obtain ⟨v, rfl, _⟩ := h i x e
      rfl
  · rw [List.getElem?_map] at hv
    obtain ⟨x, hx, rfl⟩ := Option.map_eq_some_iff.mp hv
    obtain ⟨v, rfl, hq⟩ := h i x hx
    exact hq
theorem prod4 : ∀ {S : List Int}, (∀ v ∈ S, 2 ≤ v ∧ v ≤ 4) → 0 < S.prod ∧ S.prod ≤ 4 ^ S.length
  | [], _ => by simp
  | s :: S, h => by
    obtain ⟨a, b⟩ := prod4 (S := S) fun v hv => h v (List.mem_cons_of_mem _ hv)
    obtain ⟨c, d⟩ := h s (List.mem_cons_self ..)
    rw [List.prod_cons, List.length_cons, Int.pow_succ]
    refine ⟨Int.mul_pos (by omega) a, ?_⟩
    have := Int.mul_le_mul d b (by omega) (by omega)
    rw [Int.mul_comm (4 ^ S.length) 4]; exact this
theorem prodw {w : Int} {S : List Int} (w2 : 2 ≤ w) (w12 : w ≤ 12) (hS : ∀ v ∈ S, 2 ≤ v ∧ v ≤ 4) (hl : S.length ≤ 3) : 0 < S.prod ∧ (w :: S).prod ≤ 768 := by
  obtain ⟨p1, p2⟩ := prod4 hS
  have p3 := ipow_mono (w := 4) (by decide) hl
  refine ⟨p1, ?_⟩
  rw [List.prod_cons]
  have := Int.mul_le_mul w12 (Int.le_trans p2 p3) (by omega) (by omega)
  exact this
theorem item_last (xs : List Int) (x : Int) : item (.lst ((xs ++ [x]).map .int)) (.int (-1)) = some (.int x) := by
  show L2.atI ((xs ++ [x]).map D.int) (-1) = _
  unfold L2.atI L2.ixN
  simp
  rw [if_pos (by omega), show (-1 + ((xs.length : Int) + 1)).toNat = xs.length by omega]
  simp
theorem zw_comm (a b : List Int) : List.zipWith (· * ·) a b = List.zipWith (· * ·) b a := by
  rw [List.zipWith_comm]
  congr 1
  funext x y
  exact Int.mul_comm y x
/-! ### made machines draw tickets -/
theorem lmade_ok {C : Calls} (hC : At C 9) (h : Hand) {w T : Int} (ok : Ok w T) : ∃ h', C.fn i__law_is_made [hd h, .int w, .int T] = .ok (.bl true) [hd h'] := by
  have key : (C.fn i__law_is_made [hd h, .int w, .int T]).is fun d o => ∃ h', d = .bl true ∧ o = [hd h'] := by
    refine stepIh T__law_is_made rfl hC fun C hC => ?_
    have w2 := ok.w2
    have w12 := ok.w12
    have d3 := draw_s (hC.le : At C 1) h (b := 3) (by decide) (by decide)
    have b1 := dv_ge h (b := 3) (by decide)
    have b2 := dv_lt h (b := 3) (by decide)
    obtain ⟨n, hn⟩ := Int.eq_ofNat_of_zero_le (show 0 ≤ 1 + dv h 3 by omega)
    have hi : evalI C lc__law_is_made_1_i [Sl.ow (hd h), .sh (.int w), .sh (.int T), .no, .no, .no, .no, .no, .no, .no, .no, .no, .no, .no] = .ok (rangeD 0 n) [Sl.ow (hd (dn h 3)), .sh (.int w), .sh (.int T), .no, .no, .no, .no, .no, .no, .no, .no, .no, .no, .no] := rng1_ok (by simp [ss_nil, ss_cons, ev_cst, ev_var, ev_mov, ev_glob, ev_sh, ev_tup, ev_lst, ev_bin, ev_binv, ev_neg, ev_cmp, ev_cmpv, ev_chain, ev_and, ev_or, ev_not, ev_ite, ev_call, ev_p1, ev_p2, ev_isi, ev_sub, ev_subv, ev_slc, ev_slcv, ev_rev, ev_pop, ev_popAt, ev_dnew, ev_lrg, ev_idx, ev_cnt, ev_tupz, ev_nev, ev_mk, ev_fld, ev_isio, ev_cmpI, et_cmpI, ex_nev, ex_asg, ex_par, ex_aug, ex_setI, ex_augI, ex_app, ex_ext, ex_expr, ex_ret, ex_retN, ex_pass, ex_brk, ex_cnt, ex_ifS, ex_raise, ex_forS, ex_whl, evalV, evalT, evalEs, evalA, evalA1, evalO, evalC, evalI, enterE, slotR, ownR, ownC, setD, readR, moveR, outs, mapM, isTys_cons, isFreshF, L2.ixN, fillA, putA, putP, d3, hn]) (by omega)
    obtain ⟨r, s2, e1, ⟨h1, rfl⟩, hl, hp⟩ := lc_run (C := C) (elt := lc__law_is_made_1_e) (tg := .nm 6) (cond := none) (own := [6])
      (fun _ s => ∃ h, s = [Sl.ow (hd h), .sh (.int w), .sh (.int T), .no, .no, .no, .no, .no, .no, .no, .no, .no, .no, .no]) (fun _ d => ∃ v, d = .int v ∧ 2 ≤ v ∧ v ≤ 4) hi ⟨_, rfl⟩ (fun i d hd s hs => by
        obtain ⟨h, rfl⟩ := hs
        have dd := draw_s (hC.le : At C 1) h (b := 3) (by decide) (by decide)
        have v1 := dv_ge h (b := 3) (by decide)
        have v2 := dv_lt h (b := 3) (by decide)
        simp [turn_w, lc__law_is_made_1_e, ss_nil, ss_cons, ev_cst, ev_var, ev_mov, ev_glob, ev_sh, ev_tup, ev_lst, ev_bin, ev_binv, ev_neg, ev_cmp, ev_cmpv, ev_chain, ev_and, ev_or, ev_not, ev_ite, ev_call, ev_p1, ev_p2, ev_isi, ev_sub, ev_subv, ev_slc, ev_slcv, ev_rev, ev_pop, ev_popAt, ev_dnew, ev_lrg, ev_idx, ev_cnt, ev_tupz, ev_nev, ev_mk, ev_fld, ev_isio, ev_cmpI, et_cmpI, ex_nev, ex_asg, ex_par, ex_aug, ex_setI, ex_augI, ex_app, ex_ext, ex_expr, ex_ret, ex_retN, ex_pass, ex_brk, ex_cnt, ex_ifS, ex_raise, ex_forS, ex_whl, evalV, evalT, evalEs, evalA, evalA1, evalO, evalC, evalI, enterE, slotR, ownR, ownC, setD, readR, moveR, outs, mapM, isTys_cons, isFreshF, L2.ixN, fillA, putA, putP, wipeE, dd]
        omega) (by rw [range_len]; exact len_s (m := 20) (by omega))
    obtain ⟨S, rfl, hS⟩ := ints_of (r := r) (q := fun v => 2 ≤ v ∧ v ≤ 4) fun x hx => by
      obtain ⟨i, hi⟩ := List.mem_iff_getElem?.mp hx
      exact hp i x hi
    rw [range_len, List.length_map] at hl
    have e1 : evalE C lc__law_is_made_1 _ = _ := e1
    simp [backE] at e1
    have cat1 : Rf.bin .add (.tup [.int w]) (.tup (S.map .int)) = some (tI (w :: S)) := by
      rw [bin_catT (by simp; exact len_s (n := 1 + S.length) (m := 100) (by omega))]; rfl
    have pm := pick_mem h1 (ds := [.int 1, .int (w - 1), .int (1 - 2 * w)]) (by simp)
    have da := any_l (hC.le : At C 2) h1 (ds := [.int 1, .int (w - 1), .int (1 - 2 * w)]) (by simp) (by simp)
    obtain ⟨w0, hw0, h0⟩ : ∃ b : Int, pick h1 [.int 1, .int (w - 1), .int (1 - 2 * w)] = .int b ∧ (b = 1 ∨ b = w - 1 ∨ b = 1 - 2 * w) := by
      simp at pm
      rcases pm with e | e | e <;> exact ⟨_, e, by simp⟩
    rw [hw0] at da
    have mu : Rf.bin .mul (.int 2) (.int w) = some (.int (2 * w)) := bin_mul (mulOk_r (by omega))
    generalize dn h1 _ = h2 at *
    generalize hSZ : tI (w :: S) = SZ at *
    have hi2 : evalI C lc__law_is_made_2_i [Sl.ow (hd h2), .sh (.int w), .sh (.int T), .sh SZ, .no, .no, .no, .no, .no, .no, .no, .no, .no, .no] = .ok (S.map .int) [Sl.ow (hd h2), .sh (.int w), .sh (.int T), .sh SZ, .no, .no, .no, .no, .no, .no, .no, .no, .no, .no] := by
      have sl : slice SZ (some 1) none = some (.tup (S.map .int)) := by rw [← hSZ]; exact slice_tail _ _
      have cz : isC SZ = false := by rw [← hSZ]; rfl
      simp [lc__law_is_made_2_i, ss_nil, ss_cons, ev_cst, ev_var, ev_mov, ev_glob, ev_sh, ev_tup, ev_lst, ev_bin, ev_binv, ev_neg, ev_cmp, ev_cmpv, ev_chain, ev_and, ev_or, ev_not, ev_ite, ev_call, ev_p1, ev_p2, ev_isi, ev_sub, ev_subv, ev_slc, ev_slcv, ev_rev, ev_pop, ev_popAt, ev_dnew, ev_lrg, ev_idx, ev_cnt, ev_tupz, ev_nev, ev_mk, ev_fld, ev_isio, ev_cmpI, et_cmpI, ex_nev, ex_asg, ex_par, ex_aug, ex_setI, ex_augI, ex_app, ex_ext, ex_expr, ex_ret, ex_retN, ex_pass, ex_brk, ex_cnt, ex_ifS, ex_raise, ex_forS, ex_whl, evalV, evalT, evalEs, evalA, evalA1, evalO, evalC, evalI, enterE, slotR, ownR, ownC, setD, readR, moveR, outs, mapM, isTys_cons, isFreshF, L2.ixN, fillA, putA, putP, sl]
    obtain ⟨r, s2, e2, ⟨h3, rfl⟩, hl2, hp2⟩ := lc_run (C := C) (elt := lc__law_is_made_2_e) (tg := .nm 11) (cond := none) (own := [11])
      (fun _ s => ∃ h, s = [Sl.ow (hd h), .sh (.int w), .sh (.int T), .sh SZ, .no, .no, .no, .no, .no, .no, .no, .no, .no, .no]) (fun _ d => ∃ v, d = .int v ∧ -9 ≤ v ∧ v ≤ 10) hi2 ⟨_, rfl⟩ (fun i d hd s hs => by
        obtain ⟨h, rfl⟩ := hs
        have dd := draw_s (hC.le : At C 1) h (b := 20) (by decide) (by decide)
        have v1 := dv_ge h (b := 20) (by decide)
        have v2 := dv_lt h (b := 20) (by decide)
        simp [turn_w, lc__law_is_made_2_e, ss_nil, ss_cons, ev_cst, ev_var, ev_mov, ev_glob, ev_sh, ev_tup, ev_lst, ev_bin, ev_binv, ev_neg, ev_cmp, ev_cmpv, ev_chain, ev_and, ev_or, ev_not, ev_ite, ev_call, ev_p1, ev_p2, ev_isi, ev_sub, ev_subv, ev_slc, ev_slcv, ev_rev, ev_pop, ev_popAt, ev_dnew, ev_lrg, ev_idx, ev_cnt, ev_tupz, ev_nev, ev_mk, ev_fld, ev_isio, ev_cmpI, et_cmpI, ex_nev, ex_asg, ex_par, ex_aug, ex_setI, ex_augI, ex_app, ex_ext, ex_expr, ex_ret, ex_retN, ex_pass, ex_brk, ex_cnt, ex_ifS, ex_raise, ex_forS, ex_whl, evalV, evalT, evalEs, evalA, evalA1, evalO, evalC, evalI, enterE, slotR, ownR, ownC, setD, readR, moveR, outs, mapM, isTys_cons, isFreshF, L2.ixN, fillA, putA, putP, wipeE, dd]
        omega) (by rw [List.length_map]; exact len_s (m := 20) (by omega))
    obtain ⟨W, rfl, hW⟩ := ints_of (r := r) (q := fun v => -9 ≤ v ∧ v ≤ 10) fun x hx => by
      obtain ⟨i, hi⟩ := List.mem_iff_getElem?.mp hx
      exact hp2 i x hi
    rw [List.length_map, List.length_map] at hl2
    have e2 : evalE C lc__law_is_made_2 _ = _ := e2
    simp [backE] at e2
    have cat2 : Rf.bin .add (.tup [.int w0]) (.tup (W.map .int)) = some (tI (w0 :: W)) := by
      rw [bin_catT (by simp; exact len_s (n := 1 + W.length) (m := 100) (by omega))]; rfl
    obtain ⟨pr1, pr2⟩ := prodw ok.w2 ok.w12 hS (by omega)
    have hz : Sz (w :: S) := ⟨by simp, by simp; omega, fun s hs => by
      rcases List.mem_cons.mp hs with rfl | hs
      · exact ⟨w2, w12⟩
      · have := hS s hs; omega, by omega⟩
    have sz : IsT SZ ((w :: S).map .int) := hSZ ▸ IsT.t
    have smo := sum_machine_ok hC.le hz (by omega) w12 sz (IsT.t (ds := (w0 :: W).map .int)) (by simp; omega)
    obtain ⟨U, hU⟩ : ∃ u, u = D.tpz ((smT w (w :: S) (w0 :: W)).map .int) := ⟨_, rfl⟩
    have smo : C.fn i_sum_machine [SZ, .int w, tI (w0 :: W)] = .ok (mc SZ w U) [] := hU ▸ smo
    have pn := rws_len (S := S) (fun s hs => by have := hS s hs; omega)
    have pn2 := rws_len (S := w :: S) hz.nn
    have lT : ((smT w (w :: S) (w0 :: W)).length : Int) = ((rws S).length : Int) * w := by unfold smT; rw [List.length_map, pn2, List.prod_cons, pn, Int.mul_comm]
    have lT2 : (smT w (w :: S) (w0 :: W)).length ≤ 1000000 := by
      have : ((smT w (w :: S) (w0 :: W)).length : Int) = (w :: S).prod := by unfold smT; rw [List.length_map, pn2]
      omega
    have cnt : ∀ v, 0 ≤ v → v < w → (((smT w (w :: S) (w0 :: W)).filter fun x => decide (x = v)).length : Int) = ((rws S).length : Int) := fun v v0 v1 => by rw [smT_cnt w2 w12 h0 v0 v1]
    have lv := level_ok (hC.le : At C 2) (t := SZ) (by omega) w12 hU lT2 cnt
    have dd := draw_s (hC.le : At C 1) h3 (b := w) (by omega) (by omega)
    have v0 := dv_ge h3 (b := w) (by omega)
    have v1 := dv_lt h3 (b := w) (by omega)
    have sho := share_ok (hC.le : At C 4) (t := SZ) w2 (by omega) hU lT2 (cnt _ v0 v1) lT v0 v1
    have oo := fun N (hl : N.length = (w :: S).length) hr => outcome_ok (hC.le : At C 4) (W := w0 :: W) (w := w) (N := N) hz sz (show IsT U _ from hU ▸ IsT.z) hl hr
    have sm1 := is_same 2 (C := C) (.tup [.int 1, .int w]) (hC.le) (by simp [dep, deps]) (by rfl)
    have si := fun x : Int => is_same 1 (C := C) (.int x) (hC.le) (by simp [dep]) (by rfl)
    obtain ⟨nd, dg, ed⟩ := ldigits_ok (hC.le : At C 2) ok
    have nd25 := dg.small ok
    have hzl : (w :: S).length ≤ 4 := by simp; omega
    have hzi := hz.it
    have wl : (w0 :: W).length = (w :: S).length := by simp; omega
    have hwi : ∀ x ∈ w0 :: W, x.natAbs < 2 ^ 64 := fun x hx => by
      rcases List.mem_cons.mp hx with rfl | hx
      · omega
      · have := hW x hx; omega
    obtain ⟨WT, hWT⟩ : ∃ x, x = tI (w0 :: W) := ⟨_, rfl⟩
    have sqW : seqOf WT = some ((w0 :: W).map .int) := by rw [hWT]; rfl
    have cW : isC WT = false := by rw [hWT]; rfl
    have lW : ∀ b, mkSl b WT = .sh WT := by rw [hWT]; intro b; cases b <;> rfl
    rw [← hWT] at cat2 smo
    have sqS := sz.sq
    have cS := sz.c
    have lS := sz.sl
    generalize w :: S = SS at *
    generalize w0 :: W = WW at *
    clear hWT
    generalize hM : mc SZ w U = M at *
    have cM : isC M = false := by rw [← hM]; rfl
    have lM : ∀ b, mkSl b M = .sh M := by rw [← hM]; intro b; cases b <;> rfl
    clear hM hU
    generalize dn h3 w = h4 at *
    generalize dv h3 w = v at *
    have r4 : ∀ s : Rf.Env, evalI C lp__law_is_made_1_i s = .ok (rangeD 0 4) s := fun s => rng1_s (n := 4) (by simp [ss_nil, ss_cons, ev_cst, ev_var, ev_mov, ev_glob, ev_sh, ev_tup, ev_lst, ev_bin, ev_binv, ev_neg, ev_cmp, ev_cmpv, ev_chain, ev_and, ev_or, ev_not, ev_ite, ev_call, ev_p1, ev_p2, ev_isi, ev_sub, ev_subv, ev_slc, ev_slcv, ev_rev, ev_pop, ev_popAt, ev_dnew, ev_lrg, ev_idx, ev_cnt, ev_tupz, ev_nev, ev_mk, ev_fld, ev_isio, ev_cmpI, et_cmpI, ex_nev, ex_asg, ex_par, ex_aug, ex_setI, ex_augI, ex_app, ex_ext, ex_expr, ex_ret, ex_retN, ex_pass, ex_brk, ex_cnt, ex_ifS, ex_raise, ex_forS, ex_whl, evalV, evalT, evalEs, evalA, evalA1, evalO, evalC, evalI, enterE, slotR, ownR, ownC, setD, readR, moveR, outs, mapM, isTys_cons, isFreshF, L2.ixN, fillA, putA, putP]) (by decide)
    refine ⟨?_⟩
    simp [f__law_is_made, b__law_is_made, ss_nil, ss_cons, ev_cst, ev_var, ev_mov, ev_glob, ev_sh, ev_tup, ev_lst, ev_bin, ev_binv, ev_neg, ev_cmp, ev_cmpv, ev_chain, ev_and, ev_or, ev_not, ev_ite, ev_call, ev_p1, ev_p2, ev_isi, ev_sub, ev_subv, ev_slc, ev_slcv, ev_rev, ev_pop, ev_popAt, ev_dnew, ev_lrg, ev_idx, ev_cnt, ev_tupz, ev_nev, ev_mk, ev_fld, ev_isio, ev_cmpI, et_cmpI, ex_nev, ex_asg, ex_par, ex_aug, ex_setI, ex_augI, ex_app, ex_ext, ex_expr, ex_ret, ex_retN, ex_pass, ex_brk, ex_cnt, ex_ifS, ex_raise, ex_forS, ex_whl, evalV, evalT, evalEs, evalA, evalA1, evalO, evalC, evalI, enterE, slotR, ownR, ownC, setD, readR, moveR, outs, mapM, isTys_cons, isFreshF, L2.ixN, fillA, putA, putP, e1, cat1, da, mu, e2, cat2, smo, lv, dd, sho, sm1, r4, lM, lW, lS]
    refine is_for (fun i s => ∃ h z a b c d, s = [Sl.ow (hd h), .sh (.int w), .sh (.int T), .sh SZ, .sh WT, .sh M, z, a, b, c, d, .no, .no, .no]) (fun _ _ => False) ⟨_, _, _, _, _, _, rfl⟩ ?_ ?_ (fun _ _ h => h.elim)
    · rintro i z hz s ⟨h, z', a, b, c, d, rfl⟩
      have hr : evalI C lp__law_is_made_2_i [Sl.ow (hd h), .sh (.int w), .sh (.int T), .sh SZ, .sh WT, .sh M, .sh z, .ow (.lst []), b, c, d, .no, .no, .no] = .ok (rangeD 0 nd) [Sl.ow (hd h), .sh (.int w), .sh (.int T), .sh SZ, .sh WT, .sh M, .sh z, .ow (.lst []), b, c, d, .no, .no, .no] := rng1_s (n := nd) (by simp [ss_nil, ss_cons, ev_cst, ev_var, ev_mov, ev_glob, ev_sh, ev_tup, ev_lst, ev_bin, ev_binv, ev_neg, ev_cmp, ev_cmpv, ev_chain, ev_and, ev_or, ev_not, ev_ite, ev_call, ev_p1, ev_p2, ev_isi, ev_sub, ev_subv, ev_slc, ev_slcv, ev_rev, ev_pop, ev_popAt, ev_dnew, ev_lrg, ev_idx, ev_cnt, ev_tupz, ev_nev, ev_mk, ev_fld, ev_isio, ev_cmpI, et_cmpI, ex_nev, ex_asg, ex_par, ex_aug, ex_setI, ex_augI, ex_app, ex_ext, ex_expr, ex_ret, ex_retN, ex_pass, ex_brk, ex_cnt, ex_ifS, ex_raise, ex_forS, ex_whl, evalV, evalT, evalEs, evalA, evalA1, evalO, evalC, evalI, enterE, slotR, ownR, ownC, setD, readR, moveR, outs, mapM, isTys_cons, isFreshF, L2.ixN, fillA, putA, putP, ed]) (by omega)
      simp [forB_eq, lp__law_is_made_1_b, ss_nil, ss_cons, ev_cst, ev_var, ev_mov, ev_glob, ev_sh, ev_tup, ev_lst, ev_bin, ev_binv, ev_neg, ev_cmp, ev_cmpv, ev_chain, ev_and, ev_or, ev_not, ev_ite, ev_call, ev_p1, ev_p2, ev_isi, ev_sub, ev_subv, ev_slc, ev_slcv, ev_rev, ev_pop, ev_popAt, ev_dnew, ev_lrg, ev_idx, ev_cnt, ev_tupz, ev_nev, ev_mk, ev_fld, ev_isio, ev_cmpI, et_cmpI, ex_nev, ex_asg, ex_par, ex_aug, ex_setI, ex_augI, ex_app, ex_ext, ex_expr, ex_ret, ex_retN, ex_pass, ex_brk, ex_cnt, ex_ifS, ex_raise, ex_forS, ex_whl, evalV, evalT, evalEs, evalA, evalA1, evalO, evalC, evalI, enterE, slotR, ownR, ownC, setD, readR, moveR, outs, mapM, isTys_cons, isFreshF, L2.ixN, fillA, putA, putP, hr]
      refine w_for (fun i s => ∃ h b c d, ∃ Q : List Int, Q.length = i ∧ (∀ x ∈ Q, 0 ≤ x ∧ x < w) ∧ s = [Sl.ow (hd h), .sh (.int w), .sh (.int T), .sh SZ, .sh WT, .sh M, .sh z, .ow (.lst (Q.map .int)), b, c, d, .no, .no, .no]) (fun _ _ => False) ⟨_, _, _, _, [], rfl, by simp, rfl⟩ ?_ ?_ (fun _ _ h => False.elim h)
      · rintro i z2 hz2 s ⟨h, b, c, d, Q, hQ, hq, rfl⟩
        obtain ⟨r, s2, e3, ⟨h5, rfl⟩, hl3, hp3⟩ := lc_run (C := C) (elt := lc__law_is_made_3_e) (tg := .nm 11) (it := lc__law_is_made_3_i) (cond := none) (own := [11]) (ds := SS.map .int)
          (s := [Sl.ow (hd h), .sh (.int w), .sh (.int T), .sh SZ, .sh WT, .sh M, .sh z, .ow (.lst (Q.map .int)), .sh z2, c, d, .no, .no, .no]) (s1 := [Sl.ow (hd h), .sh (.int w), .sh (.int T), .sh SZ, .sh WT, .sh M, .sh z, .ow (.lst (Q.map .int)), .sh z2, c, d, .no, .no, .no])
          (fun _ s => ∃ h, s = [Sl.ow (hd h), .sh (.int w), .sh (.int T), .sh SZ, .sh WT, .sh M, .sh z, .ow (.lst (Q.map .int)), .sh z2, c, d, .no, .no, .no]) (fun i d => ∃ v s, SS[i]? = some s ∧ d = .int v ∧ 0 ≤ v ∧ v < s) (by simp [lc__law_is_made_3_i, ss_nil, ss_cons, ev_cst, ev_var, ev_mov, ev_glob, ev_sh, ev_tup, ev_lst, ev_bin, ev_binv, ev_neg, ev_cmp, ev_cmpv, ev_chain, ev_and, ev_or, ev_not, ev_ite, ev_call, ev_p1, ev_p2, ev_isi, ev_sub, ev_subv, ev_slc, ev_slcv, ev_rev, ev_pop, ev_popAt, ev_dnew, ev_lrg, ev_idx, ev_cnt, ev_tupz, ev_nev, ev_mk, ev_fld, ev_isio, ev_cmpI, et_cmpI, ex_nev, ex_asg, ex_par, ex_aug, ex_setI, ex_augI, ex_app, ex_ext, ex_expr, ex_ret, ex_retN, ex_pass, ex_brk, ex_cnt, ex_ifS, ex_raise, ex_forS, ex_whl, evalV, evalT, evalEs, evalA, evalA1, evalO, evalC, evalI, enterE, slotR, ownR, ownC, setD, readR, moveR, outs, mapM, isTys_cons, isFreshF, L2.ixN, fillA, putA, putP, sqS]) ⟨_, rfl⟩ (fun i d hd s hs => by
            obtain ⟨h, rfl⟩ := hs
            rw [List.getElem?_map] at hd
            obtain ⟨x, hx, rfl⟩ := Option.map_eq_some_iff.mp hd
            have hb := hzi x (List.mem_of_getElem? hx)
            have dd := draw_s (hC.le : At C 1) h (b := x) (by omega) (by omega)
            have v1 := dv_ge h (b := x) (by omega)
            have v2 := dv_lt h (b := x) (by omega)
            simp [turn_w, lc__law_is_made_3_e, ss_nil, ss_cons, ev_cst, ev_var, ev_mov, ev_glob, ev_sh, ev_tup, ev_lst, ev_bin, ev_binv, ev_neg, ev_cmp, ev_cmpv, ev_chain, ev_and, ev_or, ev_not, ev_ite, ev_call, ev_p1, ev_p2, ev_isi, ev_sub, ev_subv, ev_slc, ev_slcv, ev_rev, ev_pop, ev_popAt, ev_dnew, ev_lrg, ev_idx, ev_cnt, ev_tupz, ev_nev, ev_mk, ev_fld, ev_isio, ev_cmpI, et_cmpI, ex_nev, ex_asg, ex_par, ex_aug, ex_setI, ex_augI, ex_app, ex_ext, ex_expr, ex_ret, ex_retN, ex_pass, ex_brk, ex_cnt, ex_ifS, ex_raise, ex_forS, ex_whl, evalV, evalT, evalEs, evalA, evalA1, evalO, evalC, evalI, enterE, slotR, ownR, ownC, setD, readR, moveR, outs, mapM, isTys_cons, isFreshF, L2.ixN, fillA, putA, putP, wipeE, dd]
            first | exact ⟨_, hx, v1, v2⟩ | exact ⟨_, _, hx, rfl, v1, v2⟩ | exact ⟨_, _, rfl, hx, v1, v2⟩ | (trace_state; exact ⟨x, hx, v1, v2⟩)) (by rw [List.length_map]; exact len_s (m := 20) (by omega))
        obtain ⟨N, rfl, hN⟩ := ints_at (r := r) (q := fun i v => ∃ s, SS[i]? = some s ∧ 0 ≤ v ∧ v < s) fun i x hi => by
          obtain ⟨v, s, a, b, c⟩ := hp3 i x hi
          exact ⟨v, b, s, a, c⟩
        rw [List.length_map, List.length_map] at hl3
        have hN2 : ∀ (i : Nat) s n, SS[i]? = some s → N[i]? = some n → 0 ≤ n ∧ n < s := fun i s n h1 h2 => by
          obtain ⟨s', e', q⟩ := hN i n h2
          rw [h1] at e'; cases e'; exact q
        have e3 : evalE C lc__law_is_made_3 _ = _ := e3
        simp [backE] at e3
        have oo := oo N hl3 hN2
        have hz3 := zip_S (C := C) (a := .var 9) (b := .var 4) (s := [Sl.ow (hd h5), .sh (.int w), .sh (.int T), .sh SZ, .sh WT, .sh M, .sh z, .ow (.lst (Q.map .int)), .sh z2, .sh (tI N), d, .no, .no, .no]) (s1 := [Sl.ow (hd h5), .sh (.int w), .sh (.int T), .sh SZ, .sh WT, .sh M, .sh z, .ow (.lst (Q.map .int)), .sh z2, .sh (tI N), d, .no, .no, .no])
          (s2 := [Sl.ow (hd h5), .sh (.int w), .sh (.int T), .sh SZ, .sh WT, .sh M, .sh z, .ow (.lst (Q.map .int)), .sh z2, .sh (tI N), d, .no, .no, .no]) (by simp [ss_nil, ss_cons, ev_cst, ev_var, ev_mov, ev_glob, ev_sh, ev_tup, ev_lst, ev_bin, ev_binv, ev_neg, ev_cmp, ev_cmpv, ev_chain, ev_and, ev_or, ev_not, ev_ite, ev_call, ev_p1, ev_p2, ev_isi, ev_sub, ev_subv, ev_slc, ev_slcv, ev_rev, ev_pop, ev_popAt, ev_dnew, ev_lrg, ev_idx, ev_cnt, ev_tupz, ev_nev, ev_mk, ev_fld, ev_isio, ev_cmpI, et_cmpI, ex_nev, ex_asg, ex_par, ex_aug, ex_setI, ex_augI, ex_app, ex_ext, ex_expr, ex_ret, ex_retN, ex_pass, ex_brk, ex_cnt, ex_ifS, ex_raise, ex_forS, ex_whl, evalV, evalT, evalEs, evalA, evalA1, evalO, evalC, evalI, enterE, slotR, ownR, ownC, setD, readR, moveR, outs, mapM, isTys_cons, isFreshF, L2.ixN, fillA, putA, putP]) (by simp [ss_nil, ss_cons, ev_cst, ev_var, ev_mov, ev_glob, ev_sh, ev_tup, ev_lst, ev_bin, ev_binv, ev_neg, ev_cmp, ev_cmpv, ev_chain, ev_and, ev_or, ev_not, ev_ite, ev_call, ev_p1, ev_p2, ev_isi, ev_sub, ev_subv, ev_slc, ev_slcv, ev_rev, ev_pop, ev_popAt, ev_dnew, ev_lrg, ev_idx, ev_cnt, ev_tupz, ev_nev, ev_mk, ev_fld, ev_isio, ev_cmpI, et_cmpI, ex_nev, ex_asg, ex_par, ex_aug, ex_setI, ex_augI, ex_app, ex_ext, ex_expr, ex_ret, ex_retN, ex_pass, ex_brk, ex_cnt, ex_ifS, ex_raise, ex_forS, ex_whl, evalV, evalT, evalEs, evalA, evalA1, evalO, evalC, evalI, enterE, slotR, ownR, ownC, setD, readR, moveR, outs, mapM, isTys_cons, isFreshF, L2.ixN, fillA, putA, putP]) (IsT.t (ds := N.map .int)).sq sqW
        rw [List.zipWith_map, zw_zip] at hz3
        have e4 := lc_it (C := C) (elt := lc__law_is_made_4_e) (tg := .tp [.nm 12, .nm 13]) (it := lc__law_is_made_4_i) (cond := none) (own := [12, 13]) (N.zip WW) (fun p => .tup [.int p.1, .int p.2]) (fun p => .int (p.1 * p.2)) hz3 (fun p hp => by
          have h3 := hwi _ (List.of_mem_zip hp).2
          simp [turn_w, lc__law_is_made_4_e, ss_nil, ss_cons, ev_cst, ev_var, ev_mov, ev_glob, ev_sh, ev_tup, ev_lst, ev_bin, ev_binv, ev_neg, ev_cmp, ev_cmpv, ev_chain, ev_and, ev_or, ev_not, ev_ite, ev_call, ev_p1, ev_p2, ev_isi, ev_sub, ev_subv, ev_slc, ev_slcv, ev_rev, ev_pop, ev_popAt, ev_dnew, ev_lrg, ev_idx, ev_cnt, ev_tupz, ev_nev, ev_mk, ev_fld, ev_isio, ev_cmpI, et_cmpI, ex_nev, ex_asg, ex_par, ex_aug, ex_setI, ex_augI, ex_app, ex_ext, ex_expr, ex_ret, ex_retN, ex_pass, ex_brk, ex_cnt, ex_ifS, ex_raise, ex_forS, ex_whl, evalV, evalT, evalEs, evalA, evalA1, evalO, evalC, evalI, enterE, slotR, ownR, ownC, setD, readR, moveR, outs, mapM, isTys_cons, isFreshF, L2.ixN, fillA, putA, putP, wipeE, bin_mul (mulOk_r (a := p.1) h3)]) (len_s (m := 8) (by rw [List.length_zip]; omega))
        rw [mapI fun p : Int × Int => p.1 * p.2] at e4
        have e5 : (N.zip WW).map (fun p => p.1 * p.2) = List.zipWith (· * ·) WW N := by rw [zw_comm, zw_zip]
        rw [e5] at e4
        have e4 : evalE C lc__law_is_made_4 _ = _ := e4
        simp only [wipeE, backE] at e4
        have hs := sum_int (List.zipWith (· * ·) WW N)
        generalize List.zipWith (· * ·) WW N = Z at *
        simp [backE] at e4
        have hm := bin_mod (a := Z.sum) (show 0 < w by omega)
        have z1 := Int.emod_nonneg Z.sum (show w ≠ 0 by omega)
        have z2' := Int.emod_lt_of_pos Z.sum (show 0 < w by omega)
        have si := si (Z.sum % w)
        generalize Z.sum % w = x at *
        have il := item_last Q x
        simp only [List.map_append, List.map_cons, List.map_nil] at il
        have hQl : Q.length < sizeLine := by have := (range_at hz2).2; exact len_s (n := Q.length + 1) (m := 26) (by omega)
        generalize hTN : tI N = TN at *
        have lN : ∀ b, mkSl b TN = .sh TN := by rw [← hTN]; intro b; cases b <;> rfl
        have ptN : p1 .tuple (.lst (N.map .int)) = some TN := by rw [← hTN]; rfl
        clear hTN
        generalize N.map D.int = NL at *
        simp [forB_eq, lp__law_is_made_2_b, ss_nil, ss_cons, ev_cst, ev_var, ev_mov, ev_glob, ev_sh, ev_tup, ev_lst, ev_bin, ev_binv, ev_neg, ev_cmp, ev_cmpv, ev_chain, ev_and, ev_or, ev_not, ev_ite, ev_call, ev_p1, ev_p2, ev_isi, ev_sub, ev_subv, ev_slc, ev_slcv, ev_rev, ev_pop, ev_popAt, ev_dnew, ev_lrg, ev_idx, ev_cnt, ev_tupz, ev_nev, ev_mk, ev_fld, ev_isio, ev_cmpI, et_cmpI, ex_nev, ex_asg, ex_par, ex_aug, ex_setI, ex_augI, ex_app, ex_ext, ex_expr, ex_ret, ex_retN, ex_pass, ex_brk, ex_cnt, ex_ifS, ex_raise, ex_forS, ex_whl, evalV, evalT, evalEs, evalA, evalA1, evalO, evalC, evalI, enterE, slotR, ownR, ownC, setD, readR, moveR, outs, mapM, isTys_cons, isFreshF, L2.ixN, fillA, putA, putP, e3, ptN, e4, hs, hm, oo, hQl, lN, lM, il, si]
        refine ⟨_, _, _, _, Q ++ [x], by simp [hQ], fun y hy => ?_, rfl, by rw [List.map_append]; rfl, rfl, rfl, rfl⟩
        rcases List.mem_append.mp hy with hy | hy
        · exact hq y hy
        · simp at hy; omega
      · rintro s ⟨h, b, c, d, Q, hQ, hq, rfl⟩
        rw [range_len] at hQ
        have ir : IsRow w nd Q := ⟨hQ, fun x hx => (hq x hx).1, fun x hx => (hq x hx).2⟩
        have e1 := winner_ok (hC.le : At C 6) ok dg ir
        have e2 := lwon_ok (hC.le : At C 4) ok dg Q (u := .lst (Q.map .int)) rfl
        have sw : C.fn i__law_is [won w T nd Q, won w T nd Q] = .ok (.bl true) [] := is_same 1 (C := C) _ hC.le (by unfold won; split <;> simp [dep]) (by unfold won; split <;> rfl)
        generalize won w T nd Q = V at *
        have ptQ : p1 .tuple (.lst (Q.map .int)) = some (.tup (Q.map .int)) := rfl
        generalize Q.map D.int = QL at *
        simp [ss_nil, ss_cons, ev_cst, ev_var, ev_mov, ev_glob, ev_sh, ev_tup, ev_lst, ev_bin, ev_binv, ev_neg, ev_cmp, ev_cmpv, ev_chain, ev_and, ev_or, ev_not, ev_ite, ev_call, ev_p1, ev_p2, ev_isi, ev_sub, ev_subv, ev_slc, ev_slcv, ev_rev, ev_pop, ev_popAt, ev_dnew, ev_lrg, ev_idx, ev_cnt, ev_tupz, ev_nev, ev_mk, ev_fld, ev_isio, ev_cmpI, et_cmpI, ex_nev, ex_asg, ex_par, ex_aug, ex_setI, ex_augI, ex_app, ex_ext, ex_expr, ex_ret, ex_retN, ex_pass, ex_brk, ex_cnt, ex_ifS, ex_raise, ex_forS, ex_whl, evalV, evalT, evalEs, evalA, evalA1, evalO, evalC, evalI, enterE, slotR, ownR, ownC, setD, readR, moveR, outs, mapM, isTys_cons, isFreshF, L2.ixN, fillA, putA, putP, e1, e2, sw, ptQ]
    · rintro s ⟨h, z, a, b, c, d, rfl⟩
      simp [ss_nil, ss_cons, ev_cst, ev_var, ev_mov, ev_glob, ev_sh, ev_tup, ev_lst, ev_bin, ev_binv, ev_neg, ev_cmp, ev_cmpv, ev_chain, ev_and, ev_or, ev_not, ev_ite, ev_call, ev_p1, ev_p2, ev_isi, ev_sub, ev_subv, ev_slc, ev_slcv, ev_rev, ev_pop, ev_popAt, ev_dnew, ev_lrg, ev_idx, ev_cnt, ev_tupz, ev_nev, ev_mk, ev_fld, ev_isio, ev_cmpI, et_cmpI, ex_nev, ex_asg, ex_par, ex_aug, ex_setI, ex_augI, ex_app, ex_ext, ex_expr, ex_ret, ex_retN, ex_pass, ex_brk, ex_cnt, ex_ifS, ex_raise, ex_forS, ex_whl, evalV, evalT, evalEs, evalA, evalA1, evalO, evalC, evalI, enterE, slotR, ownR, ownC, setD, readR, moveR, outs, mapM, isTys_cons, isFreshF, L2.ixN, fillA, putA, putP]
  obtain ⟨d, o, e, h', rfl, rfl⟩ := key.out
  exact ⟨h', e⟩
def menuM : List D := [.int 3, .int 12, .int 40, .int 100]
theorem hMenuM : ([.int 3, .int 12, .int 40, .int 100] : List D) = menuM := rfl
theorem law_ok {C : Calls} (hC : At C 40) (ns : List Int) (hns : ns.length ≤ 63) : C.fn i_law [.scr ns] = .ok (.bl true) [] := by
  refine stepE T_law rfl hC fun C hC => ?_
  have eh := hand_ok hC.le ns
  have fr := hand_fr hC
  generalize Sh.hand0 κ ns = h0 at *
  have mh : mkSl true (hd h0) = .ow (hd h0) := rfl
  have r2 : ∀ s : Rf.Env, evalI C lp_law_1_i s = .ok (rangeD 0 2) s := fun s => rng1_s (n := 2) (by simp [ss_nil, ss_cons, ev_cst, ev_var, ev_mov, ev_glob, ev_sh, ev_tup, ev_lst, ev_bin, ev_binv, ev_neg, ev_cmp, ev_cmpv, ev_chain, ev_and, ev_or, ev_not, ev_ite, ev_call, ev_p1, ev_p2, ev_isi, ev_sub, ev_subv, ev_slc, ev_slcv, ev_rev, ev_pop, ev_popAt, ev_dnew, ev_lrg, ev_idx, ev_cnt, ev_tupz, ev_nev, ev_mk, ev_fld, ev_isio, ev_cmpI, et_cmpI, ex_nev, ex_asg, ex_par, ex_aug, ex_setI, ex_augI, ex_app, ex_ext, ex_expr, ex_ret, ex_retN, ex_pass, ex_brk, ex_cnt, ex_ifS, ex_raise, ex_forS, ex_whl, evalV, evalT, evalEs, evalA, evalA1, evalO, evalC, evalI, enterE, slotR, ownR, ownC, setD, readR, moveR, outs, mapM, isTys_cons, isFreshF, L2.ixN, fillA, putA, putP]) (by decide)
  simp [f_law, b_law, ss_nil, ss_cons, ev_cst, ev_var, ev_mov, ev_glob, ev_sh, ev_tup, ev_lst, ev_bin, ev_binv, ev_neg, ev_cmp, ev_cmpv, ev_chain, ev_and, ev_or, ev_not, ev_ite, ev_call, ev_p1, ev_p2, ev_isi, ev_sub, ev_subv, ev_slc, ev_slcv, ev_rev, ev_pop, ev_popAt, ev_dnew, ev_lrg, ev_idx, ev_cnt, ev_tupz, ev_nev, ev_mk, ev_fld, ev_isio, ev_cmpI, et_cmpI, ex_nev, ex_asg, ex_par, ex_aug, ex_setI, ex_augI, ex_app, ex_ext, ex_expr, ex_ret, ex_retN, ex_pass, ex_brk, ex_cnt, ex_ifS, ex_raise, ex_forS, ex_whl, evalV, evalT, evalEs, evalA, evalA1, evalO, evalC, evalI, enterE, slotR, ownR, ownC, setD, readR, moveR, outs, mapM, isTys_cons, isFreshF, L2.ixN, fillA, putA, putP, eh, fr, mh, r2]
  refine is_for (fun i s => ∃ h a b c, s = [Sl.sh (.scr ns), .ow (hd h), a, b, c]) (fun _ _ => False) ⟨_, _, _, _, rfl⟩ ?_ ?_ (fun _ _ h => h.elim)
  · rintro i z hz s ⟨h, a, b, c, rfl⟩
    have d11 := draw_s (hC.le : At C 1) h (b := 11) (by decide) (by decide)
    have v1 := dv_ge h (b := 11) (by decide)
    have v2 := dv_lt h (b := 11) (by decide)
    obtain ⟨w, hw⟩ : ∃ w, w = 2 + dv h 11 := ⟨_, rfl⟩
    generalize dn h 11 = h1 at *
    have pa := any_l (hC.le : At C 2) h1 (ds := menuM) (by simp [menuM]) (by simp [menuM])
    have pm := pick_mem h1 (ds := menuM) (by simp [menuM])
    obtain ⟨m, hm, m1, m2⟩ : ∃ m : Int, pick h1 menuM = .int m ∧ 1 ≤ m ∧ m ≤ 100 := by
      simp only [menuM, List.mem_cons, List.not_mem_nil, or_false] at pm ⊢
      rcases pm with e | e | e | e <;> exact ⟨_, e, by decide, by decide⟩
    rw [hm] at pa
    generalize dn h1 _ = h2 at *
    obtain ⟨xs, h3, e1, sl, sm⟩ := lsales_ok (hC.le : At C 4) h2 m1 m2
    have e2 := even_ok (hC.le : At C 8) (w := w) (by omega) (by omega) sl (by omega)
    have es := p1_sum_t xs
    have ok : Ok w xs.sum := ⟨by omega, by omega, sl.sum.1, sl.sum.2⟩
    obtain ⟨h4, e3⟩ := lmade_ok (hC.le : At C 9) h3 ok
    have cx : ∀ b, mkSl b (.tup (xs.map .int)) = .sh (.tup (xs.map .int)) := fun b => by cases b <;> rfl
    generalize D.tup (xs.map .int) = XS at *
    simp [forB_eq, lp_law_1_b, ss_nil, ss_cons, ev_cst, ev_var, ev_mov, ev_glob, ev_sh, ev_tup, ev_lst, ev_bin, ev_binv, ev_neg, ev_cmp, ev_cmpv, ev_chain, ev_and, ev_or, ev_not, ev_ite, ev_call, ev_p1, ev_p2, ev_isi, ev_sub, ev_subv, ev_slc, ev_slcv, ev_rev, ev_pop, ev_popAt, ev_dnew, ev_lrg, ev_idx, ev_cnt, ev_tupz, ev_nev, ev_mk, ev_fld, ev_isio, ev_cmpI, et_cmpI, ex_nev, ex_asg, ex_par, ex_aug, ex_setI, ex_augI, ex_app, ex_ext, ex_expr, ex_ret, ex_retN, ex_pass, ex_brk, ex_cnt, ex_ifS, ex_raise, ex_forS, ex_whl, evalV, evalT, evalEs, evalA, evalA1, evalO, evalC, evalI, enterE, slotR, ownR, ownC, setD, readR, moveR, outs, mapM, isTys_cons, isFreshF, L2.ixN, fillA, putA, putP, d11, ← hw, hMenuM, pa, e1, e2, es, e3, cx]
  · rintro s ⟨h, a, b, c, rfl⟩
    have d6 := draw_s (hC.le : At C 1) h (b := 6) (by decide) (by decide)
    have v1 := dv_ge h (b := 6) (by decide)
    have v2 := dv_lt h (b := 6) (by decide)
    obtain ⟨w, hw⟩ : ∃ w, w = 2 + dv h 6 := ⟨_, rfl⟩
    generalize dn h 6 = h1 at *
    obtain ⟨t, h2, e1, t1, t2⟩ := some_ok (hC.le : At C 3) h1 (w := w) (by omega) (by omega)
    obtain ⟨h4, e3⟩ := lmade_ok (hC.le : At C 9) h2 (w := w) (T := t) ⟨by omega, by omega, t1, t2⟩
    simp [ss_nil, ss_cons, ev_cst, ev_var, ev_mov, ev_glob, ev_sh, ev_tup, ev_lst, ev_bin, ev_binv, ev_neg, ev_cmp, ev_cmpv, ev_chain, ev_and, ev_or, ev_not, ev_ite, ev_call, ev_p1, ev_p2, ev_isi, ev_sub, ev_subv, ev_slc, ev_slcv, ev_rev, ev_pop, ev_popAt, ev_dnew, ev_lrg, ev_idx, ev_cnt, ev_tupz, ev_nev, ev_mk, ev_fld, ev_isio, ev_cmpI, et_cmpI, ex_nev, ex_asg, ex_par, ex_aug, ex_setI, ex_augI, ex_app, ex_ext, ex_expr, ex_ret, ex_retN, ex_pass, ex_brk, ex_cnt, ex_ifS, ex_raise, ex_forS, ex_whl, evalV, evalT, evalEs, evalA, evalA1, evalO, evalC, evalI, enterE, slotR, ownR, ownC, setD, readR, moveR, outs, mapM, isTys_cons, isFreshF, L2.ixN, fillA, putA, putP, d6, ← hw, e1, e3]


theorem law_runs (ns : List Int) (h : ns.length ≤ 63) : law ns = .ok (.bl true) [] := law_ok (C := cl tb fuel 60) ⟨60, by decide, rfl⟩ ns h
theorem all_ok : (lib.tds.all fun t => lib.ok t) = true := by kernel_rfl
theorem head_run (w : World) : HandSHeadRun.RunEq LRow (PySem.W.view LRow.prog [75]) hk ob 20000 loose w := by
  intro os
  kernel_rfl
end Hd
open PySem PySem.W PySem.Calls PyProof.Rows
theorem PySem.Challenge.cw_evenurn_k48_whole_rows_of_a_machine_draw_holds : PySem.Challenge.rw_evenurn_k48_whole_rows_of_a_machine_draw.Holds := by
  w_on; o_law
  refine HandSHeadRun.head_any (r := OpenLaw.row PySem.Challenge.rw_evenurn_k48_whole_rows_of_a_machine_draw) (q := view (OpenLaw.row PySem.Challenge.rw_evenurn_k48_whole_rows_of_a_machine_draw).prog [75]) (H := Hd.hk) (ob := Hd.ob) (M := 20000) (loose := Hd.loose) (d := HandSHeadRun.topDef (OpenLaw.row PySem.Challenge.rw_evenurn_k48_whole_rows_of_a_machine_draw).prog 75) (kwd := []) Hd.ob_eq
    (by kernel_rfl) (fun s => by kernel_rfl) Hd.head_run (by kernel_rfl) (by kernel_rfl) (by kernel_rfl) (by rfl) (by first | assumption | decide +kernel) (by decide +kernel) ⟨rfl, rfl, rfl, rfl, rfl, by decide +kernel⟩ ?hw ?hc
  case hw => w_witness2
  case hc =>
    refine L2.walk_ofE (l := PySem.Challenge.rw_evenurn_k48_whole_rows_of_a_machine_draw) (n := 63) (k := 120) (x := "script") (CX := L2.CX0) rfl (by decide) (by kernel_rfl) ⟨rfl, by decide, by decide⟩ ?F (fun _ _ _ _ z => z)
    intro w mg fa h Y G hmg0
    obtain ⟨K, KX, c⟩ := Y
    have hmg : mg (Hd.t_law.nm) = some (.ref fa) := by
      have e : (HandSHeadRun.topDef (OpenLaw.row PySem.Challenge.rw_evenurn_k48_whole_rows_of_a_machine_draw).prog 75).name = Hd.t_law.nm := by kernel_rfl
      rw [← e]
      exact hmg0
    obtain ⟨fd, sp, h1, h2, h3⟩ := Rf.law_fn (P := (PySem.Challenge.rw_evenurn_k48_whole_rows_of_a_machine_draw).prog) (w := w) (L := Hd.lib) (j := 49) (k := 60) (wf := Hd.fuel) (t := Hd.t_law) (n := 63) (x := "script") KX G c.t.d c.more (by kernel_rfl) Hd.all_ok rfl rfl rfl rfl rfl rfl hmg Hd.law_runs
    exact ⟨K, fd, sp, KX, h1, h2, h3⟩
