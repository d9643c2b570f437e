import PyProof.Rows.All
import Wide.All
import OpenK.AllK
import Wide.FinOn
import KE.SortData
import KE.DataEq
import HandS.ForMost
import HandS.Lambda
import HandS.ExcOwn
import HandS.CallSlots
import KE.DataCmp
import HandS.TupAny
import HandS.TupMul
import HandS.Style
import HandS.IsInst
import HandS.List
import HandS.CallLocal
import HandS.TupSets
import PyProof.WalksMore
import HandS.Iter
import HandS.Zip
import KE.GoesEnum
import KE.GoesMore
import HandS.Text
import HandS.ExcCtx
import HandS.Comp
import HandS.HotCalls
import HandS.ExcIs
import HandS.Defaults
import HandS.Codes
import HandS.HeadHook2
import HandS.ExcInitHot
import HandS.HeadHook4
import HandS.HeadWalk
import HandS.NestedK
import KE.KStateDown
import HandS.Head0
import HandS.Head1
import HandS.Head2
import HandS.HeadEnd
import PySem.Challenge.RW_cutpleats_k01_scripts_and_snips_recogniz
set_option Elab.async false
set_option linter.all false
/-! PiA: a small interpreter over pure data. -/
namespace Pi
open PySem

/-- data: values as trees -/
inductive D where
  | non | bl (b : Bool) | int (i : Int) | str (s : Str) | tup (xs : List D) | lst (xs : List D) | dct (ks vs : List D)
  | ref (l : Nat) | gl (i : Nat) | ty (n : String) | exc (c : Nat) (x : D) | scr (xs : List D)
  deriving Inhabited

mutual
def D.py : D → PyData
  | .non => .none
  | .bl b => .bool b
  | .int i => .int i
  | .str s => .str s
  | .tup xs => .tuple (D.pys xs)
  | .lst xs => .list (D.pys xs)
  | _ => .none
def D.pys : List D → List PyData
  | [] => []
  | x :: xs => D.py x :: D.pys xs
end
mutual
/-- plain data: no objects within -/
def D.pl : D → Bool
  | .non | .bl _ | .int _ | .str _ => true
  | .tup xs | .lst xs => D.pls xs
  | _ => false
def D.pls : List D → Bool
  | [] => true
  | x :: xs => D.pl x && D.pls xs
end
mutual
def D.dep : D → Nat
  | .tup xs | .lst xs => D.deps xs + 1
  | _ => 0
def D.deps : List D → Nat
  | [] => 0
  | x :: xs => max (D.dep x) (D.deps xs)
end
mutual
/-- == of plain data -/
def deq : D → D → Bool
  | .non, .non => true
  | .bl a, .bl b => a == b
  | .bl a, .int j => (if a then 1 else 0) == j
  | .int i, .bl b => i == (if b then 1 else 0)
  | .int i, .int j => i == j
  | .str x, .str y => x == y
  | .tup xs, .tup ys => deqs xs ys
  | .lst xs, .lst ys => deqs xs ys
  | _, _ => false
def deqs : List D → List D → Bool
  | [], [] => true
  | x :: xs, y :: ys => deq x y && deqs xs ys
  | _, _ => false
end
mutual
/-- < of plain data that are alike -/
def dlt : D → D → Bool
  | .bl a, .bl b => !a && b
  | .int i, .int j => decide (i < j)
  | .str x, .str y => decide (x.cps.toList < y.cps.toList)
  | .tup xs, .tup ys => dlts xs ys
  | .lst xs, .lst ys => dlts xs ys
  | _, _ => false
def dlts : List D → List D → Bool
  | [], [] => false
  | [], _ :: _ => true
  | _ :: _, [] => false
  | x :: xs, y :: ys => if deq x y then dlts xs ys else dlt x y
end
mutual
def alk : D → D → Bool
  | .bl _, .bl _ => true
  | .int _, .int _ => true
  | .str _, .str _ => true
  | .tup xs, .tup ys => alks xs ys
  | .lst xs, .lst ys => alks xs ys
  | _, _ => false
def alks : List D → List D → Bool
  | [], _ => true
  | _ :: _, [] => true
  | x :: xs, y :: ys => alk x y && alks xs ys
end
/-- a stable sort -/
def insB (x : D) : List D → List D
  | [] => [x]
  | y :: ys => if dlt y x then y :: insB x ys else x :: y :: ys
def isort : List D → List D
  | [] => []
  | x :: xs => insB x (isort xs)
def dmem (x : D) : List D → Bool
  | [] => false
  | y :: ys => deq y x || dmem x ys
/-- each once, the first ones kept -/
def dedup : List D → List D → List D
  | _, [] => []
  | seen, x :: xs => if dmem x seen then dedup seen xs else x :: dedup (x :: seen) xs

/-! ### the code -/
inductive BOp where | add | sub | mul | fdiv | mod | pow deriving DecidableEq
inductive COp where | eq | ne | lt | le | gt | ge | is | isnot | isin | notin deriving DecidableEq
inductive Bi where | len | int | str | bool | list | tuple | sorted | sortset | all | max1 | max2 | min2 | sum | isinst  | dict deriving DecidableEq
inductive Me where | join | split | upper | index | get2 | items deriving DecidableEq
inductive T where | n (i : Nat) | t (is : List Nat) deriving DecidableEq

inductive C where
  | k (d : D)
  | v (i : Nat)
  | g (d : D)
  | tp (es : List C)
  | ls (es : List C)
  | bin (o : BOp) (a b : C)
  | neg (a : C)
  | not (a : C)
  | and (a b : C)
  | or (a b : C)
  | ite (t a b : C)
  | cmp (o : COp) (a b : C)
  | chn (o p : COp) (a b c : C)
  | ix (a i : C)
  | sl (a : C) (lo hi : Option C)
  | rev (a : C)
  | call (f : Nat) (es : List C)
  | cv (i : Nat) (es : List C)
  | bi (b : Bi) (es : List C)
  | me (m : Me) (a : C) (es : List C)
  | rng (es : List C)
  | enm (e : C)
  | zp (a b : C)
  | lc (elt : C) (tg : T) (it : C) (cond : Option C)
  | mk (e : C)
  | rfd (f : Nat) (e : C)
  | asl (a : C)
  deriving Inhabited

inductive S where
  | ex (e : C)
  | asg (t : T) (e : C)
  | par (is : List Nat) (es : List C)
  | app (i : Nat) (e : C)
  | set (i : Nat) (k e : C)
  | ret (e : C)
  | retn
  | ifs (t : C) (a b : List S)
  | for (t : T) (it : C) (b : List S)
  | while (t : C) (b : List S)
  | raise (c : Nat) (e : Option C)
  | pass | brk | cont
  deriving Inhabited

/-! ### states and outcomes -/
abbrev Slot := Option (D × Bool)
abbrev Env := List Slot
inductive Ob where
  | lst (xs : List D)
  | dct (ks vs : List D)
  deriving Inhabited
abbrev Sto := List Ob
inductive R (α : Type) where
  | no
  | ok (a : α) (env : Env) (st : Sto)
  | ex (c : Nat) (x : D) (env : Env) (st : Sto)
inductive RC where
  | no
  | ok (d : D) (own : Bool) (st : Sto)
  | ex (c : Nat) (x : D) (st : Sto)
inductive Flow where | nx | brk | ct | ret (d : D) (own : Bool)
def R.bind {α β : Type} (r : R α) (f : α → Env → Sto → R β) : R β := match r with
  | .no => .no
  | .ok a env st => f a env st
  | .ex c x env st => .ex c x env st
def lift {α : Type} (o : Option α) (env : Env) (st : Sto) : R α := match o with
  | some a => .ok a env st
  | none => .no

/-! ### pure operations -/
def strOf (x : List Nat) : Str := ⟨x.toArray⟩
def bigOk (i : Int) : Bool := decide (-(2 ^ 64) < i) && decide (i < 2 ^ 64)
def szOk (n : Nat) : Bool := decide (n ≤ 1000000)
/-- (value, a new object that nobody else has) -/
def binop : BOp → D → D → Option (D × Bool)
  | .add, .int i, .int j => some (.int (i + j), false)
  | .sub, .int i, .int j => some (.int (i - j), false)
  | .mul, .int i, .int j => if bigOk i || bigOk j then some (.int (i * j), false) else none
  | .mul, .tup xs, .int k => if !xs.isEmpty && decide (xs.length ≤ 1000) && (decide (2 ≤ k) && decide (k ≤ 1000)) then some (.tup (List.replicate k.toNat xs).flatten, false) else none
  | .fdiv, .int i, .int j => if decide (0 < j) && decide (j < 1073741824) then some (.int (i / j), false) else none
  | .mod, .int i, .int j => if decide (0 < j) then some (.int (i % j), false) else none
  | .pow, .int i, .int j => if decide (0 ≤ j) && decide (j ≤ 1000) && bigOk i then some (.int (i ^ j.toNat), false) else none
  | .add, .str x, .str y => if szOk (x.length + y.length) then some (.str (x ++ y), false) else none
  | .add, .tup xs, .tup ys => if szOk (xs.length + ys.length) then some (.tup (xs ++ ys), false) else none
  | .add, .lst xs, .lst ys => if szOk (xs.length + ys.length) then some (.lst (xs ++ ys), true) else none
  | _, _, _ => none
def dnum : D → Option Int
  | .int i => some i
  | _ => none
def dbl : D → Option Bool
  | .bl b => some b
  | _ => none
def cmpop : COp → D → D → Option Bool
  | .eq, a, b => if a.pl && b.pl && decide (min a.dep b.dep ≤ 60) then some (deq a b) else none
  | .ne, a, b => if a.pl && b.pl && decide (min a.dep b.dep ≤ 60) then some (!deq a b) else none
  | .lt, a, b => if a.pl && b.pl && alk a b && decide (min a.dep b.dep ≤ 60) then some (dlt a b) else none
  | .le, a, b => if a.pl && b.pl && alk a b && decide (min a.dep b.dep ≤ 60) then some (!dlt b a) else none
  | .gt, a, b => if a.pl && b.pl && alk a b && decide (min a.dep b.dep ≤ 60) then some (dlt b a) else none
  | .ge, a, b => if a.pl && b.pl && alk a b && decide (min a.dep b.dep ≤ 60) then some (!dlt a b) else none
  | .isin, a, .lst xs => if a.pl && D.pls xs && decide (min (D.deps xs) a.dep ≤ 60) then some (dmem a xs) else none
  | .isin, a, .tup xs => if a.pl && D.pls xs && decide (min (D.deps xs) a.dep ≤ 60) then some (dmem a xs) else none
  | .notin, a, .lst xs => if a.pl && D.pls xs && decide (min (D.deps xs) a.dep ≤ 60) then some (!dmem a xs) else none
  | .notin, a, .tup xs => if a.pl && D.pls xs && decide (min (D.deps xs) a.dep ≤ 60) then some (!dmem a xs) else none
  | .is, .non, .non => some true
  | .is, _, .non => some false
  | .isnot, .non, .non => some false
  | .isnot, _, .non => some true
  | _, _, _ => none
/-- the item at a place (negative ones from the end) -/
def atIx (xs : List D) (i : Int) : Option D := L2.atI xs i
def index : D → D → Option D
  | .tup xs, .int i => atIx xs i
  | .lst xs, .int i => atIx xs i
  | .scr xs, .int i => atIx xs i
  | .str s, .int i => if szOk s.length then (L2.atI s.cps.toList i).map fun c => .str ⟨#[c]⟩ else none
  | _, _ => none
/-- .. of a list of the store, too -/
def ixF (st : Sto) : D → D → Option (D × Bool)
  | .ref l, j => match st[l]? with
    | some (.lst xs) => (index (.lst xs) j).map fun d => (d, false)
    | _ => none
  | x, j => (index x j).map fun d => (d, false)
def cutBy {α : Type} (xs : List α) (lo hi : Option Int) : List α :=
  let a := HT.sIx xs.length 0 lo
  let b := HT.sIx xs.length xs.length hi
  (xs.drop a).take (b - a)
def slice : D → Option Int → Option Int → Option (D × Bool)
  | .tup xs, lo, hi => some (.tup (cutBy xs lo hi), false)
  | .lst xs, lo, hi => some (.lst (cutBy xs lo hi), true)
  | .str s, lo, hi => if szOk s.length then some (.str (L2.cutS s lo hi), false) else none
  | _, _, _ => none
def revD : D → Option (D × Bool)
  | .lst xs => some (.lst xs.reverse, true)
  | _ => none
/-- what is walked -/
def items : D → Option (List D)
  | .tup xs => some xs
  | .lst xs => some xs
  | _ => none
def rangeD (lo : Int) : Nat → List D
  | 0 => []
  | n + 1 => .int lo :: rangeD (lo + 1) n
def enumD (i : Int) : List D → List D
  | [] => []
  | x :: xs => .tup [.int i, x] :: enumD (i + 1) xs
def zipD : List D → List D → List D
  | x :: xs, y :: ys => .tup [x, y] :: zipD xs ys
  | _, _ => []
def allD' : List D → Option Bool
  | [] => some true
  | .bl b :: xs => (allD' xs).map fun q => b && q
  | _ => none
def flatInts : D → Bool
  | .tup [.int i, .int j] => decide (0 ≤ i) && decide (i < 64) && (decide (0 ≤ j) && decide (j < 64))
  | _ => false
def small (i : Int) : Bool := decide (-(2 ^ 62) ≤ i) && decide (i < 2 ^ 62)
def sortable (xs : List D) : Bool := xs.all fun x => x.pl && decide (x.dep ≤ 60) && xs.all fun y => alk x y
def nonEmptyTup : D → Bool
  | .tup (_ :: _) => true
  | _ => false
def noTup : D → Bool
  | .tup _ => false
  | _ => true
def sortD (xs : List D) : Option (D × Bool) := if sortable xs && (xs.all nonEmptyTup || xs.all noTup) && szOk xs.length then some (.lst (isort xs), true) else none
def sortSetD (xs : List D) : Option (D × Bool) := if xs.all flatInts && decide (xs.length < 64) then some (.lst (isort (dedup [] xs)), true) else none
/-- the classes of the program among the global things: (is c a class, its bases ..) -/
structure Gl where
  sub : Nat → Nat → Bool
  ar : Nat → Option Nat
  xi : Nat → Nat → Option Bool
  words : Nat → Option Str
def isInst (G : Gl) : D → D → Option Bool
  | .int _, .ty "int" => some true
  | .bl _, .ty "int" => some true
  | .bl _, .ty "bool" => some true
  | .str _, .ty "str" => some true
  | .tup _, .ty "tuple" => some true
  | .lst _, .ty "list" => some true
  | .non, .ty n => if n = "int" ∨ n = "bool" ∨ n = "str" ∨ n = "tuple" ∨ n = "list" then some false else none
  | .int _, .ty n => if n = "bool" ∨ n = "str" ∨ n = "tuple" ∨ n = "list" then some false else none
  | .bl _, .ty n => if n = "str" ∨ n = "tuple" ∨ n = "list" then some false else none
  | .str _, .ty n => if n = "int" ∨ n = "bool" ∨ n = "tuple" ∨ n = "list" then some false else none
  | .tup _, .ty n => if n = "int" ∨ n = "bool" ∨ n = "str" ∨ n = "list" then some false else none
  | .lst _, .ty n => if n = "int" ∨ n = "bool" ∨ n = "str" ∨ n = "tuple" then some false else none
  | .exc c _, .gl d => some (G.sub c d)
  | .gl i, .gl d => G.xi i d
  | _, _ => none
def numText (i : Int) : Option Str := if decide (0 ≤ i) && decide (i < 10 ^ 10) then some (Str.ofString (toString i)) else none
def strsOf : List D → Option (List Str)
  | [] => some []
  | .str s :: xs => (strsOf xs).map fun r => s :: r
  | _ => none
def bifn (G : Gl) : Bi → List D → Option (D × Bool)
  | .len, [.tup xs] => some (.int xs.length, false)
  | .len, [.lst xs] => some (.int xs.length, false)
  | .len, [.str s] => if szOk s.length then some (.int s.length, false) else none
  | .len, [.dct ks _] => some (.int ks.length, false)
  | .len, [.scr xs] => some (.int xs.length, false)
  | .int, [.int i] => some (.int i, false)
  | .int, [.bl b] => some (.int (if b then 1 else 0), false)
  | .str, [.int i] => (numText i).map fun s => (.str s, false)
  | .bool, [.bl b] => some (.bl b, false)
  | .list, [.tup xs] => some (.lst xs, true)
  | .list, [.lst xs] => some (.lst xs, true)
  | .tuple, [.tup xs] => some (.tup xs, false)
  | .tuple, [.lst xs] => some (.tup xs, false)
  | .sorted, [.lst xs] => sortD xs
  | .sortset, [.lst xs] => sortSetD xs
  | .sortset, [.tup xs] => sortSetD xs
  | .all, [.lst xs] => (allD' xs).map fun b => (.bl b, false)
  | .max2, [.int i, .int j] => some (.int (if j > i then j else i), false)
  | .min2, [.int i, .int j] => some (.int (if j < i then j else i), false)
  | .isinst, [a, t] => (isInst G a t).map fun b => (.bl b, false)
  | _, _ => none
/-- things that are walked only -/
def rangeOf : List D → Option D
  | [.int i] => if small i then some (.lst (rangeD 0 i.toNat)) else none
  | [.int i, .int j] => if small i && small j then some (.lst (rangeD i (j - i).toNat)) else none
  | _ => none
def enumOf : D → Option D
  | .lst xs => some (.lst (enumD 0 xs))
  | .tup xs => some (.lst (enumD 0 xs))
  | _ => none
def zipOf : D → D → Option D
  | .tup xs, .tup ys => some (.lst (zipD xs ys))
  | .lst xs, .lst ys => some (.lst (zipD xs ys))
  | _, _ => none
def mef : Me → D → List D → Option (D × Bool)
  | .join, .str sep, [.lst xs] => match strsOf xs with
    | some l => if szOk ((l.map (·.length)).sum + l.length * sep.length) then some (.str (Txt.join sep l), false) else none
    | none => none
  | _, _, _ => none

def recvOk : Me → D → Bool
  | .join, .str _ => true
  | .join, _ => false
  | _, _ => true

/-! ### slots -/
def getS (env : Env) (i : Nat) : Option (D × Bool) := match env[i]? with
  | some (some p) => some p
  | _ => none
def freeze (env : Env) (i : Nat) (d : D) : Env := env.set i (some (d, false))
def setT : T → D × Bool → Env → Option Env
  | .n i, p, env => if i < env.length then some (env.set i (some p)) else none
  | .t is, (.tup xs, _), env => if is.length = xs.length ∧ ∀ i ∈ is, i < env.length then some ((is.zip xs).foldl (fun e q => e.set q.1 (some (q.2, false))) env) else none
  | .t _, _, _ => none
def T.own : T → List Nat
  | .n i => [i]
  | .t is => is
/-- the slots is as they were -/
def restore (old env : Env) : List Nat → Env
  | [] => env
  | i :: is => (restore old env is).set i (match old[i]? with | some s => s | none => none)
def clear (env : Env) : List Nat → Env
  | [] => env
  | i :: is => (clear env is).set i none

/-- a comprehension's turns -/
def R.calm {α : Type} : R α → R α
  | .ex _ _ _ _ => .no
  | r => r
def lcGo (step : D → Env → Sto → R (Option D)) : List D → Env → Sto → R (List D)
  | [], env, st => .ok [] env st
  | x :: xs, env, st => (step x env st).bind fun y env st => (lcGo step xs env st).bind fun ys env st => .ok (match y with | some y => y :: ys | none => ys) env st
def forGo (body : D → Env → Sto → R Flow) : List D → Env → Sto → R Flow
  | [], env, st => .ok .nx env st
  | x :: xs, env, st => (body x env st).bind fun f env st => match f with
    | .nx | .ct => forGo body xs env st
    | .brk => .ok .nx env st
    | .ret d o => .ok (.ret d o) env st
def whileGo (test : Env → Sto → R Bool) (body : Env → Sto → R Flow) : Nat → Env → Sto → R Flow
  | 0, _, _ => .no
  | n + 1, env, st => (test env st).bind fun b env st => if b then (body env st).bind fun f env st => match f with
      | .nx | .ct => whileGo test body n env st
      | .brk => .ok .nx env st
      | .ret d o => .ok (.ret d o) env st
    else .ok .nx env st
def truth (r : R (D × Bool)) : R Bool := r.bind fun p env st => lift (dbl p.1) env st
def ofCall (r : RC) (env : Env) : R (D × Bool) := match r with
  | .no => .no
  | .ok d o st => .ok (d, o) env st
  | .ex c x st => .ex c x env st

section
variable (G : Gl) (call : Nat → List D → Sto → RC)
mutual
/-- bw: the value is looked at only, and not kept -/
def ev (bw : Bool) : C → Env → Sto → R (D × Bool)
  | .k d, env, st => .ok (d, false) env st
  | .g d, env, st => .ok (d, false) env st
  | .v i, env, st => match getS env i with
    | some (d, o) => if o && !bw then .ok (d, false) (freeze env i d) st else .ok (d, false) env st
    | none => .no
  | .tp es, env, st => (evs false es env st).bind fun ds env st => if szOk ds.length then .ok (.tup ds, false) env st else .no
  | .ls es, env, st => (evs false es env st).bind fun ds env st => if szOk ds.length then .ok (.lst ds, true) env st else .no
  | .bin o a b, env, st => (ev true a env st).bind fun x env st => (ev true b env st).bind fun y env st => lift (binop o x.1 y.1) env st
  | .neg a, env, st => (ev true a env st).bind fun x env st => lift ((dnum x.1).map fun i => (.int (-i), false)) env st
  | .not a, env, st => (ev true a env st).bind fun x env st => lift ((dbl x.1).map fun b => (.bl (!b), false)) env st
  | .and a b, env, st => (ev true a env st).bind fun x env st => match x.1 with
    | .bl true => ev bw b env st
    | .bl false => .ok (.bl false, false) env st
    | _ => .no
  | .or a b, env, st => (ev true a env st).bind fun x env st => match x.1 with
    | .bl true => .ok (.bl true, false) env st
    | .bl false => ev bw b env st
    | _ => .no
  | .ite t a b, env, st => (ev true t env st).bind fun x env st => match x.1 with
    | .bl true => ev bw a env st
    | .bl false => ev bw b env st
    | _ => .no
  | .cmp o a b, env, st => (ev true a env st).bind fun x env st => (ev true b env st).bind fun y env st => lift ((cmpop o x.1 y.1).map fun b => (.bl b, false)) env st
  | .chn o p a b c, env, st => (ev true a env st).bind fun x env st => (ev true b env st).bind fun y env st => match cmpop o x.1 y.1 with
    | some true => (ev true c env st).bind fun z env st => lift ((cmpop p y.1 z.1).map fun b => (.bl b, false)) env st
    | some false => .ok (.bl false, false) env st
    | none => .no
  | .ix a i, env, st => (ev true a env st).bind fun x env st => (ev true i env st).bind fun j env st => lift (ixF st x.1 j.1) env st
  | .sl a lo hi, env, st => (ev true a env st).bind fun x env st => (evo lo env st).bind fun l env st => (evo hi env st).bind fun h env st => lift (slice x.1 l h) env st
  | .rev a, env, st => (ev true a env st).bind fun x env st => lift (revD x.1) env st
  | .call f es, env, st => (evs false es env st).bind fun ds env st => ofCall (call f ds st) env
  | .cv i es, env, st => match getS env i with
    | some (.gl f, _) => if (G.ar f).isSome then (evs false es env st).bind fun ds env st => ofCall (call f ds st) env else .no
    | _ => .no
  | .bi b es, env, st => (evs true es env st).bind fun ds env st => lift (bifn G b ds) env st
  | .me m a es, env, st => (ev true a env st).bind fun x env st => if recvOk m x.1 then (evs true es env st).bind fun ds env st => lift (mef m x.1 ds) env st else .no
  | .rng es, env, st => (evs true es env st).bind fun ds env st => lift ((rangeOf ds).map fun d => (d, false)) env st
  | .enm e, env, st => (ev false e env st).bind fun x env st => lift ((enumOf x.1).map fun d => (d, false)) env st
  | .zp a b, env, st => (ev false a env st).bind fun x env st => (ev false b env st).bind fun y env st => lift ((zipOf x.1 y.1).map fun d => (d, false)) env st
  | .lc elt tg it cond, env0, st => (ev false it env0 st).bind fun x env st => match items x.1 with
    | none => .no
    | some xs => (lcGo (fun x env st => match setT tg (x, false) env with
        | none => .no
        | some env => match cond with
          | none => (ev false elt env st).calm.bind fun y env st => .ok (some y.1) (clear env tg.own) st
          | some c => (truth (ev true c env st)).calm.bind fun b env st => if b then (ev false elt env st).calm.bind fun y env st => .ok (some y.1) (clear env tg.own) st
            else .ok none (clear env tg.own) st) xs (clear env tg.own) st).bind fun ys env1 st => if szOk xs.length then .ok (.lst ys, true) (restore env env1 tg.own) st else .no
  | .mk e, env, st => (ev false e env st).bind fun x env st => match x with
    | (.lst xs, true) => .ok (.ref st.length, false) env (st ++ [.lst xs])
    | (.dct ks vs, true) => .ok (.ref st.length, false) env (st ++ [.dct ks vs])
    | _ => .no
  | .rfd f e, env, st => match ev false e env st with
    | .no => .no
    | .ok _ env st => .ok (.str (Str.ofString ""), false) env st
    | .ex c .non env st => lift ((G.words c).map fun w => (.str w, false)) env st
    | .ex _ _ _ _ => .no
  | .asl a, env, st => (ev bw a env st).bind fun x env st => match x.1 with
    | .lst _ => .ok x env st
    | _ => .no
def evs (bw : Bool) : List C → Env → Sto → R (List D)
  | [], env, st => .ok [] env st
  | e :: es, env, st => (ev bw e env st).bind fun x env st => (evs bw es env st).bind fun xs env st => .ok (x.1 :: xs) env st
def evo : Option C → Env → Sto → R (Option Int)
  | none, env, st => .ok none env st
  | some e, env, st => (ev true e env st).bind fun x env st => match x.1 with
    | .int i => .ok (some i) env st
    | _ => .no
end
/-- a list that may be changed -/
def isL (st : Sto) : Option (D × Bool) → Bool
  | some (.lst _, true) => true
  | some (.ref l, _) => match st[l]? with
    | some (.lst _) => true
    | _ => false
  | _ => false
/-- a store into a list at a place -/
def setAt (xs : List D) (i : Int) (y : D) : Option (List D) := if 0 ≤ i ∧ i < xs.length then some (xs.set i.toNat y) else none
mutual
def exS (W : Nat) : S → Env → Sto → R Flow
  | .ex e, env, st => (ev G call false e env st).bind fun _ env st => .ok .nx env st
  | .asg t e, env, st => (ev G call false e env st).bind fun x env st => match setT t x env with
    | some env => .ok .nx env st
    | none => .no
  | .par is es, env, st => (evs G call false es env st).bind fun xs env st => match setT (.t is) (.tup xs, false) env with
    | some env => .ok .nx env st
    | none => .no
  | .app i e, env, st => if isL st (getS env i) then (ev G call false e env st).bind fun y env st => match getS env i with
    | some (.lst xs, true) => if szOk (xs.length + 1) then .ok .nx (env.set i (some (.lst (xs ++ [y.1]), true))) st else .no
    | some (.ref l, _) => match st[l]? with
      | some (.lst xs) => if szOk (xs.length + 1) then .ok .nx env (st.set l (.lst (xs ++ [y.1]))) else .no
      | _ => .no
    | _ => .no
    else .no
  | .set i k e, env, st => if isL st (getS env i) then (ev G call false e env st).bind fun y env st => (ev G call true k env st).bind fun j env st => match getS env i, j.1 with
    | some (.lst xs, true), .int j => match setAt xs j y.1 with
      | some ys => .ok .nx (env.set i (some (.lst ys, true))) st
      | none => .no
    | some (.ref l, _), .int j => match st[l]? with
      | some (.lst xs) => match setAt xs j y.1 with
        | some ys => .ok .nx env (st.set l (.lst ys))
        | none => .no
      | _ => .no
    | _, _ => .no
    else .no
  | .ret (.v i), env, st => match getS env i with
    | some (d, o) => .ok (.ret d o) (env.set i none) st
    | none => .no
  | .ret e, env, st => (ev G call false e env st).bind fun x env st => .ok (.ret x.1 x.2) env st
  | .retn, env, st => .ok (.ret .non false) env st
  | .ifs t a b, env, st => (truth (ev G call true t env st)).bind fun c env st => if c then exB W a env st else exB W b env st
  | .for t it b, env, st => (ev G call false it env st).bind fun x env st => match items x.1 with
    | some xs => forGo (fun x env st => match setT t (x, false) env with
      | some env => exB W b env st
      | none => .no) xs env st
    | none => .no
  | .while t b, env, st => whileGo (fun env st => truth (ev G call true t env st)) (fun env st => exB W b env st) W env st
  | .raise c none, env, st => .ex c .non env st
  | .raise c (some e), env, st => (ev G call false e env st).bind fun x env st => .ex c x.1 env st
  | .pass, env, st => .ok .nx env st
  | .brk, env, st => .ok .brk env st
  | .cont, env, st => .ok .ct env st
def exB (W : Nat) : List S → Env → Sto → R Flow
  | [], env, st => .ok .nx env st
  | s :: ss, env, st => (exS W s env st).bind fun f env st => match f with
    | .nx => exB W ss env st
    | f => .ok f env st
end
end

structure Fn where
  np : Nat
  ns : Nat
  body : List S
  deriving Inhabited
def callN (G : Gl) (fns : List Fn) (W : Nat) : Nat → Nat → List D → Sto → RC
  | 0, _, _, _ => .no
  | n + 1, f, ds, st => match fns[f]? with
    | none => .no
    | some fn => if ds.length = fn.np then
        match exB G (callN G fns W n) W fn.body (ds.map (fun d => some (d, false)) ++ List.replicate (fn.ns - fn.np) none) st with
        | .no => .no
        | .ok (.ret d o) _ st => .ok d o st
        | .ok .nx _ st => .ok .non false st
        | .ok _ _ _ => .no
        | .ex c x _ st => .ex c x st
      else .no
end Pi

set_option maxRecDepth 100000
/-! PiB: how data stand in the heap; steps; what an outcome promises. -/
namespace Pi
open PySem PySem.Spec L2
abbrev SL := L2.St

/-- what is fixed through a law: the written part, the global things' addresses, the tables of code objects -/
structure Fx where
  K : PySem.W.Frag
  ga : Nat → Addr
  fld : Nat → Str
  T : List (Addr × Str)

def imm : HO → Prop
  | .tup _ => True
  | .frz _ _ => True
  | _ => False
/-- a list of the written part -/
def KL (K : PySem.W.Frag) (a : Addr) (vs : List V) : Prop := ∃ (o : Obj) (its : Array Value) (n : Nat), K.lookup a = some o ∧ o.cls = .type "list" ∧ o.dict = none ∧ o.data = .seq its n ∧ its.size ≤ sizeLine ∧ Vals vs its.toList
def isTbl : HO → Prop
  | .tbl _ => True
  | _ => False

def OwnAt (env : Env) (σ : SL) (b : Addr) : Prop := ∃ (i : Nat) (d : D), env[i]? = some (some (d, true)) ∧ σ[i]? = some (some (V.ref b))
def StoAt (m : Nat → Addr) (n : Nat) (b : Addr) : Prop := ∃ l, l < n ∧ m l = b
def MuOf (Uo : Addr → Prop) (env : Env) (σ : SL) (m : Nat → Addr) (n : Nat) (b : Addr) : Prop := Uo b ∨ OwnAt env σ b ∨ StoAt m n b

section
variable (F : Fx) (Mu : Addr → Prop) (m : Nat → Addr) (n : Nat) (H : Hp)
mutual
/-- v stands for d: lists within are nobody's to change (not in Mu) -/
def Rep : V → D → Prop
  | v, .non => v = .non
  | v, .bl b => v = .bl b
  | v, .int i => v = .int i
  | v, .str s => v = .str s
  | v, .tup xs => ∃ a vs, v = .ref a ∧ SqT F.K H a vs ∧ Reps vs xs
  | v, .lst xs => ∃ a vs, v = .ref a ∧ Rd H a (.lst vs) ∧ ¬ Mu a ∧ Reps vs xs
  | _, .dct _ _ => False
  | v, .ref l => l < n ∧ v = .ref (m l)
  | v, .gl i => v = .ref (F.ga i)
  | v, .ty t => v = .ty t
  | _, .exc _ _ => False
  | v, .scr xs => ∃ a vs, v = .ref a ∧ KL F.K a vs ∧ Reps vs xs
def Reps : List V → List D → Prop
  | [], [] => True
  | v :: vs, d :: ds => Rep v d ∧ Reps vs ds
  | _, _ => False
end
/-- .. a list that is looked at: anybody's but the store's -/
def RepB : V → D → Prop
  | v, .lst xs => ∃ a vs, v = .ref a ∧ Rd H a (.lst vs) ∧ ¬ StoAt m n a ∧ Reps F Mu m n H vs xs
  | v, d => Rep F Mu m n H v d
def RepBs : List V → List D → Prop
  | [], [] => True
  | v :: vs, d :: ds => RepB F Mu m n H v d ∧ RepBs vs ds
  | _, _ => False
end

/-- heaps and forbidden places on the way -/
structure Mov (Mu Mu' : Addr → Prop) (m m' : Nat → Addr) (n n' : Nat) (H H' : Hp) : Prop where
  hn : n ≤ n'
  hm : ∀ l, l < n → m' l = m l
  kp : ∀ a o, H a = some o → imm o ∨ ((∃ xs, o = .lst xs) ∧ ¬ Mu a) → H' a = some o
  mu : ∀ a, Mu' a → Mu a ∨ H a = none

section
variable {F : Fx} {Mu Mu' : Addr → Prop} {m m' : Nat → Addr} {n n' : Nat} {H H' : Hp}
theorem SqT.mov {K : PySem.W.Frag} {a : Addr} {vs : List V} (kp : ∀ a o, H a = some o → imm o → H' a = some o) (h : SqT K H a vs) : SqT K H' a vs := by
  rcases h with h | h
  · rcases h with h | ⟨o, h⟩
    · exact .inl (.inl (kp _ _ h trivial))
    · exact .inl (.inr ⟨o, kp _ _ h trivial⟩)
  · exact .inr h
theorem Rd.mov {a : Addr} {vs : List V} (kp : ∀ a o, H a = some o → imm o ∨ ((∃ xs, o = HO.lst xs) ∧ ¬ Mu a) → H' a = some o) (hm : ¬ Mu a) (h : Rd H a (.lst vs)) : Rd H' a (.lst vs) := by
  rcases h with h | ⟨o, h⟩
  · exact .inl (kp _ _ h (.inr ⟨⟨_, rfl⟩, hm⟩))
  · exact .inr ⟨o, kp _ _ h (.inl trivial)⟩
theorem Rd.some {a : Addr} {u : HO} (h : Rd H a u) : H a ≠ none := by
  rcases h with h | ⟨o, h⟩ <;> rw [h] <;> simp
mutual
theorem Rep.mov (M : Mov Mu Mu' m m' n n' H H') : ∀ {v : V} {d : D}, Rep F Mu m n H v d → Rep F Mu' m' n' H' v d
  | _, .non, h => h
  | _, .bl _, h => h
  | _, .int _, h => h
  | _, .str _, h => h
  | _, .tup xs, h => by
    obtain ⟨a, vs, e, hq, hr⟩ := h
    exact ⟨a, vs, e, SqT.mov (fun a o h1 h2 => M.kp a o h1 (.inl h2)) hq, Reps.mov M hr⟩
  | _, .lst xs, h => by
    obtain ⟨a, vs, e, hq, hm, hr⟩ := h
    exact ⟨a, vs, e, Rd.mov M.kp hm hq, fun z => (M.mu a z).elim hm (Rd.some hq), Reps.mov M hr⟩
  | _, .dct _ _, h => h.elim
  | _, .ref l, h => ⟨Nat.lt_of_lt_of_le h.1 M.hn, by rw [M.hm l h.1]; exact h.2⟩
  | _, .gl _, h => h
  | _, .ty _, h => h
  | _, .exc _ _, h => h.elim
  | _, .scr xs, h => let ⟨a, vs, e, k, hr⟩ := h; ⟨a, vs, e, k, Reps.mov M hr⟩
theorem Reps.mov (M : Mov Mu Mu' m m' n n' H H') : ∀ {vs : List V} {ds : List D}, Reps F Mu m n H vs ds → Reps F Mu' m' n' H' vs ds
  | [], [], _ => trivial
  | _ :: _, _ :: _, h => ⟨Rep.mov M h.1, Reps.mov M h.2⟩
  | [], _ :: _, h => h.elim
  | _ :: _, [], h => h.elim
end
/-- fewer places forbidden -/
theorem Mov.less (h : ∀ a, Mu' a → Mu a) : Mov Mu Mu' m m n n H H := ⟨Nat.le_refl _, fun _ _ => rfl, fun _ _ e _ => e, fun a z => .inl (h a z)⟩
theorem Reps.length : ∀ {vs : List V} {ds : List D}, Reps F Mu m n H vs ds → vs.length = ds.length
  | [], [], _ => rfl
  | _ :: _, _ :: _, h => congrArg (· + 1) (Reps.length h.2)
  | [], _ :: _, h => h.elim
  | _ :: _, [], h => h.elim
theorem Reps.append : ∀ {vs ws : List V} {ds es : List D}, Reps F Mu m n H vs ds → Reps F Mu m n H ws es → Reps F Mu m n H (vs ++ ws) (ds ++ es)
  | [], _, [], _, _, h => h
  | _ :: _, _, _ :: _, _, h, k => ⟨h.1, Reps.append h.2 k⟩
  | [], _, _ :: _, _, h, _ => h.elim
  | _ :: _, _, [], _, h, _ => h.elim
theorem Reps.get : ∀ {vs : List V} {ds : List D} {i : Nat} {d : D}, Reps F Mu m n H vs ds → ds[i]? = some d → ∃ v, vs[i]? = some v ∧ Rep F Mu m n H v d
  | [], [], _, _, _, e => by simp at e
  | v :: _, _ :: _, 0, _, h, e => by simp at e; subst e; exact ⟨v, rfl, h.1⟩
  | _ :: _, _ :: _, i + 1, _, h, e => by
    obtain ⟨v, h1, h2⟩ := Reps.get (i := i) h.2 (by simpa using e)
    exact ⟨v, by simpa using h1, h2⟩
  | [], _ :: _, _, _, h, _ => h.elim
  | _ :: _, [], _, _, h, _ => h.elim
theorem Reps.getV : ∀ {vs : List V} {ds : List D} {i : Nat} {v : V}, Reps F Mu m n H vs ds → vs[i]? = some v → ∃ d, ds[i]? = some d ∧ Rep F Mu m n H v d
  | [], [], _, _, _, e => by simp at e
  | _ :: _, d :: _, 0, _, h, e => by simp at e; subst e; exact ⟨d, rfl, h.1⟩
  | _ :: _, _ :: _, i + 1, _, h, e => by
    obtain ⟨v, h1, h2⟩ := Reps.getV (i := i) h.2 (by simpa using e)
    exact ⟨v, by simpa using h1, h2⟩
  | [], _ :: _, _, _, h, _ => h.elim
  | _ :: _, [], _, _, h, _ => h.elim
theorem Reps.set {v : V} {d : D} (r : Rep F Mu m n H v d) : ∀ {vs : List V} {ds : List D} (i : Nat), Reps F Mu m n H vs ds → Reps F Mu m n H (vs.set i v) (ds.set i d)
  | [], [], _, _ => trivial
  | _ :: _, _ :: _, 0, h => ⟨r, h.2⟩
  | _ :: _, _ :: _, i + 1, h => ⟨h.1, Reps.set r i h.2⟩
  | [], _ :: _, _, h => h.elim
  | _ :: _, [], _, h => h.elim
theorem Reps.drop : ∀ {vs : List V} {ds : List D} (i : Nat), Reps F Mu m n H vs ds → Reps F Mu m n H (vs.drop i) (ds.drop i)
  | _, _, 0, h => h
  | [], [], _ + 1, h => h
  | _ :: _, _ :: _, i + 1, h => Reps.drop i h.2
  | [], _ :: _, _, h => h.elim
  | _ :: _, [], _, h => h.elim
theorem Reps.take : ∀ {vs : List V} {ds : List D} (i : Nat), Reps F Mu m n H vs ds → Reps F Mu m n H (vs.take i) (ds.take i)
  | _, _, 0, _ => trivial
  | [], [], _ + 1, h => h
  | _ :: _, _ :: _, i + 1, h => ⟨h.1, Reps.take i h.2⟩
  | [], _ :: _, _ + 1, h => h.elim
  | _ :: _, [], _ + 1, h => h.elim
theorem Reps.reverse : ∀ {vs : List V} {ds : List D}, Reps F Mu m n H vs ds → Reps F Mu m n H vs.reverse ds.reverse
  | [], [], h => h
  | _ :: _, _ :: _, h => by
    rw [List.reverse_cons, List.reverse_cons]
    exact Reps.append (Reps.reverse h.2) ⟨h.1, trivial⟩
  | [], _ :: _, h => h.elim
  | _ :: _, [], h => h.elim
theorem Rep.toB {v : V} {d : D} (hs : ∀ a, StoAt m n a → Mu a) (h : Rep F Mu m n H v d) : RepB F Mu m n H v d := by
  cases d with
  | lst xs =>
    obtain ⟨a, vs, e, hq, hm, hr⟩ := h
    exact ⟨a, vs, e, hq, fun z => hm (hs a z), hr⟩
  | _ => exact h
end

/-- from one state to a later one; Ch: what of the heap may have changed besides the store -/
structure Step (Ch : Addr → Prop) (env : Env) (σ : SL) (m : Nat → Addr) (n : Nat) (H : Hp) (env' : Env) (σ' : SL) (m' : Nat → Addr) (n' : Nat) (H' : Hp) : Prop where
  hn : n ≤ n'
  hm : ∀ l, l < n → m' l = m l
  new : ∀ l, n ≤ l → l < n' → H (m' l) = none
  fr : ∀ a o, H a = some o → ¬ isTbl o → imm o ∨ (¬ Ch a ∧ ¬ StoAt m n a) → H' a = some o
  th : ∀ a, H a ≠ none → H' a ≠ none
  own : ∀ b, OwnAt env' σ' b → OwnAt env σ b ∨ H b = none
abbrev noCh : Addr → Prop := fun _ => False

section
variable {F : Fx} {Ch : Addr → Prop} {env env1 env2 : Env} {σ σ1 σ2 : SL} {m m1 m2 : Nat → Addr} {n n1 n2 : Nat} {H H1 H2 : Hp}
theorem Step.refl : Step Ch env σ m n H env σ m n H := ⟨Nat.le_refl _, fun _ _ => rfl, fun l h1 h2 => absurd (Nat.lt_of_le_of_lt h1 h2) (Nat.lt_irrefl _), fun _ _ e _ _ => e, fun _ e => e, fun _ e => .inl e⟩
theorem StoAt.grow (hn : n ≤ n1) (hm : ∀ l, l < n → m1 l = m l) {a : Addr} (h : StoAt m n a) : StoAt m1 n1 a := by
  obtain ⟨l, hl, e⟩ := h
  exact ⟨l, Nat.lt_of_lt_of_le hl hn, by rw [hm l hl]; exact e⟩
theorem StoAt.back (hm : ∀ l, l < n → m1 l = m l) (new : ∀ l, n ≤ l → l < n1 → H (m1 l) = none) {a : Addr} (h : StoAt m1 n1 a) : StoAt m n a ∨ H a = none := by
  obtain ⟨l, hl, e⟩ := h
  by_cases h1 : l < n
  · exact .inl ⟨l, h1, by rw [← hm l h1]; exact e⟩
  · exact .inr (by rw [← e]; exact new l (Nat.le_of_not_lt h1) hl)
theorem Step.trans (hc : ∀ a, Ch a → OwnAt env σ a) {Ch1 : Addr → Prop} (hc1 : ∀ a, Ch1 a → Ch a ∨ H a = none) (a : Step Ch env σ m n H env1 σ1 m1 n1 H1) (b : Step Ch1 env1 σ1 m1 n1 H1 env2 σ2 m2 n2 H2) : Step Ch env σ m n H env2 σ2 m2 n2 H2 where
  hn := Nat.le_trans a.hn b.hn
  hm := fun l hl => (b.hm l (Nat.lt_of_lt_of_le hl a.hn)).trans (a.hm l hl)
  new := fun l h1 h2 => by
    by_cases h3 : l < n1
    · rw [b.hm l h3]; exact a.new l h1 h3
    · have z := b.new l (Nat.le_of_not_lt h3) h2
      cases e : H (m2 l) with
      | none => rfl
      | some o => exact absurd z (a.th _ (by rw [e]; simp))
  fr := fun c o e ht h => by
    have e1 := a.fr c o e ht h
    refine b.fr c o e1 ht ?_
    rcases h with h | ⟨h1, h2⟩
    · exact .inl h
    · refine .inr ⟨fun z => ?_, fun z => ?_⟩
      · rcases hc1 c z with z | z
        · exact h1 z
        · rw [e] at z; cases z
      · rcases StoAt.back a.hm a.new z with z | z
        · exact h2 z
        · rw [e] at z; cases z
  th := fun c e => b.th c (a.th c e)
  own := fun c h => by
    rcases b.own c h with h | h
    · exact a.own c h
    · refine .inr ?_
      cases e : H c with
      | none => rfl
      | some o => exact absurd h (a.th c (by rw [e]; simp))
theorem Step.transE (a : Step noCh env σ m n H env1 σ1 m1 n1 H1) (b : Step noCh env1 σ1 m1 n1 H1 env2 σ2 m2 n2 H2) : Step noCh env σ m n H env2 σ2 m2 n2 H2 := a.trans (fun _ h => h.elim) (fun _ h => h.elim) b
theorem Step.transS (a : Step (OwnAt env σ) env σ m n H env1 σ1 m1 n1 H1) (b : Step (OwnAt env1 σ1) env1 σ1 m1 n1 H1 env2 σ2 m2 n2 H2) : Step (OwnAt env σ) env σ m n H env2 σ2 m2 n2 H2 := a.trans (fun _ h => h) (fun c h => a.own c h) b
theorem Step.wide (a : Step noCh env σ m n H env1 σ1 m1 n1 H1) : Step Ch env σ m n H env1 σ1 m1 n1 H1 :=
  ⟨a.hn, a.hm, a.new, fun c o e ht h => a.fr c o e ht (h.imp (fun z => z) fun z => ⟨fun z => z, z.2⟩), a.th, a.own⟩
end

/-- a state of the interpreter and the abstract heap -/
structure Sim (F : Fx) (Uo : Addr → Prop) (m : Nat → Addr) (env : Env) (σ : SL) (st : Sto) (H : Hp) : Prop where
  len : env.length = σ.length
  inj : ∀ (i j : Nat), i < st.length → j < st.length → m i = m j → i = j
  obj : ∀ (l : Nat) (xs : List D), st[l]? = some (Ob.lst xs) → ∃ vs, H (m l) = some (.lst vs) ∧ Reps F (MuOf Uo env σ m st.length) m st.length H vs xs
  noD : ∀ (l : Nat) (ks vs : List D), st[l]? ≠ some (Ob.dct ks vs)
  val : ∀ (i : Nat) (d : D), env[i]? = some (some (d, false)) → ∃ v, σ[i]? = some (some v) ∧ Rep F (MuOf Uo env σ m st.length) m st.length H v d
  own : ∀ (i : Nat) (d : D), env[i]? = some (some (d, true)) → ∃ a xs vs, d = D.lst xs ∧ σ[i]? = some (some (V.ref a)) ∧ H a = some (.lst vs) ∧ Reps F (MuOf Uo env σ m st.length) m st.length H vs xs
  sep : ∀ (i j : Nat) (a : Addr) (d e : D), env[i]? = some (some (d, true)) → env[j]? = some (some (e, true)) → σ[i]? = some (some (V.ref a)) → σ[j]? = some (some (V.ref a)) → i = j
  osto : ∀ b, OwnAt env σ b → ¬ Uo b ∧ ¬ StoAt m st.length b
  usto : ∀ b, StoAt m st.length b → ¬ Uo b
  uH : ∀ a, Uo a → H a ≠ none
  tab : LamX.Tabs F.T H

def Tmp (o : Bool) (v : V) (b : Addr) : Prop := o = true ∧ v = .ref b
def Plus (U W : Addr → Prop) (b : Addr) : Prop := U b ∨ W b
/-- a value that has come; H0: the heap ahead -/
def ValR (F : Fx) (bw o : Bool) (Mu : Addr → Prop) (m : Nat → Addr) (n : Nat) (H0 H : Hp) (v : V) (d : D) : Prop :=
  (o = true → ∃ a xs vs, v = .ref a ∧ d = .lst xs ∧ H a = some (.lst vs) ∧ Reps F Mu m n H vs xs ∧ H0 a = none) ∧
  (o = false → bw = false → Rep F Mu m n H v d) ∧ (o = false → bw = true → RepB F Mu m n H v d)
/-- an exception's class and data -/
def ExcV (F : Fx) (c : Nat) (x : D) (cls : Value) (dd : Option Addr) (H : Hp) : Prop :=
  cls = .ref (F.ga c) ∧ match x with
    | .int i => ∃ a, dd = some a ∧ H a = some (.xd [(F.fld c, .int i)])
    | _ => dd = none

section
variable (F : Fx) (Uo : Addr → Prop) (env : Env) (σ : SL) (m : Nat → Addr) (n : Nat) (H : Hp) (W : WX)
/-- what an outcome promises: of an expression -/
def PostE (bw : Bool) (Q : VK) : R (D × Bool) → Prop
  | .no => False
  | .ok p env' st' => ∀ v m' H', Step noCh env σ m n H env' σ m' st'.length H' → Sim F (Plus Uo (Tmp p.2 v)) m' env' σ st' H' →
      ValR F bw p.2 (MuOf (Plus Uo (Tmp p.2 v)) env' σ m' st'.length) m' st'.length H H' v p.1 → Q v H'
  | .ex c x env' st' => ∀ cls dd m' H', Step noCh env σ m n H env' σ m' st'.length H' → Sim F Uo m' env' σ st' H' → ExcV F c x cls dd H' → W cls dd σ H'
/-- of a list of expressions -/
def PostL (bw : Bool) (Q : List V → Hp → Prop) : R (List D) → Prop
  | .no => False
  | .ok ds env' st' => ∀ vs m' H', Step noCh env σ m n H env' σ m' st'.length H' → Sim F Uo m' env' σ st' H' →
      (bw = false → Reps F (MuOf Uo env' σ m' st'.length) m' st'.length H' vs ds) → RepBs F (MuOf Uo env' σ m' st'.length) m' st'.length H' vs ds → Q vs H'
  | .ex c x env' st' => ∀ cls dd m' H', Step noCh env σ m n H env' σ m' st'.length H' → Sim F Uo m' env' σ st' H' → ExcV F c x cls dd H' → W cls dd σ H'
/-- of anything whose value is told (a slice's part, a test) -/
def PostG {α β : Type} (rel : β → α → Prop) (Q : β → Hp → Prop) : R α → Prop
  | .no => False
  | .ok a env' st' => ∀ b m' H', Step noCh env σ m n H env' σ m' st'.length H' → Sim F Uo m' env' σ st' H' → rel b a → Q b H'
  | .ex c x env' st' => ∀ cls dd m' H', Step noCh env σ m n H env' σ m' st'.length H' → Sim F Uo m' env' σ st' H' → ExcV F c x cls dd H' → W cls dd σ H'
/-- of a statement -/
def PostS (D0 : Ends) : R Flow → Prop
  | .no => False
  | .ok f env' st' => match f with
    | .nx => ∀ σ' m' H', Step (OwnAt env σ) env σ m n H env' σ' m' st'.length H' → Sim F Uo m' env' σ' st' H' → D0.nx σ' H'
    | .brk => ∀ σ' m' H', Step (OwnAt env σ) env σ m n H env' σ' m' st'.length H' → Sim F Uo m' env' σ' st' H' → D0.bk σ' H'
    | .ct => ∀ σ' m' H', Step (OwnAt env σ) env σ m n H env' σ' m' st'.length H' → Sim F Uo m' env' σ' st' H' → D0.ct σ' H'
    | .ret d o => ∀ v σ' m' H', Step (OwnAt env σ) env σ m n H env' σ' m' st'.length H' → Sim F (Plus Uo (Tmp o v)) m' env' σ' st' H' →
        (o = true → ∃ a xs vs, v = .ref a ∧ d = .lst xs ∧ H' a = some (.lst vs) ∧ Reps F (MuOf (Plus Uo (Tmp o v)) env' σ' m' st'.length) m' st'.length H' vs xs ∧ (H a = none ∨ OwnAt env σ a)) →
        (o = false → Rep F (MuOf (Plus Uo (Tmp o v)) env' σ' m' st'.length) m' st'.length H' v d) → D0.rt v H'
  | .ex c x env' st' => ∀ cls dd σ' m' H', Step (OwnAt env σ) env σ m n H env' σ' m' st'.length H' → Sim F Uo m' env' σ' st' H' → ExcV F c x cls dd H' → W cls dd σ' H'
end

section
variable {F : Fx} {Uo Uo' : Addr → Prop} {env env1 : Env} {σ σ1 : SL} {m m1 : Nat → Addr} {n n1 : Nat} {H H1 : Hp} {W : WX} {st st1 : Sto}
theorem MuOf.sub (h : ∀ a, Uo' a → Uo a) : ∀ a, MuOf Uo' env σ m n a → MuOf Uo env σ m n a := fun a z => z.imp (h a) fun z => z
theorem Sim.less (S : Sim F Uo m env σ st H) (h : ∀ a, Uo' a → Uo a) : Sim F Uo' m env σ st H where
  len := S.len
  inj := S.inj
  obj := fun l xs e => let ⟨vs, h1, h2⟩ := S.obj l xs e; ⟨vs, h1, Reps.mov (Mov.less (MuOf.sub h)) h2⟩
  noD := S.noD
  val := fun i d e => let ⟨v, h1, h2⟩ := S.val i d e; ⟨v, h1, Rep.mov (Mov.less (MuOf.sub h)) h2⟩
  own := fun i d e => let ⟨a, xs, vs, h1, h2, h3, h4⟩ := S.own i d e; ⟨a, xs, vs, h1, h2, h3, Reps.mov (Mov.less (MuOf.sub h)) h4⟩
  sep := S.sep
  osto := fun b hb => ⟨fun z => (S.osto b hb).1 (h b z), (S.osto b hb).2⟩
  usto := fun b hb z => S.usto b hb (h b z)
  uH := fun a z => S.uH a (h a z)
  tab := S.tab
theorem Sim.base {U : Addr → Prop} (S : Sim F (Plus Uo U) m env σ st H) : Sim F Uo m env σ st H := S.less fun _ z => .inl z
/-- what stood for data stands for it behind a step -/
theorem Step.mov {Ch : Addr → Prop} (S : Sim F Uo m env σ st H) (p : Step Ch env σ m st.length H env1 σ1 m1 st1.length H1) (hc : ∀ a, Ch a → OwnAt env σ a) : Mov (MuOf Uo env σ m st.length) (MuOf Uo env1 σ1 m1 st1.length) m m1 st.length st1.length H H1 where
  hn := p.hn
  hm := p.hm
  kp := fun a o e h => by
    refine p.fr a o e ?_ ?_
    · rcases h with h | ⟨⟨xs, rfl⟩, _⟩
      · cases o <;> first | exact fun z => z | exact h.elim
      · exact fun z => z
    · rcases h with h | ⟨_, h⟩
      · exact .inl h
      · exact .inr ⟨fun z => h (.inr (.inl (hc a z))), fun z => h (.inr (.inr z))⟩
  mu := fun a z => by
    rcases z with z | z | z
    · exact .inl (.inl z)
    · exact (p.own a z).imp (fun z => .inr (.inl z)) fun z => z
    · exact (StoAt.back p.hm p.new z).imp (fun z => .inr (.inr z)) fun z => z
theorem Step.movE (S : Sim F Uo m env σ st H) (p : Step noCh env σ m st.length H env1 σ1 m1 st1.length H1) : Mov (MuOf Uo env σ m st.length) (MuOf Uo env1 σ1 m1 st1.length) m m1 st.length st1.length H H1 := p.mov S fun _ z => z.elim
theorem StoAt.mu {a : Addr} (h : StoAt m n a) : MuOf Uo env σ m n a := .inr (.inr h)
theorem RepB.movE {v : V} {d : D} (S : Sim F Uo m env σ st H) (p : Step noCh env σ m st.length H env1 σ1 m1 st1.length H1) (r : RepB F (MuOf Uo env σ m st.length) m st.length H v d) : RepB F (MuOf Uo env1 σ1 m1 st1.length) m1 st1.length H1 v d := by
  have M := p.movE S
  cases d with
  | lst xs =>
    obtain ⟨a, vs, e, hq, hs, hr⟩ := r
    refine ⟨a, vs, e, ?_, fun z => (StoAt.back p.hm p.new z).elim hs (Rd.some hq), Reps.mov M hr⟩
    rcases hq with hq | ⟨o, hq⟩
    · exact .inl (p.fr a _ hq (fun z => z) (.inr ⟨fun z => z, hs⟩))
    · exact .inr ⟨o, p.fr a _ hq (fun z => z) (.inl trivial)⟩
  | _ => exact Rep.mov M r
theorem RepBs.movE : ∀ {vs : List V} {ds : List D} (S : Sim F Uo m env σ st H) (p : Step noCh env σ m st.length H env1 σ1 m1 st1.length H1) (r : RepBs F (MuOf Uo env σ m st.length) m st.length H vs ds), RepBs F (MuOf Uo env1 σ1 m1 st1.length) m1 st1.length H1 vs ds
  | [], [], _, _, _ => trivial
  | _ :: _, _ :: _, S, p, h => ⟨RepB.movE S p h.1, RepBs.movE S p h.2⟩
  | [], _ :: _, _, _, h => h.elim
  | _ :: _, [], _, _, h => h.elim
theorem Reps.toB : ∀ {vs : List V} {ds : List D}, Reps F (MuOf Uo env σ m n) m n H vs ds → RepBs F (MuOf Uo env σ m n) m n H vs ds
  | [], [], _ => trivial
  | _ :: _, _ :: _, h => ⟨Rep.toB (fun _ => StoAt.mu) h.1, Reps.toB h.2⟩
  | [], _ :: _, h => h.elim
  | _ :: _, [], h => h.elim
/-- a value that has come, as one that is looked at; as one that is kept -/
theorem ValR.toB {bw o : Bool} {v : V} {d : D} {H0 : Hp} (S : Sim F (Plus Uo (Tmp o v)) m env σ st H) (r : ValR F bw o (MuOf (Plus Uo (Tmp o v)) env σ m st.length) m st.length H0 H v d) : RepB F (MuOf Uo env σ m st.length) m st.length H v d := by
  have L : Mov (MuOf (Plus Uo (Tmp o v)) env σ m st.length) (MuOf Uo env σ m st.length) m m st.length st.length H H := Mov.less (MuOf.sub fun _ z => .inl z)
  cases o with
  | true =>
    obtain ⟨a, xs, vs, rfl, rfl, h1, h2, h3⟩ := r.1 rfl
    exact ⟨a, vs, rfl, .inl h1, fun z => S.usto a z (.inr ⟨rfl, rfl⟩), Reps.mov L h2⟩
  | false =>
    cases bw with
    | false => exact Rep.toB (fun _ => StoAt.mu) (Rep.mov L (r.2.1 rfl rfl))
    | true =>
      have q := r.2.2 rfl rfl
      cases d with
      | lst xs =>
        obtain ⟨a, vs, e, hq, hs, hr⟩ := q
        exact ⟨a, vs, e, hq, hs, Reps.mov L hr⟩
      | _ => exact Rep.mov L q
theorem ValR.toRep {o : Bool} {v : V} {d : D} {H0 : Hp} (hu : ∀ a, Uo a → H0 a ≠ none) (S : Sim F (Plus Uo (Tmp o v)) m env σ st H) (r : ValR F false o (MuOf (Plus Uo (Tmp o v)) env σ m st.length) m st.length H0 H v d) : Rep F (MuOf Uo env σ m st.length) m st.length H v d := by
  have L : Mov (MuOf (Plus Uo (Tmp o v)) env σ m st.length) (MuOf Uo env σ m st.length) m m st.length st.length H H := Mov.less (MuOf.sub fun _ z => .inl z)
  cases o with
  | true =>
    obtain ⟨a, xs, vs, rfl, rfl, h1, h2, h3⟩ := r.1 rfl
    refine ⟨a, vs, rfl, .inl h1, fun z => ?_, Reps.mov L h2⟩
    -- a is nobody else's
    rcases z with z | z | z
    · exact hu a z h3
    · exact (S.osto a z).1 (.inr ⟨rfl, rfl⟩)
    · exact S.usto a z (.inr ⟨rfl, rfl⟩)
  | false => exact Rep.mov L (r.2.1 rfl rfl)
end
end Pi

set_option maxRecDepth 100000
/-! PiC: outcomes composed; new objects. -/
namespace Pi
open PySem PySem.Spec L2

/-- what an exception promises -/
def PostX (F : Fx) (Uo : Addr → Prop) (env : Env) (σ : SL) (m : Nat → Addr) (n : Nat) (H : Hp) (W : WX) (c : Nat) (x : D) (env' : Env) (st' : Sto) : Prop :=
  ∀ cls dd m' H', Step noCh env σ m n H env' σ m' st'.length H' → Sim F Uo m' env' σ st' H' → ExcV F c x cls dd H' → W cls dd σ H'

/-- promises that go on from state to state within an expression -/
structure Closed {β : Type} (F : Fx) (Uo : Addr → Prop) (σ : SL) (W : WX) (P : Env → (Nat → Addr) → Nat → Hp → R β → Prop) : Prop where
  no : ∀ env m n H, ¬ P env m n H .no
  ex : ∀ env m n H c x env' st', P env m n H (.ex c x env' st') → PostX F Uo env σ m n H W c x env' st'
  step : ∀ env m n H env1 m1 n1 H1 r, Step noCh env σ m n H env1 σ m1 n1 H1 → P env m n H r → P env1 m1 n1 H1 r

section
variable {F : Fx} {Uo : Addr → Prop} {env env1 : Env} {σ : SL} {m m1 : Nat → Addr} {n n1 : Nat} {H H1 : Hp} {W : WX} {st st1 : Sto} {bw : Bool}
theorem PostX.step {c x env' st'} (p : Step noCh env σ m n H env1 σ m1 n1 H1) (h : PostX F Uo env σ m n H W c x env' st') : PostX F Uo env1 σ m1 n1 H1 W c x env' st' :=
  fun cls dd m' H' q S e => h cls dd m' H' (p.transE q) S e
theorem ValR.from {o : Bool} {Mu : Addr → Prop} {v : V} {d : D} {Ha Hb H : Hp} (th : ∀ a, Ha a ≠ none → Hb a ≠ none) (r : ValR F bw o Mu m n Hb H v d) : ValR F bw o Mu m n Ha H v d :=
  ⟨fun e => let ⟨a, xs, vs, h1, h2, h3, h4, h5⟩ := r.1 e; ⟨a, xs, vs, h1, h2, h3, h4, by
    cases q : Ha a with
    | none => rfl
    | some o => exact absurd h5 (th a (by rw [q]; simp))⟩, r.2.1, r.2.2⟩
theorem closedE {Q : VK} : Closed F Uo σ W fun env m n H r => PostE F Uo env σ m n H W bw Q r where
  no := fun _ _ _ _ h => h
  ex := fun _ _ _ _ _ _ _ _ h => h
  step := fun env m n H env1 m1 n1 H1 r p h => by
    cases r with
    | no => exact h
    | ex c x env' st' => exact PostX.step p h
    | ok a env' st' => exact fun v m' H' q S r => h v m' H' (p.transE q) S (r.from p.th)
theorem closedL {Q : List V → Hp → Prop} : Closed F Uo σ W fun env m n H r => PostL F Uo env σ m n H W bw Q r where
  no := fun _ _ _ _ h => h
  ex := fun _ _ _ _ _ _ _ _ h => h
  step := fun env m n H env1 m1 n1 H1 r p h => by
    cases r with
    | no => exact h
    | ex c x env' st' => exact PostX.step p h
    | ok a env' st' => exact fun v m' H' q S r => h v m' H' (p.transE q) S r
theorem closedG {α β : Type} {rel : β → α → Prop} {Q : β → Hp → Prop} : Closed F Uo σ W fun env m n H r => PostG F Uo env σ m n H W rel Q r where
  no := fun _ _ _ _ h => h
  ex := fun _ _ _ _ _ _ _ _ h => h
  step := fun env m n H env1 m1 n1 H1 r p h => by
    cases r with
    | no => exact h
    | ex c x env' st' => exact PostX.step p h
    | ok a env' st' => exact fun v m' H' q S r => h v m' H' (p.transE q) S r
theorem stepES {env2 : Env} {σ2 : SL} {m2 : Nat → Addr} {n2 : Nat} {H2 : Hp} (p : Step noCh env σ m n H env1 σ m1 n1 H1) (q : Step (OwnAt env1 σ) env1 σ m1 n1 H1 env2 σ2 m2 n2 H2) : Step (OwnAt env σ) env σ m n H env2 σ2 m2 n2 H2 := Step.transS p.wide q
theorem closedS {D0 : Ends} : Closed F Uo σ W fun env m n H r => PostS F Uo env σ m n H W D0 r where
  no := fun _ _ _ _ h => h
  ex := fun _ _ _ _ _ _ _ _ h => fun cls dd m' H' p S e => h cls dd σ m' H' p.wide S e
  step := fun env m n H env1 m1 n1 H1 r p h => by
    cases r with
    | no => exact h
    | ex c x env' st' => exact fun cls dd σ' m' H' q S e => h cls dd σ' m' H' (stepES p q) S e
    | ok f env' st' =>
      cases f with
      | nx => exact fun σ' m' H' q S => h σ' m' H' (stepES p q) S
      | brk => exact fun σ' m' H' q S => h σ' m' H' (stepES p q) S
      | ct => exact fun σ' m' H' q S => h σ' m' H' (stepES p q) S
      | ret d o =>
        refine fun v σ' m' H' q S r1 r2 => h v σ' m' H' (stepES p q) S (fun e => ?_) r2
        obtain ⟨a, xs, vs, h1, h2, h3, h4, h5⟩ := r1 e
        refine ⟨a, xs, vs, h1, h2, h3, h4, ?_⟩
        rcases h5 with h5 | h5
        · refine .inl ?_
          cases q : H a with
          | none => rfl
          | some o => exact absurd h5 (p.th a (by rw [q]; simp))
        · exact (p.own a h5).symm

/-- an expression, then what follows -/
theorem bindE {β : Type} {P : Env → (Nat → Addr) → Nat → Hp → R β → Prop} (hP : Closed F Uo σ W P) {r : R (D × Bool)} {f : D × Bool → Env → Sto → R β} {bw' : Bool} {Q1 : VK} (h : P env m n H (r.bind f))
    (k : ∀ v d o m1 env1 st1 H1, Step noCh env σ m n H env1 σ m1 st1.length H1 → Sim F (Plus Uo (Tmp o v)) m1 env1 σ st1 H1 → ValR F bw' o (MuOf (Plus Uo (Tmp o v)) env1 σ m1 st1.length) m1 st1.length H H1 v d →
      P env1 m1 st1.length H1 (f (d, o) env1 st1) → Q1 v H1) : PostE F Uo env σ m n H W bw' Q1 r := by
  cases r with
  | no => exact hP.no _ _ _ _ h
  | ex c x env' st' => exact hP.ex _ _ _ _ _ _ _ _ h
  | ok p env' st' => exact fun v m' H' q S r => k v p.1 p.2 m' env' st' H' q S r (hP.step _ _ _ _ _ _ _ _ _ q h)
theorem bindL {β : Type} {P : Env → (Nat → Addr) → Nat → Hp → R β → Prop} (hP : Closed F Uo σ W P) {r : R (List D)} {f : List D → Env → Sto → R β} {bw' : Bool} {Q1 : List V → Hp → Prop} (h : P env m n H (r.bind f))
    (k : ∀ vs ds m1 env1 st1 H1, Step noCh env σ m n H env1 σ m1 st1.length H1 → Sim F Uo m1 env1 σ st1 H1 → (bw' = false → Reps F (MuOf Uo env1 σ m1 st1.length) m1 st1.length H1 vs ds) → RepBs F (MuOf Uo env1 σ m1 st1.length) m1 st1.length H1 vs ds →
      P env1 m1 st1.length H1 (f ds env1 st1) → Q1 vs H1) : PostL F Uo env σ m n H W bw' Q1 r := by
  cases r with
  | no => exact hP.no _ _ _ _ h
  | ex c x env' st' => exact hP.ex _ _ _ _ _ _ _ _ h
  | ok p env' st' => exact fun vs m' H' q S r1 r2 => k vs p m' env' st' H' q S r1 r2 (hP.step _ _ _ _ _ _ _ _ _ q h)
theorem bindG {α γ β : Type} {P : Env → (Nat → Addr) → Nat → Hp → R β → Prop} (hP : Closed F Uo σ W P) {r : R α} {f : α → Env → Sto → R β} {rel : γ → α → Prop} {Q1 : γ → Hp → Prop} (h : P env m n H (r.bind f))
    (k : ∀ b a m1 env1 st1 H1, Step noCh env σ m n H env1 σ m1 st1.length H1 → Sim F Uo m1 env1 σ st1 H1 → rel b a → P env1 m1 st1.length H1 (f a env1 st1) → Q1 b H1) : PostG F Uo env σ m n H W rel Q1 r := by
  cases r with
  | no => exact hP.no _ _ _ _ h
  | ex c x env' st' => exact hP.ex _ _ _ _ _ _ _ _ h
  | ok p env' st' => exact fun b m' H' q S r1 => k b p m' env' st' H' q S r1 (hP.step _ _ _ _ _ _ _ _ _ q h)

/-! ### ends -/
theorem Sim.plusF {v : V} (S : Sim F Uo m env σ st H) : Sim F (Plus Uo (Tmp false v)) m env σ st H := S.less fun a z => z.elim (fun z => z) fun z => absurd z.1 (by simp)
theorem muF {v : V} {a : Addr} : MuOf (Plus Uo (Tmp false v)) env σ m n a → MuOf Uo env σ m n a := fun z => z.imp (fun z => z.elim (fun z => z) fun z => absurd z.1 (by simp)) fun z => z
theorem Rep.plusF {v w : V} {d : D} (r : Rep F (MuOf Uo env σ m n) m n H v d) : Rep F (MuOf (Plus Uo (Tmp false w)) env σ m n) m n H v d := Rep.mov (Mov.less fun _ z => muF z) r
theorem RepB.plusF {v w : V} {d : D} (r : RepB F (MuOf Uo env σ m n) m n H v d) : RepB F (MuOf (Plus Uo (Tmp false w)) env σ m n) m n H v d := by
  cases d with
  | lst xs =>
    obtain ⟨a, vs, e, h1, h2, h3⟩ := r
    exact ⟨a, vs, e, h1, h2, Reps.mov (Mov.less fun _ z => muF z) h3⟩
  | _ => exact Rep.plusF r
/-- a value that is kept, as it is -/
theorem PostE.here {d : D} {v : V} {Q : VK} (S : Sim F Uo m env σ st H) (h : PostE F Uo env σ m st.length H W bw Q (.ok (d, false) env st)) (r : Rep F (MuOf Uo env σ m st.length) m st.length H v d) : Q v H :=
  h v m H Step.refl S.plusF ⟨fun e => absurd e (by simp), fun _ _ => Rep.plusF r, fun _ _ => Rep.toB (fun _ => StoAt.mu) (Rep.plusF r)⟩
theorem PostE.hereB {d : D} {v : V} {Q : VK} (S : Sim F Uo m env σ st H) (h : PostE F Uo env σ m st.length H W true Q (.ok (d, false) env st)) (r : RepB F (MuOf Uo env σ m st.length) m st.length H v d) : Q v H :=
  h v m H Step.refl S.plusF ⟨fun e => absurd e (by simp), fun _ e => absurd e (by simp), fun _ _ => RepB.plusF r⟩
theorem upd_keep {H : Hp} {p : Addr} {u : HO} (hp : H p = none) : ∀ a o, H a = some o → upd H p u a = some o := fun a o e => by rw [upd_ne (ne_of_none e hp)]; exact e
theorem upd_th {H : Hp} {p : Addr} {u : HO} : ∀ a, H a ≠ none → upd H p u a ≠ none := fun a e => by
  unfold upd
  split
  · simp
  · exact e
/-- a new object stands somewhere -/
theorem Mov.fresh {Mu : Addr → Prop} {p : Addr} {u : HO} (hp : H p = none) : Mov Mu Mu m m n n H (upd H p u) := ⟨Nat.le_refl _, fun _ _ => rfl, fun a o e _ => upd_keep hp a o e, fun _ z => .inl z⟩
theorem Step.fresh {Ch : Addr → Prop} {p : Addr} {u : HO} (hp : H p = none) : Step Ch env σ m n H env σ m n (upd H p u) := ⟨Nat.le_refl _, fun _ _ => rfl, fun l h1 h2 => absurd (Nat.lt_of_le_of_lt h1 h2) (Nat.lt_irrefl _), fun a o e _ _ => upd_keep hp a o e, fun _ e => upd_th _ e, fun _ e => .inl e⟩
theorem Sim.fresh {p : Addr} {u : HO} (S : Sim F Uo m env σ st H) (hp : H p = none) : Sim F Uo m env σ st (upd H p u) where
  len := S.len
  inj := S.inj
  obj := fun l xs e => let ⟨vs, h1, h2⟩ := S.obj l xs e; ⟨vs, upd_keep hp _ _ h1, Reps.mov (Mov.fresh hp) h2⟩
  noD := S.noD
  val := fun i d e => let ⟨v, h1, h2⟩ := S.val i d e; ⟨v, h1, Rep.mov (Mov.fresh hp) h2⟩
  own := fun i d e => let ⟨a, xs, vs, h1, h2, h3, h4⟩ := S.own i d e; ⟨a, xs, vs, h1, h2, upd_keep hp _ _ h3, Reps.mov (Mov.fresh hp) h4⟩
  sep := S.sep
  osto := S.osto
  usto := S.usto
  uH := fun a z => upd_th _ (S.uH a z)
  tab := LamX.Tabs.ext S.tab (upd_keep hp)
/-- who holds the fresh place: nobody -/
theorem Sim.stoH (S : Sim F Uo m env σ st H) {a : Addr} (h : StoAt m st.length a) : H a ≠ none := by
  obtain ⟨l, hl, e⟩ := h
  cases o : st[l] with
  | lst xs =>
    obtain ⟨vs, h1, _⟩ := S.obj l xs (by rw [List.getElem?_eq_getElem hl, o])
    rw [← e, h1]; simp
  | dct ks vs => exact absurd (by rw [List.getElem?_eq_getElem hl, o]) (S.noD l ks vs)
theorem Sim.ownH (S : Sim F Uo m env σ st H) {a : Addr} (h : OwnAt env σ a) : H a ≠ none := by
  obtain ⟨i, d, h1, h2⟩ := h
  obtain ⟨b, xs, vs, _, h3, h4, _⟩ := S.own i d h1
  rw [h2] at h3
  have e : a = b := by injection h3 with h3; injection h3 with h3; injection h3
  rw [e, h4]; simp
theorem Sim.plusT {p : Addr} {vs : List V} (S : Sim F Uo m env σ st H) (hp : H p = none) : Sim F (Plus Uo (Tmp true (.ref p))) m env σ st (upd H p (.lst vs)) := by
  have T := S.fresh (u := .lst vs) hp
  have mv : Mov (MuOf Uo env σ m st.length) (MuOf (Plus Uo (Tmp true (.ref p))) env σ m st.length) m m st.length st.length H (upd H p (.lst vs)) :=
    ⟨Nat.le_refl _, fun _ _ => rfl, fun a o e _ => upd_keep hp a o e, fun a z => by
      rcases z with (z | ⟨_, z⟩) | z
      · exact .inl (.inl z)
      · cases z; exact .inr hp
      · exact .inl (.inr z)⟩
  exact {
    len := S.len
    inj := S.inj
    obj := fun l xs e => let ⟨vs, h1, h2⟩ := S.obj l xs e; ⟨vs, upd_keep hp _ _ h1, Reps.mov mv h2⟩
    noD := S.noD
    val := fun i d e => let ⟨v, h1, h2⟩ := S.val i d e; ⟨v, h1, Rep.mov mv h2⟩
    own := fun i d e => let ⟨a, xs, vs, h1, h2, h3, h4⟩ := S.own i d e; ⟨a, xs, vs, h1, h2, upd_keep hp _ _ h3, Reps.mov mv h4⟩
    sep := S.sep
    osto := fun b hb => ⟨fun z => by
      rcases z with z | ⟨_, z⟩
      · exact (S.osto b hb).1 z
      · cases z; exact S.ownH hb hp, (S.osto b hb).2⟩
    usto := fun b hb z => by
      rcases z with z | ⟨_, z⟩
      · exact S.usto b hb z
      · cases z; exact S.stoH hb hp
    uH := fun a z => by
      rcases z with z | ⟨_, z⟩
      · exact upd_th _ (S.uH a z)
      · cases z; rw [upd_same]; simp
    tab := T.tab }
/-- a new list -/
theorem PostE.newL {xs : List D} {vs : List V} {p : Addr} {Q : VK} (S : Sim F Uo m env σ st H) (h : PostE F Uo env σ m st.length H W bw Q (.ok (.lst xs, true) env st)) (hp : H p = none) (r : Reps F (MuOf Uo env σ m st.length) m st.length H vs xs) : Q (.ref p) (upd H p (.lst vs)) := by
  have mv : Mov (MuOf Uo env σ m st.length) (MuOf (Plus Uo (Tmp true (.ref p))) env σ m st.length) m m st.length st.length H (upd H p (.lst vs)) :=
    ⟨Nat.le_refl _, fun _ _ => rfl, fun a o e _ => upd_keep hp a o e, fun a z => by
      rcases z with (z | ⟨_, z⟩) | z
      · exact .inl (.inl z)
      · cases z; exact .inr hp
      · exact .inl (.inr z)⟩
  exact h (.ref p) m _ (Step.fresh hp) (S.plusT hp) ⟨fun _ => ⟨p, xs, vs, rfl, rfl, upd_same, Reps.mov mv r, hp⟩, fun e => absurd e (by simp), fun e => absurd e (by simp)⟩
/-- a new tuple -/
theorem PostE.newT {xs : List D} {vs : List V} {p : Addr} {Q : VK} (S : Sim F Uo m env σ st H) (h : PostE F Uo env σ m st.length H W bw Q (.ok (.tup xs, false) env st)) (hp : H p = none) (r : Reps F (MuOf Uo env σ m st.length) m st.length H vs xs) : Q (.ref p) (upd H p (.tup vs)) :=
  PostE.here (S.fresh hp) (closedE.step _ _ _ _ _ _ _ _ _ (Step.fresh hp) h) ⟨p, vs, rfl, .inl (.inl upd_same), Reps.mov (Mov.fresh hp) r⟩
end
end Pi

set_option maxRecDepth 100000
/-! PiD: the data's own laws: ==, <, in, sorted, as the library has them. -/
namespace Pi
open PySem PySem.Spec L2 PySem.W

mutual
theorem py_plain : ∀ d : D, (D.py d).plain = true
  | .non => rfl | .bl _ => rfl | .int _ => rfl | .str _ => rfl
  | .tup xs => by simp only [D.py, PyData.plain]; exact pys_plain xs
  | .lst xs => by simp only [D.py, PyData.plain]; exact pys_plain xs
  | .dct _ _ => rfl | .ref _ => rfl | .gl _ => rfl | .ty _ => rfl | .exc _ _ => rfl | .scr _ => rfl
theorem pys_plain : ∀ ds : List D, PyData.plainAll (D.pys ds) = true
  | [] => rfl
  | d :: ds => by simp only [D.pys, PyData.plainAll, py_plain d, pys_plain ds, Bool.and_self]
end
theorem pys_map : ∀ xs : List D, D.pys xs = xs.map D.py
  | [] => rfl
  | x :: xs => congrArg (D.py x :: ·) (pys_map xs)
mutual
theorem py_depth : ∀ d : D, (D.py d).depth = D.dep d
  | .non => rfl | .bl _ => rfl | .int _ => rfl | .str _ => rfl
  | .tup xs => by simp only [D.py, PyData.depth, D.dep, pys_depth xs]
  | .lst xs => by simp only [D.py, PyData.depth, D.dep, pys_depth xs]
  | .dct _ _ => rfl | .ref _ => rfl | .gl _ => rfl | .ty _ => rfl | .exc _ _ => rfl | .scr _ => rfl
theorem pys_depth : ∀ ds : List D, PyData.depthAll (D.pys ds) = D.deps ds
  | [] => rfl
  | d :: ds => by simp only [D.pys, PyData.depthAll, D.deps, py_depth d, pys_depth ds]
end
mutual
theorem deq_py : ∀ a b : D, D.pl a = true → D.pl b = true → deq a b = PyData.eqv (D.py a) (D.py b)
  | .non, b, _, hb => by cases b <;> first | rfl | exact absurd hb Bool.false_ne_true
  | .bl x, b, _, hb => by cases b <;> first | rfl | exact absurd hb Bool.false_ne_true
  | .int x, b, _, hb => by cases b <;> first | rfl | exact absurd hb Bool.false_ne_true
  | .str x, b, _, hb => by cases b <;> first | rfl | exact absurd hb Bool.false_ne_true
  | .tup xs, b, ha, hb => by
    cases b with
    | tup ys => simp only [deq, D.py, PyData.eqv]; exact deqs_py xs ys ha hb
    | _ => first | rfl | exact absurd hb Bool.false_ne_true
  | .lst xs, b, ha, hb => by
    cases b with
    | lst ys => simp only [deq, D.py, PyData.eqv]; exact deqs_py xs ys ha hb
    | _ => first | rfl | exact absurd hb Bool.false_ne_true
  | .dct _ _, _, ha, _ => absurd ha Bool.false_ne_true
  | .ref _, _, ha, _ => absurd ha Bool.false_ne_true
  | .gl _, _, ha, _ => absurd ha Bool.false_ne_true
  | .ty _, _, ha, _ => absurd ha Bool.false_ne_true
  | .exc _ _, _, ha, _ => absurd ha Bool.false_ne_true
  | .scr _, _, ha, _ => absurd ha Bool.false_ne_true
theorem deqs_py : ∀ xs ys : List D, D.pls xs = true → D.pls ys = true → deqs xs ys = PyData.eqvAll (D.pys xs) (D.pys ys)
  | [], [], _, _ => rfl
  | [], _ :: _, _, _ => rfl
  | _ :: _, [], _, _ => rfl
  | x :: xs, y :: ys, ha, hb => by
    obtain ⟨h1, h2⟩ := Bool.and_eq_true_iff.mp (show (D.pl x && D.pls xs) = true from ha)
    obtain ⟨h3, h4⟩ := Bool.and_eq_true_iff.mp (show (D.pl y && D.pls ys) = true from hb)
    simp only [deqs, D.pys, PyData.eqvAll, deq_py x y h1 h3, deqs_py xs ys h2 h4]
end
mutual
theorem alk_py : ∀ a b : D, alk a b = true → alike (D.py a) (D.py b) = true
  | .non, b, h => by cases b <;> exact absurd h Bool.false_ne_true
  | .bl x, b, h => by cases b <;> first | (simp only [D.py, alike]; done) | exact absurd h Bool.false_ne_true
  | .int x, b, h => by cases b <;> first | (simp only [D.py, alike]; done) | exact absurd h Bool.false_ne_true
  | .str x, b, h => by cases b <;> first | (simp only [D.py, alike]; done) | exact absurd h Bool.false_ne_true
  | .tup xs, b, h => by
    cases b with
    | tup ys => simp only [D.py, alike]; exact alks_py xs ys h
    | _ => exact absurd h Bool.false_ne_true
  | .lst xs, b, h => by
    cases b with
    | lst ys => simp only [D.py, alike]; exact alks_py xs ys h
    | _ => exact absurd h Bool.false_ne_true
  | .dct _ _, b, h => by cases b <;> exact absurd h Bool.false_ne_true
  | .ref _, b, h => by cases b <;> exact absurd h Bool.false_ne_true
  | .gl _, b, h => by cases b <;> exact absurd h Bool.false_ne_true
  | .ty _, b, h => by cases b <;> exact absurd h Bool.false_ne_true
  | .exc _ _, b, h => by cases b <;> exact absurd h Bool.false_ne_true
  | .scr _, b, h => by cases b <;> exact absurd h Bool.false_ne_true
theorem alks_py : ∀ xs ys : List D, alks xs ys = true → alikeAll (D.pys xs) (D.pys ys) = true
  | [], ys, _ => by cases ys <;> simp only [D.pys, alikeAll]
  | _ :: _, [], _ => by simp only [D.pys, alikeAll]
  | x :: xs, y :: ys, h => by
    obtain ⟨h1, h2⟩ := Bool.and_eq_true_iff.mp (show (alk x y && alks xs ys) = true from h)
    simp only [D.pys, alikeAll, alk_py x y h1, alks_py xs ys h2, Bool.and_self]
end
theorem alk_some {a b : D} (h : alk a b = true) : D.py a ≠ .none := by
  cases a <;> first | (intro z; cases z; done) | (cases b <;> exact absurd h Bool.false_ne_true)
mutual
theorem dlt_py : ∀ a b : D, D.pl a = true → D.pl b = true → alk a b = true → dlt a b = dataLt (D.py a) (D.py b)
  | .non, b, _, _, h => by cases b <;> exact absurd h Bool.false_ne_true
  | .bl x, b, _, _, h => by
    cases b with
    | bl y =>
      simp only [D.py, dlt, dataLt_bool]
      cases x <;> cases y <;> rfl
    | _ => exact absurd h Bool.false_ne_true
  | .int x, b, _, _, h => by
    cases b with
    | int y => simp only [D.py, dlt, dataLt_int]
    | _ => exact absurd h Bool.false_ne_true
  | .str x, b, _, _, h => by
    cases b with
    | str y => simp only [D.py, dlt, dataLt_str]
    | _ => exact absurd h Bool.false_ne_true
  | .tup xs, b, ha, hb, h => by
    cases b with
    | tup ys => simp only [D.py, dlt, dataLt_tuple]; exact dlts_py xs ys ha hb h
    | _ => exact absurd h Bool.false_ne_true
  | .lst xs, b, ha, hb, h => by
    cases b with
    | lst ys => simp only [D.py, dlt, dataLt_list]; exact dlts_py xs ys ha hb h
    | _ => exact absurd h Bool.false_ne_true
  | .dct _ _, _, ha, _, _ => absurd ha Bool.false_ne_true
  | .ref _, _, ha, _, _ => absurd ha Bool.false_ne_true
  | .gl _, _, ha, _, _ => absurd ha Bool.false_ne_true
  | .ty _, _, ha, _, _ => absurd ha Bool.false_ne_true
  | .exc _ _, _, ha, _, _ => absurd ha Bool.false_ne_true
  | .scr _, _, ha, _, _ => absurd ha Bool.false_ne_true
theorem dlts_py : ∀ xs ys : List D, D.pls xs = true → D.pls ys = true → alks xs ys = true → dlts xs ys = PyProof.Rows.lexLt PyProof.Rows.itemOrd (keyToksAll (D.pys xs)) (keyToksAll (D.pys ys))
  | [], [], _, _, _ => by simp only [D.pys, dlts]; exact (PyProof.Rows.lex_irrefl _).symm
  | [], y :: ys, _, _, _ => by
    simp only [D.pys, dlts, keyToksAll]
    rw [lex_atom (by simp)]
    rfl
  | x :: xs, [], _, _, _ => by
    simp only [D.pys, dlts, keyToksAll]
    rw [lex_atom (by simp)]
    rfl
  | x :: xs, y :: ys, ha, hb, h => by
    obtain ⟨h1, h2⟩ := Bool.and_eq_true_iff.mp (show (D.pl x && D.pls xs) = true from ha)
    obtain ⟨h3, h4⟩ := Bool.and_eq_true_iff.mp (show (D.pl y && D.pls ys) = true from hb)
    obtain ⟨h5, h6⟩ := Bool.and_eq_true_iff.mp (show (alk x y && alks xs ys) = true from h)
    simp only [D.pys]
    rw [dataLt_cons (alk_py x y h5)]
    simp only [dlts, deq_py x y h1 h3, dlt_py x y h1 h3 h5, dlts_py xs ys h2 h4 h6]
end
theorem dmem_py (x : D) (hx : x.pl = true) : ∀ xs : List D, D.pls xs = true → dmem x xs = (D.pys xs).any fun y => PyData.eqv y (D.py x)
  | [], _ => rfl
  | y :: ys, h => by
    obtain ⟨h1, h2⟩ := Bool.and_eq_true_iff.mp (show (D.pl y && D.pls ys) = true from h)
    simp only [dmem, D.pys, List.any_cons, deq_py y x h1 hx, dmem_py x hx ys h2]

/-! ### sorting -/
section
variable {α : Type} (le : α → α → Bool)
def insL (x : α) : List α → List α
  | [] => [x]
  | y :: ys => if le x y then x :: y :: ys else y :: insL x ys
def isoL : List α → List α
  | [] => []
  | x :: xs => insL le x (isoL xs)
variable {le}
theorem insL_mem {x y : α} : ∀ {l : List α}, y ∈ insL le x l → y = x ∨ y ∈ l
  | [], h => by simpa [insL] using h
  | z :: l, h => by
    unfold insL at h
    split at h
    · simpa using h
    · rcases List.mem_cons.mp h with h | h
      · exact .inr (by simp [h])
      · exact (insL_mem h).imp id fun h => by simp [h]
theorem insL_sorted (T : TotalLe le) (x : α) : ∀ {l : List α}, l.Pairwise (fun a b => le a b = true) → (insL le x l).Pairwise (fun a b => le a b = true)
  | [], _ => by simp [insL]
  | z :: l, h => by
    obtain ⟨h1, h2⟩ := List.pairwise_cons.mp h
    unfold insL
    split
    · rename_i hx
      refine List.pairwise_cons.mpr ⟨fun b hb => ?_, h⟩
      rcases List.mem_cons.mp hb with e | hb
      · rw [e]; exact hx
      · exact T.trans _ _ _ hx (h1 b hb)
    · rename_i hx
      refine List.pairwise_cons.mpr ⟨fun b hb => ?_, insL_sorted T x h2⟩
      rcases insL_mem hb with e | hb
      · rw [e]; exact (T.total x z).resolve_left hx
      · exact h1 b hb
theorem insL_filter (T : TotalLe le) (c x : α) : ∀ {l : List α}, (insL le x l).filter (sameRank le c) = (x :: l).filter (sameRank le c)
  | [] => by simp [insL]
  | z :: l => by
    unfold insL
    split
    · rfl
    · rename_i hx
      have ih := insL_filter T c x (l := l)
      have hz : le z x = true := (T.total x z).resolve_left hx
      by_cases px : sameRank le c x = true
      · have pz : ¬ sameRank le c z = true := fun pz => by
          unfold sameRank at px pz
          rw [Bool.and_eq_true] at px pz
          exact hx (T.trans _ _ _ px.2 pz.1)
        rw [List.filter_cons_of_neg pz, ih, List.filter_cons_of_pos px, List.filter_cons_of_pos px, List.filter_cons_of_neg pz]
      · rw [List.filter_cons_of_neg px]
        rw [List.filter_cons_of_neg px] at ih
        by_cases pz : sameRank le c z = true
        · rw [List.filter_cons_of_pos pz, List.filter_cons_of_pos pz, ih]
        · rw [List.filter_cons_of_neg pz, List.filter_cons_of_neg pz, ih]
theorem isoL_sorted (T : TotalLe le) : ∀ l : List α, (isoL le l).Pairwise (fun a b => le a b = true)
  | [] => List.Pairwise.nil
  | x :: l => insL_sorted T x (isoL_sorted T l)
theorem isoL_filter (T : TotalLe le) (c : α) : ∀ l : List α, (isoL le l).filter (sameRank le c) = l.filter (sameRank le c)
  | [] => rfl
  | x :: l => by
    unfold isoL
    rw [insL_filter T c x]
    by_cases px : sameRank le c x = true
    · rw [List.filter_cons_of_pos px, List.filter_cons_of_pos px, isoL_filter T c l]
    · rw [List.filter_cons_of_neg px, List.filter_cons_of_neg px, isoL_filter T c l]
theorem isoL_eq (T : TotalLe le) (l : List α) : isoL le l = l.mergeSort le := sort_unique T (isoL_sorted T l) fun c => isoL_filter T c l
theorem isoL_mem {y : α} : ∀ {l : List α}, y ∈ isoL le l → y ∈ l
  | [], h => h
  | x :: l, h => by
    rcases insL_mem h with e | h
    · simp [e]
    · exact List.mem_cons_of_mem _ (isoL_mem h)
end
theorem insB_eq {x : D} : ∀ {l : List D}, (∀ y ∈ l, dlt y x = dataLt (D.py y) (D.py x)) → insB x l = insL (dataLe false D.py) x l
  | [], _ => rfl
  | y :: l, h => by
    have e : dlt y x = dataLt (D.py y) (D.py x) := h y List.mem_cons_self
    have e2 : dataLe false D.py x y = !dataLt (D.py y) (D.py x) := rfl
    unfold insB insL
    rw [e, e2, insB_eq fun z hz => h z (List.mem_cons_of_mem _ hz)]
    cases dataLt (D.py y) (D.py x) <;> rfl
theorem dataLe_total : TotalLe (dataLe false D.py) := sortLe_total _ _ _
theorem isort_eq : ∀ {l : List D}, (∀ x ∈ l, ∀ y ∈ l, dlt y x = dataLt (D.py y) (D.py x)) → isort l = isoL (dataLe false D.py) l
  | [], _ => rfl
  | x :: l, h => by
    unfold isort isoL
    have ih := isort_eq (l := l) fun a ha b hb => h a (List.mem_cons_of_mem _ ha) b (List.mem_cons_of_mem _ hb)
    rw [ih, insB_eq fun y hy => h x List.mem_cons_self y (List.mem_cons_of_mem _ (isoL_mem hy))]
theorem sortable_iff {xs : List D} (h : sortable xs = true) : (∀ x ∈ xs, x.pl = true ∧ x.dep ≤ 60) ∧ ∀ x ∈ xs, ∀ y ∈ xs, alk x y = true := by
  unfold sortable at h
  rw [List.all_eq_true] at h
  have h' : ∀ x ∈ xs, (x.pl = true ∧ x.dep ≤ 60) ∧ ∀ y ∈ xs, alk x y = true := fun x hx => by
    have q := h x hx
    simp only [Bool.and_eq_true, decide_eq_true_eq, List.all_eq_true] at q
    exact q
  exact ⟨fun x hx => (h' x hx).1, fun x hx => (h' x hx).2⟩
theorem isort_merge {xs : List D} (h : sortable xs = true) : isort xs = xs.mergeSort (dataLe false D.py) := by
  obtain ⟨h1, h2⟩ := sortable_iff h
  rw [isort_eq fun x hx y hy => dlt_py y x (h1 y hy).1 (h1 x hx).1 (h2 y hy x hx)]
  exact isoL_eq dataLe_total xs
end Pi

set_option maxRecDepth 100000
set_option maxHeartbeats 1000000
/-! PiE: the operations on values. -/
namespace Pi
open PySem PySem.Spec L2

theorem szOk_le {n : Nat} (h : szOk n = true) : n ≤ sizeLine := by
  have := of_decide_eq_true h
  rw [sizeLine_eq]; omega
section
variable {F : Fx} {Mu : Addr → Prop} {m : Nat → Addr} {n : Nat} {H : Hp}
mutual
theorem rep_dp : ∀ {v : V} (d : D), Rep F Mu m n H v d → d.pl = true → Dp F.K H v (D.py d)
  | _, .non, h, _ => by rw [show _ = V.non from h]; exact .non
  | _, .bl b, h, _ => by rw [show _ = V.bl b from h]; exact .bl b
  | _, .int i, h, _ => by rw [show _ = V.int i from h]; exact .int i
  | _, .str s, h, _ => by rw [show _ = V.str s from h]; exact .str s
  | _, .tup xs, h, hp => by
    obtain ⟨a, vs, rfl, hq, hr⟩ := h
    exact .tup hq (reps_dp xs hr hp)
  | _, .lst xs, h, hp => by
    obtain ⟨a, vs, rfl, hq, _, hr⟩ := h
    exact .lst (.inl hq) (reps_dp xs hr hp)
  | _, .dct _ _, h, _ => h.elim
  | _, .ref _, _, hp => absurd hp Bool.false_ne_true
  | _, .gl _, _, hp => absurd hp Bool.false_ne_true
  | _, .ty _, _, hp => absurd hp Bool.false_ne_true
  | _, .exc _ _, _, hp => absurd hp Bool.false_ne_true
  | _, .scr _, _, hp => absurd hp Bool.false_ne_true
theorem reps_dp : ∀ {vs : List V} (ds : List D), Reps F Mu m n H vs ds → D.pls ds = true → DpAll F.K H vs (D.pys ds)
  | [], [], _, _ => .nil
  | _ :: _, d :: ds, h, hp => by
    obtain ⟨h1, h2⟩ := Bool.and_eq_true_iff.mp (show (D.pl d && D.pls ds) = true from hp)
    exact .cons (rep_dp d h.1 h1) (reps_dp ds h.2 h2)
  | [], _ :: _, h, _ => h.elim
  | _ :: _, [], h, _ => h.elim
end
theorem repB_dp {v : V} {d : D} (h : RepB F Mu m n H v d) (hp : d.pl = true) : Dp F.K H v (D.py d) := by
  cases d with
  | lst xs =>
    obtain ⟨a, vs, rfl, hq, _, hr⟩ := h
    exact .lst (.inl hq) (reps_dp xs hr hp)
  | _ => exact rep_dp (Mu := Mu) (m := m) (n := n) _ h hp
end

/-- the outcome of an operation on two values that are looked at -/
def rTwo (F : Fx) (bw : Bool) (W : WX) (f : D → D → Option (D × Bool)) : R2 := fun x y H Q => ∃ σ Uo m env st dx dy, Sim F Uo m env σ st H ∧ RepB F (MuOf Uo env σ m st.length) m st.length H x dx ∧ RepB F (MuOf Uo env σ m st.length) m st.length H y dy ∧
  PostE F Uo env σ m st.length H W bw Q (lift (f dx dy) env st)
def rOne (F : Fx) (bw : Bool) (W : WX) (f : D → Option (D × Bool)) : V → Hp → VK → Prop := fun x H Q => ∃ σ Uo m env st dx, Sim F Uo m env σ st H ∧ RepB F (MuOf Uo env σ m st.length) m st.length H x dx ∧
  PostE F Uo env σ m st.length H W bw Q (lift (f dx) env st)
def rMany (F : Fx) (bw : Bool) (W : WX) (f : List D → Option (D × Bool)) : List V → Hp → VK → Prop := fun xs H Q => ∃ σ Uo m env st ds, Sim F Uo m env σ st H ∧ RepBs F (MuOf Uo env σ m st.length) m st.length H xs ds ∧
  PostE F Uo env σ m st.length H W bw Q (lift (f ds) env st)

def BOp.op : BOp → Operator
  | .add => .Add | .sub => .Sub | .mul => .Mult | .fdiv => .FloorDiv | .mod => .Mod | .pow => .Pow
def COp.op : COp → CmpOp
  | .eq => .Eq | .ne => .NotEq | .lt => .Lt | .le => .LtE | .gt => .Gt | .ge => .GtE | .is => .Is | .isnot => .IsNot | .isin => .In | .notin => .NotIn

section
variable {X : Cx} {F : Fx} {bw : Bool} {W : WX}
theorem op_catL : OpR X (binaryOp .Add) (fun x y H Q => ∃ l b xs zs, x = .ref l ∧ y = .ref b ∧ Rd H l (.lst xs) ∧ Rd H b (.lst zs) ∧ xs.length + zs.length ≤ sizeLine ∧ ∀ p, H p = none → Q (.ref p) (upd H p (.lst (xs ++ zs)))) := by
  intro pins s σ H x y v u Q I rx ry h
  obtain ⟨l, b, xs, zs, rfl, rfl, hH, hB, hz, q⟩ := h
  cases rx
  cases ry
  obtain ⟨_, its, n, r, e⟩ := hH.ok I.hok
  obtain ⟨_, its2, n2, r2, e2⟩ := hB.ok I.hok
  have z1 := r.length
  have z2 := r2.length
  refine PySem.P.add_list e e2 ?_ (by rw [List.size_toArray, List.size_toArray]; omega)
  have ea : its.toArray ++ its2.toArray = (its ++ its2).toArray := by simp
  rw [ea]
  exact ⟨.ref _, _, I.lnew (t' := s.toks) (r.append r2) (by rw [List.length_append]; omega), rfl, q _ I.fresh⟩
theorem reps_rep {Mu : Addr → Prop} {m : Nat → Addr} {n : Nat} {H : Hp} {vs : List V} {xs : List D} (h : Reps F Mu m n H vs xs) : ∀ k, Reps F Mu m n H (List.replicate k vs).flatten (List.replicate k xs).flatten
  | 0 => trivial
  | k + 1 => by
    rw [List.replicate_succ, List.replicate_succ, List.flatten_cons, List.flatten_cons]
    exact Reps.append h (reps_rep h k)
theorem bigOk_iff {i : Int} (h : bigOk i = true) : -(2 ^ 64) < i ∧ i < 2 ^ 64 := by
  unfold bigOk at h
  rw [Bool.and_eq_true, decide_eq_true_eq, decide_eq_true_eq] at h
  exact h
theorem op_bin (hK : X.K = F.K) (o : BOp) : OpR X (binaryOp o.op) (rTwo F bw W (binop o)) := by
  intro pins s σ H x y v u Q I rx ry h
  obtain ⟨σ0, Uo, m, env, st, dx, dy, S, r1, r2, hp⟩ := h
  generalize e : binop o dx dy = r at hp
  unfold binop at e
  split at e
  · subst e
    obtain rfl : x = _ := r1
    obtain rfl : y = _ := r2
    exact op_add pins s σ H _ _ v u Q I rx ry ⟨_, _, rfl, rfl, hp.here S rfl⟩
  · subst e
    obtain rfl : x = _ := r1
    obtain rfl : y = _ := r2
    exact op_sub pins s σ H _ _ v u Q I rx ry ⟨_, _, rfl, rfl, hp.here S rfl⟩
  · split at e
    · rename_i hb
      subst e
      obtain rfl : x = _ := r1
      obtain rfl : y = _ := r2
      refine op_mul pins s σ H _ _ v u Q I rx ry ⟨_, _, rfl, rfl, ?_, hp.here S rfl⟩
      rcases Bool.or_eq_true_iff.mp hb with hb | hb
      · exact .inl (bigOk_iff hb)
      · exact .inr (bigOk_iff hb)
    · subst e; exact hp.elim
  · split at e
    · rename_i hb
      subst e
      simp only [Bool.and_eq_true, decide_eq_true_eq, Bool.not_eq_true'] at hb
      obtain ⟨⟨h1, h2⟩, h3, h4⟩ := hb
      obtain ⟨a, vs, rfl, ha, hr⟩ := r1
      obtain rfl : y = _ := r2
      have z1 := Reps.length hr
      refine op_repT pins s σ H _ _ v u Q I rx ry ⟨a, _, vs, rfl, rfl, by rw [hK]; exact ha, fun z => ?_, h3, h4, by omega, fun p hp0 => hp.newT S hp0 (reps_rep hr _)⟩
      subst z
      rename_i xs _
      cases xs with
      | nil => cases h1
      | cons _ _ => cases z1
    · subst e; exact hp.elim
  · split at e
    · rename_i hb
      subst e
      obtain rfl : x = _ := r1
      obtain rfl : y = _ := r2
      rw [Bool.and_eq_true, decide_eq_true_eq, decide_eq_true_eq] at hb
      exact op_fdiv pins s σ H _ _ v u Q I rx ry ⟨_, _, rfl, rfl, hb, hp.here S rfl⟩
    · subst e; exact hp.elim
  · split at e
    · rename_i hb
      subst e
      obtain rfl : x = _ := r1
      obtain rfl : y = _ := r2
      exact op_mod pins s σ H _ _ v u Q I rx ry ⟨_, _, rfl, rfl, of_decide_eq_true hb, hp.here S rfl⟩
    · subst e; exact hp.elim
  · split at e
    · rename_i hb
      subst e
      obtain rfl : x = _ := r1
      obtain rfl : y = _ := r2
      rw [Bool.and_eq_true, Bool.and_eq_true, decide_eq_true_eq, decide_eq_true_eq] at hb
      have hb2 := bigOk_iff hb.2
      exact op_pow pins s σ H _ _ v u Q I rx ry ⟨_, _, rfl, rfl, ⟨hb.1.1, by omega, by omega⟩, hp.here S rfl⟩
    · subst e; exact hp.elim
  · split at e
    · rename_i hb
      subst e
      obtain rfl : x = _ := r1
      obtain rfl : y = _ := r2
      exact op_add_str pins s σ H _ _ v u Q I rx ry ⟨_, _, rfl, rfl, szOk_le hb, hp.here S rfl⟩
    · subst e; exact hp.elim
  · split at e
    · rename_i hb
      subst e
      obtain ⟨a, vs, rfl, ha, hr⟩ := r1
      obtain ⟨b, ws, rfl, hb', hr'⟩ := r2
      have z1 := Reps.length hr
      have z2 := Reps.length hr'
      rw [← hK] at ha hb'
      refine op_catA pins s σ H _ _ v u Q I rx ry ⟨a, b, vs, ws, rfl, rfl, ha, hb', by have := szOk_le hb; omega, fun e0 => ?_, fun _ e0 => ?_, fun _ _ p hp0 => hp.newT S hp0 (Reps.append hr hr')⟩
      · subst e0
        refine hp.here S ⟨b, ws, rfl, by rw [← hK]; exact hb', ?_⟩
        have := Reps.append hr hr'
        simpa using this
      · subst e0
        refine hp.here S ⟨a, vs, rfl, by rw [← hK]; exact ha, ?_⟩
        have := Reps.append hr hr'
        simpa using this
    · subst e; exact hp.elim
  · split at e
    · rename_i hb
      subst e
      obtain ⟨a, vs, rfl, ha, _, hr⟩ := r1
      obtain ⟨b, ws, rfl, hb', _, hr'⟩ := r2
      have z1 := Reps.length hr
      have z2 := Reps.length hr'
      exact op_catL pins s σ H _ _ v u Q I rx ry ⟨a, b, vs, ws, rfl, rfl, ha, hb', by have := szOk_le hb; omega, fun p hp0 => hp.newL S hp0 (Reps.append hr hr')⟩
    · subst e; exact hp.elim
  · subst e; exact hp.elim
theorem unT (f : D → Option (D × Bool)) (g : Value → Sem Value) (hf : ∀ d r, f d = some r → ∃ i : Int, d = .int i ∧ r = (.int (-i), false)) (hg : g = unaryOp .USub) : UnR X g (rOne F bw W f) := by
  subst hg
  intro pins s σ H x v Q I rx h
  obtain ⟨σ0, Uo, m, env, st, dx, S, r1, hp⟩ := h
  cases e : f dx with
  | none => rw [e] at hp; exact hp.elim
  | some r =>
    obtain ⟨i, rfl, rfl⟩ := hf dx r e
    rw [e] at hp
    obtain rfl : x = _ := r1
    exact un_neg pins s σ H _ v Q I rx ⟨i, rfl, hp.here S rfl⟩

/-! ### comparisons -/
mutual
theorem alk_comm : ∀ a b : D, alk a b = alk b a
  | .non, b => by cases b <;> rfl
  | .bl _, b => by cases b <;> rfl
  | .int _, b => by cases b <;> rfl
  | .str _, b => by cases b <;> rfl
  | .tup xs, b => by
    cases b with
    | tup ys => exact alks_comm xs ys
    | _ => rfl
  | .lst xs, b => by
    cases b with
    | lst ys => exact alks_comm xs ys
    | _ => rfl
  | .dct _ _, b => by cases b <;> rfl
  | .ref _, b => by cases b <;> rfl
  | .gl _, b => by cases b <;> rfl
  | .ty _, b => by cases b <;> rfl
  | .exc _ _, b => by cases b <;> rfl
  | .scr _, b => by cases b <;> rfl
theorem alks_comm : ∀ xs ys : List D, alks xs ys = alks ys xs
  | [], [] => rfl
  | [], _ :: _ => rfl
  | _ :: _, [] => rfl
  | x :: xs, y :: ys => by
    show (alk x y && alks xs ys) = (alk y x && alks ys xs)
    rw [alk_comm x y, alks_comm xs ys]
end
def cmpD (o : COp) (a b : D) : Option (D × Bool) := (cmpop o a b).map fun k => (.bl k, false)
theorem reads2 (hK : X.K = F.K) {pins : List (Addr × Obj)} {s : Shared} {σ : SL} {H : Hp} {Mu : Addr → Prop} {m : Nat → Addr} {n : Nat} {x : V} {d : D} {v : Value} (I : Inv X pins σ H s) (r : RepB F Mu m n H x d) (hp : d.pl = true) (rv : RelV x v) : ∃ as, Reads s.heap v (D.py d) as :=
  Dp.reads I _ _ _ (by rw [hK]; exact repB_dp r hp) rv
theorem unitsOk {k : Nat} (hu : X.A.units + 64 < cLine) (h : k ≤ 60) : X.A.units + k < cLine := by omega
theorem repB_non {F : Fx} {Mu : Addr → Prop} {m : Nat → Addr} {n : Nat} {H : Hp} {x : V} {d : D} (r : RepB F Mu m n H x d) (e : x = .non) : d = .non := by
  subst e
  cases d with
  | non => rfl
  | lst xs => obtain ⟨a, vs, e, _⟩ := r; cases e
  | tup xs => obtain ⟨a, vs, e, _⟩ := r; cases e
  | scr xs => obtain ⟨a, vs, e, _⟩ := r; cases e
  | dct _ _ => exact r.elim
  | exc _ _ => exact r.elim
  | ref l => have := r.2; cases this
  | bl b => exact absurd (show V.non = V.bl b from r) (by simp)
  | int b => exact absurd (show V.non = V.int b from r) (by simp)
  | str b => exact absurd (show V.non = V.str b from r) (by simp)
  | gl b => exact absurd (show V.non = V.ref (F.ga b) from r) (by simp)
  | ty b => exact absurd (show V.non = V.ty b from r) (by simp)
theorem op_cmp (hK : X.K = F.K) (hu : X.A.units + 64 < cLine) (o : COp) : OpR X (compareOp o.op) (rTwo F bw W (cmpD o)) := by
  intro pins s σ H x y v u Q I rx ry h
  obtain ⟨σ0, Uo, m, env, st, dx, dy, S, r1, r2, hp⟩ := h
  have fin : ∀ k : Bool, cmpop o dx dy = some k → EP X pins σ Q (.bool k) s := fun k e => by
    have e2 : cmpD o dx dy = some (.bl k, false) := by unfold cmpD; rw [e]; rfl
    rw [e2] at hp
    exact ⟨.bl k, H, I, rfl, hp.here S rfl⟩
  have fin2 : ∀ k : Bool, cmpop o dx dy = some k → Q (.bl k) H := fun k e => by
    have e2 : cmpD o dx dy = some (.bl k, false) := by unfold cmpD; rw [e]; rfl
    rw [e2] at hp
    exact hp.here S rfl
  cases e : cmpop o dx dy with
  | none =>
    have e2 : cmpD o dx dy = none := by unfold cmpD; rw [e]; rfl
    rw [e2] at hp
    exact hp.elim
  | some k =>
    have q := fin k e
    have q2' := fin2 k e
    clear hp fin fin2
    unfold cmpop at e
    split at e
    · split at e
      · rename_i hb
        simp only [Bool.and_eq_true, decide_eq_true_eq] at hb
        obtain ⟨⟨p1, p2⟩, p3⟩ := hb
        obtain ⟨as, q1⟩ := reads2 hK I r1 p1 rx
        obtain ⟨bs, q2⟩ := reads2 hK I r2 p2 ry
        have ek : deq dx dy = k := Option.some.inj e
        rw [← ek, deq_py _ _ p1 p2] at q
        exact SeqAt.eq_plain q1 q2 (py_plain _) (py_plain _) (by rw [py_depth, py_depth]; exact unitsOk hu p3) q
      · cases e
    · split at e
      · rename_i hb
        simp only [Bool.and_eq_true, decide_eq_true_eq] at hb
        obtain ⟨⟨p1, p2⟩, p3⟩ := hb
        obtain ⟨as, q1⟩ := reads2 hK I r1 p1 rx
        obtain ⟨bs, q2⟩ := reads2 hK I r2 p2 ry
        have ek : (!deq dx dy) = k := Option.some.inj e
        rw [← ek, deq_py _ _ p1 p2] at q
        exact SeqAt.ne_plain q1 q2 (py_plain _) (py_plain _) (by rw [py_depth, py_depth]; exact unitsOk hu p3) q
      · cases e
    · split at e
      · rename_i hb
        simp only [Bool.and_eq_true, decide_eq_true_eq] at hb
        obtain ⟨⟨⟨p1, p2⟩, p4⟩, p3⟩ := hb
        obtain ⟨as, q1⟩ := reads2 hK I r1 p1 rx
        obtain ⟨bs, q2⟩ := reads2 hK I r2 p2 ry
        have ek : dlt dx dy = k := Option.some.inj e
        rw [← ek, dlt_py _ _ p1 p2 p4] at q
        exact PySem.W.lt_data q1 q2 (alk_py _ _ p4) (alk_some p4) (by rw [py_depth, py_depth]; exact unitsOk hu p3) q
      · cases e
    · split at e
      · rename_i hb
        simp only [Bool.and_eq_true, decide_eq_true_eq] at hb
        obtain ⟨⟨⟨p1, p2⟩, p4⟩, p3⟩ := hb
        obtain ⟨as, q1⟩ := reads2 hK I r1 p1 rx
        obtain ⟨bs, q2⟩ := reads2 hK I r2 p2 ry
        have ek : (!dlt dy dx) = k := Option.some.inj e
        rw [← ek, dlt_py _ _ p2 p1 (by rw [alk_comm]; exact p4)] at q
        exact PySem.W.le_data q1 q2 (alk_py _ _ p4) (alk_some p4) (by rw [py_depth, py_depth]; exact unitsOk hu p3) q
      · cases e
    · split at e
      · rename_i hb
        simp only [Bool.and_eq_true, decide_eq_true_eq] at hb
        obtain ⟨⟨⟨p1, p2⟩, p4⟩, p3⟩ := hb
        obtain ⟨as, q1⟩ := reads2 hK I r1 p1 rx
        obtain ⟨bs, q2⟩ := reads2 hK I r2 p2 ry
        have ek : dlt dy dx = k := Option.some.inj e
        rw [← ek, dlt_py _ _ p2 p1 (by rw [alk_comm]; exact p4)] at q
        exact PySem.W.gt_data q1 q2 (alk_py _ _ p4) (alk_some p4) (by rw [py_depth, py_depth]; exact unitsOk hu p3) q
      · cases e
    · split at e
      · rename_i hb
        simp only [Bool.and_eq_true, decide_eq_true_eq] at hb
        obtain ⟨⟨⟨p1, p2⟩, p4⟩, p3⟩ := hb
        obtain ⟨as, q1⟩ := reads2 hK I r1 p1 rx
        obtain ⟨bs, q2⟩ := reads2 hK I r2 p2 ry
        have ek : (!dlt dx dy) = k := Option.some.inj e
        rw [← ek, dlt_py _ _ p1 p2 p4] at q
        exact PySem.W.ge_data q1 q2 (alk_py _ _ p4) (alk_some p4) (by rw [py_depth, py_depth]; exact unitsOk hu p3) q
      · cases e
    -- in, not in
    · split at e
      · rename_i xs hb
        simp only [Bool.and_eq_true, decide_eq_true_eq] at hb
        obtain ⟨⟨p1, p2⟩, p3⟩ := hb
        obtain ⟨as, q1⟩ := reads2 hK I r1 p1 rx
        obtain ⟨bs, q2⟩ := reads2 hK I r2 (d := .lst _) p2 ry
        have ek : dmem dx _ = k := Option.some.inj e
        rw [← ek, dmem_py _ p1 _ p2] at q
        exact SeqAt.in_list_data (by simpa only [D.py] using q2) q1 (pys_plain _) (py_plain _) (by rw [pys_depth, py_depth]; have := unitsOk (k := min (D.deps xs) dx.dep) hu p3; omega) q
      · cases e
    · split at e
      · rename_i xs hb
        simp only [Bool.and_eq_true, decide_eq_true_eq] at hb
        obtain ⟨⟨p1, p2⟩, p3⟩ := hb
        obtain ⟨as, q1⟩ := reads2 hK I r1 p1 rx
        obtain ⟨bs, q2⟩ := reads2 hK I r2 (d := .tup _) p2 ry
        have ek : dmem dx _ = k := Option.some.inj e
        rw [← ek, dmem_py _ p1 _ p2] at q
        exact SeqAt.in_tuple_data (by simpa only [D.py] using q2) q1 (pys_plain _) (py_plain _) (by rw [pys_depth, py_depth]; omega) q
      · cases e
    · split at e
      · rename_i xs hb
        simp only [Bool.and_eq_true, decide_eq_true_eq] at hb
        obtain ⟨⟨p1, p2⟩, p3⟩ := hb
        obtain ⟨as, q1⟩ := reads2 hK I r1 p1 rx
        obtain ⟨bs, q2⟩ := reads2 hK I r2 (d := .lst _) p2 ry
        have ek : (!dmem dx _) = k := Option.some.inj e
        rw [← ek, dmem_py _ p1 _ p2] at q
        exact SeqAt.notIn_list_data (by simpa only [D.py] using q2) q1 (pys_plain _) (py_plain _) (by rw [pys_depth, py_depth]; omega) q
      · cases e
    · split at e
      · rename_i xs hb
        simp only [Bool.and_eq_true, decide_eq_true_eq] at hb
        obtain ⟨⟨p1, p2⟩, p3⟩ := hb
        obtain ⟨as, q1⟩ := reads2 hK I r1 p1 rx
        obtain ⟨bs, q2⟩ := reads2 hK I r2 (d := .tup _) p2 ry
        have ek : (!dmem dx _) = k := Option.some.inj e
        rw [← ek, dmem_py _ p1 _ p2] at q
        exact SeqAt.notIn_tuple_data (by simpa only [D.py] using q2) q1 (pys_plain _) (py_plain _) (by rw [pys_depth, py_depth]; omega) q
      · cases e
    -- is, is not
    · obtain rfl : x = .non := r1
      obtain rfl : y = .non := r2
      cases e
      exact op_isN pins s σ H _ _ v u _ I rx ry ⟨rfl, by simpa using q2'⟩
    · obtain rfl : y = .non := r2
      cases e
      rename_i hne
      have hx : ¬ x = .non := fun z => hne (repB_non r1 z)
      exact op_isN pins s σ H _ _ v u _ I rx ry ⟨rfl, by simpa [hx] using q2'⟩
    · obtain rfl : x = .non := r1
      obtain rfl : y = .non := r2
      cases e
      exact op_notN pins s σ H _ _ v u _ I rx ry ⟨rfl, by simpa using q2'⟩
    · obtain rfl : y = .non := r2
      cases e
      rename_i hne
      have hx : ¬ x = .non := fun z => hne (repB_non r1 z)
      exact op_notN pins s σ H _ _ v u _ I rx ry ⟨rfl, by simpa [hx] using q2'⟩
    · cases e
end
end Pi

set_option maxRecDepth 100000
set_option maxHeartbeats 1000000
/-! PiF: items, slices, calls of what is built in. -/
namespace Pi
open PySem PySem.Spec L2
open PyProof.Rows (subscriptTail)

section
variable {X : Cx} {F : Fx} {bw : Bool} {W : WX}
/-- a[i] -/
def rIxD (F : Fx) (bw : Bool) (W : WX) : R2 := fun x y H Q => ∃ σ Uo m env st dx dy, Sim F Uo m env σ st H ∧ RepB F (MuOf Uo env σ m st.length) m st.length H x dx ∧ RepB F (MuOf Uo env σ m st.length) m st.length H y dy ∧
  PostE F Uo env σ m st.length H W bw Q (lift (ixF st dx dy) env st)
theorem ix_dat (hK : X.K = F.K) : IxR X (rIxD F bw W) := by
  intro value slice pins s σ H x y v u Q I rx ry h hs
  obtain ⟨σ0, Uo, m, env, st, dx, dy, S, r1, r2, hp⟩ := h
  have lst : ∀ (a : Addr) (vs : List V) (xs : List D) (i : Int) (d : D), x = .ref a → y = .int i → SqL X.K H a vs → Reps F (MuOf Uo env σ0 m st.length) m st.length H vs xs → L2.atI xs i = some d → PostE F Uo env σ0 m st.length H W bw Q (.ok (d, false) env st) →
      wpAny (model X.prog X.w) X.A (subscriptTail value slice v u) (EP X pins σ Q) X.xe s := by
    intro a vs xs i d ex ey hq hr he hp
    subst ex ey
    obtain ⟨j, h1, h2, h3, h4, h5⟩ := atI_get he
    obtain ⟨w, e1, e2⟩ := Reps.get hr h2
    refine ix_list value slice pins s σ H _ _ v u Q I rx ry ⟨a, vs, i, w, rfl, rfl, hq, ?_, hp.here S e2⟩ hs
    unfold L2.atI at he ⊢
    rw [Reps.length hr]
    cases q : ixN xs.length i with
    | none => rw [q] at he; cases he
    | some j' =>
      rw [q] at he
      have hj : xs[j']? = some d := he
      obtain ⟨q1, _, _, _⟩ := ixN_seq q
      rw [q1] at h1
      cases h1
      exact e1
  cases dx with
  | ref l =>
    obtain ⟨hl, rfl⟩ := r1
    unfold ixF at hp
    dsimp only at hp
    cases e : st[l]? with
    | none => rw [e] at hp; exact hp.elim
    | some o =>
      rw [e] at hp
      cases o with
      | dct ks vs => exact hp.elim
      | lst xs =>
        obtain ⟨vs, h1, h2⟩ := S.obj l xs e
        cases dy with
        | int i =>
          obtain rfl : y = .int i := r2
          cases q : L2.atI xs i with
          | none =>
            have q2 : index (.lst xs) (.int i) = none := q
            simp only [q2] at hp
            exact hp.elim
          | some d =>
            have q2 : index (.lst xs) (.int i) = some d := q
            simp only [q2] at hp
            exact lst _ vs xs i d rfl rfl (.inl (.inl h1)) h2 q hp
        | _ => exact hp.elim
  | lst xs =>
    obtain ⟨a, vs, rfl, hq, _, hr⟩ := r1
    cases dy with
    | int i =>
      obtain rfl : y = .int i := r2
      cases q : L2.atI xs i with
      | none =>
        have q2 : index (.lst xs) (.int i) = none := q
        simp only [ixF, q2] at hp
        exact hp.elim
      | some d =>
        have q2 : index (.lst xs) (.int i) = some d := q
        simp only [ixF, q2] at hp
        exact lst a vs xs i d rfl rfl (.inl hq) hr q hp
    | _ => exact hp.elim
  | scr xs =>
    obtain ⟨a, vs, rfl, hq, hr⟩ := r1
    cases dy with
    | int i =>
      obtain rfl : y = .int i := r2
      cases q : L2.atI xs i with
      | none =>
        have q2 : index (.scr xs) (.int i) = none := q
        simp only [ixF, q2] at hp
        exact hp.elim
      | some d =>
        have q2 : index (.scr xs) (.int i) = some d := q
        simp only [ixF, q2] at hp
        exact lst a vs xs i d rfl rfl (.inr (by rw [hK]; exact hq)) hr q hp
    | _ => exact hp.elim
  | tup xs =>
    obtain ⟨a, vs, rfl, hq, hr⟩ := r1
    cases dy with
    | int i =>
      obtain rfl : y = .int i := r2
      cases q : L2.atI xs i with
      | none =>
        have q2 : index (.tup xs) (.int i) = none := q
        simp only [ixF, q2] at hp
        exact hp.elim
      | some d =>
        have q2 : index (.tup xs) (.int i) = some d := q
        simp only [ixF, q2] at hp
        obtain ⟨j, h1, h2, h3, h4, h5⟩ := atI_get q
        obtain ⟨w, e1, e2⟩ := Reps.get hr h2
        refine ix_tup value slice pins s σ H _ _ v u Q I rx ry ⟨a, vs, i, w, rfl, rfl, by rw [hK]; exact hq, ?_, hp.here S e2⟩ hs
        unfold L2.atI at q ⊢
        rw [Reps.length hr]
        cases q3 : ixN xs.length i with
        | none => rw [q3] at q; cases q
        | some j' =>
          rw [q3] at q
          obtain ⟨q1, _, _, _⟩ := ixN_seq q3
          rw [q1] at h1
          cases h1
          exact e1
    | _ => exact hp.elim
  | str z =>
    obtain rfl : x = .str z := r1
    cases dy with
    | int i =>
      obtain rfl : y = .int i := r2
      unfold ixF index at hp
      dsimp only at hp
      split at hp
      · rename_i hz
        cases q : L2.atI z.cps.toList i with
        | none => simp only [q] at hp; exact hp.elim
        | some c =>
          simp only [q, Option.map_some] at hp
          exact ix_str value slice pins s σ H _ _ v u Q I rx ry ⟨z, i, c, rfl, rfl, szOk_le hz, q, hp.here S rfl⟩ hs
      · exact hp.elim
    | _ =>
      exact hp.elim
  | _ => exact hp.elim

/-- a[lo:hi] -/
def rSlD (F : Fx) (bw : Bool) (W : WX) : V → Option Int → Option Int → Hp → VK → Prop := fun x lo hi H Q => ∃ σ Uo m env st dx, Sim F Uo m env σ st H ∧ RepB F (MuOf Uo env σ m st.length) m st.length H x dx ∧
  PostE F Uo env σ m st.length H W bw Q (lift (slice dx lo hi) env st)
theorem Reps.cut {Mu : Addr → Prop} {m : Nat → Addr} {n : Nat} {H : Hp} {vs : List V} {xs : List D} (r : Reps F Mu m n H vs xs) (lo hi : Option Int) : Reps F Mu m n H (cutV vs lo hi) (cutBy xs lo hi) := by
  unfold cutV cutBy
  dsimp only
  rw [Reps.length r]
  exact Reps.take _ (Reps.drop _ r)
theorem cutBy_whole {α : Type} {xs : List α} {lo hi : Option Int} (h : HT.sIx xs.length 0 lo = 0 ∧ HT.sIx xs.length xs.length hi = xs.length) : cutBy xs lo hi = xs := by
  unfold cutBy
  dsimp only
  rw [h.1, h.2]
  simp
theorem sl_dat (hK : X.K = F.K) : SlR X (rSlD F bw W) := by
  intro pins s σ H x v vl vu lo hi sl Q I rx hs pl pu h
  obtain ⟨σ0, Uo, m, env, st, dx, S, r1, hp⟩ := h
  cases dx with
  | tup xs =>
    obtain ⟨a, vs, rfl, hq, hr⟩ := r1
    have hp : PostE F Uo env σ0 m st.length H W bw Q (.ok (.tup (cutBy xs lo hi), false) env st) := hp
    refine sl_tupA pins s σ H _ v vl vu lo hi sl Q I rx hs pl pu ⟨a, vs, rfl, by rw [hK]; exact hq, fun hw => ?_, fun hw p hp0 => hp.newT S hp0 (Reps.cut hr lo hi)⟩
    rw [Reps.length hr] at hw
    rw [cutBy_whole hw] at hp
    exact hp.here S ⟨a, vs, rfl, hq, hr⟩
  | lst xs =>
    obtain ⟨a, vs, rfl, hq, _, hr⟩ := r1
    have hp : PostE F Uo env σ0 m st.length H W bw Q (.ok (.lst (cutBy xs lo hi), true) env st) := hp
    exact sl_list pins s σ H _ v vl vu lo hi sl Q I rx hs pl pu ⟨a, vs, rfl, .inl hq, fun p hp0 => hp.newL S hp0 (Reps.cut hr lo hi)⟩
  | str z =>
    obtain rfl : x = .str z := r1
    unfold slice at hp
    dsimp only at hp
    split at hp
    · rename_i hz
      exact sl_str pins s σ H _ v vl vu lo hi sl Q I rx hs pl pu ⟨z, rfl, szOk_le hz, hp.here S rfl⟩
    · exact hp.elim
  | _ => exact hp.elim

/-! ### built-in functions and types -/
/-- the value of a built-in function's name -/
def Bi.val : Bi → Value
  | .len => .builtin "len" | .int => .type "int" | .str => .type "str" | .bool => .type "bool" | .list => .type "list" | .tuple => .type "tuple"
  | .sorted => .builtin "sorted" | .sortset => .none | .all => .builtin "all" | .max1 => .builtin "max" | .max2 => .builtin "max" | .min2 => .builtin "min" | .sum => .builtin "sum"
  | .isinst => .builtin "isinstance" | .dict => .type "dict"
theorem RepBs.one {Mu : Addr → Prop} {m : Nat → Addr} {n : Nat} {H : Hp} {vs : List V} {d : D} (r : RepBs F Mu m n H vs [d]) : ∃ v, vs = [v] ∧ RepB F Mu m n H v d := by
  match vs, r with
  | [v], r => exact ⟨v, rfl, r.1⟩
  | [], r => exact r.elim
  | _ :: _ :: _, r => exact r.2.elim
theorem RepBs.two {Mu : Addr → Prop} {m : Nat → Addr} {n : Nat} {H : Hp} {vs : List V} {d e : D} (r : RepBs F Mu m n H vs [d, e]) : ∃ v w, vs = [v, w] ∧ RepB F Mu m n H v d ∧ RepB F Mu m n H w e := by
  match vs, r with
  | [v, w], r => exact ⟨v, w, rfl, r.1, r.2.1⟩
  | [_], r => exact r.2.elim
  | [], r => exact r.elim
  | _ :: _ :: _ :: _, r => exact r.2.2.elim

/-- the words for types that are asked -/
theorem kit_int_int : kitB "int" "int" = some true := by decide +kernel
theorem kit_bool_int : kitB "bool" "int" = some true := by decide +kernel
theorem kit_bool_bool : kitB "bool" "bool" = some true := by decide +kernel
theorem kit_str_str : kitB "str" "str" = some true := by decide +kernel
theorem kit_tup_tup : kitB "tuple" "tuple" = some true := by decide +kernel
theorem kit_lst_lst : kitB "list" "list" = some true := by decide +kernel
def tyNames : List String := ["int", "bool", "str", "tuple", "list"]
theorem kit_none : ∀ n ∈ tyNames, kitB "NoneType" n = some false := by decide +kernel
theorem kit_int : ∀ n ∈ ["bool", "str", "tuple", "list"], kitB "int" n = some false := by decide +kernel
theorem kit_bool : ∀ n ∈ ["str", "tuple", "list"], kitB "bool" n = some false := by decide +kernel
theorem kit_str : ∀ n ∈ ["int", "bool", "tuple", "list"], kitB "str" n = some false := by decide +kernel
theorem kit_tup : ∀ n ∈ ["int", "bool", "str", "list"], kitB "tuple" n = some false := by decide +kernel
theorem kit_lst : ∀ n ∈ ["int", "bool", "str", "tuple"], kitB "list" n = some false := by decide +kernel
theorem tyx_tup {H : Hp} {a : Addr} {vs : List V} (h : SqT X.K H a vs) : TyX X.K H (.ref a) (.type "tuple") := by
  rcases h with h | ⟨o, its, n, h1, h2, _⟩
  · rcases h with h | ⟨o, h⟩
    · exact .base (.tup h)
    · exact .fTuple h
  · exact .kTuple h1 h2
theorem tyx_lst {H : Hp} {a : Addr} {vs : List V} (h : Rd H a (.lst vs)) : TyX X.K H (.ref a) (.type "list") := by
  rcases h with h | ⟨o, h⟩
  · exact .base (.lst h)
  · exact .base (.frz h)
theorem isi_dat (hK : X.K = F.K) {G : Gl} {pins : List (Addr × Obj)} {s : Shared} {σ : SL} {H : Hp} {v w : V} {us : List Value} {Q : VK} {Mu : Addr → Prop} {m : Nat → Addr} {n : Nat} {a : D} {t : String} {b : Bool} (I : Inv X pins σ H s) (r : Vals [v, w] us)
    (ra : RepB F Mu m n H v a) (rt : w = .ty t) (e : isInst G a (.ty t) = some b) (q : Q (.bl b) H) : wpAny (model X.prog X.w) X.A (call (.builtin "isinstance") us) (EP X pins σ Q) X.xe s := by
  subst rt
  have go : ∀ (T : String), TyX X.K H v (.type T) → kitB T t = some b → wpAny (model X.prog X.w) X.A (call (.builtin "isinstance") us) (EP X pins σ Q) X.xe s := fun T hT hk =>
    call_isi pins s σ H _ us Q I r ⟨v, .ty t, .type T, .type t, b, rfl, .ty t, hT, kit_ty hk, q⟩
  unfold isInst at e
  split at e
  · rename_i h1 h2; cases h2; cases e
    obtain rfl : v = _ := ra
    exact go "int" (.base (.int _)) kit_int_int
  · rename_i h1 h2; cases h2; cases e
    obtain rfl : v = _ := ra
    exact go "bool" (.base (.bl _)) kit_bool_int
  · rename_i h1 h2; cases h2; cases e
    obtain rfl : v = _ := ra
    exact go "bool" (.base (.bl _)) kit_bool_bool
  · rename_i h1 h2; cases h2; cases e
    obtain rfl : v = _ := ra
    exact go "str" (.base (.str _)) kit_str_str
  · rename_i h1 h2; cases h2; cases e
    obtain ⟨p, vs, rfl, hq, _⟩ := ra
    exact go "tuple" (tyx_tup (by rw [hK]; exact hq)) kit_tup_tup
  · rename_i h1 h2; cases h2; cases e
    obtain ⟨p, vs, rfl, hq, _⟩ := ra
    exact go "list" (tyx_lst hq) kit_lst_lst
  · rename_i h1 h2 h3; cases h3
    split at e
    · rename_i hn
      cases e
      obtain rfl : v = _ := ra
      refine go "NoneType" (.base .non) (kit_none t ?_)
      rcases hn with rfl | rfl | rfl | rfl | rfl <;> decide
    · cases e
  · rename_i h1 h2 h3; cases h3
    split at e
    · rename_i hn
      cases e
      obtain rfl : v = _ := ra
      refine go "int" (.base (.int _)) (kit_int t ?_)
      rcases hn with rfl | rfl | rfl | rfl <;> decide
    · cases e
  · rename_i h1 h2 h3; cases h3
    split at e
    · rename_i hn
      cases e
      obtain rfl : v = _ := ra
      refine go "bool" (.base (.bl _)) (kit_bool t ?_)
      rcases hn with rfl | rfl | rfl <;> decide
    · cases e
  · rename_i h1 h2 h3; cases h3
    split at e
    · rename_i hn
      cases e
      obtain rfl : v = _ := ra
      refine go "str" (.base (.str _)) (kit_str t ?_)
      rcases hn with rfl | rfl | rfl | rfl <;> decide
    · cases e
  · rename_i h1 h2 h3; cases h3
    split at e
    · rename_i hn
      cases e
      obtain ⟨p, vs, rfl, hq, _⟩ := ra
      refine go "tuple" (tyx_tup (by rw [hK]; exact hq)) (kit_tup t ?_)
      rcases hn with rfl | rfl | rfl | rfl <;> decide
    · cases e
  · rename_i h1 h2 h3; cases h3
    split at e
    · rename_i hn
      cases e
      obtain ⟨p, vs, rfl, hq, _⟩ := ra
      refine go "list" (tyx_lst hq) (kit_lst t ?_)
      rcases hn with rfl | rfl | rfl | rfl <;> decide
    · cases e
  · exact ra.elim
  · rename_i h; cases h
  · cases e
end
end Pi

set_option maxRecDepth 100000
set_option maxHeartbeats 1000000
/-! PiG: calls of what is built in. -/
namespace Pi
open PySem PySem.Spec L2

section
variable {F : Fx} {Mu : Addr → Prop} {m : Nat → Addr} {n : Nat} {H : Hp}
theorem reps_zip : ∀ {vs : List V} {ds : List D}, Reps F Mu m n H vs ds → ∀ p ∈ vs.zip ds, Rep F Mu m n H p.1 p.2
  | [], [], _, _, hp => by simp at hp
  | v :: vs, d :: ds, h, p, hp => by
    rw [List.zip_cons_cons] at hp
    rcases List.mem_cons.mp hp with e | hp
    · rw [e]; exact h.1
    · exact reps_zip h.2 p hp
  | [], _ :: _, h, _, _ => h.elim
  | _ :: _, [], h, _, _ => h.elim
theorem reps_of : ∀ {ps : List (V × D)}, (∀ p ∈ ps, Rep F Mu m n H p.1 p.2) → Reps F Mu m n H (ps.map (·.1)) (ps.map (·.2))
  | [], _ => trivial
  | p :: ps, h => ⟨h p List.mem_cons_self, reps_of fun q hq => h q (List.mem_cons_of_mem _ hq)⟩
theorem zip_fst {α β : Type} : ∀ {xs : List α} {ys : List β}, xs.length = ys.length → (xs.zip ys).map (·.1) = xs
  | [], [], _ => rfl
  | x :: xs, y :: ys, h => by rw [List.zip_cons_cons, List.map_cons, zip_fst (by simpa using h)]
theorem zip_snd {α β : Type} : ∀ {xs : List α} {ys : List β}, xs.length = ys.length → (xs.zip ys).map (·.2) = ys
  | [], [], _ => rfl
  | x :: xs, y :: ys, h => by rw [List.zip_cons_cons, List.map_cons, zip_snd (by simpa using h)]
theorem each_vals : ∀ {bs : List (V × D)} {us : List Value}, Vals (bs.map (·.1)) us → PySem.W.EachIs (fun u (p : V × D) => RelV p.1 u) us bs
  | [], _, r => by cases r; exact .nil
  | p :: bs, _, r => by
    cases r with
    | cons r1 r2 => exact .cons r1 (each_vals r2)
theorem vals_each : ∀ {bs : List (V × D)} {us : List Value}, PySem.W.EachIs (fun u (p : V × D) => RelV p.1 u) us bs → Vals (bs.map (·.1)) us
  | [], _, .nil => .nil
  | _ :: _, _, .cons r1 r2 => .cons r1 (vals_each r2)
end

section
variable {X : Cx} {F : Fx} {bw : Bool} {W : WX}
/-- sorted(a list of data) -/
theorem sorted_dat (hK : X.K = F.K) (hu : X.A.units + 64 < cLine) {pins : List (Addr × Obj)} {s : Shared} {σ : SL} {H : Hp} {a : Addr} {vs : List V} {xs : List D} {Mu : Addr → Prop} {m : Nat → Addr} {n : Nat} {Q : Value → Shared → Prop} (I : Inv X pins σ H s)
    (hq : Rd H a (.lst vs)) (hr : Reps F Mu m n H vs xs) (hs : sortable xs = true) (hk : xs.all nonEmptyTup = true ∨ xs.all noTup = true)
    (h : ∀ (p : Addr) (ws : List V) (s' : Shared), H p = none → Reps F Mu m n H ws (isort xs) → Inv X pins σ (upd H p (.lst ws)) s' → Q (.ref p) s') : wpAny (model X.prog X.w) X.A (call (.builtin "sorted") [.ref a]) Q X.xe s := by
  obtain ⟨hz, its, c, r, e⟩ := hq.ok I.hok
  have hlen := Reps.length hr
  obtain ⟨hpl, hal⟩ := sortable_iff hs
  have hb1 : (vs.zip xs).map (·.1) = vs := zip_fst hlen
  have hb2 : (vs.zip xs).map (·.2) = xs := zip_snd hlen
  have hmem : ∀ p ∈ vs.zip xs, p.2 ∈ xs := fun p hp => by
    have : p.2 ∈ (vs.zip xs).map (·.2) := List.mem_map.mpr ⟨p, hp, rfl⟩
    rw [hb2] at this
    exact this
  have r0 : PySem.W.EachIs (fun u (p : V × D) => RelV p.1 u) its (vs.zip xs) := each_vals (by rw [hb1]; exact r)
  have rm : PySem.W.EachIs (fun u (p : V × D) => RelV p.1 u ∧ p ∈ vs.zip xs) its (vs.zip xs) := by
    have key : ∀ {us : List Value} {bs cs : List (V × D)}, PySem.W.EachIs (fun u (p : V × D) => RelV p.1 u) us bs → (∀ p ∈ bs, p ∈ cs) → PySem.W.EachIs (fun u (p : V × D) => RelV p.1 u ∧ p ∈ cs) us bs := by
      intro us bs cs z
      induction z with
      | nil => intro _; exact .nil
      | cons q _ ih => intro hc; exact .cons ⟨q, hc _ List.mem_cons_self⟩ (ih fun p hp => hc p (List.mem_cons_of_mem _ hp))
    exact key r0 fun _ hp => hp
  have er : PySem.W.EachIs (fun u (p : V × D) => ∃ as, Reads s.heap u (D.py p.2) as) its (vs.zip xs) := rm.mono fun u p hp =>
    Dp.reads I _ _ _ (by rw [hK]; exact rep_dp p.2 (reps_zip hr p hp.2) (hpl _ (hmem p hp.2)).1) hp.1
  refine PySem.W.sorted_data (R := fun u (p : V × D) => RelV p.1 u) (enc := fun p : V × D => D.py p.2) (vs := its) (bs := vs.zip xs) ⟨_, e, rfl, _, rfl⟩ r0 er ?_ ?_ ?_ ?_ fun out ho eo => ?_
  · intro d hd d' hd'
    obtain ⟨p, hp, rfl⟩ := List.mem_map.mp hd
    obtain ⟨p', hp', rfl⟩ := List.mem_map.mp hd'
    exact alk_py _ _ (hal _ (hmem p hp) _ (hmem p' hp'))
  · rcases hk with hk | hk
    · refine .inl fun d hd => ?_
      obtain ⟨p, hp, rfl⟩ := List.mem_map.mp hd
      have q := List.all_eq_true.mp hk _ (hmem p hp)
      show ∃ x r, D.py p.2 = .tuple (x :: r)
      generalize p.2 = d at q ⊢
      cases d with
      | tup ys =>
        cases ys with
        | nil => exact absurd q Bool.false_ne_true
        | cons y ys => exact ⟨_, _, rfl⟩
      | _ => exact absurd q Bool.false_ne_true
    · refine .inr fun d hd => ?_
      obtain ⟨p, hp, rfl⟩ := List.mem_map.mp hd
      have q := List.all_eq_true.mp hk _ (hmem p hp)
      have q2 := alk_some (hal _ (hmem p hp) _ (hmem p hp))
      refine ⟨q2, fun ys z => ?_⟩
      have z : D.py p.2 = .tuple ys := z
      generalize p.2 = d at q z
      cases d with
      | tup ys => exact absurd q Bool.false_ne_true
      | _ => cases z
  · rw [List.length_zip, hlen, Nat.min_self, ← hlen]; exact hz
  · intro p hp
    show X.A.units + 2 + (D.py p.2).depth < cLine
    rw [py_depth]
    have := (hpl _ (hmem p hp)).2
    omega
  · obtain ⟨c', hc'⟩ := PyProof.Rows.sortedAll_at s.heap its out.toArray
    have hm : ((vs.zip xs).mergeSort (PySem.W.dataLe false fun p : V × D => D.py p.2)).map (·.2) = isort xs := by
      rw [isort_merge hs]
      have := PySem.W.sort_maps (r := PySem.W.dataLe false fun p : V × D => D.py p.2) (s := PySem.W.dataLe false D.py) (fun p : V × D => p.2) (l := vs.zip xs) (fun a _ b _ => rfl)
      rw [hb2] at this
      exact this
    have hr' : Reps F Mu m n H (((vs.zip xs).mergeSort (PySem.W.dataLe false fun p : V × D => D.py p.2)).map (·.1)) (isort xs) := by
      rw [← hm]
      exact reps_of fun p hp => reps_zip hr p (((List.mergeSort_perm (vs.zip xs) _).mem_iff).mp hp)
    have hp0 : H (s.heap.objs.size + 1) = none := I.hok.fresh (Nat.le_succ _)
    refine h _ _ _ hp0 hr' (I.laid (t' := s.toks) (fun b o q => PyProof.Rows.sortedAll_old q) (Nat.le_succ _) ?_)
    have hl2 : ((vs.zip xs).mergeSort (PySem.W.dataLe false fun p : V × D => D.py p.2)).length = vs.length := by
      rw [List.length_mergeSort, List.length_zip, hlen, Nat.min_self]
    exact ⟨by rw [List.length_map, hl2]; exact hz, out, c', vals_each eo, hc'⟩

theorem numText_some {i : Int} {z : Str} (h : numText i = some z) : i.natAbs.log2 < 1920 ∧ z = toString i := by
  unfold numText at h
  split at h
  · rename_i hb
    rw [Bool.and_eq_true, decide_eq_true_eq, decide_eq_true_eq] at hb
    refine ⟨?_, (Option.some.inj h).symm⟩
    have h1 : i.natAbs < 2 ^ 40 := by omega
    by_cases h0 : i.natAbs = 0
    · rw [h0]; decide
    · have := (Nat.log2_lt h0 (k := 40)).mpr h1
      omega
  · cases h
theorem allD_bools {Mu : Addr → Prop} {m : Nat → Addr} {n : Nat} {H : Hp} : ∀ {vs : List V} {xs : List D} {b : Bool}, allD' xs = some b → Reps F Mu m n H vs xs → ∃ bs : List Bool, vs = bs.map V.bl ∧ bs.all id = b
  | [], [], _, h, _ => ⟨[], rfl, by cases h; rfl⟩
  | v :: vs, d :: xs, b, h, r => by
    cases d with
    | bl k =>
      obtain rfl : v = .bl k := r.1
      have h : (allD' xs).map (fun q => k && q) = some b := h
      cases e : allD' xs with
      | none => rw [e] at h; cases h
      | some q =>
        rw [e] at h
        obtain ⟨bs, rfl, hb⟩ := allD_bools e r.2
        refine ⟨k :: bs, rfl, ?_⟩
        rw [List.all_cons, hb]
        exact Option.some.inj h
    | _ => cases h
  | [], _ :: _, _, _, r => r.elim
  | _ :: _, [], _, _, r => r.elim
theorem bi_dat (hK : X.K = F.K) (hu : X.A.units + 64 < cLine) (hc : X.calm = true) {G : Gl} (hG : ∀ i d, G.xi i d = none) (b : Bi) (hb : b ≠ .sortset) : CallR X b.val (rMany F bw W (bifn G b)) := by
  intro pins s σ H xs us Q I r h
  obtain ⟨σ0, Uo, m, env, st, ds, S, rs, hp⟩ := h
  generalize e : bifn G b ds = z at hp
  unfold bifn at e
  split at e
  · -- len
    subst e
    obtain ⟨v, rfl, ra⟩ := RepBs.one rs
    obtain ⟨a, vs, rfl, hq, hr⟩ := ra
    refine call_len_seq pins s σ H _ us Q I r ⟨a, vs, rfl, .inr (by rw [hK]; exact hq), hp.here S ?_⟩
    show V.int _ = V.int _
    rw [Reps.length hr]
  · subst e
    obtain ⟨v, rfl, ra⟩ := RepBs.one rs
    obtain ⟨a, vs, rfl, hq, _, hr⟩ := ra
    refine call_len_seq pins s σ H _ us Q I r ⟨a, vs, rfl, .inl (.inl hq), hp.here S ?_⟩
    show V.int _ = V.int _
    rw [Reps.length hr]
  · split at e
    · rename_i hz
      subst e
      obtain ⟨v, rfl, ra⟩ := RepBs.one rs
      obtain rfl : v = _ := ra
      exact call_len_str pins s σ H _ us Q I r ⟨_, rfl, szOk_le hz, hp.here S rfl⟩
    · subst e; exact hp.elim
  · obtain ⟨v, rfl, ra⟩ := RepBs.one rs
    exact ra.elim
  · subst e
    obtain ⟨v, rfl, ra⟩ := RepBs.one rs
    obtain ⟨a, vs, rfl, hq, hr⟩ := ra
    refine call_len_seq pins s σ H _ us Q I r ⟨a, vs, rfl, .inl (.inr (by rw [hK]; exact hq)), hp.here S ?_⟩
    show V.int _ = V.int _
    rw [Reps.length hr]
  · -- int
    subst e
    obtain ⟨v, rfl, ra⟩ := RepBs.one rs
    obtain rfl : v = _ := ra
    exact call_int1 pins s σ H _ us Q I r (.inl ⟨_, rfl, hp.here S rfl⟩)
  · subst e
    obtain ⟨v, rfl, ra⟩ := RepBs.one rs
    obtain rfl : v = _ := ra
    exact call_int1 pins s σ H _ us Q I r (.inr ⟨_, rfl, hp.here S rfl⟩)
  · -- str
    rename_i i
    cases q : numText i with
    | none => rw [q] at e; subst e; exact hp.elim
    | some t =>
      rw [q] at e
      subst e
      obtain ⟨h1, rfl⟩ := numText_some q
      obtain ⟨v, rfl, ra⟩ := RepBs.one rs
      obtain rfl : v = _ := ra
      exact call_str_int pins s σ H _ us Q I r ⟨i, rfl, h1, hp.here S rfl⟩
  · -- bool
    subst e
    obtain ⟨v, rfl, ra⟩ := RepBs.one rs
    obtain rfl : v = _ := ra
    exact call_bool1 pins s σ H _ us Q I r (.inr ⟨_, rfl, hp.here S rfl⟩)
  · -- list
    subst e
    obtain ⟨v, rfl, ra⟩ := RepBs.one rs
    obtain ⟨a, vs, rfl, hq, hr⟩ := ra
    exact call_list_of pins s σ H _ us Q I r ⟨a, vs, rfl, .inr (by rw [hK]; exact hq), fun p h0 => hp.newL S h0 hr⟩
  · subst e
    obtain ⟨v, rfl, ra⟩ := RepBs.one rs
    obtain ⟨a, vs, rfl, hq, _, hr⟩ := ra
    exact call_list_of pins s σ H _ us Q I r ⟨a, vs, rfl, .inl (.inl hq), fun p h0 => hp.newL S h0 hr⟩
  · -- tuple
    subst e
    obtain ⟨v, rfl, ra⟩ := RepBs.one rs
    obtain ⟨a, vs, rfl, hq, hr⟩ := ra
    exact call_tuple_of pins s σ H _ us Q I r ⟨a, vs, rfl, .inr ⟨by rw [hK]; exact hq, hp.here S ⟨a, vs, rfl, hq, hr⟩⟩⟩
  · subst e
    obtain ⟨v, rfl, ra⟩ := RepBs.one rs
    obtain ⟨a, vs, rfl, hq, _, hr⟩ := ra
    exact call_tuple_of pins s σ H _ us Q I r ⟨a, vs, rfl, .inl ⟨.inl hq, fun p h0 => hp.newT S h0 hr⟩⟩
  · -- sorted
    unfold sortD at e
    split at e
    · rename_i hs
      subst e
      rw [Bool.and_eq_true, Bool.and_eq_true, Bool.or_eq_true] at hs
      obtain ⟨v, rfl, ra⟩ := RepBs.one rs
      obtain ⟨a, vs, rfl, hq, _, hr⟩ := ra
      obtain ⟨u, rfl, r1⟩ := Vals.one r
      cases r1
      exact sorted_dat hK hu I hq hr hs.1.1 hs.1.2 fun p ws s' h0 hr' I' => ⟨.ref p, _, I', rfl, hp.newL S h0 hr'⟩
    · subst e; exact hp.elim
  · exact absurd rfl hb
  · exact absurd rfl hb
  · -- all
    rename_i l
    cases q : allD' l with
    | none => rw [q] at e; subst e; exact hp.elim
    | some k =>
      rw [q] at e
      subst e
      obtain ⟨v, rfl, ra⟩ := RepBs.one rs
      obtain ⟨a, vs, rfl, hq, _, hr⟩ := ra
      obtain ⟨bs, rfl, hb2⟩ := allD_bools q hr
      exact cr_all hc pins s σ H _ us Q I r ⟨a, bs, rfl, .inl hq, by rw [hb2]; exact hp.here S rfl⟩
  · subst e
    obtain ⟨v, w, rfl, ra, rb⟩ := RepBs.two rs
    obtain rfl : v = _ := ra
    obtain rfl : w = _ := rb
    exact call_max2 hc pins s σ H _ us Q I r ⟨_, _, rfl, hp.here S rfl⟩
  · subst e
    obtain ⟨v, w, rfl, ra, rb⟩ := RepBs.two rs
    obtain rfl : v = _ := ra
    obtain rfl : w = _ := rb
    exact call_min2 hc pins s σ H _ us Q I r ⟨_, _, rfl, hp.here S rfl⟩
  · -- isinstance
    rename_i a t
    obtain ⟨v, w, rfl, ra, rb⟩ := RepBs.two rs
    cases q : isInst G a t with
    | none => rw [q] at e; subst e; exact hp.elim
    | some k =>
      rw [q] at e
      subst e
      cases t with
      | ty t => exact isi_dat hK I r ra rb q (hp.here S rfl)
      | gl c =>
        cases a with
        | exc _ _ => exact ra.elim
        | gl i =>
          have q : G.xi i c = some k := q
          rw [hG] at q
          cases q
        | _ => cases q
      | _ => cases a <;> cases q
  · subst e; exact hp.elim

/-- sep.join(xs) -/
theorem strsOf_map {Mu : Addr → Prop} {m : Nat → Addr} {n : Nat} {H : Hp} : ∀ {vs : List V} {xs : List D} {l : List Str}, strsOf xs = some l → Reps F Mu m n H vs xs → vs = l.map V.str
  | [], [], _, h, _ => by cases h; rfl
  | v :: vs, d :: xs, l, h, r => by
    cases d with
    | str z =>
      obtain rfl : v = .str z := r.1
      have h : (strsOf xs).map (fun r => z :: r) = some l := h
      cases e : strsOf xs with
      | none => rw [e] at h; cases h
      | some q =>
        rw [e] at h
        cases h
        rw [strsOf_map e r.2]; rfl
    | _ => cases h
  | [], _ :: _, _, _, r => r.elim
  | _ :: _, [], _, _, r => r.elim
end
end Pi

set_option maxRecDepth 100000
set_option maxHeartbeats 1000000
/-! PiH: readings of expressions. -/
namespace Pi
open PySem PySem.Spec L2

section
variable (F : Fx) (G : Gl) (call : Nat → List D → Sto → RC) (W : WX)
def RdE (bw : Bool) (c : C) : TE := fun σ H Q => ∃ Uo m env st, Sim F Uo m env σ st H ∧ PostE F Uo env σ m st.length H W bw Q (ev G call bw c env st)
def RdT (c : C) : TT := fun σ H Q => ∃ Uo m env st, Sim F Uo m env σ st H ∧ PostG F Uo env σ m st.length H W Eq Q (truth (ev G call true c env st))
def RdL (bw : Bool) (es : List C) : TA := fun σ H Q => ∃ Uo m env st, Sim F Uo m env σ st H ∧ PostL F Uo env σ m st.length H W bw Q (evs G call bw es env st)
def RdO (c : Option C) : TO := fun σ H Q => ∃ Uo m env st, Sim F Uo m env σ st H ∧ PostG F Uo env σ m st.length H W Eq Q (evo G call c env st)
end
theorem _root_.L2.PE.imp {X : Cx} {e : Expr} {t t' : TE} (h : PE X e t) (k : ∀ σ H Q, t' σ H Q → t σ H Q) : PE X e t' := ⟨fun pins s σ H Q I q => h.run pins s σ H Q I (k _ _ _ q)⟩
theorem _root_.L2.PT.imp {X : Cx} {e : Expr} {t t' : TT} (h : PT X e t) (k : ∀ σ H Q, t' σ H Q → t σ H Q) : PT X e t' := ⟨fun pins s σ H Q I q => h.run pins s σ H Q I (k _ _ _ q)⟩
theorem _root_.L2.PW.imp {X : Cx} {e : Expr} {t t' : TT} (h : PW X e t) (k : ∀ σ H Q, t' σ H Q → t σ H Q) : PW X e t' := ⟨fun wh pins s σ H Q I q => h.run wh pins s σ H Q I (k _ _ _ q)⟩
theorem _root_.L2.PA.imp {X : Cx} {e : List Expr} {t t' : TA} (h : PA X e t) (k : ∀ σ H Q, t' σ H Q → t σ H Q) : PA X e t' := ⟨fun p pins s σ H Q I q => h.run p pins s σ H Q I (k _ _ _ q)⟩
theorem _root_.L2.PO.imp {X : Cx} {e : Option Expr} {t t' : TO} (h : PO X e t) (k : ∀ σ H Q, t' σ H Q → t σ H Q) : PO X e t' := ⟨fun pins s σ H Q I q => h.run pins s σ H Q I (k _ _ _ q)⟩

section
variable {F : Fx} {Uo : Addr → Prop} {env : Env} {σ : SL} {m : Nat → Addr} {n : Nat} {H : Hp} {W : WX} {st : Sto}
theorem getS_some {env : Env} {i : Nat} {p : D × Bool} (h : getS env i = some p) : env[i]? = some (some p) := by
  unfold getS at h
  split at h
  · rename_i q e; cases h; exact e
  · cases h
theorem own_fz {i : Nat} {d : D} {b : Addr} (h : OwnAt (freeze env i d) σ b) : OwnAt env σ b ∧ ∀ a, σ[i]? = some (some (V.ref a)) → True := by
  obtain ⟨j, e, h1, h2⟩ := h
  refine ⟨⟨j, e, ?_, h2⟩, fun _ _ => trivial⟩
  unfold Pi.freeze at h1
  rw [List.getElem?_set] at h1
  split at h1
  · split at h1 <;> simp at h1
  · exact h1
theorem own_fzN {i : Nat} {d : D} {b : Addr} (h : OwnAt (freeze env i d) σ b) : ∃ j e, j ≠ i ∧ env[j]? = some (some (e, true)) ∧ σ[j]? = some (some (V.ref b)) := by
  obtain ⟨j, e, h1, h2⟩ := h
  unfold Pi.freeze at h1
  rw [List.getElem?_set] at h1
  split at h1
  · split at h1 <;> simp at h1
  · rename_i hne; exact ⟨j, e, fun z => hne z.symm, h1, h2⟩
theorem mu_fz {i : Nat} {d : D} {a : Addr} (h : MuOf Uo (freeze env i d) σ m n a) : MuOf Uo env σ m n a := h.imp (fun z => z) fun z => z.imp (fun z => (own_fz z).1) fun z => z
/-- an own list that is kept from now on -/
theorem sim_fz {i : Nat} {d : D} (S : Sim F Uo m env σ st H) (e : env[i]? = some (some (d, true))) :
    Sim F Uo m (freeze env i d) σ st H ∧ Step noCh env σ m st.length H (freeze env i d) σ m st.length H ∧ ∃ v, σ[i]? = some (some v) ∧ Rep F (MuOf Uo (freeze env i d) σ m st.length) m st.length H v d := by
  obtain ⟨a, xs, vs, rfl, h2, h3, h4⟩ := S.own i d e
  have L : Mov (MuOf Uo env σ m st.length) (MuOf Uo (Pi.freeze env i (.lst xs)) σ m st.length) m m st.length st.length H H := Mov.less fun _ z => mu_fz z
  have rep : Rep F (MuOf Uo (Pi.freeze env i (.lst xs)) σ m st.length) m st.length H (V.ref a) (.lst xs) := by
    refine ⟨a, vs, rfl, .inl h3, fun z => ?_, Reps.mov L h4⟩
    have ho : OwnAt env σ a := ⟨i, _, e, h2⟩
    rcases z with z | z | z
    · exact (S.osto a ho).1 z
    · obtain ⟨j, e', hne, h5, h6⟩ := own_fzN z
      exact hne (S.sep j i a _ _ h5 e h6 h2)
    · exact (S.osto a ho).2 z
  have get : ∀ j q, (Pi.freeze env i (.lst xs))[j]? = some (some q) → (j = i ∧ q = (.lst xs, false)) ∨ (j ≠ i ∧ env[j]? = some (some q)) := by
    intro j q h
    unfold Pi.freeze at h
    rw [List.getElem?_set] at h
    split at h
    · rename_i hij
      split at h
      · cases h; exact .inl ⟨hij.symm, rfl⟩
      · cases h
    · rename_i hij; exact .inr ⟨fun z => hij z.symm, h⟩
  refine ⟨?_, ?_, V.ref a, h2, rep⟩
  · exact {
      len := by unfold Pi.freeze; rw [List.length_set]; exact S.len
      inj := S.inj
      obj := fun l ys q => let ⟨vs, h1, h2⟩ := S.obj l ys q; ⟨vs, h1, Reps.mov L h2⟩
      noD := S.noD
      val := fun j d' q => by
        rcases get j _ q with ⟨rfl, z⟩ | ⟨_, z⟩
        · cases z; exact ⟨_, h2, rep⟩
        · obtain ⟨v, h1, h2⟩ := S.val j d' z; exact ⟨v, h1, Rep.mov L h2⟩
      own := fun j d' q => by
        rcases get j _ q with ⟨rfl, z⟩ | ⟨_, z⟩
        · cases z
        · obtain ⟨b, ys, ws, h1, h2, h3, h4⟩ := S.own j d' z; exact ⟨b, ys, ws, h1, h2, h3, Reps.mov L h4⟩
      sep := fun j k b d' e' h1 h2 h3 h4 => by
        rcases get j _ h1 with ⟨rfl, z⟩ | ⟨_, z⟩
        · cases z
        · rcases get k _ h2 with ⟨rfl, z'⟩ | ⟨_, z'⟩
          · cases z'
          · exact S.sep j k b _ _ z z' h3 h4
      osto := fun b hb => S.osto b (own_fz hb).1
      usto := S.usto
      uH := S.uH
      tab := S.tab }
  · exact ⟨Nat.le_refl _, fun _ _ => rfl, fun l h1 h2 => absurd (Nat.lt_of_le_of_lt h1 h2) (Nat.lt_irrefl _), fun _ _ e _ _ => e, fun _ e => e, fun _ e => .inl (own_fz e).1⟩
end

section
variable {X : Cx} {F : Fx} {G : Gl} {call : Nat → List D → Sto → RC} {W : WX} {bw : Bool} {pos : Pos}
/-! ### leaves -/
theorem rd_k {e : Expr} {d : D} {v : V} (h : PE X e (tC v)) (r : ∀ Mu m n H, Rep F Mu m n H v d) : PE X e (RdE F G call W bw (.k d)) := h.imp fun σ H Q ⟨Uo, m, env, st, S, q⟩ => by
  rw [ev] at q
  exact q.here S (r _ _ _ _)
theorem rd_g {e : Expr} {d : D} {v : V} (h : PE X e (tC v)) (r : ∀ Mu m n H, Rep F Mu m n H v d) : PE X e (RdE F G call W bw (.g d)) := h.imp fun σ H Q ⟨Uo, m, env, st, S, q⟩ => by
  rw [ev] at q
  exact q.here S (r _ _ _ _)
theorem rd_v {e : Expr} {i : Nat} (h : PE X e (tVar i)) : PE X e (RdE F G call W bw (.v i)) := h.imp fun σ H Q ⟨Uo, m, env, st, S, q⟩ => by
  rw [ev] at q
  split at q
  · rename_i d o e
    have e := getS_some e
    cases o with
    | false =>
      rw [if_neg (by simp)] at q
      obtain ⟨v, h1, h2⟩ := S.val i d e
      exact ⟨v, h1, q.here S h2⟩
    | true =>
      cases bw with
      | false =>
        rw [if_pos (by simp)] at q
        obtain ⟨S1, p, v, h1, h2⟩ := sim_fz S e
        exact ⟨v, h1, (closedE.step _ _ _ _ _ _ _ _ _ p q).here S1 h2⟩
      | true =>
        rw [if_neg (by simp)] at q
        obtain ⟨a, xs, vs, rfl, h2, h3, h4⟩ := S.own i d e
        exact ⟨_, h2, q.hereB S ⟨a, vs, rfl, .inl h3, (S.osto a ⟨i, _, e, h2⟩).2, h4⟩⟩
  · exact q.elim
/-! ### operations -/
section
variable {a b c : C} {ea eb ec : Expr}
theorem rd_bin (hK : X.K = F.K) (o : BOp) (ha : PE X ea (RdE F G call W true a)) (hb : PE X eb (RdE F G call W true b)) : PE X (.BinOp ea o.op eb pos) (RdE F G call W bw (.bin o a b)) :=
  (pe_op (op_bin (bw := bw) (W := W) hK o) ha hb).imp fun σ H Q ⟨Uo, m, env, st, S, q⟩ => by
    rw [ev] at q
    refine ⟨Uo, m, env, st, S, bindE closedE q fun v d o1 m1 env1 st1 H1 p1 S1 r1 q1 => ⟨Uo, m1, env1, st1, S1.base, bindE closedE q1 fun w e o2 m2 env2 st2 H2 p2 S2 r2 q2 => ?_⟩⟩
    exact ⟨σ, Uo, m2, env2, st2, d, e, S2.base, RepB.movE S1.base p2 (r1.toB S1), r2.toB S2, q2⟩
theorem rd_neg (ha : PE X ea (RdE F G call W true a)) : PE X (.UnaryOp .USub ea pos) (RdE F G call W bw (.neg a)) :=
  (pe_un (unT (bw := bw) (W := W) (fun x => (dnum x).map fun i => (.int (-i), false)) _ (fun d r h => by
    cases d with
    | int i => exact ⟨i, rfl, (Option.some.inj h).symm⟩
    | _ => cases h) rfl) ha).imp fun σ H Q ⟨Uo, m, env, st, S, q⟩ => by
    rw [ev] at q
    exact ⟨Uo, m, env, st, S, bindE closedE q fun v d o1 m1 env1 st1 H1 p1 S1 r1 q1 => ⟨σ, Uo, m1, env1, st1, d, S1.base, r1.toB S1, q1⟩⟩
theorem rd_cmp (hK : X.K = F.K) (hu : X.A.units + 64 < cLine) (o : COp) (hm : behindInMarks o.op eb = false) (ha : PE X ea (RdE F G call W true a)) (hb : PE X eb (RdE F G call W true b)) : PE X (.Compare ea [o.op] [eb] pos) (RdE F G call W bw (.cmp o a b)) :=
  (pe_cmpR (op_cmp (bw := bw) (W := W) hK hu o) ha hb hm).imp fun σ H Q ⟨Uo, m, env, st, S, q⟩ => by
    rw [ev] at q
    refine ⟨Uo, m, env, st, S, bindE closedE q fun v d o1 m1 env1 st1 H1 p1 S1 r1 q1 => ⟨Uo, m1, env1, st1, S1.base, bindE closedE q1 fun w e o2 m2 env2 st2 H2 p2 S2 r2 q2 => ?_⟩⟩
    exact ⟨σ, Uo, m2, env2, st2, d, e, S2.base, RepB.movE S1.base p2 (r1.toB S1), r2.toB S2, q2⟩
/-- a truth that has come -/
theorem val_bl {o : Bool} {Mu : Addr → Prop} {m : Nat → Addr} {n : Nat} {H0 H : Hp} {v : V} {k : Bool} (r : ValR F bw o Mu m n H0 H v (.bl k)) : v = .bl k := by
  cases o with
  | true => obtain ⟨_, _, _, _, z, _⟩ := r.1 rfl; cases z
  | false =>
    cases bw with
    | true => exact r.2.2 rfl rfl
    | false => exact r.2.1 rfl rfl
theorem chn_dat {o p : COp} {σ : SL} {H : Hp} {Q : VK} {tc : TE} (htc : tc = RdE F G call W true c)
    (h : RdE F G call W bw (.chn o p a b c) σ H Q) : tChain (rTwo F true W (cmpD o)) (rTwo F bw W (cmpD p)) (RdE F G call W true a) (RdE F G call W true b) tc σ H Q := by
  subst htc
  obtain ⟨Uo, m, env, st, S, q⟩ := h
  rw [ev] at q
  refine ⟨Uo, m, env, st, S, bindE closedE q fun v d o1 m1 env1 st1 H1 p1 S1 r1 q1 => ⟨Uo, m1, env1, st1, S1.base, bindE closedE q1 fun w e o2 m2 env2 st2 H2 p2 S2 r2 q2 => ?_⟩⟩
  refine ⟨σ, Uo, m2, env2, st2, d, e, S2.base, RepB.movE S1.base p2 (r1.toB S1), r2.toB S2, ?_⟩
  have q2 : PostE F Uo env2 σ m2 st2.length H2 W bw Q (match cmpop o d e with
    | some true => (ev G call true c env2 st2).bind fun z env st => lift ((cmpop p e z.1).map fun b => (.bl b, false)) env st
    | some false => .ok (.bl false, false) env2 st2
    | none => .no) := q2
  unfold cmpD
  cases z : cmpop o d e with
  | none => rw [z] at q2; exact q2.elim
  | some k =>
    rw [z] at q2
    intro v3 m3 H3 p3 S3 r3
    have ev3 : v3 = .bl k := val_bl r3
    subst ev3
    refine ⟨k, rfl, ?_⟩
    cases k with
    | false =>
      rw [if_neg (by decide)]
      exact (closedE.step _ _ _ _ _ _ _ _ _ p3 q2).here S3.base rfl
    | true =>
      rw [if_pos rfl]
      refine ⟨Uo, m3, env2, st2, S3.base, bindE closedE (closedE.step _ _ _ _ _ _ _ _ _ p3 q2) fun z e3 o4 m4 env4 st4 H4 p4 S4 r4 q4 => ?_⟩
      exact ⟨σ, Uo, m4, env4, st4, e, e3, S4.base, RepB.movE S3.base p4 (RepB.movE S2.base p3 (r2.toB S2)), r4.toB S4, q4⟩
theorem rd_chn (hK : X.K = F.K) (hu : X.A.units + 64 < cLine) (o p : COp) (hm : lastMarks [o.op, p.op] [eb, ec] = false) (ha : PE X ea (RdE F G call W true a)) (hb : PE X eb (RdE F G call W true b)) (hc : PE X ec (RdE F G call W true c)) :
    PE X (.Compare ea [o.op, p.op] [eb, ec] pos) (RdE F G call W bw (.chn o p a b c)) :=
  (pe_chain (op_cmp (bw := true) (W := W) hK hu o) (op_cmp (bw := bw) (W := W) hK hu p) ha hb hc hm).imp fun _ _ _ h => chn_dat rfl h
theorem rd_ix (hK : X.K = F.K) (hs : PlainIx eb) (ha : PE X ea (RdE F G call W true a)) (hb : PE X eb (RdE F G call W true b)) : PE X (.Subscript ea eb pos) (RdE F G call W bw (.ix a b)) :=
  (pe_ix (ix_dat (bw := bw) (W := W) hK) ha hb hs).imp fun σ H Q ⟨Uo, m, env, st, S, q⟩ => by
    rw [ev] at q
    refine ⟨Uo, m, env, st, S, bindE closedE q fun v d o1 m1 env1 st1 H1 p1 S1 r1 q1 => ⟨Uo, m1, env1, st1, S1.base, bindE closedE q1 fun w e o2 m2 env2 st2 H2 p2 S2 r2 q2 => ?_⟩⟩
    exact ⟨σ, Uo, m2, env2, st2, d, e, S2.base, RepB.movE S1.base p2 (r1.toB S1), r2.toB S2, q2⟩

/-! ### and, or, not, if -/
theorem rd_not (ha : PE X ea (RdE F G call W true a)) : PE X (.UnaryOp .Not ea pos) (RdE F G call W bw (.not a)) := (pe_not ha).imp fun σ H Q ⟨Uo, m, env, st, S, q⟩ => by
  rw [ev] at q
  refine ⟨Uo, m, env, st, S, bindE closedE q fun v d o1 m1 env1 st1 H1 p1 S1 r1 q1 => ?_⟩
  cases d with
  | bl k =>
    obtain rfl := val_bl r1
    exact ⟨k, rfl, q1.here S1.base rfl⟩
  | _ => exact q1.elim
theorem rd_and {es : List Expr} (ha : PE X ea (RdE F G call W true a)) (hb : PE X (.BoolOp .And (eb :: es) pos) (RdE F G call W bw b)) : PE X (.BoolOp .And (ea :: eb :: es) pos) (RdE F G call W bw (.and a b)) := (pe_and ha hb).imp fun σ H Q ⟨Uo, m, env, st, S, q⟩ => by
  rw [ev] at q
  refine ⟨Uo, m, env, st, S, bindE closedE q fun v d o1 m1 env1 st1 H1 p1 S1 r1 q1 => ?_⟩
  cases d with
  | bl k =>
    obtain rfl := val_bl r1
    refine ⟨k, rfl, ?_⟩
    cases k with
    | true => rw [if_pos rfl]; exact ⟨Uo, m1, env1, st1, S1.base, q1⟩
    | false => rw [if_neg (by decide)]; exact q1.here S1.base rfl
  | _ => exact q1.elim
theorem rd_or {es : List Expr} (ha : PE X ea (RdE F G call W true a)) (hb : PE X (.BoolOp .Or (eb :: es) pos) (RdE F G call W bw b)) : PE X (.BoolOp .Or (ea :: eb :: es) pos) (RdE F G call W bw (.or a b)) := (pe_or ha hb).imp fun σ H Q ⟨Uo, m, env, st, S, q⟩ => by
  rw [ev] at q
  refine ⟨Uo, m, env, st, S, bindE closedE q fun v d o1 m1 env1 st1 H1 p1 S1 r1 q1 => ?_⟩
  cases d with
  | bl k =>
    obtain rfl := val_bl r1
    refine ⟨k, rfl, ?_⟩
    cases k with
    | true => rw [if_pos rfl]; exact q1.here S1.base rfl
    | false => rw [if_neg (by decide)]; exact ⟨Uo, m1, env1, st1, S1.base, q1⟩
  | _ => exact q1.elim
theorem rd_ite (hc : PT X ec (RdT F G call W c)) (ha : PE X ea (RdE F G call W bw a)) (hb : PE X eb (RdE F G call W bw b)) : PE X (.IfExp ec ea eb pos) (RdE F G call W bw (.ite c a b)) := (pe_ifExp hc ha hb).imp fun σ H Q ⟨Uo, m, env, st, S, q⟩ => by
  rw [ev] at q
  refine ⟨Uo, m, env, st, S, ?_⟩
  unfold truth
  revert q
  generalize ev G call true c env st = r
  intro q
  cases r with
  | no => exact q.elim
  | ex c x env' st' => exact q
  | ok p env' st' =>
    obtain ⟨d, o⟩ := p
    cases d with
    | bl k =>
      intro b' m1 H1 p1 S1 e1
      subst e1
      have q := closedE.step _ _ _ _ _ _ _ _ _ p1 q
      cases b' with
      | true => rw [if_pos rfl]; exact ⟨Uo, m1, env', st', S1, q⟩
      | false => rw [if_neg (by decide)]; exact ⟨Uo, m1, env', st', S1, q⟩
    | _ => exact q.elim

/-! ### tests -/
/-- a test by its value -/
theorem truth_val {σ : SL} {H : Hp} {Q : Bool → Hp → Prop} (h : RdT F G call W c σ H Q) : RdE F G call W true c σ H fun x H1 => ∃ k, x = .bl k ∧ Q k H1 := by
  obtain ⟨Uo, m, env, st, S, q⟩ := h
  refine ⟨Uo, m, env, st, S, bindE closedG q fun v d o1 m1 env1 st1 H1 p1 S1 r1 q1 => ?_⟩
  cases d with
  | bl k =>
    obtain rfl := val_bl r1
    exact ⟨k, rfl, q1 k m1 H1 Step.refl S1.base rfl⟩
  | _ => exact q1.elim
def plainTest : Expr → Bool
  | .UnaryOp .Not _ _ | .BoolOp .. | .IfExp .. | .Compare .. => false
  | _ => true
theorem rt_val {e : Expr} (h : PE X e (RdE F G call W true c)) (hp : plainTest e = true) : PT X e (RdT F G call W c) := by
  refine (pt_val h fun whole => ?_).imp fun σ H Q q => truth_val q
  cases e with
  | UnaryOp op x p =>
    cases op with
    | Not => exact absurd hp Bool.false_ne_true
    | _ => rfl
  | BoolOp _ _ _ => exact absurd hp Bool.false_ne_true
  | IfExp _ _ _ _ => exact absurd hp Bool.false_ne_true
  | Compare _ _ _ _ => exact absurd hp Bool.false_ne_true
  | _ => rfl
theorem rt_cmp (hK : X.K = F.K) (hu : X.A.units + 64 < cLine) (o : COp) (hm : behindInMarks o.op eb = false) (ha : PE X ea (RdE F G call W true a)) (hb : PE X eb (RdE F G call W true b)) : PT X (.Compare ea [o.op] [eb] pos) (RdT F G call W (.cmp o a b)) :=
  (pt_cmpR (op_cmp (bw := true) (W := W) hK hu o) ha hb hm).imp fun σ H Q h => by
    obtain ⟨Uo, m, env, st, S, q⟩ := truth_val h
    rw [ev] at q
    refine ⟨Uo, m, env, st, S, bindE closedE q fun v d o1 m1 env1 st1 H1 p1 S1 r1 q1 => ⟨Uo, m1, env1, st1, S1.base, bindE closedE q1 fun w e o2 m2 env2 st2 H2 p2 S2 r2 q2 => ?_⟩⟩
    exact ⟨σ, Uo, m2, env2, st2, d, e, S2.base, RepB.movE S1.base p2 (r1.toB S1), r2.toB S2, q2⟩
theorem rt_chn (hK : X.K = F.K) (hu : X.A.units + 64 < cLine) (o p : COp) (hm : lastMarks [o.op, p.op] [eb, ec] = false) (ha : PE X ea (RdE F G call W true a)) (hb : PE X eb (RdE F G call W true b)) (hc : PE X ec (RdE F G call W true c)) :
    PT X (.Compare ea [o.op, p.op] [eb, ec] pos) (RdT F G call W (.chn o p a b c)) :=
  (pt_chain (op_cmp (bw := true) (W := W) hK hu o) (op_cmp (bw := true) (W := W) hK hu p) ha hb hc hm).imp fun σ H Q h => chn_dat rfl (truth_val h)
theorem rt_not (ha : PT X ea (RdT F G call W a)) : PT X (.UnaryOp .Not ea pos) (RdT F G call W (.not a)) := (pt_not ha).imp fun σ H Q h => by
  obtain ⟨Uo, m, env, st, S, q⟩ := truth_val h
  rw [ev] at q
  refine ⟨Uo, m, env, st, S, ?_⟩
  unfold truth
  revert q
  generalize ev G call true a env st = r
  intro q
  cases r with
  | no => exact q.elim
  | ex c x env' st' => exact q
  | ok p env' st' =>
    obtain ⟨d, o⟩ := p
    cases d with
    | bl k =>
      intro b' m1 H1 p1 S1 e1
      subst e1
      have q : PostE F Uo env σ m st.length H W true _ (.ok (.bl (!_), false) env' st') := q
      obtain ⟨k', e, q⟩ := (closedE.step _ _ _ _ _ _ _ _ _ p1 q).here S1 (d := .bl (!_)) rfl
      cases e
      exact q
    | _ => exact q.elim
theorem rt_two {es : List Expr} {k0 : Bool} {f : C} (hf : ∀ env st, ev G call true f env st = (ev G call true a env st).bind fun x env st => match x.1 with
      | .bl k => if k = k0 then ev G call true b env st else .ok (.bl k, false) env st
      | _ => .no) {σ : SL} {H : Hp} {Q : Bool → Hp → Prop} (h : RdT F G call W f σ H Q) : RdT F G call W a σ H fun k H1 => if k = k0 then RdT F G call W b σ H1 Q else Q k H1 := by
  obtain ⟨Uo, m, env, st, S, q⟩ := h
  refine ⟨Uo, m, env, st, S, ?_⟩
  unfold truth at q ⊢
  rw [hf] at q
  revert q
  generalize ev G call true a env st = r
  intro q
  cases r with
  | no => exact q.elim
  | ex c x env' st' => exact q
  | ok p env' st' =>
    obtain ⟨d, o⟩ := p
    cases d with
    | bl k =>
      intro b' m1 H1 p1 S1 e1
      subst e1
      by_cases hk : b' = k0
      · rw [if_pos hk]
        refine ⟨Uo, m1, env', st', S1, ?_⟩
        have q : PostG F Uo env σ m st.length H W Eq Q ((if b' = k0 then ev G call true b env' st' else .ok (.bl b', false) env' st').bind fun p env st => lift (dbl p.1) env st) := q
        rw [if_pos hk] at q
        exact closedG.step _ _ _ _ _ _ _ _ _ p1 q
      · rw [if_neg hk]
        have q : PostG F Uo env σ m st.length H W Eq Q ((if b' = k0 then ev G call true b env' st' else .ok (.bl b', false) env' st').bind fun p env st => lift (dbl p.1) env st) := q
        rw [if_neg hk] at q
        exact q b' m1 H1 p1 S1 rfl
    | _ => exact q.elim
theorem ev_and_if {env : Env} {st : Sto} : ev G call true (.and a b) env st = (ev G call true a env st).bind fun x env st => match x.1 with
      | .bl k => if k = true then ev G call true b env st else .ok (.bl k, false) env st
      | _ => .no := by
  rw [ev]
  congr 1
  funext x env st
  obtain ⟨d, o⟩ := x
  cases d with
  | bl k => cases k <;> rfl
  | _ => rfl
theorem ev_or_if {env : Env} {st : Sto} : ev G call true (.or a b) env st = (ev G call true a env st).bind fun x env st => match x.1 with
      | .bl k => if k = false then ev G call true b env st else .ok (.bl k, false) env st
      | _ => .no := by
  rw [ev]
  congr 1
  funext x env st
  obtain ⟨d, o⟩ := x
  cases d with
  | bl k => cases k <;> rfl
  | _ => rfl
theorem rw_and {es : List Expr} (ha : PT X ea (RdT F G call W a)) (hb : PW X (.BoolOp .And (eb :: es) pos) (RdT F G call W b)) : PW X (.BoolOp .And (ea :: eb :: es) pos) (RdT F G call W (.and a b)) := (pw_and ha hb).imp fun σ H Q h => by
  obtain ⟨Uo, m, env, st, S, q⟩ := rt_two (es := es) (k0 := true) (fun _ _ => ev_and_if) h
  refine ⟨Uo, m, env, st, S, ?_⟩
  revert q
  generalize truth (ev G call true a env st) = r
  intro q
  cases r with
  | no => exact q
  | ex c x env' st' => exact q
  | ok p env' st' =>
    intro k m1 H1 p1 S1 e1
    have z := q k m1 H1 p1 S1 e1
    cases k with
    | true => rw [if_pos rfl] at z ⊢; exact z
    | false => rw [if_neg (by decide)] at z ⊢; exact z
theorem rw_or {es : List Expr} (ha : PT X ea (RdT F G call W a)) (hb : PW X (.BoolOp .Or (eb :: es) pos) (RdT F G call W b)) : PW X (.BoolOp .Or (ea :: eb :: es) pos) (RdT F G call W (.or a b)) := (pw_or ha hb).imp fun σ H Q h => by
  obtain ⟨Uo, m, env, st, S, q⟩ := rt_two (es := es) (k0 := false) (fun _ _ => ev_or_if) h
  refine ⟨Uo, m, env, st, S, ?_⟩
  revert q
  generalize truth (ev G call true a env st) = r
  intro q
  cases r with
  | no => exact q
  | ex c x env' st' => exact q
  | ok p env' st' =>
    intro k m1 H1 p1 S1 e1
    have z := q k m1 H1 p1 S1 e1
    cases k with
    | true => rw [if_pos rfl]; rw [if_neg (by decide)] at z; exact z
    | false => rw [if_neg (by decide)]; rw [if_pos rfl] at z; exact z
end
end
end Pi

/-! PiS: set(a tuple of tuples of ints). -/
namespace L2
open PySem PySem.Spec
open PyProof.Rows
abbrev new0 (w : World) : Obj := { cls := .type "set", dict := none, data := .set #[] 0 (.fresh 0 0 (!w.params.followText "set-order")) }
section
variable {P : Program} {w : World} {A : Around} {E : Value → Shared → Prop} {s : Shared}
set_option maxRecDepth 100000 in
set_option maxHeartbeats 3200000 in
theorem pi_set_tup {tp : Addr} {row : Array Value} (qs : List (Addr × List Int)) {Q : Value → Shared → Prop} (calm : A.handled = none) (ht : s.heap.IsTuple tp row) (same : row.toList = qs.map fun p => Value.ref p.1)
    (each : ∀ p ∈ qs, IsT P w s.heap p.2 p.1) (few : qs.length < 64) (un : A.units + 3 < cLine)
    (fin : ∀ (g : Heap) (tk : Nat) L es ep t, SetTR P w g s.heap.objs.size L es ep t → Got qs qs.length L → (∀ b o, s.heap.get? b = some o → g.get? b = some o) → Q (.ref s.heap.objs.size) { s with heap := g, toks := tk }) :
    wpAny (model P w) A (call (.type "set") [.ref tp]) Q E s := by
  have count : row.size = qs.length := by simpa using congrArg List.length same
  obtain ⟨_, _, mro⟩ := F.called_set.mro
  have made := F.called_set.made
  have subt := F.called_set.sub
  refine wpAny_call (codeAny_of_tree ?_)
  show wpAny _ _ (callAny (.type "set") _) _ _ _
  refine wpAny_pure ⟨Code.quiet_builtin _ (by decide +kernel), codeAny_builtin F.entry_type_call ?_⟩
  rw [Around.under_plain (weight_type_call_type "set" [.ref tp] []) rfl]
  have nt := F.called_set.notType
  have cc := F.called_set.canCreate
  have tc := F.typeCall_set_1 (.ref tp)
  repeat (any_goals (first | assumption | wp_step))
  refine codeAny_mono (code_set_led1 (.ref tp) (E := E) (Q₁ := fun v z => v = .ref s.heap.objs.size ∧ z = { s with heap := s.heap.push (new0 w) }) ⟨rfl, rfl⟩) fun r z hr => ?_
  rcases r with e | fl
  · exact hr
  cases fl with
  | next => exact hr.elim
  | brk => exact hr.elim
  | cont => exact hr.elim
  | ret v =>
  obtain ⟨rfl, rfl⟩ := hr
  have at0 : (s.heap.push (new0 w)).get? s.heap.objs.size = some (new0 w) := Heap.get?_push_size _ rfl
  have ty0 : Shared.TypeIs { s with heap := s.heap.push (new0 w) } (.ref s.heap.objs.size) "set" := ⟨_, at0, rfl⟩
  have li := F.called_set.init.lookup
  have bi := F.called_set.init.bind (.ref s.heap.objs.size)
  repeat (any_goals (first | assumption | wp_step))
  refine codeAny_mono (codeAny_call_builtin (R := wants (fun r z => r = .none ∧ ∃ g tk L es ep t, z = { s with heap := g, toks := tk } ∧ SetTR P w g s.heap.objs.size L es ep t ∧ Got qs qs.length L ∧
      (∀ b o, s.heap.get? b = some o → g.get? b = some o)) E) F.called_set.init.plain F.entry_set_init (check_set_init_1 ty0 ?_)) fun r z hr => ?_
  · have ht1 : (s.heap.push (new0 w)).IsTuple tp row := ht.push _
    obtain ⟨⟨oc, od, ox, os⟩, ho, hc, n, hd⟩ := ht
    simp only at hc hd
    subst hc; subst hd
    have ho1 : (s.heap.push (new0 w)).get? tp = some { cls := .type "tuple", dict := od, data := .seq row n, slots := os } := Heap.get?_push_of_some _ ho
    have no1 := F.sub_tuple_set
    have no2 := F.sub_tuple_frozenset
    have no3 : (Value.type "tuple" == Value.type "dict") = false := by decide
    unfold Builtin.«set.__init__» noKeywords Builtin.Frozenset.updateFrom
    generalize hPI : pyIter = PI
    wp_walk
    subst hPI
    refine wpAny_pyIter_tuple ht1 ?_
    refine wpAny_bind (wpAny_runValue ?_)
    have lt0 : tp < s.heap.objs.size := Heap.lt_size ho
    have calm3 : A.in1.in1.in1.handled = none := by simp [calm]
    have apart : tp ≠ (s.heap.push (new0 w)).objs.size := by rw [Heap.size_push]; exact Nat.ne_of_lt (Nat.lt_succ_of_lt lt0)
    have off : s.heap.objs.size ∉ [(s.heap.push (new0 w)).objs.size, tp] := by
      rw [Heap.size_push]
      simp only [List.mem_cons, List.mem_singleton, List.not_mem_nil, or_false, not_or]
      exact ⟨Nat.ne_of_lt (Nat.lt_succ_self _), Nat.ne_of_gt lt0⟩
    have what : ∀ (i : Nat) (v : Value), row[i]? = some v → ∃ p, qs[i]? = some p ∧ v = .ref p.1 := fun i v hv => by
      have q : row.toList[i]? = some v := by rw [Array.getElem?_toList]; exact hv
      rw [same, List.getElem?_map] at q
      cases z : qs[i]? with
      | none => rw [z] at q; cases q
      | some p => rw [z] at q; exact ⟨p, rfl, (Option.some.inj q).symm⟩
    have above : ∀ b, s.heap.objs.size ≤ b → s.heap.get? b = none := fun b hb => by
      cases q : s.heap.get? b with
      | none => rfl
      | some o => exact absurd (Nat.lt_of_lt_of_le (Heap.lt_size q) hb) (Nat.lt_irrefl _)
    refine set_update_tups ((Walks.tuple calm3 _ tp apart row).toS) s.heap.objs.size off qs count few what s.heap each (above _ (Nat.le_refl _))
      (fun b hb => above b (by rw [List.mem_singleton.mp hb, Heap.size_push]; exact Nat.le_succ _)) un (row.size - 0) 0 _ (by omega) (Nat.zero_le _)
      ⟨⟨_, Heap.get?_push_size _ rfl, rfl, rfl⟩, ht1.push _⟩ (fun b o e => Heap.get?_push_of_some _ (Heap.get?_push_of_some _ e)) ⟨[], #[], 0, _, setTR_fresh (Heap.get?_push_of_some _ at0), Got.zero qs⟩ ?_
    intro z L es ep t hm R got kp
    obtain ⟨g, g2, d2, tk, os2⟩ := z
    obtain rfl : g2 = s.gens := hm.gens
    obtain rfl : d2 = s.drawn := hm.drawn
    obtain rfl : os2 = s.os := hm.os
    show wpAny _ _ _ _ _ _
    refine wpAny_pure ?_
    show wpAny _ _ (ret Value.none) _ _ _
    rw [count] at got
    exact wpAny_pure ⟨rfl, g, tk, L, es, ep, t, rfl, R, got, kp⟩
  · rcases r with e | fl
    · exact hr
    cases fl with
    | next => exact hr.elim
    | brk => exact hr.elim
    | cont => exact hr.elim
    | ret v =>
    obtain ⟨rfl, g, tk, L, es, ep, t, rfl, R, got, kp⟩ := hr
    repeat (any_goals (first | assumption | wp_step))
    exact fin _ _ _ _ _ _ R got kp
end
section
variable {X : Cx}
/-- set(xs), xs a list or a tuple of tuples of ints -/
def rSetOfU (K : PySem.W.Frag) (P : Program) (w : World) : List V → Hp → VK → Prop := fun xs H Q => ∃ (l : Addr) (ks : List (Addr × List Int)), xs = [V.ref l] ∧ (SqL K H l (ks.map fun p => V.ref p.1) ∨ SqT K H l (ks.map fun p => V.ref p.1)) ∧ (∀ p ∈ ks, SqT K H p.1 (p.2.map V.int)) ∧ ks.length < 64 ∧
  ∀ a L, H a = none → (∀ p ∈ L, p ∈ ks) → (∀ p ∈ ks, p.2 ∈ L.map (·.2)) → Q (.ref a) (upd H a (SetTO P w a L))
theorem cr_setOfU (hc : X.calm = true) (hu : X.A.units + 64 < cLine) : CallR X (.type "set") (rSetOfU X.K X.prog X.w) := by
  intro pins s σ H xs us Q I r h
  obtain ⟨l, ks, rfl, hl | hl, hk, hf, q⟩ := h
  · exact cr_setOfT hc hu pins s σ H _ us Q I r ⟨l, ks, rfl, hl, hk, hf, q⟩
  · rw [Vals.ref1 r]
    obtain ⟨its, rv, pl, hz⟩ := I.tuple hl
    have hn : H s.heap.objs.size = none := I.hok.fresh (Nat.le_refl _)
    refine pi_set_tup (P := X.prog) (w := X.w) ks (I.ok.hd hc) (show s.heap.IsTuple l its.toArray from pl) (by simpa using refs_of_vals rv) (fun p hp => I.isT (hk p hp)) hf (by omega) fun g tk L es ep t R got k => ?_
    exact ⟨.ref s.heap.objs.size, _, I.laid (t' := tk) k (Nat.le_refl _) (setTO_new R.t0), rfl, q _ L hn (fun p hp => List.mem_of_mem_take (got.sub p hp)) fun p hp => got.all p (by rw [List.take_length]; exact hp)⟩
end
end L2

set_option maxRecDepth 100000
set_option maxHeartbeats 1000000
/-! PiI: sorted(set(..)); argument lists; displays; slices; calls of what is built in. -/
namespace Pi
open PySem PySem.Spec L2

/-! ### sorted(set(xs)), xs pairs of small numbers -/
def pairD (l : List Int) : D := .tup (l.map .int)
def keyD : D → Int
  | .tup [.int i, .int j] => i * 64 + j
  | _ => 0
theorem flat_pair {d : D} (h : flatInts d = true) : ∃ i j : Int, d = pairD [i, j] ∧ 0 ≤ i ∧ i < 64 ∧ 0 ≤ j ∧ j < 64 := by
  unfold flatInts at h
  split at h
  · rename_i i j
    simp only [Bool.and_eq_true, decide_eq_true_eq] at h
    exact ⟨i, j, rfl, h.1.1, h.1.2, h.2.1, h.2.2⟩
  · cases h
theorem keyD_inj {a b : D} (ha : flatInts a = true) (hb : flatInts b = true) (h : keyD a = keyD b) : a = b := by
  obtain ⟨i, j, rfl, h1, h2, h3, h4⟩ := flat_pair ha
  obtain ⟨k, l, rfl, h5, h6, h7, h8⟩ := flat_pair hb
  have h : i * 64 + j = k * 64 + l := h
  have e1 : i = k := by omega
  have e2 : j = l := by omega
  rw [e1, e2]
theorem deq_flat {a b : D} (ha : flatInts a = true) (hb : flatInts b = true) : deq a b = true ↔ a = b := by
  obtain ⟨i, j, rfl, h1, h2, h3, h4⟩ := flat_pair ha
  obtain ⟨k, l, rfl, h5, h6, h7, h8⟩ := flat_pair hb
  show ((i == k) && ((j == l) && true)) = true ↔ _
  by_cases e1 : i = k <;> by_cases e2 : j = l <;> simp [e1, e2, pairD]
theorem dlt_flat {a b : D} (ha : flatInts a = true) (hb : flatInts b = true) : dlt a b = decide (keyD a < keyD b) := by
  obtain ⟨i, j, rfl, h1, h2, h3, h4⟩ := flat_pair ha
  obtain ⟨k, l, rfl, h5, h6, h7, h8⟩ := flat_pair hb
  show (if (i == k) then (if (j == l) then false else decide (j < l)) else decide (i < k)) = decide (i * 64 + j < k * 64 + l)
  by_cases e1 : i = k
  · subst e1
    rw [if_pos (by simp)]
    by_cases e2 : j = l
    · subst e2; simp
    · rw [if_neg (by simpa using e2)]
      congr 1
      exact propext ⟨fun _ => by omega, fun _ => by omega⟩
  · rw [if_neg (by simpa using e1)]
    congr 1
    exact propext ⟨fun _ => by omega, fun _ => by omega⟩
abbrev Asc (xs : List D) : Prop := xs.Pairwise fun a b => keyD a < keyD b
theorem mem_insB {x y : D} : ∀ {xs : List D}, y ∈ insB x xs ↔ y = x ∨ y ∈ xs
  | [] => by simp [insB]
  | z :: zs => by
    unfold insB
    split
    · rw [List.mem_cons, mem_insB, List.mem_cons]
      constructor
      · rintro (h | h | h)
        · exact .inr (.inl h)
        · exact .inl h
        · exact .inr (.inr h)
      · rintro (h | h | h)
        · exact .inr (.inl h)
        · exact .inl h
        · exact .inr (.inr h)
    · rw [List.mem_cons]
theorem mem_isort {y : D} : ∀ {xs : List D}, y ∈ isort xs ↔ y ∈ xs
  | [] => by simp [isort]
  | x :: xs => by
    unfold isort
    rw [mem_insB, mem_isort, List.mem_cons]
theorem insB_asc {x : D} (hx : flatInts x = true) : ∀ {xs : List D}, (∀ y ∈ xs, flatInts y = true) → x ∉ xs → Asc xs → Asc (insB x xs)
  | [], _, _, _ => List.pairwise_singleton _ _
  | y :: ys, hf, hn, ha => by
    have hy := hf y List.mem_cons_self
    have ha := List.pairwise_cons.mp ha
    unfold insB
    rw [dlt_flat hy hx]
    split
    · rename_i h
      have h := of_decide_eq_true h
      refine List.pairwise_cons.mpr ?_
      refine ⟨fun z hz => ?_, insB_asc hx (fun z hz => hf z (List.mem_cons_of_mem _ hz)) (fun z => hn (List.mem_cons_of_mem _ z)) ha.2⟩
      rcases mem_insB.mp hz with rfl | hz
      · exact h
      · exact ha.1 z hz
    · rename_i h
      have h : ¬ keyD y < keyD x := fun z => h (decide_eq_true z)
      have hne : keyD x ≠ keyD y := fun e => hn (by rw [keyD_inj hx hy e]; exact List.mem_cons_self)
      refine List.pairwise_cons.mpr ⟨fun z hz => ?_, List.pairwise_cons.mpr ha⟩
      rcases List.mem_cons.mp hz with rfl | hz
      · omega
      · have := ha.1 z hz; omega
theorem isort_asc : ∀ {xs : List D}, (∀ y ∈ xs, flatInts y = true) → xs.Nodup → Asc (isort xs)
  | [], _, _ => List.Pairwise.nil
  | x :: xs, hf, hn => by
    rw [List.nodup_cons] at hn
    have hf' : ∀ y ∈ xs, flatInts y = true := fun y hy => hf y (List.mem_cons_of_mem _ hy)
    unfold isort
    exact insB_asc (hf x List.mem_cons_self) (fun y hy => hf' y (mem_isort.mp hy)) (fun z => hn.1 (mem_isort.mp z)) (isort_asc hf' hn.2)
theorem dmem_flat {x : D} (hx : flatInts x = true) : ∀ {ys : List D}, (∀ y ∈ ys, flatInts y = true) → (dmem x ys = true ↔ x ∈ ys)
  | [], _ => by simp [dmem]
  | y :: ys, h => by
    unfold dmem
    rw [Bool.or_eq_true, deq_flat (h y List.mem_cons_self) hx, dmem_flat hx fun z hz => h z (List.mem_cons_of_mem _ hz), List.mem_cons]
    exact ⟨fun z => z.imp Eq.symm id, fun z => z.imp Eq.symm id⟩
theorem dedup_spec : ∀ {xs seen : List D}, (∀ y ∈ xs, flatInts y = true) → (∀ y ∈ seen, flatInts y = true) → (dedup seen xs).Nodup ∧ ∀ y, y ∈ dedup seen xs ↔ y ∈ xs ∧ y ∉ seen
  | [], seen, _, _ => by simp [dedup]
  | x :: xs, seen, h1, h2 => by
    have hx := h1 x List.mem_cons_self
    have h1' : ∀ y ∈ xs, flatInts y = true := fun y hy => h1 y (List.mem_cons_of_mem _ hy)
    unfold dedup
    split
    · rename_i hm
      have hm := (dmem_flat hx h2).mp hm
      obtain ⟨q1, q2⟩ := dedup_spec (seen := seen) h1' h2
      refine ⟨q1, fun y => ?_⟩
      rw [q2, List.mem_cons]
      exact ⟨fun z => ⟨.inr z.1, z.2⟩, fun z => ⟨z.1.resolve_left fun e => z.2 (by rw [e]; exact hm), z.2⟩⟩
    · rename_i hm
      have hm : x ∉ seen := fun z => hm ((dmem_flat hx h2).mpr z)
      have h2' : ∀ y ∈ x :: seen, flatInts y = true := fun y hy => by
        rcases List.mem_cons.mp hy with rfl | hy
        · exact hx
        · exact h2 y hy
      obtain ⟨q1, q2⟩ := dedup_spec (seen := x :: seen) h1' h2'
      refine ⟨List.nodup_cons.mpr ⟨fun z => ((q2 x).mp z).2 List.mem_cons_self, q1⟩, fun y => ?_⟩
      rw [List.mem_cons, q2, List.mem_cons, List.mem_cons, not_or]
      by_cases e : y = x
      · subst e; simp [hm]
      · simp [e]
theorem asc_same : ∀ {xs ys : List D}, Asc xs → Asc ys → (∀ y, y ∈ xs ↔ y ∈ ys) → xs = ys
  | [], [], _, _, _ => rfl
  | [], y :: ys, _, _, h => absurd ((h y).mpr List.mem_cons_self) (by simp)
  | x :: xs, [], _, _, h => absurd ((h x).mp List.mem_cons_self) (by simp)
  | x :: xs, y :: ys, h1, h2, h => by
    have h1 := List.pairwise_cons.mp h1
    have h2 := List.pairwise_cons.mp h2
    have e : x = y := by
      rcases List.mem_cons.mp ((h x).mp List.mem_cons_self) with e | z
      · exact e
      · rcases List.mem_cons.mp ((h y).mpr List.mem_cons_self) with e' | z'
        · exact e'.symm
        · have a1 := h2.1 x z
          have a2 := h1.1 y z'
          omega
    subst e
    have hn : ∀ {zs : List D}, (∀ a ∈ zs, keyD x < keyD a) → x ∉ zs := fun q z => by have := q x z; omega
    rw [asc_same h1.2 h2.2 fun z => ⟨fun hz => by
        rcases List.mem_cons.mp ((h z).mp (List.mem_cons_of_mem _ hz)) with e | z'
        · rw [e] at hz; exact absurd hz (hn h1.1)
        · exact z', fun hz => by
        rcases List.mem_cons.mp ((h z).mpr (List.mem_cons_of_mem _ hz)) with e | z'
        · rw [e] at hz; exact absurd hz (hn h2.1)
        · exact z'⟩]

section
variable {F : Fx} {Mu : Addr → Prop} {m : Nat → Addr} {n : Nat} {H : Hp}
theorem reps_ints : ∀ {l : List Int} {vs : List V}, Reps F Mu m n H vs (l.map .int) → vs = l.map V.int
  | [], [], _ => rfl
  | i :: l, v :: vs, h => by
    obtain rfl : v = .int i := h.1
    rw [reps_ints h.2]; rfl
  | [], _ :: _, h => h.elim
  | _ :: _, [], h => h.elim
theorem ints_reps : ∀ (l : List Int), Reps F Mu m n H (l.map V.int) (l.map .int)
  | [] => trivial
  | i :: l => ⟨rfl, ints_reps l⟩
/-- pairs as the set's rules take them -/
theorem pairs_of : ∀ {xs : List D} {vs : List V}, xs.all flatInts = true → Reps F Mu m n H vs xs → ∃ ks : List (Addr × List Int), vs = ks.map (fun p => V.ref p.1) ∧ xs = ks.map (fun p => pairD p.2) ∧ ∀ p ∈ ks, SqT F.K H p.1 (p.2.map V.int) ∧ ∃ i j : Int, p.2 = [i, j] ∧ 0 ≤ i ∧ i < 64 ∧ 0 ≤ j ∧ j < 64
  | [], [], _, _ => ⟨[], rfl, rfl, fun _ h => by cases h⟩
  | x :: xs, v :: vs, hf, h => by
    rw [List.all_cons, Bool.and_eq_true] at hf
    obtain ⟨ks, rfl, rfl, hk⟩ := pairs_of hf.2 h.2
    obtain ⟨i, j, rfl, h1, h2, h3, h4⟩ := flat_pair hf.1
    obtain ⟨a, ws, rfl, hq, hr⟩ := h.1
    refine ⟨(a, [i, j]) :: ks, rfl, rfl, fun p hp => ?_⟩
    rcases List.mem_cons.mp hp with rfl | hp
    · refine ⟨?_, i, j, rfl, h1, h2, h3, h4⟩
      rw [← reps_ints hr]; exact hq
    · exact hk p hp
  | [], _ :: _, _, h => h.elim
  | _ :: _, [], _, h => h.elim
theorem reps_pairs : ∀ {ks : List (Addr × List Int)}, (∀ p ∈ ks, SqT F.K H p.1 (p.2.map V.int)) → Reps F Mu m n H (ks.map fun p => V.ref p.1) (ks.map fun p => pairD p.2)
  | [], _ => trivial
  | p :: ks, h => ⟨⟨p.1, _, rfl, h p List.mem_cons_self, ints_reps _⟩, reps_pairs fun q hq => h q (List.mem_cons_of_mem _ hq)⟩
end
theorem pairD_inj {a b : List Int} (h : pairD a = pairD b) : a = b := by
  have h : a.map D.int = b.map D.int := by injection h
  exact List.map_inj_right (fun _ _ e => by injection e) |>.mp h
/-- what sorted(set(..)) leaves -/
theorem set_sorted {ks L L' : List (Addr × List Int)} (hk : ∀ p ∈ ks, ∃ i j : Int, p.2 = [i, j] ∧ 0 ≤ i ∧ i < 64 ∧ 0 ≤ j ∧ j < 64) (h1 : ∀ p ∈ L, p ∈ ks) (h2 : ∀ p ∈ ks, p.2 ∈ L.map (·.2)) (pm : L'.Perm L) (nd : (L'.map (·.2)).Nodup)
    (pw : L'.Pairwise (fun q r => TS.code 64 q.2 ≤ TS.code 64 r.2)) : L'.map (fun p => pairD p.2) = isort (dedup [] (ks.map fun p => pairD p.2)) := by
  have hf : ∀ y ∈ ks.map (fun p => pairD p.2), flatInts y = true := fun y hy => by
    obtain ⟨p, hp, rfl⟩ := List.mem_map.mp hy
    obtain ⟨i, j, e, q1, q2, q3, q4⟩ := hk p hp
    rw [e]
    show (decide (0 ≤ i) && decide (i < 64) && (decide (0 ≤ j) && decide (j < 64))) = true
    simp [q1, q2, q3, q4]
  have hk' : ∀ p ∈ L', ∃ i j : Int, p.2 = [i, j] ∧ 0 ≤ i ∧ i < 64 ∧ 0 ≤ j ∧ j < 64 := fun p hp => hk p (h1 p (pm.mem_iff.mp hp))
  obtain ⟨d1, d2⟩ := dedup_spec (seen := []) hf (fun _ h => by cases h)
  refine asc_same ?_ (isort_asc (fun y hy => hf y ((d2 y).mp hy).1) d1) fun y => ?_
  · refine List.pairwise_map.mpr ?_
    have ne : L'.Pairwise fun q r => q.2 ≠ r.2 := List.pairwise_map.mp nd
    refine List.Pairwise.imp_of_mem ?_ (pw.and ne)
    intro q r hq hr ⟨hle, hne⟩
    obtain ⟨i, j, e, q1, q2, q3, q4⟩ := hk' q hq
    obtain ⟨k, l, e', q5, q6, q7, q8⟩ := hk' r hr
    rw [e, e'] at hle hne ⊢
    have := pair_lt hle hne ⟨q1, q2⟩ ⟨q3, q4⟩ ⟨q5, q6⟩ ⟨q7, q8⟩
    show i * 64 + j < k * 64 + l
    omega
  · rw [mem_isort, d2]
    constructor
    · intro h
      obtain ⟨p, hp, rfl⟩ := List.mem_map.mp h
      exact ⟨List.mem_map.mpr ⟨p, h1 p (pm.mem_iff.mp hp), rfl⟩, by simp⟩
    · rintro ⟨h, _⟩
      obtain ⟨p, hp, rfl⟩ := List.mem_map.mp h
      obtain ⟨q, hq, e⟩ := List.mem_map.mp (h2 p hp)
      exact List.mem_map.mpr ⟨q, pm.mem_iff.mpr hq, by rw [e]⟩

section
variable {X : Cx} {F : Fx} {G : Gl} {call : Nat → List D → Sto → RC} {W : WX} {bw : Bool} {pos : Pos}
theorem evs_one {a : C} {env : Env} {st : Sto} : evs G call bw [a] env st = (ev G call bw a env st).bind fun x env st => .ok [x.1] env st := by
  rw [evs]
  congr 1
theorem bind_bind {α β γ : Type} (r : R α) (f : α → Env → Sto → R β) (g : β → Env → Sto → R γ) : (r.bind f).bind g = r.bind fun a env st => (f a env st).bind g := by
  cases r <;> rfl
theorem rd_sortset {a : C} {ea : Expr} {p1 p2 q1 q2 : Pos} (hK : X.K = F.K) (hu : X.A.units + 64 < cLine) (hc : X.calm = true) (g1 : L2.Gl X "sorted") (m1 : X.mg "sorted" = none) (g2 : L2.Gl X "set") (m2 : X.mg "set" = none) (hs : ∀ env, starEach [ea] env = (false, eval ea env) :: starEach [] env) (ha : PE X ea (RdE F G call W true a)) :
    PE X (.Call (.Name "sorted" p1) [.Call (.Name "set" p2) [ea] [] q2] [] q1) (RdE F G call W bw (.bi .sortset [a])) := by
  have e1 : PE X (.Call (.Name "set" p2) [ea] [] q2) (tCB (rSetOfU X.K X.prog X.w) (tCons (RdE F G call W true a) tNil)) := pe_callTy (cr_setOfU hc hu) g2 m2 PyProof.Rows.boot_set (pa_cons ha pa_nil (hs _)) (he := hs _)
  refine (pe_callB (cr_sortedT hc) g1 m1 PyProof.Rows.boot_sorted (pa_cons e1 pa_nil)).imp fun σ H Q ⟨Uo, m, env, st, S, q⟩ => ?_
  rw [ev, evs_one, bind_bind] at q
  refine ⟨Uo, m, env, st, S, bindE closedE q fun v d o1 m1 env1 st1 H1 p1 S1 r1 q1 => ?_⟩
  have rb := r1.toB S1
  have key : ∀ (a : Addr) (vs : List V) (xs : List D), v = .ref a → (Rd H1 a (.lst vs) ∨ SqT F.K H1 a vs) → Reps F (MuOf Uo env1 σ m1 st1.length) m1 st1.length H1 vs xs → PostE F Uo env1 σ m1 st1.length H1 W bw Q (lift (sortSetD xs) env1 st1) →
      rSetOfU X.K X.prog X.w [v] H1 fun x H2 => rSortedT X.K X.prog X.w [x] H2 Q := by
    intro a vs xs ea hq hr q1
    subst ea
    unfold sortSetD at q1
    split at q1
    · rename_i hb
      rw [Bool.and_eq_true, decide_eq_true_eq] at hb
      obtain ⟨ks, rfl, rfl, hk⟩ := pairs_of hb.1 hr
      refine ⟨a, ks, rfl, ?_, fun p hp => by rw [hK]; exact (hk p hp).1, by simpa using hb.2, fun b L hb0 l1 l2 => ?_⟩
      · rcases hq with hq | hq
        · exact .inl (.inl hq)
        · exact .inr (by rw [hK]; exact hq)
      have kp : ∀ p ∈ L, SqT F.K (upd H1 b (SetTO X.prog X.w b L)) p.1 (p.2.map V.int) := fun p hp => SqT.mov (fun c o e _ => upd_keep hb0 c o e) (hk p (l1 p hp)).1
      refine ⟨b, L, 2, 64, rfl, upd_same, fun p hp => by rw [hK]; exact kp p hp, by decide, fun p hp => ?_, fun L' p pm nd few pw hp0 => ?_⟩
      · obtain ⟨_, i, j, e, z1, z2, z3, z4⟩ := hk p (l1 p hp)
        rw [e]
        refine ⟨rfl, fun z hz => ?_⟩
        rcases List.mem_cons.mp hz with rfl | hz
        · exact ⟨z1, z2⟩
        · rcases List.mem_cons.mp hz with rfl | hz
          · exact ⟨z3, z4⟩
          · cases hz
      · have es := set_sorted (fun p hp => (hk p hp).2) l1 l2 pm nd pw
        have q1 : PostE F Uo env1 σ m1 st1.length H1 W bw Q (.ok (.lst (isort (dedup [] (ks.map fun p => pairD p.2))), true) env1 st1) := q1
        rw [← es] at q1
        exact (closedE.step _ _ _ _ _ _ _ _ _ (Step.fresh hb0) q1).newL (S1.base.fresh hb0) hp0 (reps_pairs fun p hp => kp p (pm.mem_iff.mp hp))
    · exact q1.elim
  show rSetOfU X.K X.prog X.w [v] H1 fun x H2 => rSortedT X.K X.prog X.w [x] H2 Q
  cases d with
  | lst xs =>
    obtain ⟨b, vs, rfl, hq, _, hr⟩ := rb
    exact key b vs xs rfl (.inl hq) hr q1
  | tup xs =>
    obtain ⟨b, vs, rfl, hq, hr⟩ := rb
    exact key b vs xs rfl (.inr hq) hr q1
  | _ => exact q1.elim
end
end Pi

set_option maxRecDepth 100000
set_option maxHeartbeats 1000000
/-! PiJ: what is walked. -/
namespace PySem
theorem pi_meets_enum {v : Value} {o : Obj} {H : Heap → Prop} (B : Begins v o H) :
    Meets (Builtin.«enumerate.__new__» ⟨[.type "enumerate", v], []⟩) (fun _ R s => H s.heap ∧
      R (.ok (.ret (.ref (s.heap.push o).objs.size))) { s with heap := (s.heap.push o).push { cls := .type "enumerate", data := .fields #[.none, .bool false, .ref s.heap.objs.size, rawInt 0, .none, .none] } }) :=
  .of_wp fun prog w A R s h => by
    obtain ⟨hp, g, d, tk, os⟩ := s
    obtain ⟨h1, h⟩ := h
    have hsub := sub_enumerate
    have q1 : ∀ {A' : Around} {E : Value → Shared → Prop} {Q : Value → Shared → Prop}, Q (.ref hp.objs.size) ⟨hp.push o, g, d, tk, os⟩ → wpAny (model prog w) A' (pyIter v) Q E ⟨hp, g, d, tk, os⟩ :=
      fun q => B.iter prog w _ _ ⟨hp, g, d, tk, os⟩ _ h1 q
    wp_walk using q1
    refine wpAny_stack_any fun st => wpAny_pure ?_
    split
    · rename_i c _ _ _ _ _
      cases (c == Value.type "enumerate")
      · wp_walk using q1
        exact ⟨_, rfl, h⟩
      · wp_walk using q1
        exact ⟨_, rfl, h⟩
    · wp_walk using q1
      exact ⟨_, rfl, h⟩
theorem pi_call_enum {prog : Program} {w : World} {A : Around} {E : Value → Shared → Prop} {s : Shared} {v : Value} {o : Obj} {H : Heap → Prop} {Q : Value → Shared → Prop} (B : Begins v o H) (h1 : H s.heap)
    (h : ∀ h', IsEnum h' (s.heap.objs.size + 1) s.heap.objs.size 0 .none → h'.get? s.heap.objs.size = some o → h'.objs.size = s.heap.objs.size + 2 →
      (∀ b o, s.heap.get? b = some o → h'.get? b = some o) → Q (.ref (s.heap.objs.size + 1)) { s with heap := h' }) :
    wpAny (model prog w) A (call (.type "enumerate") [v]) Q E s := by
  refine callType_new F.called_enumerate (by decide) (F.typeCall_enumerate_1 _) (F.newCall_enumerate_1 _) (fun obj => F.args_object_init_2 obj _) F.entry_enumerate_new (pi_meets_enum B) ⟨h1, ?_⟩
  have hz : (s.heap.push o).objs.size = s.heap.objs.size + 1 := Heap.size_push ..
  show _ ∧ _
  rw [hz]
  have he : IsEnum ((s.heap.push o).push { cls := .type "enumerate", data := .fields #[.none, .bool false, .ref s.heap.objs.size, rawInt 0, .none, .none] }) (s.heap.objs.size + 1) s.heap.objs.size 0 .none := by
    have := Heap.get?_push_size (s.heap.push o) (o := { cls := .type "enumerate", data := .fields #[.none, .bool false, .ref s.heap.objs.size, rawInt 0, .none, .none] }) rfl
    rw [hz] at this; exact this
  exact ⟨⟨_, he, rfl⟩, h _ he (Heap.get?_push_of_some _ (Heap.get?_push_size _ B.free)) (by rw [Heap.size_push, hz]) fun b o x => Heap.get?_push_of_some _ (Heap.get?_push_of_some _ x)⟩
end PySem
namespace Pi
open PySem PySem.Spec L2
open PyProof.Rows (boot_enumerate boot_zip Call_)

/-- the tuple at a, its items in new pairs with their numbers -/
def IteT (K : PySem.W.Frag) (a : Addr) : It :=
  ⟨fun i H => ∃ (xs : List V) (x : V), SqT K H a xs ∧ xs[i]? = some x, fun i H v H' => ∃ T x, v = .ref T ∧ H T = none ∧ H' = upd H T (.tup [.int (i : Nat), x]) ∧ ∀ xs, SqT K H a xs → xs[i]? = some x, fun i H => ∃ xs : List V, SqT K H a xs ∧ xs.length = i⟩
theorem turn_enumT {P : Program} {w : World} {K : PySem.W.Frag} {elts : List Expr} {kk : Nat} {tpos : Pos} (a e it : Addr) :
    Turn P w K (.Tuple elts kk tpos) (IteT K a) [e, it] e (fun i h => (∃ old, IsEnum h e it ((i : Nat) : Int) old) ∧ h.IsTupleIter it a i ∧ e ≠ it) where
  mem := by simp
  obj := fun i h st b hb => by
    obtain ⟨⟨old, he⟩, ⟨o, ho, hc, hd⟩, _⟩ := st
    have e' : b = e ∨ b = it := by simpa using hb
    rcases e' with z | z
    · rw [z]; exact ⟨_, he, fun v q => nomatch q⟩
    · rw [z]; exact ⟨o, ho, fun v q => by rw [hd] at q; cases q⟩
  keep := fun i h h' st k => let ⟨⟨old, he⟩, hi, hne⟩ := st; ⟨⟨old, k e (by simp) _ he⟩, hi.at fun o q => k it (by simp) o q, hne⟩
  item := by
    intro X hP hw hK hc i pins s σ H E I hf st hg
    subst hP hw hK
    obtain ⟨⟨old, he⟩, hit, hne⟩ := st
    obtain ⟨xs, x, hq, hx⟩ := hg
    obtain ⟨its, rv, p, hz⟩ := I.tuple hq
    obtain ⟨u, hu, ru⟩ := rv.get hx
    have p : s.heap.IsTuple a its.toArray := p
    have hel : e < s.heap.objs.size := Heap.lt_size he
    have hil : it < s.heap.objs.size := by obtain ⟨_, q, _⟩ := hit; exact Heap.lt_size q
    have ha : a ≠ it := fun z => by
      obtain ⟨o1, e1, c1, _⟩ := p
      obtain ⟨o2, e2, c2, _⟩ := hit
      rw [z, e2] at e1
      cases e1
      rw [c1] at c2
      exact absurd c2 (by decide)
    have ha2 : a ≠ e := fun z => by
      obtain ⟨o1, e1, c1, _⟩ := p
      rw [z, show s.heap.get? e = some _ from he] at e1
      cases e1
      exact absurd (show Value.type "enumerate" = Value.type "tuple" from c1) (by decide)
    have hun : its.toArray[i]? = some u := by simpa using hu
    have hlt : i < its.toArray.size := (Array.getElem?_eq_some_iff.mp hun).1
    refine wpAny_pyNext_enum_itemD (Draws.tuple (A := X.A.in1) (by simpa using I.ok.hd hc) it a ha its.toArray) he ⟨hit, p⟩ hlt hne (by simp [hne, Ne.symm ha2]) fun y h' tk hy ho st' hT hsz hk => ?_
    obtain ⟨hit', _⟩ := st'
    rw [hun] at hy
    cases hy
    refine ⟨_, rfl, wpAny_letOwnedTupleGo_enum (s := { s with heap := h', toks := tk + 1 }) ho fun h'' he' sb => ?_⟩
    have hT2 : h''.get? s.heap.objs.size = some { cls := .type "tuple", data := .seq #[.int i tk, u] } := (sb.2 _ (Nat.ne_of_gt hel)).trans hT
    have new : ObjOk X.prog X.w (upd H s.heap.objs.size (.tup [.int (i : Nat), x])) h'' s.heap.objs.size (.tup [.int (i : Nat), x]) :=
      ⟨by show 2 ≤ sizeLine; decide, [.int i tk, u], .cons ⟨_, rfl⟩ (.cons ru .nil), ⟨_, hT2, rfl, _, rfl⟩⟩
    have I1 : Inv X pins σ (upd H s.heap.objs.size (.tup [.int (i : Nat), x])) { s with heap := h'', toks := tk + 1 } :=
      I.turnedNew (ch := [e, it]) (fun b ob hb q => (sb.2 b (fun z => hb (by simp [z]))).trans (hk b ob (fun z => hb (by simp [z])) (fun z => hb (by simp [z])) q)) hf (Nat.le_refl _) new
    refine ⟨.ref s.heap.objs.size, _, I1, rfl, ⟨_, x, rfl, I.hok.fresh (Nat.le_refl _), rfl, fun ys hy => by rw [I.tuple_inj hy hq]; exact hx⟩, ⟨⟨u, ?_⟩, hit'.at fun o q => (sb.2 it (Ne.symm hne)).trans q, hne⟩, fun b hb => ?_⟩
    · have e1 : ((i + 1 : Nat) : Int) = (i : Int) + 1 := by omega
      rw [e1]; exact he'
    · have hb' : b < s.heap.objs.size := by
        have e' : b = e ∨ b = it := by simpa using hb
        rcases e' with z | z
        · rw [z]; exact hel
        · rw [z]; exact hil
      rw [upd_ne (Nat.ne_of_lt hb')]
      exact (hf b hb).1
  done := by
    intro X hP hw hK hc i pins s σ H E I hf st hg
    subst hP hw hK
    obtain ⟨⟨old, he⟩, hit, hne⟩ := st
    obtain ⟨xs, hq, hx⟩ := hg
    obtain ⟨its, rv, p, hz⟩ := I.tuple hq
    have p : s.heap.IsTuple a its.toArray := p
    obtain ⟨f0, f1, f2, f3, f4, f5⟩ := hf it (by simp)
    have hl := rv.length
    have ha : a ≠ it := fun z => by
      obtain ⟨o1, e1, c1, _⟩ := p
      obtain ⟨o2, e2, c2, _⟩ := hit
      rw [z, e2] at e1
      cases e1
      rw [c1] at c2
      exact absurd c2 (by decide)
    have ei : its.toArray.size = i := by rw [List.size_toArray]; omega
    subst ei
    exact wpAny_pyNext_enum_endD (Draws.tuple (A := X.A.in1) (by simpa using I.ok.hd hc) it a ha its.toArray) he ⟨hit, p⟩ fun h' eb => ⟨rfl, I.turned (t' := s.toks) (fun b o hb q => eb b o hb q) f0 f1 f3 f4 f5⟩
  self := fun A i s Q E st h => let ⟨⟨_, he⟩, _⟩ := st; wpAny_pyIter_enum he h

section
variable {X : Cx} {tg : Expr}
/-- a list or a tuple, walked -/
theorem pi_seq {l : Expr} {tl : TE} (hl : PE X l tl) : PI X tg l (fun σ H R => tl σ H fun x H1 => ∃ a, x = .ref a ∧ (((∃ xs, SqL X.K H1 a xs) ∧ R (Itl X.K a) H1) ∨ ((∃ xs, SqT X.K H1 a xs) ∧ R (Itt X.K a) H1))) := by
  refine ⟨fun pins s σ H R I h => ?_⟩
  refine thn (hl.run pins s σ H _ I h) fun v s1 ⟨x, H1, I1, r1, q1⟩ => ?_
  obtain ⟨a, e, q⟩ := q1
  subst e
  cases r1
  rcases q with ⟨⟨xs, hq⟩, q⟩ | ⟨⟨xs, hq⟩, q⟩
  · obtain ⟨its, rv, p, hz⟩ := I1.list hq
    refine wpAny_pyIter_list p.isList ?_
    refine ⟨s1.heap.objs.size, [s1.heap.objs.size], _, _, H1, rfl, I1.kept (t' := s1.toks) fun b o e => Heap.get?_push_of_some _ e, turn_list a _, ⟨_, Heap.get?_push_size _ rfl, rfl, rfl⟩, fun b hb => ?_, q⟩
    obtain rfl : b = s1.heap.objs.size := by simpa using hb
    exact I1.fpOk (Nat.le_refl _) (I1.hok.fresh (Nat.le_refl _))
  · obtain ⟨its, rv, p, hz⟩ := I1.tuple hq
    refine wpAny_pyIter_tuple (show s1.heap.IsTuple a its.toArray from p) ?_
    refine ⟨s1.heap.objs.size, [s1.heap.objs.size], _, _, H1, rfl, I1.kept (t' := s1.toks) fun b o e => Heap.get?_push_of_some _ e, turn_tuple a _, ⟨_, Heap.get?_push_size _ rfl, rfl, rfl⟩, fun b hb => ?_, q⟩
    obtain rfl : b = s1.heap.objs.size := by simpa using hb
    exact I1.fpOk (Nat.le_refl _) (I1.hok.fresh (Nat.le_refl _))
/-- enumerate(a list or a tuple) -/
theorem pi_enumA {e : Expr} {ta : TA} {p pos tpos : Pos} {elts : List Expr} {kk : Nat} (hg : L2.Gl X "enumerate") (hm : X.mg "enumerate" = none) (ha : PA X [e] ta) (hs : starEach [e] X.env = (false, eval e X.env) :: starEach [] X.env) :
    PI X (.Tuple elts kk tpos) (.Call (.Name "enumerate" p) [e] [] pos) (fun σ H R => ta σ H fun vs H1 => ∃ a, vs = [.ref a] ∧ (((∃ xs, SqL X.K H1 a xs) ∧ R (Ite X.K a) H1) ∨ ((∃ xs, SqT X.K H1 a xs) ∧ R (IteT X.K a) H1))) := by
  refine ⟨fun pins s σ H R I h => ?_⟩
  refine Call_ (ld_blt I hg hm boot_enumerate (PyProof.Rows.callWith_type1 (thn (ha.run pos pins s σ H _ I h) fun us s1 ⟨vs, H1, I1, r1, q1⟩ => ?_) hs rfl))
  obtain ⟨a, ex, q⟩ := q1
  subst ex
  rw [Vals.ref1 r1]
  have two : ∀ b, b ∈ [s1.heap.objs.size + 1, s1.heap.objs.size] → FpOk X pins H1 b := fun b hb => by
    have e' : b = s1.heap.objs.size + 1 ∨ b = s1.heap.objs.size := by simpa using hb
    have hle : s1.heap.objs.size ≤ b := by
      rcases e' with z | z
      · rw [z]; exact Nat.le_add_right _ _
      · rw [z]; exact Nat.le_refl _
    exact I1.fpOk hle (I1.hok.fresh hle)
  rcases q with ⟨⟨xs, hq⟩, q⟩ | ⟨⟨xs, hq⟩, q⟩
  · obtain ⟨its, rv, p', hz⟩ := I1.list hq
    refine pi_call_enum (begins_list a its.toArray) p'.isList fun h' he hit hsz hk => wpAny_pyIter_enum he ?_
    have I2 : Inv X pins σ H1 { s1 with heap := h' } := I1.kept (t' := s1.toks) hk
    exact ⟨s1.heap.objs.size + 1, [s1.heap.objs.size + 1, s1.heap.objs.size], _, _, H1, rfl, I2, turn_enum a (s1.heap.objs.size + 1) s1.heap.objs.size, ⟨⟨.none, he⟩, ⟨_, hit, rfl, rfl⟩, Nat.succ_ne_self _⟩, two, q⟩
  · obtain ⟨its, rv, p', hz⟩ := I1.tuple hq
    refine pi_call_enum (begins_tuple a its.toArray) (show s1.heap.IsTuple a its.toArray from p') fun h' he hit hsz hk => wpAny_pyIter_enum he ?_
    have I2 : Inv X pins σ H1 { s1 with heap := h' } := I1.kept (t' := s1.toks) hk
    exact ⟨s1.heap.objs.size + 1, [s1.heap.objs.size + 1, s1.heap.objs.size], _, _, H1, rfl, I2, turn_enumT a (s1.heap.objs.size + 1) s1.heap.objs.size, ⟨⟨.none, he⟩, ⟨_, hit, rfl, rfl⟩, Nat.succ_ne_self _⟩, two, q⟩
end

/-! ### what stands behind a walk -/
section
variable (F : Fx) (Mu : Addr → Prop) (m : Nat → Addr) (n : Nat) (H : Hp)
/-- J goes through xs -/
inductive Itv : It → List D → Prop where
  | lst {a : Addr} {vs : List V} {xs : List D} : Rd H a (.lst vs) → ¬ Mu a → Reps F Mu m n H vs xs → Itv (Itl F.K a) xs
  | tup {a : Addr} {vs : List V} {xs : List D} : SqT F.K H a vs → Reps F Mu m n H vs xs → Itv (Itt F.K a) xs
  | rng {lo : Int} {k : Nat} : Itv (Itr lo k) (rangeD lo k)
  | enm {a : Addr} {vs : List V} {xs : List D} : Rd H a (.lst vs) → ¬ Mu a → Reps F Mu m n H vs xs → Itv (Ite F.K a) (enumD 0 xs)
  | enmT {a : Addr} {vs : List V} {xs : List D} : SqT F.K H a vs → Reps F Mu m n H vs xs → Itv (IteT F.K a) (enumD 0 xs)
  | zip {a b : Addr} {vs ws : List V} {xs ys : List D} : Rd H a (.lst vs) → ¬ Mu a → Reps F Mu m n H vs xs → Rd H b (.lst ws) → ¬ Mu b → Reps F Mu m n H ws ys → Itv (Itz F.K a b) (zipD xs ys)
  | zipT {a b : Addr} {vs ws : List V} {xs ys : List D} : SqT F.K H a vs → Reps F Mu m n H vs xs → SqT F.K H b ws → Reps F Mu m n H ws ys → Itv (RZ.ItzT F.K a b) (zipD xs ys)
end
section
variable {F : Fx} {Mu Mu' : Addr → Prop} {m m' : Nat → Addr} {n n' : Nat} {H H' : Hp} {J : It} {xs : List D}
theorem rd_mov {a : Addr} {vs : List V} (M : Mov Mu Mu' m m' n n' H H') (h : Rd H a (.lst vs)) (k : ¬ Mu a) : Rd H' a (.lst vs) ∧ ¬ Mu' a := ⟨Rd.mov M.kp k h, fun z => (M.mu a z).elim k (Rd.some h)⟩
theorem sqt_mov {a : Addr} {vs : List V} (M : Mov Mu Mu' m m' n n' H H') (h : SqT F.K H a vs) : SqT F.K H' a vs := SqT.mov (fun a o h1 h2 => M.kp a o h1 (.inl h2)) h
theorem Itv.mov (M : Mov Mu Mu' m m' n n' H H') (h : Itv F Mu m n H J xs) : Itv F Mu' m' n' H' J xs := by
  cases h with
  | lst h1 h2 h3 => exact .lst (rd_mov M h1 h2).1 (rd_mov M h1 h2).2 (Reps.mov M h3)
  | tup h1 h2 => exact .tup (sqt_mov M h1) (Reps.mov M h2)
  | rng => exact .rng
  | enm h1 h2 h3 => exact .enm (rd_mov M h1 h2).1 (rd_mov M h1 h2).2 (Reps.mov M h3)
  | enmT h1 h2 => exact .enmT (sqt_mov M h1) (Reps.mov M h2)
  | zip h1 h2 h3 h4 h5 h6 => exact .zip (rd_mov M h1 h2).1 (rd_mov M h1 h2).2 (Reps.mov M h3) (rd_mov M h4 h5).1 (rd_mov M h4 h5).2 (Reps.mov M h6)
  | zipT h1 h2 h3 h4 => exact .zipT (sqt_mov M h1) (Reps.mov M h2) (sqt_mov M h3) (Reps.mov M h4)
theorem rangeD_len : ∀ {lo : Int} {k : Nat}, (rangeD lo k).length = k
  | _, 0 => rfl
  | lo, k + 1 => by unfold rangeD; rw [List.length_cons, rangeD_len]
theorem rangeD_get : ∀ {lo : Int} {k i : Nat}, i < k → (rangeD lo k)[i]? = some (.int (lo + i))
  | lo, k + 1, 0, _ => by
    show some (D.int lo) = _
    rw [Int.natCast_zero, Int.add_zero]
  | lo, k + 1, i + 1, h => by
    show (rangeD (lo + 1) k)[i]? = _
    rw [rangeD_get (by omega)]
    congr 2
    omega
theorem enumD_len : ∀ {i : Int} {xs : List D}, (enumD i xs).length = xs.length
  | _, [] => rfl
  | i, x :: xs => by unfold enumD; rw [List.length_cons, enumD_len]; rfl
theorem enumD_get : ∀ {k : Int} {xs : List D} {i : Nat} {x : D}, xs[i]? = some x → (enumD k xs)[i]? = some (.tup [.int (k + i), x])
  | k, [], i, x, h => by simp at h
  | k, y :: ys, 0, x, h => by
    simp at h
    subst h
    show some (D.tup [.int k, y]) = _
    rw [Int.natCast_zero, Int.add_zero]
  | k, y :: ys, i + 1, x, h => by
    show (enumD (k + 1) ys)[i]? = _
    rw [enumD_get (by simpa using h)]
    congr 4
    omega
theorem zipD_len : ∀ {xs ys : List D}, (zipD xs ys).length = min xs.length ys.length
  | [], ys => by unfold zipD; simp
  | x :: xs, [] => by unfold zipD; simp
  | x :: xs, y :: ys => by
    unfold zipD
    rw [List.length_cons, zipD_len, List.length_cons, List.length_cons]
    omega
theorem zipD_get : ∀ {xs ys : List D} {i : Nat} {x y : D}, xs[i]? = some x → ys[i]? = some y → (zipD xs ys)[i]? = some (.tup [x, y])
  | [], _, _, _, _, h, _ => by simp at h
  | _ :: _, [], _, _, _, _, h => by simp at h
  | x :: xs, y :: ys, 0, _, _, h, k => by
    simp at h k
    subst h k
    rfl
  | x :: xs, y :: ys, i + 1, _, _, h, k => by
    show (zipD xs ys)[i]? = _
    exact zipD_get (by simpa using h) (by simpa using k)
theorem get_lt {α : Type} {xs : List α} {i : Nat} (h : i < xs.length) : ∃ x, xs[i]? = some x := ⟨xs[i], by simp [h]⟩
theorem Itv.go (h : Itv F Mu m n H J xs) {i : Nat} (hi : i < xs.length) : J.go i H := by
  cases h with
  | lst h1 h2 h3 =>
    obtain ⟨d, e⟩ := get_lt hi
    obtain ⟨v, e1, _⟩ := Reps.get h3 e
    exact ⟨_, v, .inl h1, e1⟩
  | tup h1 h2 =>
    obtain ⟨d, e⟩ := get_lt hi
    obtain ⟨v, e1, _⟩ := Reps.get h2 e
    exact ⟨_, v, h1, e1⟩
  | rng => rw [rangeD_len] at hi; exact hi
  | enm h1 h2 h3 =>
    rw [enumD_len] at hi
    obtain ⟨d, e⟩ := get_lt hi
    obtain ⟨v, e1, _⟩ := Reps.get h3 e
    exact ⟨_, v, .inl h1, e1⟩
  | enmT h1 h2 =>
    rw [enumD_len] at hi
    obtain ⟨d, e⟩ := get_lt hi
    obtain ⟨v, e1, _⟩ := Reps.get h2 e
    exact ⟨_, v, h1, e1⟩
  | zip h1 h2 h3 h4 h5 h6 =>
    rw [zipD_len] at hi
    obtain ⟨d, e⟩ := get_lt (Nat.lt_of_lt_of_le hi (Nat.min_le_left _ _))
    obtain ⟨d', e'⟩ := get_lt (Nat.lt_of_lt_of_le hi (Nat.min_le_right _ _))
    obtain ⟨v, e1, _⟩ := Reps.get h3 e
    obtain ⟨w, e2, _⟩ := Reps.get h6 e'
    exact ⟨_, _, v, w, .inl h1, .inl h4, e1, e2⟩
  | zipT h1 h2 h3 h4 =>
    rw [zipD_len] at hi
    obtain ⟨d, e⟩ := get_lt (Nat.lt_of_lt_of_le hi (Nat.min_le_left _ _))
    obtain ⟨d', e'⟩ := get_lt (Nat.lt_of_lt_of_le hi (Nat.min_le_right _ _))
    obtain ⟨v, e1, _⟩ := Reps.get h2 e
    obtain ⟨w, e2, _⟩ := Reps.get h4 e'
    exact ⟨_, _, v, w, h1, h3, e1, e2⟩
theorem Itv.stop (h : Itv F Mu m n H J xs) : J.stop xs.length H := by
  cases h with
  | lst h1 h2 h3 => exact ⟨_, .inl h1, by rw [Reps.length h3]; exact Nat.le_refl _⟩
  | tup h1 h2 => exact ⟨_, h1, by rw [Reps.length h2]; exact Nat.le_refl _⟩
  | rng => rw [rangeD_len]; exact Nat.le_refl _
  | enm h1 h2 h3 => rw [enumD_len]; exact ⟨_, .inl h1, by rw [Reps.length h3]; exact Nat.le_refl _⟩
  | enmT h1 h2 => rw [enumD_len]; exact ⟨_, h1, Reps.length h2⟩
  | zip h1 h2 h3 h4 h5 h6 =>
    rw [zipD_len]
    refine ⟨_, _, .inl h1, .inl h4, ?_⟩
    rw [Reps.length h3, Reps.length h6]
    omega
  | zipT h1 h2 h3 h4 =>
    rw [zipD_len]
    refine ⟨_, _, h1, h3, ?_⟩
    rw [Reps.length h2, Reps.length h4]
    omega
/-- the same heap, or one with a new object -/
def More (H H' : Hp) : Prop := H' = H ∨ ∃ p u, H p = none ∧ H' = upd H p u
theorem itv_pair {x y : V} {d e : D} {T : Addr} {vs ws : List V} (hT : H T = none) (r : Rep F Mu m n H x d) (r' : Rep F Mu m n H y e) : More H (upd H T (.tup [x, y])) ∧ Rep F Mu m n (upd H T (.tup [x, y])) (.ref T) (.tup [d, e]) :=
  ⟨.inr ⟨T, _, hT, rfl⟩, T, [x, y], rfl, .inl (.inl upd_same), Rep.mov (Mov.fresh hT) r, Rep.mov (Mov.fresh hT) r', trivial⟩
theorem Itv.yld (h : Itv F Mu m n H J xs) {i : Nat} {x : V} (hi : i < xs.length) (hy : J.yld i H x H') : ∃ d, xs[i]? = some d ∧ More H H' ∧ Rep F Mu m n H' x d := by
  cases h with
  | lst h1 h2 h3 =>
    obtain ⟨rfl, k⟩ := hy
    obtain ⟨d, e⟩ := get_lt hi
    obtain ⟨v, e1, r⟩ := Reps.get h3 e
    have e2 := k _ (.inl h1)
    rw [e1] at e2
    cases e2
    exact ⟨d, e, .inl rfl, r⟩
  | tup h1 h2 =>
    obtain ⟨rfl, k⟩ := hy
    obtain ⟨d, e⟩ := get_lt hi
    obtain ⟨v, e1, r⟩ := Reps.get h2 e
    have e2 := k _ h1
    rw [e1] at e2
    cases e2
    exact ⟨d, e, .inl rfl, r⟩
  | rng =>
    obtain ⟨rfl, rfl⟩ := hy
    rw [rangeD_len] at hi
    exact ⟨_, rangeD_get hi, .inl rfl, rfl⟩
  | enm h1 h2 h3 =>
    obtain ⟨T, y, rfl, hT, rfl, k⟩ := hy
    rw [enumD_len] at hi
    obtain ⟨d, e⟩ := get_lt hi
    obtain ⟨v, e1, r⟩ := Reps.get h3 e
    have e2 := k _ (.inl h1)
    rw [e1] at e2
    cases e2
    refine ⟨_, enumD_get e, ?_⟩
    rw [Int.zero_add]
    exact itv_pair (vs := []) (ws := []) hT rfl r
  | enmT h1 h2 =>
    obtain ⟨T, y, rfl, hT, rfl, k⟩ := hy
    rw [enumD_len] at hi
    obtain ⟨d, e⟩ := get_lt hi
    obtain ⟨v, e1, r⟩ := Reps.get h2 e
    have e2 := k _ h1
    rw [e1] at e2
    cases e2
    refine ⟨_, enumD_get e, ?_⟩
    rw [Int.zero_add]
    exact itv_pair (vs := []) (ws := []) hT rfl r
  | zip h1 h2 h3 h4 h5 h6 =>
    obtain ⟨T, y, z, rfl, hT, rfl, k, k'⟩ := hy
    rw [zipD_len] at hi
    obtain ⟨d, e⟩ := get_lt (Nat.lt_of_lt_of_le hi (Nat.min_le_left _ _))
    obtain ⟨d', e'⟩ := get_lt (Nat.lt_of_lt_of_le hi (Nat.min_le_right _ _))
    obtain ⟨v, e1, r⟩ := Reps.get h3 e
    obtain ⟨w, e2, r'⟩ := Reps.get h6 e'
    have q1 := k _ (.inl h1)
    have q2 := k' _ (.inl h4)
    rw [e1] at q1
    rw [e2] at q2
    cases q1
    cases q2
    exact ⟨_, zipD_get e e', itv_pair (vs := []) (ws := []) hT r r'⟩
  | zipT h1 h2 h3 h4 =>
    obtain ⟨T, y, z, rfl, hT, rfl, k, k'⟩ := hy
    rw [zipD_len] at hi
    obtain ⟨d, e⟩ := get_lt (Nat.lt_of_lt_of_le hi (Nat.min_le_left _ _))
    obtain ⟨d', e'⟩ := get_lt (Nat.lt_of_lt_of_le hi (Nat.min_le_right _ _))
    obtain ⟨v, e1, r⟩ := Reps.get h2 e
    obtain ⟨w, e2, r'⟩ := Reps.get h4 e'
    have q1 := k _ h1
    have q2 := k' _ h3
    rw [e1] at q1
    rw [e2] at q2
    cases q1
    cases q2
    exact ⟨_, zipD_get e e', itv_pair (vs := []) (ws := []) hT r r'⟩
end
end Pi

set_option maxRecDepth 100000
set_option maxHeartbeats 1000000
/-! PiK: argument lists, displays, slices, calls; what is walked. -/
namespace Pi
open PySem PySem.Spec L2

/-! ### syntax -/
def noStar : Expr → Bool
  | .Starred .. => false
  | _ => true
theorem star_cons {e : Expr} {es : List Expr} (h : noStar e = true) (env : PySem.Env) : starEach (e :: es) env = (false, eval e env) :: starEach es env := by
  cases e <;> first | rfl | exact absurd h Bool.false_ne_true
theorem star_none : ∀ {es : List Expr} (h : es.all noStar = true) (env : PySem.Env) (pos : Pos), (backTo pos (starEach es env)).any (·.1) = false
  | [], _, _, _ => rfl
  | e :: es, h, env, pos => by
    rw [List.all_cons, Bool.and_eq_true] at h
    rw [star_cons h.1]
    show (false || (backTo pos (starEach es env)).any (·.1)) = false
    rw [star_none h.2]; rfl
def noSlice : Expr → Bool
  | .Slice .. => false
  | _ => true
theorem plain_ix {e : Expr} (h : noSlice e = true) : PlainIx e := by
  intro o i
  cases e <;> first | rfl | exact absurd h Bool.false_ne_true
def noSet : Expr → Bool
  | .Set .. => false
  | _ => true
theorem no_fold {e : Expr} (h : noSet e = true) (env : PySem.Env) (x : Value) : foldedSetIterable e env x = pure x := by
  cases e <;> first | rfl | exact absurd h Bool.false_ne_true
def noCall : Expr → Bool
  | .Call .. => false
  | _ => true
theorem no_base {e : Expr} (h : noCall e = true) (a : Str) (env : PySem.Env) (w : Sem Value) : attributeBase e a env w = w := by
  cases e <;> first | rfl | exact absurd h Bool.false_ne_true

section
variable {X : Cx} {F : Fx} {G : Gl} {call : Nat → List D → Sto → RC} {W : WX} {bw : Bool} {pos : Pos}
/-! ### argument lists -/
theorem rl_nil : PA X [] (RdL F G call W bw []) := pa_nil.imp fun σ H Q ⟨Uo, m, env, st, S, q⟩ => by
  rw [evs] at q
  exact q [] m H Step.refl S (fun _ => trivial) trivial
theorem rl_cons {c : C} {cs : List C} {e : Expr} {es : List Expr} (h : noStar e = true) (ha : PE X e (RdE F G call W bw c)) (hr : PA X es (RdL F G call W bw cs)) : PA X (e :: es) (RdL F G call W bw (c :: cs)) :=
  (pa_cons ha hr (star_cons h _)).imp fun σ H Q ⟨Uo, m, env, st, S, q⟩ => by
    rw [evs] at q
    refine ⟨Uo, m, env, st, S, bindE closedL q fun v d o m1 env1 st1 H1 p1 S1 r1 q1 => ⟨Uo, m1, env1, st1, S1.base, bindL closedL q1 fun vs ds m2 env2 st2 H2 p2 S2 r2 rb2 q2 => ?_⟩⟩
    refine q2 (v :: vs) m2 H2 Step.refl S2 (fun eb => ⟨?_, r2 eb⟩) ⟨RepB.movE S1.base p2 (r1.toB S1), rb2⟩
    subst eb
    exact Rep.mov (p2.movE S1.base) (r1.toRep S.uH S1)
/-! ### displays -/
theorem rd_tp {cs : List C} {es : List Expr} {k : Nat} (h : PA X es (RdL F G call W false cs)) : PE X (.Tuple es k pos) (RdE F G call W bw (.tp cs)) := (pe_tup h).imp fun σ H Q ⟨Uo, m, env, st, S, q⟩ => by
  rw [ev] at q
  refine ⟨Uo, m, env, st, S, bindL closedE q fun vs ds m1 env1 st1 H1 p1 S1 r1 _ q1 => ?_⟩
  have r1 := r1 rfl
  by_cases hz : szOk ds.length = true
  · rw [if_pos hz] at q1
    exact ⟨by rw [Reps.length r1]; exact szOk_le hz, fun p hp => q1.newT S1 hp r1⟩
  · rw [if_neg hz] at q1
    exact q1.elim
theorem rd_ls {cs : List C} {es : List Expr} (h : PA X es (RdL F G call W false cs)) : PE X (.List es pos) (RdE F G call W bw (.ls cs)) := (pe_lst h).imp fun σ H Q ⟨Uo, m, env, st, S, q⟩ => by
  rw [ev] at q
  refine ⟨Uo, m, env, st, S, bindL closedE q fun vs ds m1 env1 st1 H1 p1 S1 r1 _ q1 => ?_⟩
  have r1 := r1 rfl
  by_cases hz : szOk ds.length = true
  · rw [if_pos hz] at q1
    exact ⟨by rw [Reps.length r1]; exact szOk_le hz, fun p hp => q1.newL S1 hp r1⟩
  · rw [if_neg hz] at q1
    exact q1.elim
/-! ### slices -/
theorem ro_none : PO X none (RdO F G call W none) := po_none.imp fun σ H Q ⟨Uo, m, env, st, S, q⟩ => by
  rw [evo] at q
  exact q none m H Step.refl S rfl
theorem ro_some {c : C} {e : Expr} (h : PE X e (RdE F G call W true c)) : PO X (some e) (RdO F G call W (some c)) := (po_some h).imp fun σ H Q ⟨Uo, m, env, st, S, q⟩ => by
  rw [evo] at q
  refine ⟨Uo, m, env, st, S, bindE closedG q fun v d o m1 env1 st1 H1 p1 S1 r1 q1 => ?_⟩
  have rb := r1.toB S1
  cases d with
  | int i =>
    obtain rfl : v = .int i := rb
    exact ⟨i, rfl, q1 (some i) m1 H1 Step.refl S1.base rfl⟩
  | _ => exact q1.elim
theorem rd_sl {a : C} {lo hi : Option C} {ea : Expr} {el eh : Option Expr} {p2 : Pos} (hK : X.K = F.K) (ha : PE X ea (RdE F G call W true a)) (hl : PO X el (RdO F G call W lo)) (hh : PO X eh (RdO F G call W hi)) :
    PE X (.Subscript ea (.Slice el eh none p2) pos) (RdE F G call W bw (.sl a lo hi)) := (pe_slice (sl_dat (bw := bw) (W := W) hK) ha hl hh).imp fun σ H Q ⟨Uo, m, env, st, S, q⟩ => by
  rw [ev] at q
  refine ⟨Uo, m, env, st, S, bindE closedE q fun v d o m1 env1 st1 H1 p1 S1 r1 q1 => ⟨Uo, m1, env1, st1, S1.base, bindG closedE q1 fun l l' m2 env2 st2 H2 p2 S2 e2 q2 => ⟨Uo, m2, env2, st2, S2, bindG closedE q2 fun h h' m3 env3 st3 H3 p3 S3 e3 q3 => ?_⟩⟩⟩
  subst e2 e3
  exact ⟨σ, Uo, m3, env3, st3, d, S3, RepB.movE S2 p3 (RepB.movE S1.base p2 (r1.toB S1)), q3⟩
theorem rd_rev {a : C} {ea : Expr} {k : Nat} {p1 p2 p3 : Pos} (ha : PE X ea (RdE F G call W true a)) : PE X (.Subscript ea (.Slice none none (some (.UnaryOp .USub (.Constant (.int 1) k p1) p2)) p3) pos) (RdE F G call W bw (.rev a)) := (pe_revL ha).imp fun σ H Q ⟨Uo, m, env, st, S, q⟩ => by
  rw [ev] at q
  refine ⟨Uo, m, env, st, S, bindE closedE q fun v d o m1 env1 st1 H1 p1 S1 r1 q1 => ?_⟩
  have rb := r1.toB S1
  cases d with
  | lst xs =>
    obtain ⟨b, vs, rfl, hq, _, hr⟩ := rb
    exact ⟨b, vs, rfl, .inl hq, fun p hp => PostE.newL S1.base q1 hp (Reps.reverse hr)⟩
  | _ => exact q1.elim
/-! ### calls of what is built in -/
def Bi.name : Bi → Str
  | .len => "len" | .int => "int" | .str => "str" | .bool => "bool" | .list => "list" | .tuple => "tuple" | .sorted => "sorted" | .all => "all" | .max1 => "max" | .max2 => "max" | .min2 => "min" | .sum => "sum" | .isinst => "isinstance" | .dict => "dict" | .sortset => "sorted"
theorem rd_bi (hG : ∀ i d, G.xi i d = none) (hK : X.K = F.K) (hu : X.A.units + 64 < cLine) (hc : X.calm = true) (b : Bi) (hb : b ≠ .sortset) {cs : List C} {e : Expr} {es : List Expr} {p : Pos} (hg : L2.Gl X b.name) (hm : X.mg b.name = none) (hv : bootBuiltins b.name = some b.val) (hn : b.name ≠ "__name__") (hd : (b.name == ("__debug__" : Str)) = false)
    (hs : noStar e = true) (hss : es.all noStar = true) (ha : PA X (e :: es) (RdL F G call W true cs)) : PE X (.Call (.Name b.name p) (e :: es) [] pos) (RdE F G call W bw (.bi b cs)) := by
  have key : PE X (.Call (.Name b.name p) (e :: es) [] pos) (tCB (rMany F bw W (bifn G b)) (RdL F G call W true cs)) := by
    have cr := bi_dat (bw := bw) (W := W) hK hu hc (G := G) hG b hb
    generalize hx : b.name = x at *
    revert cr hv
    cases hval : b.val with
    | builtin id => exact fun cr hv => pe_callB cr hg hm hv ha hn hd (star_cons hs _) (star_none hss _ _)
    | type T => exact fun cr hv => pe_callTy cr hg hm hv ha hn hd (star_cons hs _) (star_none hss _ _)
    | _ => cases b <;> first | exact absurd rfl hb | cases hval
  refine key.imp fun σ H Q ⟨Uo, m, env, st, S, q⟩ => ?_
  rw [ev] at q
  exact ⟨Uo, m, env, st, S, bindL closedE q fun vs ds m1 env1 st1 H1 p1 S1 _ rb q1 => ⟨σ, Uo, m1, env1, st1, ds, S1, rb, q1⟩⟩
/-- sep.join(xs) -/
theorem rd_join (hK : X.K = F.K) {a b : C} {o e : Expr} {apos : Pos} (hs : noStar e = true) (hb : noCall o = true) (hl : (apos.endLine == pos.line) = true) (ho : PE X o (RdE F G call W true a)) (he : PE X e (RdE F G call W true b)) :
    PE X (.Call (.Attribute o "join" apos) [e] [] pos) (RdE F G call W bw (.me .join a [b])) := (pe_join ho he (star_cons hs _) (no_base hb _ _ _) hl).imp fun σ H Q ⟨Uo, m, env, st, S, q⟩ => by
  rw [ev] at q
  simp only [evs_one, bind_bind] at q
  refine ⟨Uo, m, env, st, S, bindE closedE q fun v d o1 m1 env1 st1 H1 p1 S1 r1 q1 => ?_⟩
  have ra := r1.toB S1
  cases d with
  | str z => ?_
  | _ => exact q1.elim
  obtain rfl : v = .str z := ra
  refine ⟨⟨z, rfl⟩, Uo, m1, env1, st1, S1.base, bindE closedE q1 fun w e o2 m2 env2 st2 H2 p2 S2 r2 q2 => ?_⟩
  have rb := r2.toB S2
  have q2 : PostE F Uo env2 σ m2 st2.length H2 W bw Q (lift (mef .join (.str z) [e]) env2 st2) := q2
  cases e with
  | lst xs =>
    obtain ⟨c, vs, rfl, hq, _, hr⟩ := rb
    unfold mef at q2
    dsimp only at q2
    cases es : strsOf xs with
    | none => rw [es] at q2; exact q2.elim
    | some l =>
      rw [es] at q2
      dsimp only at q2
      by_cases hz : szOk ((l.map (·.length)).sum + l.length * z.length) = true
      · rw [if_pos hz] at q2
        have hl := strsOf_map es hr
        subst hl
        exact ⟨z, c, l, rfl, rfl, .inl (.inl hq), by have := of_decide_eq_true hz; omega, q2.here S2.base rfl⟩
      · rw [if_neg hz] at q2
        exact q2.elim
  | _ => exact q2.elim
end
end Pi

set_option maxRecDepth 100000
set_option maxHeartbeats 1000000
/-! PiL: calls of functions; new store cells; what is walked. -/
namespace Pi
open PySem PySem.Spec L2

/-- what a function promises -/
def spOf (F : Fx) (call : Nat → List D → Sto → RC) (f k : Nat) : Sp := fun vs H Q E => ∃ Uo m ds st, Sim F Uo m [] [] st H ∧ Reps F (MuOf Uo [] [] m st.length) m st.length H vs ds ∧ vs.length = k ∧
  PostE F Uo [] [] m st.length H (fun cls dd _ H' => E cls dd H') false Q (ofCall (call f ds st) [])

section
variable {F : Fx} {Uo : Addr → Prop} {env : Env} {σ : SL} {m m1 : Nat → Addr} {H H1 : Hp} {st st1 : Sto}
/-- the caller's own lists are others' for the callee -/
def Co (Uo : Addr → Prop) (env : Env) (σ : SL) : Addr → Prop := fun a => Uo a ∨ OwnAt env σ a
theorem own_nil {b : Addr} : ¬ OwnAt [] [] b := fun ⟨i, d, h, _⟩ => by simp at h
theorem mu_co {n : Nat} {a : Addr} : MuOf (Co Uo env σ) [] [] m n a ↔ MuOf Uo env σ m n a := by
  constructor
  · rintro ((h | h) | h | h)
    · exact .inl h
    · exact .inr (.inl h)
    · exact absurd h own_nil
    · exact .inr (.inr h)
  · rintro (h | h | h)
    · exact .inl (.inl h)
    · exact .inl (.inr h)
    · exact .inr (.inr h)
theorem sim_call (S : Sim F Uo m env σ st H) : Sim F (Co Uo env σ) m [] [] st H where
  len := rfl
  inj := S.inj
  obj := fun l xs e => let ⟨vs, h1, h2⟩ := S.obj l xs e; ⟨vs, h1, Reps.mov (Mov.less fun _ z => mu_co.mp z) h2⟩
  noD := S.noD
  val := fun i d e => by simp at e
  own := fun i d e => by simp at e
  sep := fun i j a d e h => by simp at h
  osto := fun b hb => absurd hb own_nil
  usto := fun b hb z => z.elim (S.usto b hb) fun z => (S.osto b z).2 hb
  uH := fun a z => z.elim (S.uH a) S.ownH
  tab := S.tab
/-- behind the call -/
theorem step_back {st1 : Sto} (p : Step noCh [] [] m st.length H [] [] m1 st1.length H1) : Step noCh env σ m st.length H env σ m1 st1.length H1 := ⟨p.hn, p.hm, p.new, p.fr, p.th, fun _ h => .inl h⟩
theorem mu_plus {U V : Addr → Prop} {n : Nat} {a : Addr} : MuOf (Plus U V) env σ m n a → V a ∨ MuOf U env σ m n a := by
  rintro ((h | h) | h)
  · exact .inr (.inl h)
  · exact .inl h
  · exact .inr (.inr h)
theorem mu_co2 {V : Addr → Prop} {n : Nat} {a : Addr} : MuOf (Plus Uo V) env σ m n a → MuOf (Plus (Co Uo env σ) V) [] [] m n a := by
  rintro ((h | h) | h | h)
  · exact .inl (.inl (.inl h))
  · exact .inl (.inr h)
  · exact .inl (.inl (.inr h))
  · exact .inr (.inr h)
theorem sim_back {T : Addr → Prop} (S : Sim F Uo m env σ st H) (p : Step noCh [] [] m st.length H [] [] m1 st1.length H1) (S1 : Sim F (Plus (Co Uo env σ) T) m1 [] [] st1 H1) (fresh : ∀ a, T a → H a = none) : Sim F (Plus Uo T) m1 env σ st1 H1 := by
  have q : Step noCh env σ m st.length H env σ m1 st1.length H1 := step_back p
  have M := q.movE S
  have M2 : Mov (MuOf Uo env σ m st.length) (MuOf (Plus Uo T) env σ m1 st1.length) m m1 st.length st1.length H H1 := ⟨M.hn, M.hm, M.kp, fun a z => (mu_plus z).elim (fun z => .inr (fresh a z)) (M.mu a)⟩
  exact {
    len := S.len
    inj := S1.inj
    obj := fun l xs e => let ⟨vs, h1, h2⟩ := S1.obj l xs e; ⟨vs, h1, Reps.mov (Mov.less fun _ z => mu_co2 z) h2⟩
    noD := S1.noD
    val := fun i d e => let ⟨v, h1, h2⟩ := S.val i d e; ⟨v, h1, Rep.mov M2 h2⟩
    own := fun i d e => by
      obtain ⟨a, xs, vs, h1, h2, h3, h4⟩ := S.own i d e
      subst h1
      have ho : OwnAt env σ a := ⟨i, _, e, h2⟩
      exact ⟨a, xs, vs, rfl, h2, p.fr a _ h3 (fun z => z) (.inr ⟨fun z => z, (S.osto a ho).2⟩), Reps.mov M2 h4⟩
    sep := S.sep
    osto := fun b hb => ⟨fun z => by
      rcases z with z | z
      · exact (S.osto b hb).1 z
      · exact S.ownH hb (fresh b z), fun z => (StoAt.back p.hm p.new z).elim (S.osto b hb).2 (S.ownH hb)⟩
    usto := fun b hb z => S1.usto b hb (z.imp .inl id)
    uH := fun a z => S1.uH a (z.imp .inl id)
    tab := S1.tab }
theorem val_back {T : Addr → Prop} {o : Bool} {bw : Bool} {v : V} {d : D} (S1 : Sim F (Plus (Co Uo env σ) T) m1 [] [] st1 H1) (r : ValR F false o (MuOf (Plus (Co Uo env σ) T) [] [] m1 st1.length) m1 st1.length H H1 v d) : ValR F bw o (MuOf (Plus Uo T) env σ m1 st1.length) m1 st1.length H H1 v d :=
  ⟨fun e => let ⟨a, xs, vs, h1, h2, h3, h4, h5⟩ := r.1 e; ⟨a, xs, vs, h1, h2, h3, Reps.mov (Mov.less fun _ z => mu_co2 z) h4, h5⟩,
   fun e _ => Rep.mov (Mov.less fun _ z => mu_co2 z) (r.2.1 e rfl),
   fun e _ => Rep.toB (fun _ => StoAt.mu) (Rep.mov (Mov.less fun _ z => mu_co2 z) (r.2.1 e rfl))⟩
/-- the promise of a call at the caller's state -/
theorem sp_call {call : Nat → List D → Sto → RC} {W : WX} {bw : Bool} {f k : Nat} {vs : List V} {ds : List D} {Q : VK} (S : Sim F Uo m env σ st H) (hr : Reps F (MuOf Uo env σ m st.length) m st.length H vs ds) (hk : ds.length = k)
    (q : PostE F Uo env σ m st.length H W bw Q (ofCall (call f ds st) env)) : spOf F call f k vs H Q (WE W σ) := by
  refine ⟨Co Uo env σ, m, ds, st, sim_call S, Reps.mov (Mov.less fun _ z => mu_co.mp z) hr, by rw [Reps.length hr]; exact hk, ?_⟩
  revert q
  generalize call f ds st = r
  intro q
  cases r with
  | no => exact q
  | ok d o st' =>
    intro v m1 H1 p S1 r1
    have fresh : ∀ a, Tmp o v a → H a = none := fun a z => by
      obtain ⟨rfl, rfl⟩ := z
      obtain ⟨b, xs, ws, e, _, _, _, h5⟩ := r1.1 rfl
      cases e
      exact h5
    exact q v m1 H1 (step_back p) (sim_back S p S1 fresh) (val_back S1 r1)
  | ex c x st' =>
    intro cls dd m1 H1 p S1 e1
    have S2 : Sim F (Plus (Co Uo env σ) fun _ => False) m1 [] [] st' H1 := S1.less fun a z => z.elim id fun z => z.elim
    exact q cls dd m1 H1 (step_back p) ((sim_back S p S2 fun _ z => z.elim).base) e1
end

section
variable {X : Cx} {F : Fx} {G : Gl} {call : Nat → List D → Sto → RC} {W : WX} {bw : Bool} {pos : Pos}
/-- the functions as they are proved -/
def Fns (X : Cx) (F : Fx) (call : Nat → List D → Sto → RC) (G : Gl) (k : Nat) : Prop := ∀ f n, G.ar f = some n → ∃ fd ps, FnOk X.prog X.w X.K X.mg X.base (L2N.CX X.prog X.w) k (F.ga f) fd ps (spOf F call f n) ∧ Binds X.K fd ps [] ∧ PySem.W.keepIn X.K (.ref (F.ga f)) = true
theorem rd_call {k f n : Nat} {cs : List C} {x : Str} {p : Pos} {e : Expr} {es : List Expr} (fs : Fns X F call G k) (hf : G.ar f = some n) (hr : Room k X.A) (tk : L2N.Takes X W) (hg : L2.Gl X x) (hm : X.mg x = some (.ref (F.ga f))) (hd : (x == ("__debug__" : Str)) = false)
    (hn : ∀ f ds st, call f ds st ≠ .no → G.ar f = some ds.length) (hs : noStar e = true) (hss : es.all noStar = true) (ha : PA X (e :: es) (RdL F G call W false cs)) : PE X (.Call (.Name x p) (e :: es) [] pos) (RdE F G call W bw (.call f cs)) := by
  obtain ⟨fd, ps, fo, hb, hk⟩ := fs f n hf
  refine (pe_callSD (dvs := []) (ds := []) (E := WE W) fo hr hg hm hk hb .nil (L2N.passAt tk) ha hd (star_cons hs _) (star_none hss _ _)).imp fun σ H Q ⟨Uo, m, env, st, S, q⟩ => ?_
  rw [ev] at q
  refine ⟨Uo, m, env, st, S, bindL closedE q fun vs ds m1 env1 st1 H1 p1 S1 r1 _ q1 => ?_⟩
  show spOf F call f n (vs ++ []) H1 Q (WE W σ)
  rw [List.append_nil]
  refine sp_call S1 (r1 rfl) (Option.some.inj ((hn f ds st1 fun z => ?_).symm.trans hf)) q1
  have q1 : PostE F Uo env1 σ m1 st1.length H1 W bw Q (ofCall (call f ds st1) env1) := q1
  rw [z] at q1
  exact q1
theorem _root_.L2.PE.anyOf {ι : Type} {P : ι → Prop} {e : Expr} {t : ι → TE} (h : ∀ i, P i → PE X e (t i)) : PE X e (fun σ H Q => ∃ i, P i ∧ t i σ H Q) := ⟨fun pins s σ H Q I ⟨i, hi, q⟩ => (h i hi).run pins s σ H Q I q⟩
/-- a call of a local name, at the caller's slots -/
theorem pe_callLS {CX : CXT} {k i : Nat} {f : Addr} {fd : FuncData} {ps : List Str} {sp : Sp} {E : SL → XK} {x : Str} {p : Pos} {e : Expr} {es : List Expr} {t : TA} (fo : FnOk X.prog X.w X.K X.mg X.base CX k f fd ps sp) (hr : Room k X.A) (hN : X.N[i]? = some x) (hv : Vis X.env.scope x) (hk : PySem.W.keepIn X.K (.ref f) = true) (hb : Binds X.K fd ps [])
    (hx : ∀ σ, PassesAt CX X σ (E σ)) (ha : PA X (e :: es) t) (hdb : (x == ("__debug__" : Str)) = false) (hcd : (x == ("__classdict__" : Str)) = false) (he : starEach (e :: es) X.env = (false, eval e X.env) :: starEach es X.env) (hpl : (backTo pos (starEach es X.env)).any (·.1) = false) :
    PE X (.Call (.Name x p) (e :: es) [] pos) (fun σ H Q => σ[i]? = some (some (.ref f)) ∧ t σ H fun vs H1 => sp (vs ++ []) H1 Q (E σ)) := by
  refine ⟨fun pins s σ H Q I ⟨hs, ht⟩ => ?_⟩
  refine wpAny_Call_Name_kw (thn ((pe_var (pos := p) hN hv hdb hcd).run pins s σ H (fun v H1 => v = .ref f ∧ H1 = H) I ⟨.ref f, hs, rfl, rfl⟩) fun u s1 ⟨v, H1, I1, r1, q1⟩ => ?_)
  obtain ⟨rfl, rfl⟩ := q1
  cases r1
  refine PySem.W.callWith_K (h₀ := X.base) I.ok.mod.kin hk (thn (ha.run pos pins s1 σ _ _ I1 ht) fun us s2 ⟨vs, H2, I2, r, q⟩ => ⟨I2.kIn, ?_⟩) he hpl
  exact run_fnSD (dvs := []) (ds := []) fo hr hb .nil (hx σ) I2 r q
theorem rd_cv {k i : Nat} {cs : List C} {x : Str} {p : Pos} {e : Expr} {es : List Expr} (fs : Fns X F call G k) (hr : Room k X.A) (tk : L2N.Takes X W) (hN : X.N[i]? = some x) (hv : Vis X.env.scope x) (hd : (x == ("__debug__" : Str)) = false) (hcd : (x == ("__classdict__" : Str)) = false)
    (hn : ∀ f ds st, call f ds st ≠ .no → G.ar f = some ds.length) (hs : noStar e = true) (hss : es.all noStar = true) (ha : PA X (e :: es) (RdL F G call W false cs)) : PE X (.Call (.Name x p) (e :: es) [] pos) (RdE F G call W bw (.cv i cs)) := by
  refine (PE.anyOf (P := fun fn : Nat × Nat => G.ar fn.1 = some fn.2) (t := fun fn σ H Q => σ[i]? = some (some (.ref (F.ga fn.1))) ∧ RdL F G call W false cs σ H fun vs H1 => spOf F call fn.1 fn.2 (vs ++ []) H1 Q (WE W σ)) fun fn hf => ?_).imp fun σ H Q ⟨Uo, m, env, st, S, q⟩ => ?_
  · obtain ⟨fd, ps, fo, hb, hk⟩ := fs fn.1 fn.2 hf
    exact pe_callLS (E := WE W) fo hr hN hv hk hb (L2N.passAt tk) ha hd hcd (star_cons hs _) (star_none hss _ _)
  · rw [ev] at q
    split at q
    · rename_i f o e
      have e := getS_some e
      have hv : σ[i]? = some (some (.ref (F.ga f))) := by
        cases o with
        | true => obtain ⟨_, _, _, z, _⟩ := S.own i _ e; cases z
        | false => obtain ⟨v, h1, rfl⟩ := S.val i _ e; exact h1
      cases ha : G.ar f with
      | none => rw [ha] at q; exact q.elim
      | some n =>
        rw [ha, if_pos (show (some n).isSome = true from rfl)] at q
        refine ⟨(f, n), ha, hv, Uo, m, env, st, S, bindL closedE q fun vs ds m1 env1 st1 H1 p1 S1 r1 _ q1 => ?_⟩
        show spOf F call f n (vs ++ []) H1 Q (WE W σ)
        rw [List.append_nil]
        refine sp_call S1 (r1 rfl) (Option.some.inj ((hn f ds st1 fun z => ?_).symm.trans ha)) q1
        have q1 : PostE F Uo env1 σ m1 st1.length H1 W bw Q (ofCall (call f ds st1) env1) := q1
        rw [z] at q1
        exact q1
    · exact q.elim
end

section
variable {X : Cx} {F : Fx} {G : Gl} {call : Nat → List D → Sto → RC} {W : WX} {bw : Bool} {pos : Pos}
/-! ### a new list of the store -/
theorem rd_mk {a : C} {e : Expr} (ha : PE X e (RdE F G call W false a)) : PE X e (RdE F G call W bw (.mk a)) := ha.imp fun σ H Q ⟨Uo, m, env, st, S, q⟩ => by
  rw [ev] at q
  refine ⟨Uo, m, env, st, S, ?_⟩
  revert q
  generalize ev G call false a env st = r
  intro q
  rcases r with _ | ⟨⟨d, o⟩, env1, st1⟩ | ⟨c, x, env', st'⟩
  · exact q.elim
  rotate_left
  · exact q
  intro v m1 H1 p1 S1 r1
  cases o with
  | false => cases d <;> exact q.elim
  | true =>
    obtain ⟨a, xs, vs, rfl, rfl, h3, h4, h5⟩ := r1.1 rfl
    have q1 : PostE F Uo env σ m st.length H W bw Q (.ok (.ref st1.length, false) env1 (st1 ++ [.lst xs])) := q
    dsimp only at S1 h4
    -- the new place
    have hT : Plus Uo (Tmp true (V.ref a)) a := .inr ⟨rfl, rfl⟩
    have ha : H1 a ≠ none := by rw [h3]; simp
    have nSto : ¬ StoAt m1 st1.length a := fun z => S1.usto a z hT
    have nOwn : ¬ OwnAt env1 σ a := fun z => (S1.osto a z).1 hT
    have nUo : ¬ Uo a := fun z => S.uH a z h5
    generalize hm : (fun l => if l = st1.length then a else m1 l) = m2
    have e1 : ∀ l, l < st1.length → m2 l = m1 l := fun l hl => by rw [← hm]; exact if_neg (Nat.ne_of_lt hl)
    have e2 : m2 st1.length = a := by rw [← hm]; exact if_pos rfl
    have hlen : (st1 ++ [Ob.lst xs]).length = st1.length + 1 := by rw [List.length_append]; rfl
    have sto : ∀ b, StoAt m2 (st1.length + 1) b ↔ StoAt m1 st1.length b ∨ b = a := fun b => by
      constructor
      · rintro ⟨l, hl, e⟩
        by_cases z : l = st1.length
        · rw [z, e2] at e; exact .inr e.symm
        · exact .inl ⟨l, by omega, by rw [← e1 l (by omega)]; exact e⟩
      · rintro (⟨l, hl, e⟩ | rfl)
        · exact ⟨l, by omega, by rw [e1 l hl]; exact e⟩
        · exact ⟨_, Nat.lt_succ_self _, e2⟩
    have M : Mov (MuOf (Plus Uo (Tmp true (V.ref a))) env1 σ m1 st1.length) (MuOf Uo env1 σ m2 (st1.length + 1)) m1 m2 st1.length (st1.length + 1) H1 H1 :=
      ⟨Nat.le_succ _, e1, fun _ _ e _ => e, fun b z => .inl (by
        rcases z with z | z | z
        · exact .inl (.inl z)
        · exact .inr (.inl z)
        · rcases (sto b).mp z with z | rfl
          · exact .inr (.inr z)
          · exact .inl hT)⟩
    have S2 : Sim F Uo m2 env1 σ (st1 ++ [.lst xs]) H1 := by
      refine { len := S1.len, inj := fun i j hi hj e => ?_, obj := fun l ys e => ?_, noD := fun l ks vs e => ?_, val := fun i d e => ?_, own := fun i d e => ?_, sep := S1.sep, osto := fun b hb => ⟨fun z => (S1.osto b hb).1 (.inl z), fun z => ?_⟩, usto := fun b hb z => ?_, uH := fun b z => S1.uH b (.inl z), tab := S1.tab }
      · rw [hlen] at hi hj
        by_cases zi : i = st1.length <;> by_cases zj : j = st1.length
        · rw [zi, zj]
        · subst zi
          rw [e2, e1 j (by omega)] at e
          exact absurd ⟨j, by omega, e.symm⟩ nSto
        · subst zj
          rw [e2, e1 i (by omega)] at e
          exact absurd ⟨i, by omega, e⟩ nSto
        · rw [e1 i (by omega), e1 j (by omega)] at e
          exact S1.inj i j (by omega) (by omega) e
      · rw [hlen]
        by_cases z : l < st1.length
        · rw [List.getElem?_append_left z] at e
          obtain ⟨ws, k1, k2⟩ := S1.obj l ys e
          exact ⟨ws, by rw [e1 l z]; exact k1, Reps.mov M k2⟩
        · rw [List.getElem?_append_right (by omega)] at e
          have z2 : l = st1.length := by
            by_cases z3 : l - st1.length = 0
            · omega
            · rw [List.getElem?_eq_none (by simp; omega)] at e; cases e
          subst z2
          simp at e
          subst e
          exact ⟨vs, by rw [e2]; exact h3, Reps.mov M h4⟩
      · by_cases z : l < st1.length
        · rw [List.getElem?_append_left z] at e; exact S1.noD l ks vs e
        · rw [List.getElem?_append_right (by omega)] at e
          by_cases z3 : l - st1.length = 0
          · rw [z3] at e; cases e
          · rw [List.getElem?_eq_none (by simp; omega)] at e; cases e
      · obtain ⟨v, k1, k2⟩ := S1.val i d e
        rw [hlen]
        exact ⟨v, k1, Rep.mov M k2⟩
      · obtain ⟨b, ys, ws, k1, k2, k3, k4⟩ := S1.own i d e
        rw [hlen]
        exact ⟨b, ys, ws, k1, k2, k3, Reps.mov M k4⟩
      · rw [hlen] at z
        rcases (sto b).mp z with z | rfl
        · exact (S1.osto b hb).2 z
        · exact nOwn hb
      · rw [hlen] at hb
        rcases (sto b).mp hb with hb | rfl
        · exact S1.usto b hb (.inl z)
        · exact nUo z
    refine q1 (.ref a) m2 H1 ⟨by rw [hlen]; exact Nat.le_succ_of_le p1.hn, fun l hl => (e1 l (Nat.lt_of_lt_of_le hl p1.hn)).trans (p1.hm l hl), fun l hl hl2 => ?_, p1.fr, p1.th, p1.own⟩ S2.plusF ⟨fun e => absurd e (by simp), fun _ _ => ?_, fun _ _ => ?_⟩
    · rw [hlen] at hl2
      by_cases z : l = st1.length
      · rw [z, e2]; exact h5
      · rw [e1 l (by omega)]; exact p1.new l hl (by omega)
    · exact ⟨by rw [hlen]; exact Nat.lt_succ_self _, by rw [e2]⟩
    · exact ⟨by rw [hlen]; exact Nat.lt_succ_self _, by rw [e2]⟩
end
end Pi

set_option maxRecDepth 100000
set_option maxHeartbeats 1000000
/-! PiM: slots set, cleared, restored; comprehensions. -/
namespace Pi
open PySem PySem.Spec L2

/-! ### lists of slots -/
theorem wipe_get {σ : SL} : ∀ {is : List Nat} {j : Nat}, (wipe σ is)[j]? = if j ∈ is ∧ j < σ.length then some none else σ[j]?
  | [], j => by simp [wipe]
  | i :: is, j => by
    unfold wipe
    rw [List.getElem?_set, wipe_length, wipe_get]
    by_cases h : i = j
    · subst h
      rw [if_pos rfl]
      by_cases hl : i < σ.length
      · simp [hl]
      · simp [hl]
    · rw [if_neg h]
      have e : (j ∈ i :: is) ↔ (j ∈ is) := by simp [Ne.symm h]
      simp only [e]
theorem clear_length {env : Env} : ∀ {is : List Nat}, (clear env is).length = env.length
  | [] => rfl
  | i :: is => by unfold clear; rw [List.length_set, clear_length]
theorem clear_get {env : Env} : ∀ {is : List Nat} {j : Nat}, (clear env is)[j]? = if j ∈ is ∧ j < env.length then some none else env[j]?
  | [], j => by simp [clear]
  | i :: is, j => by
    unfold clear
    rw [List.getElem?_set, clear_length, clear_get]
    by_cases h : i = j
    · subst h
      rw [if_pos rfl]
      by_cases hl : i < env.length
      · simp [hl]
      · simp [hl]
    · rw [if_neg h]
      have e : (j ∈ i :: is) ↔ (j ∈ is) := by simp [Ne.symm h]
      simp only [e]
theorem restore_length {old env : Env} : ∀ {is : List Nat}, (restore old env is).length = env.length
  | [] => rfl
  | i :: is => by unfold restore; rw [List.length_set, restore_length]
theorem restore_get {old env : Env} (hl : old.length = env.length) : ∀ {is : List Nat} {j : Nat}, (restore old env is)[j]? = if j ∈ is then old[j]? else env[j]?
  | [], j => by simp [restore]
  | i :: is, j => by
    unfold restore
    rw [List.getElem?_set, restore_length, restore_get hl]
    by_cases h : i = j
    · subst h
      rw [if_pos rfl, if_pos (show i ∈ i :: is from List.mem_cons_self)]
      by_cases hl' : i < env.length
      · rw [if_pos hl', List.getElem?_eq_getElem (by omega)]
      · rw [if_neg hl', List.getElem?_eq_none (by omega)]
    · rw [if_neg h]
      have e : (j ∈ i :: is) ↔ (j ∈ is) := by simp [Ne.symm h]
      simp only [e]
theorem wipe_wipe {σ : SL} {is : List Nat} : wipe (wipe σ is) is = wipe σ is := by
  refine List.ext_getElem? fun j => ?_
  rw [wipe_get, wipe_get, wipe_length]
  split <;> rfl
theorem wipe_set {σ : SL} {is : List Nat} {i : Nat} {x : Option V} (h : i ∈ is) : wipe (σ.set i x) is = wipe σ is := by
  refine List.ext_getElem? fun j => ?_
  rw [wipe_get, wipe_get, List.length_set]
  by_cases hj : j ∈ is ∧ j < σ.length
  · rw [if_pos hj, if_pos hj]
  · rw [if_neg hj, if_neg hj, List.getElem?_set]
    split
    · rename_i e
      subst e
      split
      · rename_i hl; exact absurd ⟨h, hl⟩ hj
      · rename_i hl; rw [List.getElem?_eq_none (by omega)]
    · rfl
theorem set_get {α : Type} {xs : List α} {i j : Nat} {x y : α} (h : (xs.set i x)[j]? = some y) : (j = i ∧ y = x) ∨ (j ≠ i ∧ xs[j]? = some y) := by
  rw [List.getElem?_set] at h
  split at h
  · rename_i e
    split at h
    · cases h; exact .inl ⟨e.symm, rfl⟩
    · cases h
  · rename_i e; exact .inr ⟨fun z => e z.symm, h⟩

section
variable {F : Fx} {Uo : Addr → Prop} {env : Env} {σ : SL} {m : Nat → Addr} {n : Nat} {H : Hp} {st : Sto}
/-! ### a slot set to what is kept -/
theorem own_set {i : Nat} {s : Slot} {x : Option V} (hs : ∀ d, s ≠ some (d, true)) {b : Addr} (h : OwnAt (env.set i s) (σ.set i x) b) : ∃ j d, j ≠ i ∧ env[j]? = some (some (d, true)) ∧ σ[j]? = some (some (V.ref b)) := by
  obtain ⟨j, d, h1, h2⟩ := h
  rcases set_get h1 with ⟨rfl, e⟩ | ⟨hne, h1⟩
  · exact absurd e.symm (hs d)
  · rcases set_get h2 with ⟨rfl, _⟩ | ⟨_, h2⟩
    · exact absurd rfl hne
    · exact ⟨j, d, hne, h1, h2⟩
theorem own_set' {i : Nat} {s : Slot} {x : Option V} (hs : ∀ d, s ≠ some (d, true)) {b : Addr} (h : OwnAt (env.set i s) (σ.set i x) b) : OwnAt env σ b := let ⟨j, d, _, h1, h2⟩ := own_set hs h; ⟨j, d, h1, h2⟩
theorem mu_set {i : Nat} {s : Slot} {x : Option V} (hs : ∀ d, s ≠ some (d, true)) {b : Addr} (h : MuOf Uo (env.set i s) (σ.set i x) m n b) : MuOf Uo env σ m n b := h.imp id fun h => h.imp (own_set' hs) id
theorem sim_setS {i : Nat} {s : Slot} {x : Option V} (S : Sim F Uo m env σ st H) (hs : ∀ d, s ≠ some (d, true)) (hx : ∀ d, s = some (d, false) → ∃ v, x = some v ∧ Rep F (MuOf Uo env σ m st.length) m st.length H v d) : Sim F Uo m (env.set i s) (σ.set i x) st H := by
  have L : Mov (MuOf Uo env σ m st.length) (MuOf Uo (env.set i s) (σ.set i x) m st.length) m m st.length st.length H H := Mov.less fun _ z => mu_set hs z
  have get : ∀ j q, (env.set i s)[j]? = some (some q) → (j = i ∧ s = some q) ∨ (j ≠ i ∧ env[j]? = some (some q)) := fun j q h => (set_get h).imp (fun z => ⟨z.1, z.2.symm⟩) id
  have len := S.len
  exact {
    len := by rw [List.length_set, List.length_set]; exact S.len
    inj := S.inj
    obj := fun l ys q => let ⟨vs, h1, h2⟩ := S.obj l ys q; ⟨vs, h1, Reps.mov L h2⟩
    noD := S.noD
    val := fun j d q => by
      rcases get j _ q with ⟨rfl, z⟩ | ⟨hne, z⟩
      · obtain ⟨v, rfl, r⟩ := hx d z
        have hl : j < σ.length := by
          rw [← len]
          rw [List.getElem?_set] at q
          rw [if_pos rfl] at q
          by_cases hl : j < env.length
          · exact hl
          · rw [if_neg hl] at q; cases q
        exact ⟨v, List.getElem?_set_self hl, Rep.mov L r⟩
      · obtain ⟨v, h1, h2⟩ := S.val j d z
        exact ⟨v, by rw [List.getElem?_set_ne (Ne.symm hne)]; exact h1, Rep.mov L h2⟩
    own := fun j d q => by
      rcases get j _ q with ⟨rfl, z⟩ | ⟨hne, z⟩
      · exact absurd z (hs d)
      · obtain ⟨a, ys, ws, h1, h2, h3, h4⟩ := S.own j d z
        exact ⟨a, ys, ws, h1, by rw [List.getElem?_set_ne (Ne.symm hne)]; exact h2, h3, Reps.mov L h4⟩
    sep := fun j k b d e h1 h2 h3 h4 => by
      rcases get j _ h1 with ⟨rfl, z⟩ | ⟨hne, z⟩
      · exact absurd z (hs d)
      · rcases get k _ h2 with ⟨rfl, z'⟩ | ⟨hne', z'⟩
        · exact absurd z' (hs e)
        · rw [List.getElem?_set_ne (Ne.symm hne)] at h3
          rw [List.getElem?_set_ne (Ne.symm hne')] at h4
          exact S.sep j k b _ _ z z' h3 h4
    osto := fun b hb => S.osto b (own_set' hs hb)
    usto := S.usto
    uH := S.uH
    tab := S.tab }
theorem sim_set {i : Nat} {v : V} {d : D} (S : Sim F Uo m env σ st H) (r : Rep F (MuOf Uo env σ m st.length) m st.length H v d) : Sim F Uo m (env.set i (some (d, false))) (σ.set i (some v)) st H :=
  sim_setS S (fun _ z => by cases z) fun d' z => ⟨v, rfl, by cases z; exact r⟩
/-- several slots -/
def envs (is : List Nat) (ds : List D) (env : Env) : Env := (is.zip ds).foldl (fun e q => e.set q.1 (some (q.2, false))) env
def slots (is : List Nat) (vs : List V) (σ : SL) : SL := (is.zip vs).foldl (fun e q => e.set q.1 (some q.2)) σ
theorem sim_sets : ∀ {is : List Nat} {vs : List V} {ds : List D} {env : Env} {σ : SL}, Sim F Uo m env σ st H → Reps F (MuOf Uo env σ m st.length) m st.length H vs ds → Sim F Uo m (envs is ds env) (slots is vs σ) st H ∧ ∀ b, OwnAt (envs is ds env) (slots is vs σ) b → OwnAt env σ b
  | [], _, _, _, _, S, _ => ⟨S, fun _ h => h⟩
  | _ :: _, [], [], _, _, S, _ => ⟨S, fun _ h => h⟩
  | i :: is, v :: vs, d :: ds, env, σ, S, r => by
    have S1 := sim_set (i := i) S r.1
    obtain ⟨S2, k⟩ := sim_sets (is := is) S1 (Reps.mov (Mov.less fun _ z => mu_set (fun _ z => by cases z) z) r.2)
    exact ⟨S2, fun b h => own_set' (fun _ z => by cases z) (k b h)⟩
  | _ :: _, [], _ :: _, _, _, _, r => r.elim
  | _ :: _, _ :: _, [], _, _, _, r => r.elim
theorem wipe_slots {js : List Nat} : ∀ {is : List Nat} {vs : List V} {σ : SL}, (∀ i ∈ is, i ∈ js) → wipe (slots is vs σ) js = wipe σ js
  | [], _, _, _ => rfl
  | _ :: _, [], _, _ => rfl
  | i :: is, v :: vs, σ, h => by
    show wipe (slots is vs (σ.set i (some v))) js = _
    rw [wipe_slots fun j hj => h j (List.mem_cons_of_mem _ hj), wipe_set (h i List.mem_cons_self)]
/-! ### targets -/
def tgs : List Nat → TGs
  | [] => gNil
  | i :: is => gCons (gName i) (tgs is)
def T.g (K : PySem.W.Frag) : T → TG
  | .n i => gName i
  | .t is => gTup K is.length (tgs is)
theorem tgs_run {Q : SL → Hp → Prop} : ∀ {is : List Nat} {vs : List V} {σ : SL}, is.length = vs.length → Q (slots is vs σ) H → tgs is vs σ H Q
  | [], [], _, _, h => ⟨rfl, h⟩
  | i :: is, v :: vs, σ, hl, h => ⟨v, vs, rfl, tgs_run (by simpa using hl) h⟩
  | [], _ :: _, _, hl, _ => by cases hl
  | _ :: _, [], _, hl, _ => by cases hl
/-- a target takes what is kept -/
theorem tg_set {t : T} {env2 : Env} {v : V} {d : D} {Q : SL → Hp → Prop} (S : Sim F Uo m env σ st H) (r : Rep F (MuOf Uo env σ m st.length) m st.length H v d) (h : setT t (d, false) env = some env2)
    (k : ∀ σ2, Sim F Uo m env2 σ2 st H → (∀ b, OwnAt env2 σ2 b → OwnAt env σ b) → wipe σ2 t.own = wipe σ t.own → Q σ2 H) : t.g F.K v σ H Q := by
  cases t with
  | n i =>
    have h : (if i < env.length then some (env.set i (some (d, false))) else none) = some env2 := h
    by_cases hc : i < env.length
    · rw [if_pos hc] at h
      obtain rfl := Option.some.inj h
      exact k _ (sim_set S r) (fun b hb => own_set' (fun _ z => by cases z) hb) (wipe_set List.mem_cons_self)
    · rw [if_neg hc] at h
      cases h
  | t is =>
    cases d with
    | tup xs =>
      obtain ⟨a, vs, rfl, hq, hr⟩ := r
      have h : (if is.length = xs.length ∧ ∀ i ∈ is, i < env.length then some (envs is xs env) else none) = some env2 := h
      by_cases hc : is.length = xs.length ∧ ∀ i ∈ is, i < env.length
      · rw [if_pos hc] at h
        obtain rfl := Option.some.inj h
        have hl := Reps.length hr
        obtain ⟨S2, k2⟩ := sim_sets (is := is) S hr
        exact ⟨a, vs, rfl, hq, by rw [hl]; exact hc.1.symm, tgs_run (by rw [hl]; exact hc.1) (k _ S2 k2 (wipe_slots fun i hi => hi))⟩
      · rw [if_neg hc] at h
        cases h
    | _ => cases h

/-! ### a block's own slots -/
/-- the own lists of the slots that are cleared -/
def Hid (env : Env) (σ : SL) (is : List Nat) (b : Addr) : Prop := ∃ i ∈ is, ∃ d, env[i]? = some (some (d, true)) ∧ σ[i]? = some (some (V.ref b))
theorem Hid.own {is : List Nat} {b : Addr} (h : Hid env σ is b) : OwnAt env σ b := let ⟨i, _, d, h1, h2⟩ := h; ⟨i, d, h1, h2⟩
theorem clear_some {is : List Nat} {j : Nat} {q : D × Bool} (h : (clear env is)[j]? = some (some q)) : j ∉ is ∧ env[j]? = some (some q) := by
  rw [clear_get] at h
  split at h
  · cases h
  · rename_i hn
    refine ⟨fun hj => hn ⟨hj, ?_⟩, h⟩
    by_cases hl : j < env.length
    · exact hl
    · rw [List.getElem?_eq_none (by omega)] at h; cases h
theorem wipe_out' {is : List Nat} {j : Nat} (h : j ∉ is) : (wipe σ is)[j]? = σ[j]? := by rw [wipe_get, if_neg (fun z => h z.1)]
theorem own_clear {is : List Nat} {b : Addr} (h : OwnAt (clear env is) (wipe σ is) b) : ∃ j d, j ∉ is ∧ env[j]? = some (some (d, true)) ∧ σ[j]? = some (some (V.ref b)) := by
  obtain ⟨j, d, h1, h2⟩ := h
  obtain ⟨hj, h1⟩ := clear_some h1
  rw [wipe_out' hj] at h2
  exact ⟨j, d, hj, h1, h2⟩
theorem own_clear' {is : List Nat} {b : Addr} (h : OwnAt (clear env is) (wipe σ is) b) : OwnAt env σ b := let ⟨j, d, _, h1, h2⟩ := own_clear h; ⟨j, d, h1, h2⟩
theorem mu_clear {is : List Nat} {b : Addr} (h : MuOf (Plus Uo (Hid env σ is)) (clear env is) (wipe σ is) m n b) : MuOf Uo env σ m n b := by
  rcases h with (h | h) | h | h
  · exact .inl h
  · exact .inr (.inl h.own)
  · exact .inr (.inl (own_clear' h))
  · exact .inr (.inr h)
theorem sim_clear {is : List Nat} (S : Sim F Uo m env σ st H) : Sim F (Plus Uo (Hid env σ is)) m (clear env is) (wipe σ is) st H := by
  have L : Mov (MuOf Uo env σ m st.length) (MuOf (Plus Uo (Hid env σ is)) (clear env is) (wipe σ is) m st.length) m m st.length st.length H H := Mov.less fun _ z => mu_clear z
  exact {
    len := by rw [clear_length, wipe_length]; exact S.len
    inj := S.inj
    obj := fun l ys q => let ⟨vs, h1, h2⟩ := S.obj l ys q; ⟨vs, h1, Reps.mov L h2⟩
    noD := S.noD
    val := fun j d q => by
      obtain ⟨hj, q⟩ := clear_some q
      obtain ⟨v, h1, h2⟩ := S.val j d q
      exact ⟨v, by rw [wipe_out' hj]; exact h1, Rep.mov L h2⟩
    own := fun j d q => by
      obtain ⟨hj, q⟩ := clear_some q
      obtain ⟨a, ys, ws, h1, h2, h3, h4⟩ := S.own j d q
      exact ⟨a, ys, ws, h1, by rw [wipe_out' hj]; exact h2, h3, Reps.mov L h4⟩
    sep := fun j k b d e h1 h2 h3 h4 => by
      obtain ⟨hj, h1⟩ := clear_some h1
      obtain ⟨hk, h2⟩ := clear_some h2
      rw [wipe_out' hj] at h3
      rw [wipe_out' hk] at h4
      exact S.sep j k b _ _ h1 h2 h3 h4
    osto := fun b hb => by
      obtain ⟨j, d, hj, h1, h2⟩ := own_clear hb
      refine ⟨fun z => ?_, (S.osto b ⟨j, d, h1, h2⟩).2⟩
      rcases z with z | ⟨i, hi, e, h3, h4⟩
      · exact (S.osto b ⟨j, d, h1, h2⟩).1 z
      · exact hj (by rw [S.sep j i b _ _ h1 h3 h2 h4]; exact hi)
    usto := fun b hb z => z.elim (S.usto b hb) fun z => (S.osto b z.own).2 hb
    uH := fun b z => z.elim (S.uH b) fun z => S.ownH z.own
    tab := S.tab }
theorem step_clear {Ch : Addr → Prop} {is : List Nat} : Step Ch env σ m n H (clear env is) (wipe σ is) m n H := ⟨Nat.le_refl _, fun _ _ => rfl, fun l h1 h2 => absurd (Nat.lt_of_le_of_lt h1 h2) (Nat.lt_irrefl _), fun _ _ e _ _ => e, fun _ e => e, fun _ e => .inl (own_clear' e)⟩
/-- .. restored -/
theorem sim_restore {is : List Nat} {T : Addr → Prop} {m1 : Nat → Addr} {env1 : Env} {st1 : Sto} {H1 : Hp} (S : Sim F Uo m env σ st H) (p : Step noCh (clear env is) (wipe σ is) m st.length H env1 (wipe σ is) m1 st1.length H1)
    (S1 : Sim F (Plus (Plus Uo (Hid env σ is)) T) m1 env1 (wipe σ is) st1 H1) (fresh : ∀ a, T a → H a = none) : Sim F (Plus Uo T) m1 (restore env env1 is) σ st1 H1 ∧ Step noCh env σ m st.length H (restore env env1 is) σ m1 st1.length H1 ∧
      (∀ b, MuOf (Plus Uo T) (restore env env1 is) σ m1 st1.length b → MuOf (Plus (Plus Uo (Hid env σ is)) T) env1 (wipe σ is) m1 st1.length b) := by
  have hlen : env.length = env1.length := by rw [S.len, S1.len, wipe_length]
  have get : ∀ j q, (restore env env1 is)[j]? = some (some q) → (j ∈ is ∧ env[j]? = some (some q)) ∨ (j ∉ is ∧ env1[j]? = some (some q)) := fun j q h => by
    rw [restore_get hlen] at h
    split at h
    · rename_i hj; exact .inl ⟨hj, h⟩
    · rename_i hj; exact .inr ⟨hj, h⟩
  have own : ∀ b, OwnAt (restore env env1 is) σ b → Hid env σ is b ∨ OwnAt env1 (wipe σ is) b := fun b ⟨j, d, h1, h2⟩ => by
    rcases get j _ h1 with ⟨hj, h1⟩ | ⟨hj, h1⟩
    · exact .inl ⟨j, hj, d, h1, h2⟩
    · exact .inr ⟨j, d, h1, by rw [wipe_out' hj]; exact h2⟩
  have mu : ∀ b, MuOf (Plus Uo T) (restore env env1 is) σ m1 st1.length b → MuOf (Plus (Plus Uo (Hid env σ is)) T) env1 (wipe σ is) m1 st1.length b := fun b z => by
    rcases z with (z | z) | z | z
    · exact .inl (.inl (.inl z))
    · exact .inl (.inr z)
    · exact (own b z).elim (fun z => .inl (.inl (.inr z))) fun z => .inr (.inl z)
    · exact .inr (.inr z)
  have L : Mov (MuOf (Plus (Plus Uo (Hid env σ is)) T) env1 (wipe σ is) m1 st1.length) (MuOf (Plus Uo T) (restore env env1 is) σ m1 st1.length) m1 m1 st1.length st1.length H1 H1 := Mov.less mu
  have q : Step noCh env σ m st.length H (restore env env1 is) σ m1 st1.length H1 := ⟨p.hn, p.hm, p.new, p.fr, p.th, fun b z => (own b z).elim (fun z => .inl z.own) fun z => (p.own b z).imp own_clear' id⟩
  have M := q.movE S
  have M2 : Mov (MuOf Uo env σ m st.length) (MuOf (Plus Uo T) (restore env env1 is) σ m1 st1.length) m m1 st.length st1.length H H1 := ⟨M.hn, M.hm, M.kp, fun a z => (mu_plus z).elim (fun z => .inr (fresh a z)) (M.mu a)⟩
  refine ⟨?_, q, mu⟩
  exact {
    len := by rw [restore_length, ← hlen]; exact S.len
    inj := S1.inj
    obj := fun l ys e => let ⟨vs, h1, h2⟩ := S1.obj l ys e; ⟨vs, h1, Reps.mov L h2⟩
    noD := S1.noD
    val := fun j d e => by
      rcases get j _ e with ⟨hj, e⟩ | ⟨hj, e⟩
      · obtain ⟨v, h1, h2⟩ := S.val j d e
        exact ⟨v, h1, Rep.mov M2 h2⟩
      · obtain ⟨v, h1, h2⟩ := S1.val j d e
        rw [wipe_out' hj] at h1
        exact ⟨v, h1, Rep.mov L h2⟩
    own := fun j d e => by
      rcases get j _ e with ⟨hj, e⟩ | ⟨hj, e⟩
      · obtain ⟨a, ys, ws, rfl, h2, h3, h4⟩ := S.own j d e
        exact ⟨a, ys, ws, rfl, h2, p.fr a _ h3 (fun z => z) (.inr ⟨fun z => z, (S.osto a ⟨j, _, e, h2⟩).2⟩), Reps.mov M2 h4⟩
      · obtain ⟨a, ys, ws, rfl, h2, h3, h4⟩ := S1.own j d e
        rw [wipe_out' hj] at h2
        exact ⟨a, ys, ws, rfl, h2, h3, Reps.mov L h4⟩
    sep := fun j k b d e h1 h2 h3 h4 => by
      rcases get j _ h1 with ⟨hj, h1⟩ | ⟨hj, h1⟩ <;> rcases get k _ h2 with ⟨hk, h2⟩ | ⟨hk, h2⟩
      · exact S.sep j k b _ _ h1 h2 h3 h4
      · exact absurd (.inl (.inr ⟨j, hj, d, h1, h3⟩)) (S1.osto b ⟨k, e, h2, by rw [wipe_out' hk]; exact h4⟩).1
      · exact absurd (.inl (.inr ⟨k, hk, e, h2, h4⟩)) (S1.osto b ⟨j, d, h1, by rw [wipe_out' hj]; exact h3⟩).1
      · exact S1.sep j k b _ _ h1 h2 (by rw [wipe_out' hj]; exact h3) (by rw [wipe_out' hk]; exact h4)
    osto := fun b hb => by
      rcases own b hb with z | z
      · refine ⟨fun y => ?_, fun y => ?_⟩
        · rcases y with y | y
          · exact (S.osto b z.own).1 y
          · exact S.ownH z.own (fresh b y)
        · exact (StoAt.back p.hm p.new y).elim (S.osto b z.own).2 (S.ownH z.own)
      · exact ⟨fun y => (S1.osto b z).1 (y.imp .inl id), (S1.osto b z).2⟩
    usto := fun b hb z => S1.usto b hb (z.imp .inl id)
    uH := fun b z => S1.uH b (z.imp .inl id)
    tab := S1.tab }
end
end Pi

set_option maxRecDepth 100000
set_option maxHeartbeats 1000000
/-! PiN: what is walked; comprehensions. -/
namespace Pi
open PySem PySem.Spec L2

def PostI (F : Fx) (Uo : Addr → Prop) (env : Env) (σ : SL) (m : Nat → Addr) (n : Nat) (H : Hp) (W : WX) (R0 : It → Hp → Prop) : R (D × Bool) → Prop
  | .no => False
  | .ok p env' st' => ∃ xs, items p.1 = some xs ∧ ∀ J m' H', Step noCh env σ m n H env' σ m' st'.length H' → Sim F Uo m' env' σ st' H' → Itv F (MuOf Uo env' σ m' st'.length) m' st'.length H' J xs → R0 J H'
  | .ex c x env' st' => PostX F Uo env σ m n H W c x env' st'
def RdI (F : Fx) (G : Gl) (call : Nat → List D → Sto → RC) (W : WX) (c : C) : TI := fun σ H R0 => ∃ Uo m env st, Sim F Uo m env σ st H ∧ PostI F Uo env σ m st.length H W R0 (ev G call false c env st)
theorem closedI {F : Fx} {Uo : Addr → Prop} {σ : SL} {W : WX} {R0 : It → Hp → Prop} : Closed F Uo σ W fun env m n H r => PostI F Uo env σ m n H W R0 r where
  no := fun _ _ _ _ h => h
  ex := fun _ _ _ _ _ _ _ _ h => h
  step := fun env m n H env1 m1 n1 H1 r p h => by
    cases r with
    | no => exact h
    | ex c x env' st' => exact PostX.step p h
    | ok a env' st' =>
      obtain ⟨xs, e, k⟩ := h
      exact ⟨xs, e, fun J m' H' q S i => k J m' H' (p.transE q) S i⟩
theorem _root_.L2.PI.imp {X : Cx} {tg e : Expr} {t t' : TI} (h : PI X tg e t) (k : ∀ σ H R0, t' σ H R0 → t σ H R0) : PI X tg e t' := ⟨fun pins s σ H R0 I q => h.run pins s σ H R0 I (k _ _ _ q)⟩

section
variable {X : Cx} {F : Fx} {G : Gl} {call : Nat → List D → Sto → RC} {W : WX} {bw : Bool} {pos : Pos} {tg : Expr}
theorem sql_of {K : PySem.W.Frag} {H : Hp} {a : Addr} {vs : List V} (h : Rd H a (.lst vs)) : SqL K H a vs := .inl h
/-- a list or a tuple -/
theorem ri_seq {c : C} {e : Expr} (hK : X.K = F.K) (h : PE X e (RdE F G call W false c)) : PI X tg e (RdI F G call W c) := (pi_seq h).imp fun σ H R0 ⟨Uo, m, env, st, S, q⟩ => by
  refine ⟨Uo, m, env, st, S, ?_⟩
  revert q
  generalize ev G call false c env st = r
  intro q
  cases r with
  | no => exact q
  | ex c x env' st' => exact q
  | ok p env1 st1 =>
    obtain ⟨xs, e, k⟩ := q
    intro v m1 H1 p1 S1 r1
    have rep := r1.toRep S.uH S1
    obtain ⟨d, o⟩ := p
    cases d with
    | lst ys =>
      cases e
      obtain ⟨a, vs, rfl, hq, hm, hr⟩ := rep
      exact ⟨a, rfl, .inl ⟨⟨vs, .inl hq⟩, by rw [hK]; exact k _ m1 H1 p1 S1.base (.lst hq hm hr)⟩⟩
    | tup ys =>
      cases e
      obtain ⟨a, vs, rfl, hq, hr⟩ := rep
      exact ⟨a, rfl, .inr ⟨⟨vs, by rw [hK]; exact hq⟩, by rw [hK]; exact k _ m1 H1 p1 S1.base (.tup hq hr)⟩⟩
    | _ => cases e
theorem small_iff {i : Int} (h : small i = true) : -(2 ^ 62) ≤ i ∧ i < 2 ^ 62 := by
  unfold small at h
  rw [Bool.and_eq_true, decide_eq_true_eq, decide_eq_true_eq] at h
  exact h
theorem evs_len : ∀ {es : List C} {env env' : Env} {st st' : Sto} {ds : List D}, evs G call bw es env st = .ok ds env' st' → ds.length = es.length
  | [], env, env', st, st', ds, h => by
    rw [evs] at h
    cases h; rfl
  | e :: es, env, env', st, st', ds, h => by
    rw [evs] at h
    cases q : ev G call bw e env st with
    | no => rw [q] at h; cases h
    | ex c x e1 s1 => rw [q] at h; cases h
    | ok x e1 s1 =>
      rw [q] at h
      have h : (evs G call bw es e1 s1).bind (fun xs env st => .ok (x.1 :: xs) env st) = .ok ds env' st' := h
      cases q2 : evs G call bw es e1 s1 with
      | no => rw [q2] at h; cases h
      | ex c x e2 s2 => rw [q2] at h; cases h
      | ok xs e2 s2 =>
        rw [q2] at h
        have h : R.ok (x.1 :: xs) e2 s2 = .ok ds env' st' := h
        cases h
        rw [List.length_cons, List.length_cons, evs_len q2]
/-- arguments, then what is walked -/
theorem ri_args {cs : List C} {σ : SL} {H : Hp} {f : List D → Option D} {R0 : It → Hp → Prop} {Q : List V → Hp → Prop} {Uo : Addr → Prop} {m : Nat → Addr} {env : Env} {st : Sto} (S : Sim F Uo m env σ st H)
    (q : PostI F Uo env σ m st.length H W R0 ((evs G call true cs env st).bind fun ds env st => lift ((f ds).map fun d => (d, false)) env st))
    (k : ∀ ds vs xs m1 env1 st1 H1, ds.length = cs.length → Sim F Uo m1 env1 σ st1 H1 → RepBs F (MuOf Uo env1 σ m1 st1.length) m1 st1.length H1 vs ds → (∃ d, f ds = some d ∧ items d = some xs) → (∀ J, Itv F (MuOf Uo env1 σ m1 st1.length) m1 st1.length H1 J xs → R0 J H1) → Q vs H1) : RdL F G call W true cs σ H Q := by
  refine ⟨Uo, m, env, st, S, ?_⟩
  revert q
  cases hr : evs G call true cs env st with
  | no => exact fun q => q
  | ex c x env' st' => exact fun q => q
  | ok ds env1 st1 =>
    intro q vs m1 H1 p1 S1 _ rb
    have q : PostI F Uo env σ m st.length H W R0 (lift ((f ds).map fun d => (d, false)) env1 st1) := q
    cases hf : f ds with
    | none => rw [hf] at q; exact q.elim
    | some d =>
      rw [hf] at q
      obtain ⟨xs, e, z⟩ := q
      exact k ds vs xs m1 env1 st1 H1 (evs_len hr) S1 rb ⟨d, hf, e⟩ fun J i => z J m1 H1 p1 S1 i
theorem ri_rng1 {c : C} {e : Expr} {p : Pos} (hg : L2.Gl X "range") (hm : X.mg "range" = none) (hs : noStar e = true) (ha : PA X [e] (RdL F G call W true [c])) : PI X tg (.Call (.Name "range" p) [e] [] pos) (RdI F G call W (.rng [c])) :=
  (pi_range1 hg hm ha (star_cons hs _)).imp fun σ H R0 ⟨Uo, m, env, st, S, q⟩ => by
    rw [ev] at q
    refine ri_args S q fun ds vs xs m1 env1 st1 H1 hl S1 rb hx k => ?_
    obtain ⟨d, hd, hi⟩ := hx
    unfold rangeOf at hd
    split at hd
    · rename_i i
      split at hd
      · rename_i hb
        cases hd
        cases hi
        obtain ⟨v, rfl, rv⟩ := RepBs.one rb
        obtain rfl : v = .int i := rv
        obtain ⟨h1, h2⟩ := small_iff hb
        exact ⟨i, rfl, h1, h2, k _ .rng⟩
      · cases hd
    · cases hl
    · cases hd
theorem ri_rng2 {c c2 : C} {e e2 : Expr} {p : Pos} (hg : L2.Gl X "range") (hm : X.mg "range" = none) (hs : noStar e = true) (hs2 : noStar e2 = true) (ha : PA X [e, e2] (RdL F G call W true [c, c2])) : PI X tg (.Call (.Name "range" p) [e, e2] [] pos) (RdI F G call W (.rng [c, c2])) :=
  (pi_range2 hg hm ha (by rw [star_cons hs, star_cons hs2]; rfl) (star_cons hs2 _)).imp fun σ H R0 ⟨Uo, m, env, st, S, q⟩ => by
    rw [ev] at q
    refine ri_args S q fun ds vs xs m1 env1 st1 H1 hl S1 rb hx k => ?_
    obtain ⟨d, hd, hi⟩ := hx
    unfold rangeOf at hd
    split at hd
    · cases hl
    · rename_i i j
      split at hd
      · rename_i hb
        cases hd
        cases hi
        obtain ⟨v, w, rfl, rv, rw'⟩ := RepBs.two rb
        obtain rfl : v = .int i := rv
        obtain rfl : w = .int j := rw'
        rw [Bool.and_eq_true] at hb
        obtain ⟨h1, h2⟩ := small_iff hb.1
        obtain ⟨h3, h4⟩ := small_iff hb.2
        exact ⟨i, j, rfl, ⟨h1, h2, h3, h4⟩, k _ .rng⟩
      · cases hd
    · cases hd
theorem ri_enm {c : C} {e : Expr} {p tpos : Pos} {elts : List Expr} {kk : Nat} (hK : X.K = F.K) (hg : L2.Gl X "enumerate") (hm : X.mg "enumerate" = none) (hs : noStar e = true) (ha : PE X e (RdE F G call W false c)) : PI X (.Tuple elts kk tpos) (.Call (.Name "enumerate" p) [e] [] pos) (RdI F G call W (.enm c)) :=
  (pi_enumA hg hm (pa_cons ha pa_nil (star_cons hs _)) (star_cons hs _)).imp fun σ H R0 ⟨Uo, m, env, st, S, q⟩ => by
    rw [ev] at q
    refine ⟨Uo, m, env, st, S, bindE closedI q fun v d o m1 env1 st1 H1 p1 S1 r1 q1 => ?_⟩
    have rep := r1.toRep S.uH S1
    have q1 : PostI F Uo env1 σ m1 st1.length H1 W R0 (lift ((enumOf d).map fun d => (d, false)) env1 st1) := q1
    cases d with
    | lst ys =>
      obtain ⟨xs, e, k⟩ := q1
      cases e
      obtain ⟨a, vs, rfl, hq, hm, hr⟩ := rep
      exact ⟨a, rfl, .inl ⟨⟨vs, .inl hq⟩, by rw [hK]; exact k _ m1 H1 Step.refl S1.base (.enm hq hm hr)⟩⟩
    | tup ys =>
      obtain ⟨xs, e, k⟩ := q1
      cases e
      obtain ⟨a, vs, rfl, hq, hr⟩ := rep
      exact ⟨a, rfl, .inr ⟨⟨vs, by rw [hK]; exact hq⟩, by rw [hK]; exact k _ m1 H1 Step.refl S1.base (.enmT hq hr)⟩⟩
    | _ => exact q1.elim
theorem ri_zip {c c2 : C} {e e2 : Expr} {p tpos : Pos} {elts : List Expr} {kk : Nat} (hK : X.K = F.K) (hg : L2.Gl X "zip") (hm : X.mg "zip" = none) (hs : noStar e = true) (hs2 : noStar e2 = true) (ha : PE X e (RdE F G call W false c)) (hb : PE X e2 (RdE F G call W false c2)) : PI X (.Tuple elts kk tpos) (.Call (.Name "zip" p) [e, e2] [] pos) (RdI F G call W (.zp c c2)) :=
  (RZ.pi_zipA hg hm (pa_cons ha (pa_cons hb pa_nil (star_cons hs2 _)) (star_cons hs _)) (star_cons hs _) (star_none (es := [e2]) (by simp [hs2]) _ _)).imp fun σ H R0 ⟨Uo, m, env, st, S, q⟩ => by
    rw [ev] at q
    refine ⟨Uo, m, env, st, S, bindE closedI q fun v d o m1 env1 st1 H1 p1 S1 r1 q1 => ⟨Uo, m1, env1, st1, S1.base, bindE closedI q1 fun w d2 o2 m2 env2 st2 H2 p2 S2 r2 q2 => ?_⟩⟩
    have rep := Rep.mov (p2.movE S1.base) (r1.toRep S.uH S1)
    have rep2 := r2.toRep S1.base.uH S2
    have q2 : PostI F Uo env2 σ m2 st2.length H2 W R0 (lift ((zipOf d d2).map fun d => (d, false)) env2 st2) := q2
    cases d with
    | lst ys =>
      cases d2 with
      | lst zs =>
        obtain ⟨xs, e, k⟩ := q2
        cases e
        obtain ⟨a, vs, rfl, hq, hm, hr⟩ := rep
        obtain ⟨b, ws, rfl, hq2, hm2, hr2⟩ := rep2
        exact ⟨a, b, vs, ws, rfl, .inl ⟨.inl hq, .inl hq2, by rw [hK]; exact k _ m2 H2 Step.refl S2.base (.zip hq hm hr hq2 hm2 hr2)⟩⟩
      | _ => exact q2.elim
    | tup ys =>
      cases d2 with
      | tup zs =>
        obtain ⟨xs, e, k⟩ := q2
        cases e
        obtain ⟨a, vs, rfl, hq, hr⟩ := rep
        obtain ⟨b, ws, rfl, hq2, hr2⟩ := rep2
        exact ⟨a, b, vs, ws, rfl, .inr ⟨by rw [hK]; exact hq, by rw [hK]; exact hq2, by rw [hK]; exact k _ m2 H2 Step.refl S2.base (.zipT hq hr hq2 hr2)⟩⟩
      | _ => exact q2.elim
    | _ => cases d2 <;> exact q2.elim
end

/-! ### a list that others hold is changed -/
section
variable {F : Fx} {Uo : Addr → Prop} {env env0 : Env} {σ σ0 : SL} {m m0 : Nat → Addr} {n0 : Nat} {H H0 : Hp} {st : Sto}
theorem mov_at {Mu : Addr → Prop} {n : Nat} {D : Addr} {xs : List V} {u : HO} (hD : H D = some (.lst xs)) (hM : Mu D) : Mov Mu Mu m m n n H (upd H D u) :=
  ⟨Nat.le_refl _, fun _ _ => rfl, fun a o e h => by
    by_cases z : a = D
    · subst z
      rw [hD] at e
      cases e
      rcases h with h | ⟨_, h⟩
      · exact h.elim
      · exact absurd hM h
    · rw [upd_ne z]; exact e, fun _ z => .inl z⟩
theorem tabs_at {T : List (Addr × Str)} {D : Addr} {xs : List V} {u : HO} (t : LamX.Tabs T H) (hD : H D = some (.lst xs)) : LamX.Tabs T (upd H D u) := fun p hp => by
  obtain ⟨ps, h1, h2, h3⟩ := t p hp
  refine ⟨ps, ?_, h2, fun pos cv hc => ?_⟩
  · rw [upd_ne (fun z => by rw [z, hD] at h1; cases h1)]; exact h1
  · obtain ⟨c, e1, e2⟩ := h3 pos cv hc
    exact ⟨c, e1, by rw [upd_ne (fun z => by rw [z, hD] at e2; cases e2)]; exact e2⟩
theorem sim_at {D : Addr} {xs ys : List V} (S : Sim F Uo m env σ st H) (hD : H D = some (.lst xs)) (hU : Uo D) : Sim F Uo m env σ st (upd H D (.lst ys)) := by
  have M : Mov (MuOf Uo env σ m st.length) (MuOf Uo env σ m st.length) m m st.length st.length H (upd H D (.lst ys)) := mov_at hD (.inl hU)
  have nS : ∀ a, StoAt m st.length a → a ≠ D := fun a h z => S.usto a h (by rw [z]; exact hU)
  exact {
    len := S.len
    inj := S.inj
    obj := fun l zs e => by
      obtain ⟨vs, h1, h2⟩ := S.obj l zs e
      have hl : l < st.length := by
        by_cases hl : l < st.length
        · exact hl
        · rw [List.getElem?_eq_none (by omega)] at e; cases e
      exact ⟨vs, by rw [upd_ne (nS _ ⟨l, hl, rfl⟩)]; exact h1, Reps.mov M h2⟩
    noD := S.noD
    val := fun i d e => let ⟨v, h1, h2⟩ := S.val i d e; ⟨v, h1, Rep.mov M h2⟩
    own := fun i d e => by
      obtain ⟨a, zs, vs, h1, h2, h3, h4⟩ := S.own i d e
      exact ⟨a, zs, vs, h1, h2, by rw [upd_ne (fun z => (S.osto a ⟨i, d, e, h2⟩).1 (by rw [z]; exact hU))]; exact h3, Reps.mov M h4⟩
    sep := S.sep
    osto := S.osto
    usto := S.usto
    uH := fun a z => upd_th _ (S.uH a z)
    tab := tabs_at S.tab hD }
theorem step_at {D : Addr} {u : HO} (p : Step noCh env0 σ0 m0 n0 H0 env σ m st.length H) (h0 : H0 D = none) : Step noCh env0 σ0 m0 n0 H0 env σ m st.length (upd H D u) :=
  ⟨p.hn, p.hm, p.new, fun a o e ht k => by rw [upd_ne (ne_of_none e h0)]; exact p.fr a o e ht k, fun a e => upd_th _ (p.th a e), p.own⟩
end
end Pi

set_option maxRecDepth 100000
set_option maxHeartbeats 1000000
/-! PiO: comprehensions. -/
namespace Pi
open PySem PySem.Spec L2

/-- nothing is let out -/
abbrev W0 : WX := fun _ _ _ _ => False
section
variable {F : Fx} {G : Gl} {call : Nat → List D → Sto → RC} {W : WX} {bw : Bool}
def RdC (F : Fx) (G : Gl) (call : Nat → List D → Sto → RC) : Option C → TT
  | none => tYes
  | some c => RdT F G call W0 c
/-- one turn, as the interpreter does it -/
def lcStep (G : Gl) (call : Nat → List D → Sto → RC) (elt : C) (tg : T) (cond : Option C) : D → Env → Sto → R (Option D) := fun x env st => match setT tg (x, false) env with
  | none => .no
  | some env => match cond with
    | none => (ev G call false elt env st).calm.bind fun y env st => .ok (some y.1) (clear env tg.own) st
    | some c => (truth (ev G call true c env st)).calm.bind fun b env st => if b then (ev G call false elt env st).calm.bind fun y env st => .ok (some y.1) (clear env tg.own) st
      else .ok none (clear env tg.own) st
theorem calm_ok {α β : Type} {r : R α} {f : α → Env → Sto → R β} {b : β} {e : Env} {s : Sto} (h : r.calm.bind f = .ok b e s) : ∃ a e1 s1, r = .ok a e1 s1 ∧ f a e1 s1 = .ok b e s := by
  cases r with
  | no => cases h
  | ex c x e1 s1 => cases h
  | ok a e1 s1 => exact ⟨a, e1, s1, rfl, h⟩
theorem bind_ok {α β : Type} {r : R α} {f : α → Env → Sto → R β} {b : β} {e : Env} {s : Sto} (h : r.bind f = .ok b e s) : ∃ a e1 s1, r = .ok a e1 s1 ∧ f a e1 s1 = .ok b e s := by
  cases r with
  | no => cases h
  | ex c x e1 s1 => cases h
  | ok a e1 s1 => exact ⟨a, e1, s1, rfl, h⟩
theorem lcGo_calm {elt : C} {tg : T} {cond : Option C} : ∀ {xs : List D} {env : Env} {st : Sto} {c : Nat} {x : D} {e : Env} {s : Sto}, lcGo (lcStep G call elt tg cond) xs env st ≠ .ex c x e s
  | [], _, _, _, _, _, _, h => by cases h
  | y :: ys, env, st, c, x, e, s, h => by
    unfold lcGo at h
    have step : ∀ c x e s, lcStep G call elt tg cond y env st ≠ .ex c x e s := fun c x e s h => by
      unfold lcStep at h
      split at h
      · cases h
      · split at h
        · revert h
          generalize ev G call false elt _ st = r
          intro h
          cases r <;> cases h
        · revert h
          generalize truth (ev G call true _ _ st) = r
          intro h
          cases r with
          | no => cases h
          | ex _ _ _ _ => cases h
          | ok b e1 s1 =>
            cases b with
            | false => cases h
            | true =>
              have h : (ev G call false elt e1 s1).calm.bind (fun y env st => .ok (some y.1) (clear env tg.own) st) = .ex c x e s := h
              revert h
              generalize ev G call false elt e1 s1 = r
              intro h
              cases r <;> cases h
    cases q : lcStep G call elt tg cond y env st with
    | no => rw [q] at h; cases h
    | ex c x e s => exact step _ _ _ _ q
    | ok z e1 s1 =>
      rw [q] at h
      have h : (lcGo (lcStep G call elt tg cond) ys e1 s1).bind (fun ys env st => .ok (match z with | some y => y :: ys | none => ys) env st) = .ex c x e s := h
      cases q2 : lcGo (lcStep G call elt tg cond) ys e1 s1 with
      | no => rw [q2] at h; cases h
      | ex c x e s => exact lcGo_calm q2
      | ok _ _ _ => rw [q2] at h; cases h
theorem sim_more {Uo : Addr → Prop} {m : Nat → Addr} {env : Env} {σ : SL} {st : Sto} {H H' : Hp} (S : Sim F Uo m env σ st H) (h : More H H') : Sim F Uo m env σ st H' ∧ Step noCh env σ m st.length H env σ m st.length H' := by
  rcases h with rfl | ⟨p, u, hp, rfl⟩
  · exact ⟨S, Step.refl⟩
  · exact ⟨S.fresh hp, Step.fresh hp⟩
/-- an outcome that is fine, told of any wish -/
theorem post_ok {Uo : Addr → Prop} {env : Env} {σ : SL} {m : Nat → Addr} {n : Nat} {H : Hp} {Q : VK} {p : D × Bool} {e1 : Env} {s1 : Sto} {r : R (D × Bool)} (hr : r = .ok p e1 s1)
    (k : ∀ v m' H', Step noCh env σ m n H e1 σ m' s1.length H' → Sim F (Plus Uo (Tmp p.2 v)) m' e1 σ s1 H' → ValR F bw p.2 (MuOf (Plus Uo (Tmp p.2 v)) e1 σ m' s1.length) m' s1.length H H' v p.1 → Q v H') : PostE F Uo env σ m n H W bw Q r := by
  rw [hr]; exact k

theorem lc_dat {elt it : C} {tg : T} {cond : Option C} {σ : SL} {H : Hp} {Q : VK} (h : RdE F G call W bw (.lc elt tg it cond) σ H Q) :
    tLc (RdI F G call W it) (tg.g F.K) (RdC F G call cond) (RdE F G call W0 false elt) tg.own σ H Q := by
  obtain ⟨Uo, m, env, st, S, q⟩ := h
  rw [ev] at q
  refine ⟨Uo, m, env, st, S, ?_⟩
  revert q
  generalize ev G call false it env st = r
  intro q
  rcases r with _ | ⟨⟨d, o⟩, env1, st1⟩ | ⟨c, x, env', st'⟩
  · exact q.elim
  rotate_left
  · exact q
  have q : PostE F Uo env σ m st.length H W bw Q (match items d with
    | none => .no
    | some xs => (lcGo (lcStep G call elt tg cond) xs (clear env1 tg.own) st1).bind fun ys env2 st => if szOk xs.length then .ok (.lst ys, true) (restore env1 env2 tg.own) st else .no) := q
  cases hi : items d with
  | none => rw [hi] at q; exact q.elim
  | some xs =>
    rw [hi] at q
    have q : PostE F Uo env σ m st.length H W bw Q ((lcGo (lcStep G call elt tg cond) xs (clear env1 tg.own) st1).bind fun ys env2 st => if szOk xs.length then .ok (.lst ys, true) (restore env1 env2 tg.own) st else .no) := q
    refine ⟨xs, hi, fun J m1 H1 p1 S1 itv => ?_⟩
    intro L0 hD
    -- the whole walk
    cases hgo : lcGo (lcStep G call elt tg cond) xs (clear env1 tg.own) st1 with
    | no => rw [hgo] at q; exact q.elim
    | ex c x e s => exact absurd hgo lcGo_calm
    | ok ys env2 st2 =>
      rw [hgo] at q
      have q : PostE F Uo env σ m st.length H W bw Q (if szOk xs.length then .ok (.lst ys, true) (restore env1 env2 tg.own) st2 else .no) := q
      by_cases hz : szOk xs.length = true
      · rw [if_pos hz] at q
        have hz := szOk_le hz
        -- the state in which the walk begins
        have Sc := sim_clear (is := tg.own) S1
        generalize hU : Plus (Plus Uo (Hid env1 σ tg.own)) (Tmp true (V.ref L0)) = U0
        have SD : Sim F U0 m1 (clear env1 tg.own) (wipe σ tg.own) st1 (upd H1 L0 (.lst [])) := by rw [← hU]; exact Sc.plusT hD
        have uD : U0 L0 := by rw [← hU]; exact .inr ⟨rfl, rfl⟩
        have pD : Step noCh (clear env1 tg.own) (wipe σ tg.own) m1 st1.length H1 (clear env1 tg.own) (wipe σ tg.own) m1 st1.length (upd H1 L0 (.lst [])) := Step.fresh hD
        have mv : Mov (MuOf Uo env1 σ m1 st1.length) (MuOf U0 (clear env1 tg.own) (wipe σ tg.own) m1 st1.length) m1 m1 st1.length st1.length H1 (upd H1 L0 (.lst [])) :=
          ⟨Nat.le_refl _, fun _ _ => rfl, fun a o e _ => upd_keep hD a o e, fun a z => by
            rw [← hU] at z
            rcases mu_plus z with ⟨_, z⟩ | z
            · cases z; exact .inr hD
            · exact .inl (mu_clear z)⟩
        refine ⟨fun i k Hx => k = xs.length - i ∧ i ≤ xs.length ∧ ∃ mi envi sti zs acc rest, Step noCh (clear env1 tg.own) (wipe σ tg.own) m1 st1.length H1 envi (wipe σ tg.own) mi sti.length Hx ∧ Sim F U0 mi envi (wipe σ tg.own) sti Hx ∧
            Hx L0 = some (.lst zs) ∧ Reps F (MuOf U0 envi (wipe σ tg.own) mi sti.length) mi sti.length Hx zs acc ∧ Itv F (MuOf U0 envi (wipe σ tg.own) mi sti.length) mi sti.length Hx J xs ∧
            lcGo (lcStep G call elt tg cond) (xs.drop i) envi sti = .ok rest env2 st2 ∧ acc ++ rest = ys ∧ acc.length ≤ i,
          ⟨xs.length, by simp, Nat.zero_le _, m1, _, st1, [], [], ys, pD, SD, upd_same, trivial, itv.mov mv, hgo, rfl, Nat.le_refl _⟩, ?_⟩
        rintro i k Hx ⟨rfl, hi, mi, envi, sti, zs, acc, rest, px, Sx, hDx, ra, ix, go, cat, hl⟩
        by_cases hlt : i < xs.length
        · -- a turn
          refine .inr ⟨ix.go hlt, _, fun H' hn => ⟨xs.length - (i + 1), by omega, rfl, hlt, hn⟩, fun x H' hy => ?_⟩
          obtain ⟨d, hd, mo, rx⟩ := ix.yld hlt hy
          have hdrop : xs.drop i = d :: xs.drop (i + 1) := by
            rw [List.drop_eq_getElem_cons hlt]
            congr 1
            rw [List.getElem?_eq_getElem hlt] at hd
            exact Option.some.inj hd
          rw [hdrop] at go
          unfold lcGo at go
          obtain ⟨y, envj, stj, hstep, go⟩ := bind_ok go
          obtain ⟨rest', e3, s3, go2, fin⟩ := bind_ok go
          cases fin
          obtain ⟨S', pm⟩ := sim_more Sx mo
          have px' := px.transE pm
          have ra' := Reps.mov (pm.movE Sx) ra
          have ix' := ix.mov (pm.movE Sx)
          have nS : ∀ {m : Nat → Addr} {e : Env} {σ : SL} {s : Sto} {h : Hp}, Sim F U0 m e σ s h → ¬ StoAt m s.length L0 := fun S z => S.usto L0 z uD
          have hD' : H' L0 = some (.lst zs) := pm.fr L0 _ hDx (fun z => z) (.inr ⟨fun z => z, nS Sx⟩)
          unfold lcStep at hstep
          cases hset : setT tg (d, false) envi with
          | none => rw [hset] at hstep; cases hstep
          | some envs =>
            rw [hset] at hstep
            dsimp only at hstep
            refine tg_set S' rx hset fun σ2 S2 own2 hw => ?_
            rw [wipe_wipe] at hw
            refine ⟨hw, ?_⟩
            have ps : Step noCh envi (wipe σ tg.own) mi sti.length H' envs σ2 mi sti.length H' := ⟨Nat.le_refl _, fun _ _ => rfl, fun l h1 h2 => absurd (Nat.lt_of_le_of_lt h1 h2) (Nat.lt_irrefl _), fun _ _ e _ _ => e, fun _ e => e, fun b z => .inl (own2 b z)⟩
            have ra2 := Reps.mov (ps.movE S') ra'
            have ix2 := ix'.mov (ps.movE S')
            have px2 := px'.transE ps
            -- behind the turn
            have back : ∀ {e3 : Env} {s3 : Sto} {m3 : Nat → Addr} {H3 : Hp}, Step noCh (clear env1 tg.own) (wipe σ tg.own) m1 st1.length H1 e3 σ2 m3 s3.length H3 → Sim F U0 m3 e3 σ2 s3 H3 →
                Step noCh (clear env1 tg.own) (wipe σ tg.own) m1 st1.length H1 (clear e3 tg.own) (wipe σ tg.own) m3 s3.length H3 ∧ Sim F U0 m3 (clear e3 tg.own) (wipe σ tg.own) s3 H3 ∧
                (∀ b, MuOf U0 (clear e3 tg.own) (wipe σ tg.own) m3 s3.length b → MuOf U0 e3 σ2 m3 s3.length b) := fun {e3 s3 m3 H3} p S => by
              have c1 := (sim_clear (is := tg.own) S).base
              have c2 : Step noCh e3 σ2 m3 s3.length H3 (clear e3 tg.own) (wipe σ2 tg.own) m3 s3.length H3 := step_clear
              have c3 : ∀ b, MuOf U0 (clear e3 tg.own) (wipe σ2 tg.own) m3 s3.length b → MuOf U0 e3 σ2 m3 s3.length b := fun b z => mu_clear (z.imp .inl id)
              rw [hw] at c1 c2 c3
              exact ⟨p.transE c2, c1, c3⟩
            -- the element
            have elem : ∀ {e3 : Env} {s3 : Sto} {m3 : Nat → Addr} {H3 : Hp} {p : D × Bool} {e4 : Env} {s4 : Sto}, Step noCh (clear env1 tg.own) (wipe σ tg.own) m1 st1.length H1 e3 σ2 m3 s3.length H3 → Sim F U0 m3 e3 σ2 s3 H3 → H3 L0 = some (.lst zs) →
                Reps F (MuOf U0 e3 σ2 m3 s3.length) m3 s3.length H3 zs acc → Itv F (MuOf U0 e3 σ2 m3 s3.length) m3 s3.length H3 J xs → ev G call false elt e3 s3 = .ok p e4 s4 → clear e4 tg.own = envj → s4 = stj → y = some p.1 →
                RdE F G call W0 false elt σ2 H3 fun y H4 => ∃ acc, H4 L0 = some (.lst acc) ∧ acc.length < sizeLine ∧ (fun Hx => ∃ mi envi sti zs acc rest, Step noCh (clear env1 tg.own) (wipe σ tg.own) m1 st1.length H1 envi (wipe σ tg.own) mi sti.length Hx ∧ Sim F U0 mi envi (wipe σ tg.own) sti Hx ∧
                  Hx L0 = some (.lst zs) ∧ Reps F (MuOf U0 envi (wipe σ tg.own) mi sti.length) mi sti.length Hx zs acc ∧ Itv F (MuOf U0 envi (wipe σ tg.own) mi sti.length) mi sti.length Hx J xs ∧
                  lcGo (lcStep G call elt tg cond) (xs.drop (i + 1)) envi sti = .ok rest env2 st2 ∧ acc ++ rest = ys ∧ acc.length ≤ i + 1) (upd H4 L0 (.lst (acc ++ [y]))) := by
              intro e3 s3 m3 H3 p e4 s4 p3 S3 d3 r3 i3 he hc hs ey
              subst hc hs ey
              refine ⟨U0, m3, e3, s3, S3, post_ok he fun w m4 H4 p4 S4 r4 => ?_⟩
              have rw4 := r4.toRep S3.uH S4
              have S4 := S4.base
              have d4 : H4 L0 = some (.lst zs) := p4.fr L0 _ d3 (fun z => z) (.inr ⟨fun z => z, nS S3⟩)
              have hzs : zs.length ≤ i := by rw [Reps.length ra]; exact hl
              refine ⟨zs, d4, by omega, ?_⟩
              obtain ⟨b1, b2, b3⟩ := back (p3.transE p4) S4
              have M : Mov (MuOf U0 e4 σ2 m4 s4.length) (MuOf U0 (clear e4 tg.own) (wipe σ tg.own) m4 s4.length) m4 m4 s4.length s4.length H4 (upd H4 L0 (.lst (zs ++ [w]))) := by
                have a1 : Mov (MuOf U0 e4 σ2 m4 s4.length) (MuOf U0 e4 σ2 m4 s4.length) m4 m4 s4.length s4.length H4 (upd H4 L0 (.lst (zs ++ [w]))) := mov_at d4 (.inl uD)
                exact ⟨a1.hn, a1.hm, a1.kp, fun b z => .inl (b3 b z)⟩
              refine ⟨m4, clear e4 tg.own, s4, zs ++ [w], acc ++ [p.1], rest', step_at b1 hD, sim_at b2 d4 uD, upd_same, Reps.append (Reps.mov M (Reps.mov (p4.movE S3) r3)) ⟨Rep.mov M rw4, trivial⟩, (i3.mov (p4.movE S3)).mov M, go2, ?_, ?_⟩
              · rw [List.append_assoc]; exact cat
              · rw [List.length_append]; exact Nat.succ_le_succ hl
            cases cond with
            | none =>
              dsimp only at hstep
              obtain ⟨p, e4, s4, he, hf⟩ := calm_ok hstep
              cases hf
              show RdE F G call W0 false elt σ2 H' _
              exact elem px2 S2 hD' ra2 ix2 he rfl rfl rfl
            | some c =>
              dsimp only at hstep
              obtain ⟨b, e3, s3, ht, hf⟩ := calm_ok hstep
              refine ⟨U0, mi, envs, sti, S2, ?_⟩
              rw [ht]
              intro b' m3 H3 p3 S3 eb
              subst eb
              have d3 : H3 L0 = some (.lst zs) := p3.fr L0 _ hD' (fun z => z) (.inr ⟨fun z => z, nS S2⟩)
              cases b' with
              | true =>
                rw [if_pos rfl] at hf ⊢
                obtain ⟨p, e4, s4, he, hf⟩ := calm_ok hf
                cases hf
                exact elem (px2.transE p3) S3 d3 (Reps.mov (p3.movE S2) ra2) (ix2.mov (p3.movE S2)) he rfl rfl rfl
              | false =>
                rw [if_neg (by decide)] at hf ⊢
                cases hf
                obtain ⟨b1, b2, b3⟩ := back (px2.transE p3) S3
                exact ⟨m3, _, _, zs, acc, rest', b1, b2, d3, Reps.mov (Mov.less b3) (Reps.mov (p3.movE S2) ra2), (ix2.mov (p3.movE S2)).mov (Mov.less b3), go2, cat, Nat.le_succ_of_le hl⟩
        · -- the end
          have ei : i = xs.length := by omega
          subst ei
          refine .inl ⟨ix.stop, ?_⟩
          rw [List.drop_length] at go
          cases go
          rw [List.append_nil] at cat
          subst cat
          rw [← hU] at Sx ra
          have fr : ∀ a, Tmp true (V.ref L0) a → H1 a = none := fun a z => by obtain ⟨_, z⟩ := z; cases z; exact hD
          obtain ⟨S3, p3, mu3⟩ := sim_restore S1 px Sx fr
          exact q (.ref L0) mi Hx (p1.transE p3) S3 ⟨fun _ => ⟨L0, acc, zs, rfl, rfl, hDx, Reps.mov (Mov.less mu3) ra, by
            cases e : H L0 with
            | none => rfl
            | some o => exact absurd hD (p1.th L0 (by rw [e]; simp))⟩, fun e => absurd e (by simp), fun e => absurd e (by simp)⟩
      · rw [if_neg hz] at q; exact q.elim
end
end Pi

set_option maxRecDepth 100000
set_option maxHeartbeats 1000000
/-! PiP: statements. -/
namespace Pi
open PySem PySem.Spec L2

section
variable (F : Fx) (G : Gl) (call : Nat → List D → Sto → RC) (W : WX) (N : Nat)
def RdS (s : S) : TS := fun D0 σ H => ∃ Uo m env st, Sim F Uo m env σ st H ∧ PostS F Uo env σ m st.length H W D0 (exS G call N s env st)
def RdB (ss : List S) : TS := fun D0 σ H => ∃ Uo m env st, Sim F Uo m env σ st H ∧ PostS F Uo env σ m st.length H W D0 (exB G call N ss env st)
end
theorem _root_.L2.PS.imp {X : Cx} {e : Stmt} {t t' : TS} (h : PS X e t) (k : ∀ D σ H, t' D σ H → t D σ H) : PS X e t' := ⟨fun pins s σ H D I q => h.run pins s σ H D I (k _ _ _ q)⟩
theorem _root_.L2.PSs.imp {X : Cx} {e : List Stmt} {t t' : TS} (h : PSs X e t) (k : ∀ D σ H, t' D σ H → t D σ H) : PSs X e t' := ⟨fun pins s σ H D I q => h.run pins s σ H D I (k _ _ _ q)⟩

section
variable {F : Fx} {Uo : Addr → Prop} {env env1 : Env} {σ σ1 : SL} {m m1 : Nat → Addr} {n n1 : Nat} {H H1 : Hp} {W : WX} {st : Sto} {D0 : Ends}
/-- a statement's promise, further on -/
theorem PostS.step {r : R Flow} (p : Step (OwnAt env σ) env σ m n H env1 σ1 m1 n1 H1) (h : PostS F Uo env σ m n H W D0 r) : PostS F Uo env1 σ1 m1 n1 H1 W D0 r := by
  cases r with
  | no => exact h
  | ex c x env' st' => exact fun cls dd σ' m' H' q S e => h cls dd σ' m' H' (p.transS q) S e
  | ok f env' st' =>
    cases f with
    | nx => exact fun σ' m' H' q S => h σ' m' H' (p.transS q) S
    | brk => exact fun σ' m' H' q S => h σ' m' H' (p.transS q) S
    | ct => exact fun σ' m' H' q S => h σ' m' H' (p.transS q) S
    | ret d o =>
      refine fun v σ' m' H' q S r1 r2 => h v σ' m' H' (p.transS q) S (fun e => ?_) r2
      obtain ⟨a, xs, vs, h1, h2, h3, h4, h5⟩ := r1 e
      refine ⟨a, xs, vs, h1, h2, h3, h4, ?_⟩
      rcases h5 with h5 | h5
      · refine .inl ?_
        cases q : H a with
        | none => rfl
        | some o => exact absurd h5 (p.th a (by rw [q]; simp))
      · exact (p.own a h5).symm
/-- the first of two -/
theorem PostS.seq {D1 : Ends} {r : R Flow} {g : Flow → Env → Sto → R Flow} (h : PostS F Uo env σ m n H W D0 (r.bind g))
    (hn : ∀ e s σ' m' H', g .nx e s ≠ .no → PostS F Uo env σ m n H W D0 (g .nx e s) → Step (OwnAt env σ) env σ m n H e σ' m' s.length H' → Sim F Uo m' e σ' s H' → D1.nx σ' H')
    (hb : ∀ e s σ' m' H', PostS F Uo env σ m n H W D0 (g .brk e s) → Step (OwnAt env σ) env σ m n H e σ' m' s.length H' → Sim F Uo m' e σ' s H' → D1.bk σ' H')
    (hc : ∀ e s σ' m' H', PostS F Uo env σ m n H W D0 (g .ct e s) → Step (OwnAt env σ) env σ m n H e σ' m' s.length H' → Sim F Uo m' e σ' s H' → D1.ct σ' H')
    (hr : ∀ d o e s, g (.ret d o) e s = .ok (.ret d o) e s) (ert : D1.rt = D0.rt) : PostS F Uo env σ m n H W D1 r := by
  cases r with
  | no => exact h
  | ex c x env' st' => exact h
  | ok f env' st' =>
    cases f with
    | nx => exact fun σ' m' H' q S => hn env' st' σ' m' H' (fun z => by
        have h : PostS F Uo env σ m n H W D0 (g .nx env' st') := h
        rw [z] at h; exact h) h q S
    | brk => exact fun σ' m' H' q S => hb env' st' σ' m' H' h q S
    | ct => exact fun σ' m' H' q S => hc env' st' σ' m' H' h q S
    | ret d o =>
      have h : PostS F Uo env σ m n H W D0 (g (.ret d o) env' st') := h
      rw [hr] at h
      intro v σ' m' H' q S r1 r2
      rw [ert]
      exact h v σ' m' H' q S r1 r2
theorem step_own {i : Nat} {xs ys : List D} {a : Addr} {zs : List V} {u : HO} (he : env[i]? = some (some (.lst xs, true))) (hs : σ[i]? = some (some (V.ref a))) (hH : H a = some (.lst zs)) :
    Step (OwnAt env σ) env σ m n H (env.set i (some (.lst ys, true))) σ m n (upd H a u) := by
  refine ⟨Nat.le_refl _, fun _ _ => rfl, fun l h1 h2 => absurd (Nat.lt_of_le_of_lt h1 h2) (Nat.lt_irrefl _), fun b o e ht k => ?_, fun b e => upd_th _ e, fun b hb => ?_⟩
  · have ne : b ≠ a := fun z => by
      subst z
      rw [hH] at e
      cases e
      rcases k with k | k
      · exact k
      · exact k.1 ⟨i, _, he, hs⟩
    rw [upd_ne ne]; exact e
  · obtain ⟨j, d, h1, h2⟩ := hb
    rcases set_get h1 with ⟨rfl, e⟩ | ⟨_, h1⟩
    · cases e; exact .inl ⟨j, _, he, h2⟩
    · exact .inl ⟨j, d, h1, h2⟩
/-- a list of one's own is changed -/
theorem sim_own {i : Nat} {xs ys : List D} {a : Addr} {zs ws : List V} (S : Sim F Uo m env σ st H) (he : env[i]? = some (some (.lst xs, true))) (hs : σ[i]? = some (some (V.ref a))) (hH : H a = some (.lst zs)) (hr : Reps F (MuOf Uo env σ m st.length) m st.length H ws ys) :
    Sim F Uo m (env.set i (some (.lst ys, true))) σ st (upd H a (.lst ws)) := by
  have ha : OwnAt env σ a := ⟨i, _, he, hs⟩
  have own : ∀ b, OwnAt (env.set i (some (.lst ys, true))) σ b → OwnAt env σ b := fun b ⟨j, d, h1, h2⟩ => by
    rcases set_get h1 with ⟨rfl, e⟩ | ⟨_, h1⟩
    · cases e; exact ⟨j, _, he, h2⟩
    · exact ⟨j, d, h1, h2⟩
  have M0 : Mov (MuOf Uo env σ m st.length) (MuOf Uo env σ m st.length) m m st.length st.length H (upd H a (.lst ws)) := mov_at hH (.inr (.inl ha))
  have M : Mov (MuOf Uo env σ m st.length) (MuOf Uo (env.set i (some (.lst ys, true))) σ m st.length) m m st.length st.length H (upd H a (.lst ws)) := ⟨M0.hn, M0.hm, M0.kp, fun b z => .inl (z.imp id fun z => z.imp (own b) id)⟩
  have back : ∀ j d, (env.set i (some (.lst ys, true)))[j]? = some (some (d, true)) → ∃ d', env[j]? = some (some (d', true)) := fun j d h => by
    rcases set_get h with ⟨rfl, e⟩ | ⟨_, h1⟩
    · exact ⟨_, he⟩
    · exact ⟨_, h1⟩
  exact {
    len := by rw [List.length_set]; exact S.len
    inj := S.inj
    obj := fun l zs e => by
      obtain ⟨vs, h1, h2⟩ := S.obj l zs e
      have hl : l < st.length := by
        by_cases hl : l < st.length
        · exact hl
        · rw [List.getElem?_eq_none (by omega)] at e; cases e
      exact ⟨vs, by rw [upd_ne (fun z => (S.osto a ha).2 ⟨l, hl, z⟩)]; exact h1, Reps.mov M h2⟩
    noD := S.noD
    val := fun j d e => by
      rcases set_get e with ⟨rfl, z⟩ | ⟨_, z⟩
      · cases z
      · obtain ⟨v, h1, h2⟩ := S.val j d z; exact ⟨v, h1, Rep.mov M h2⟩
    own := fun j d e => by
      rcases set_get e with ⟨rfl, z⟩ | ⟨hne, z⟩
      · cases z
        exact ⟨a, ys, ws, rfl, hs, upd_same, Reps.mov M hr⟩
      · obtain ⟨b, zs, vs, h1, h2, h3, h4⟩ := S.own j d z
        refine ⟨b, zs, vs, h1, h2, ?_, Reps.mov M h4⟩
        rw [upd_ne (fun y => hne (S.sep j i a _ _ z he (by rw [← y]; exact h2) hs))]; exact h3
    sep := fun j k b d e h1 h2 h3 h4 => let ⟨_, h1⟩ := back j d h1; let ⟨_, h2⟩ := back k e h2; S.sep j k b _ _ h1 h2 h3 h4
    osto := fun b hb => S.osto b (own b hb)
    usto := S.usto
    uH := fun b z => upd_th _ (S.uH b z)
    tab := tabs_at S.tab hH }
/-- a list of the store is changed -/
theorem step_sto {l : Nat} {zs : List V} {u : HO} (hl : l < n) (hH : H (m l) = some (.lst zs)) : Step (OwnAt env σ) env σ m n H env σ m n (upd H (m l) u) := by
  refine ⟨Nat.le_refl _, fun _ _ => rfl, fun l h1 h2 => absurd (Nat.lt_of_le_of_lt h1 h2) (Nat.lt_irrefl _), fun b o e ht k => ?_, fun b e => upd_th _ e, fun b hb => .inl hb⟩
  have ne : b ≠ m l := fun z => by
    subst z
    rw [hH] at e
    cases e
    rcases k with k | k
    · exact k
    · exact k.2 ⟨l, hl, rfl⟩
  rw [upd_ne ne]; exact e
theorem sim_sto {l : Nat} {ys : List D} {zs ws : List V} (S : Sim F Uo m env σ st H) (hl : l < st.length) (hH : H (m l) = some (.lst zs)) (hr : Reps F (MuOf Uo env σ m st.length) m st.length H ws ys) :
    Sim F Uo m env σ (st.set l (.lst ys)) (upd H (m l) (.lst ws)) := by
  have hs : StoAt m st.length (m l) := ⟨l, hl, rfl⟩
  have M : Mov (MuOf Uo env σ m st.length) (MuOf Uo env σ m st.length) m m st.length st.length H (upd H (m l) (.lst ws)) := mov_at hH (.inr (.inr hs))
  have el : (st.set l (Ob.lst ys)).length = st.length := List.length_set
  exact {
    len := S.len
    inj := fun i j hi hj => S.inj i j (by rw [← el]; exact hi) (by rw [← el]; exact hj)
    obj := fun k zs e => by
      rw [el]
      rcases set_get e with ⟨rfl, y⟩ | ⟨hne, y⟩
      · cases y; exact ⟨ws, upd_same, Reps.mov M hr⟩
      · obtain ⟨vs, h1, h2⟩ := S.obj k zs y
        have hk : k < st.length := by
          by_cases hk : k < st.length
          · exact hk
          · rw [List.getElem?_eq_none (by omega)] at y; cases y
        exact ⟨vs, by rw [upd_ne (fun z => hne (S.inj k l hk hl z))]; exact h1, Reps.mov M h2⟩
    noD := fun k ks vs e => by
      rcases set_get e with ⟨rfl, y⟩ | ⟨_, y⟩
      · cases y
      · exact S.noD k ks vs y
    val := fun j d e => by rw [el]; obtain ⟨v, h1, h2⟩ := S.val j d e; exact ⟨v, h1, Rep.mov M h2⟩
    own := fun j d e => by
      rw [el]
      obtain ⟨b, zs, vs, h1, h2, h3, h4⟩ := S.own j d e
      exact ⟨b, zs, vs, h1, h2, by rw [upd_ne (fun z => (S.osto b ⟨j, d, e, h2⟩).2 (by rw [z]; exact hs))]; exact h3, Reps.mov M h4⟩
    sep := S.sep
    osto := fun b hb => by rw [el]; exact S.osto b hb
    usto := fun b hb => S.usto b (by rw [← el]; exact hb)
    uH := fun b z => upd_th _ (S.uH b z)
    tab := tabs_at S.tab hH }
/-- a slot takes a list of one's own -/
theorem sim_take {i : Nat} {xs : List D} {a : Addr} {vs : List V} (S : Sim F (Plus Uo (Tmp true (V.ref a))) m env σ st H) (nU : ¬ Uo a) (hi : i < env.length) (hH : H a = some (.lst vs)) (hr : Reps F (MuOf (Plus Uo (Tmp true (V.ref a))) env σ m st.length) m st.length H vs xs) :
    Sim F Uo m (env.set i (some (.lst xs, true))) (σ.set i (some (V.ref a))) st H ∧ ∀ b, OwnAt (env.set i (some (.lst xs, true))) (σ.set i (some (V.ref a))) b → b = a ∨ OwnAt env σ b := by
  have hiσ : i < σ.length := by rw [← S.len]; exact hi
  have own : ∀ b, OwnAt (env.set i (some (.lst xs, true))) (σ.set i (some (V.ref a))) b → b = a ∨ OwnAt env σ b := fun b ⟨j, d, h1, h2⟩ => by
    rcases set_get h1 with ⟨rfl, e⟩ | ⟨hne, h1⟩
    · rcases set_get h2 with ⟨_, e2⟩ | ⟨h, _⟩
      · cases e2; exact .inl rfl
      · exact absurd rfl h
    · rw [List.getElem?_set_ne (Ne.symm hne)] at h2
      exact .inr ⟨j, d, h1, h2⟩
  have uA : Plus Uo (Tmp true (V.ref a)) a := .inr ⟨rfl, rfl⟩
  have M : Mov (MuOf (Plus Uo (Tmp true (V.ref a))) env σ m st.length) (MuOf Uo (env.set i (some (.lst xs, true))) (σ.set i (some (V.ref a))) m st.length) m m st.length st.length H H := Mov.less fun b z => by
    rcases z with z | z | z
    · exact .inl (.inl z)
    · rcases own b z with rfl | z
      · exact .inl uA
      · exact .inr (.inl z)
    · exact .inr (.inr z)
  refine ⟨?_, own⟩
  have at_i : ∀ b j d, j ≠ i → env[j]? = some (some (d, true)) → σ[j]? = some (some (V.ref b)) → b ≠ a := fun b j d _ h1 h2 z => (S.osto b ⟨j, d, h1, h2⟩).1 (by rw [z]; exact uA)
  exact {
    len := by rw [List.length_set, List.length_set]; exact S.len
    inj := S.inj
    obj := fun l ys q => let ⟨vs, h1, h2⟩ := S.obj l ys q; ⟨vs, h1, Reps.mov M h2⟩
    noD := S.noD
    val := fun j d q => by
      rcases set_get q with ⟨rfl, z⟩ | ⟨hne, z⟩
      · cases z
      · obtain ⟨v, h1, h2⟩ := S.val j d z
        exact ⟨v, by rw [List.getElem?_set_ne (Ne.symm hne)]; exact h1, Rep.mov M h2⟩
    own := fun j d q => by
      rcases set_get q with ⟨rfl, z⟩ | ⟨hne, z⟩
      · cases z
        exact ⟨a, xs, vs, rfl, List.getElem?_set_self hiσ, hH, Reps.mov M hr⟩
      · obtain ⟨b, ys, ws, h1, h2, h3, h4⟩ := S.own j d z
        exact ⟨b, ys, ws, h1, by rw [List.getElem?_set_ne (Ne.symm hne)]; exact h2, h3, Reps.mov M h4⟩
    sep := fun j k b d e h1 h2 h3 h4 => by
      rcases set_get h1 with ⟨rfl, z⟩ | ⟨hne, z⟩ <;> rcases set_get h2 with ⟨rfl, z'⟩ | ⟨hne', z'⟩
      · rfl
      · rw [List.getElem?_set_self hiσ] at h3
        rw [List.getElem?_set_ne (Ne.symm hne')] at h4
        cases h3
        exact absurd rfl (at_i a k e hne' z' h4)
      · rw [List.getElem?_set_self hiσ] at h4
        rw [List.getElem?_set_ne (Ne.symm hne)] at h3
        cases h4
        exact absurd rfl (at_i a j d hne z h3)
      · rw [List.getElem?_set_ne (Ne.symm hne)] at h3
        rw [List.getElem?_set_ne (Ne.symm hne')] at h4
        exact S.sep j k b _ _ z z' h3 h4
    osto := fun b hb => by
      rcases own b hb with rfl | z
      · exact ⟨nU, fun z => S.usto b z uA⟩
      · exact ⟨fun z' => (S.osto b z).1 (.inl z'), (S.osto b z).2⟩
    usto := fun b hb z => S.usto b hb (.inl z)
    uH := fun b z => S.uH b (.inl z)
    tab := S.tab }
/-- a slot gives its list away -/
theorem sim_give {i : Nat} {xs : List D} {a : Addr} (S : Sim F Uo m env σ st H) (he : env[i]? = some (some (.lst xs, true))) (hs : σ[i]? = some (some (V.ref a))) :
    Sim F (Plus Uo (Tmp true (V.ref a))) m (env.set i none) (σ.set i none) st H ∧ ∀ b, MuOf (Plus Uo (Tmp true (V.ref a))) (env.set i none) (σ.set i none) m st.length b → MuOf Uo env σ m st.length b := by
  have ha : OwnAt env σ a := ⟨i, _, he, hs⟩
  have S1 : Sim F Uo m (env.set i none) (σ.set i none) st H := sim_setS S (fun _ z => by cases z) fun _ z => by cases z
  have mu : ∀ b, MuOf (Plus Uo (Tmp true (V.ref a))) (env.set i none) (σ.set i none) m st.length b → MuOf Uo env σ m st.length b := fun b z => by
    rcases z with (z | ⟨_, z⟩) | z | z
    · exact .inl z
    · cases z; exact .inr (.inl ha)
    · exact .inr (.inl (own_set' (fun _ z => by cases z) z))
    · exact .inr (.inr z)
  have M : Mov (MuOf Uo env σ m st.length) (MuOf (Plus Uo (Tmp true (V.ref a))) (env.set i none) (σ.set i none) m st.length) m m st.length st.length H H := Mov.less mu
  refine ⟨?_, mu⟩
  exact {
    len := S1.len
    inj := S.inj
    obj := fun l ys q => let ⟨vs, h1, h2⟩ := S.obj l ys q; ⟨vs, h1, Reps.mov M h2⟩
    noD := S.noD
    val := fun j d q => by
      rcases set_get q with ⟨rfl, z⟩ | ⟨hne, z⟩
      · cases z
      · obtain ⟨v, h1, h2⟩ := S.val j d z
        exact ⟨v, by rw [List.getElem?_set_ne (Ne.symm hne)]; exact h1, Rep.mov M h2⟩
    own := fun j d q => by
      rcases set_get q with ⟨rfl, z⟩ | ⟨hne, z⟩
      · cases z
      · obtain ⟨b, ys, ws, h1, h2, h3, h4⟩ := S.own j d z
        exact ⟨b, ys, ws, h1, by rw [List.getElem?_set_ne (Ne.symm hne)]; exact h2, h3, Reps.mov M h4⟩
    sep := S1.sep
    osto := fun b hb => by
      obtain ⟨j, d, hne, h1, h2⟩ := own_set (fun _ z => by cases z) hb
      refine ⟨fun z => ?_, (S.osto b ⟨j, d, h1, h2⟩).2⟩
      rcases z with z | ⟨_, z⟩
      · exact (S.osto b ⟨j, d, h1, h2⟩).1 z
      · cases z; exact hne (S.sep j i a _ _ h1 he h2 hs)
    usto := fun b hb z => by
      rcases z with z | ⟨_, z⟩
      · exact S.usto b hb z
      · cases z; exact (S.osto a ha).2 hb
    uH := fun b z => by
      rcases z with z | ⟨_, z⟩
      · exact S.uH b z
      · cases z; exact S.ownH ha
    tab := S.tab }
end
end Pi

set_option maxRecDepth 100000
set_option maxHeartbeats 1000000
/-! PiQ: readings of statements. -/
namespace Pi
open PySem PySem.Spec L2

/-! ### syntax -/
def noComp : Expr → Bool
  | .ListComp .. | .SetComp .. | .DictComp .. => false
  | _ => true
theorem no_swap {e : Expr} (h : noComp e = true) (t : Option Expr) (l : Nat) (env : PySem.Env) : swapsWith e t l env = pure false := by
  cases e <;> first | rfl | exact absurd h Bool.false_ne_true
/-- a pair's or a triple's stores are not exchanged -/
def noStores (t e : Expr) : Bool := match t, e with
  | .Tuple _ _ _, .Tuple vs _ _ => vs.all (foldedForSure 8)
  | .Tuple _ _ _, _ => true
  | .Name _ _, _ => true
  | .Subscript _ _ _, _ => true
  | _, _ => false
theorem no_stores {t e : Expr} (h : noStores t e = true) (env : PySem.Env) : swappedStores [t] e env = pure none := by
  unfold noStores at h
  split at h
  · rename_i ts k1 p1 vs k2 p2
    unfold swappedStores
    dsimp only
    split
    · rfl
    · split
      · rfl
      · split
        · rfl
        · rfl
        
  · rename_i hne
    cases e <;> first | rfl | exact absurd rfl (hne _ _ _)
  · cases e <;> rfl
  · cases e <;> rfl
  · cases h
end Pi
namespace Pi
open PySem PySem.Spec L2
def funKind (sc : Scope) : Bool := match sc.kind with
  | .function => true
  | _ => false
def swap2 (sc : Scope) (x : Str) (px : Pos) (y : Str) (py : Pos) (a b : Expr) : Bool :=
  funKind sc && decide (sc.names.lookup x = some .local) && decide (sc.names.lookup y = some .local) && (py.line == px.line) && !(y == x) && noStar a && noStar b && !([a, b].all (foldedForSure 8)) && !([a, b].all (constantsAlone 8))
theorem swap2_ok {sc : Scope} {x y : Str} {px py : Pos} {a b : Expr} {kt pt k2 pt2} {env : PySem.Env} (he : env.scope = sc) (h : swap2 sc x px y py a b = true) : swappedStores [.Tuple [.Name x px, .Name y py] kt pt] (.Tuple [a, b] k2 pt2) env = pure (some [x, y]) := by
  subst he
  unfold swap2 funKind at h
  simp only [Bool.and_eq_true, decide_eq_true_eq, Bool.not_eq_true', beq_iff_eq] at h
  obtain ⟨⟨⟨⟨⟨⟨⟨⟨h1, h2⟩, h3⟩, h4⟩, h5⟩, h6⟩, h7⟩, h8⟩, h9⟩ := h
  have hk : env.scope.kind = .function := by
    revert h1
    cases env.scope.kind <;> simp
  have hb : env.blockKind = .function := by unfold Env.blockKind; rw [hk]; rfl
  have hx : env.kindOf x = some .local := h2
  have hy : env.kindOf y = some .local := h3
  have e1 : ∀ e : Expr, noStar e = true → (match e with | .Starred .. => true | _ => false) = false := fun e he => by
    cases e <;> first | rfl | exact absurd he Bool.false_ne_true
  unfold swappedStores
  simp only [hb, hx, hy, h8, h9, h4, List.filterMap_cons, List.filterMap_nil, List.length_cons, List.length_nil, List.head?_cons, Option.map_some, Option.getD_some, beq_self_eq_true, Bool.and_self, if_true, Expr.pos]
  have e2 : ([x, y] : List Str).eraseDups = [x, y] := by
    simp only [List.eraseDups_cons, List.filter_cons, h5, Bool.not_false, List.filter_nil, if_true, List.eraseDups_nil]
  simp [e2]
  rintro (z | z)
  · exact absurd (z.symm.trans (e1 a h6)) (by decide)
  · exact absurd (z.symm.trans (e1 b h7)) (by decide)
def swap3 (sc : Scope) (x : Str) (px : Pos) (y : Str) (py : Pos) (z : Str) (pz : Pos) (a b c : Expr) : Bool :=
  funKind sc && decide (sc.names.lookup x = some .local) && decide (sc.names.lookup y = some .local) && decide (sc.names.lookup z = some .local) && (py.line == px.line) && (pz.line == px.line) && !(y == x) && !(z == x) && !(z == y) && noStar a && noStar b && noStar c && !([a, b, c].all (foldedForSure 8)) && !([a, b, c].all (constantsAlone 8))
theorem swap3_ok {sc : Scope} {x y z : Str} {px py pz : Pos} {a b c : Expr} {kt pt k2 pt2} {env : PySem.Env} (he : env.scope = sc) (h : swap3 sc x px y py z pz a b c = true) : swappedStores [.Tuple [.Name x px, .Name y py, .Name z pz] kt pt] (.Tuple [a, b, c] k2 pt2) env = pure (some [x, y, z]) := by
  subst he
  unfold swap3 funKind at h
  simp only [Bool.and_eq_true, decide_eq_true_eq, Bool.not_eq_true', beq_iff_eq] at h
  obtain ⟨⟨⟨⟨⟨⟨⟨⟨⟨⟨⟨⟨⟨h1, h2⟩, h3⟩, h3'⟩, h4⟩, h4'⟩, h5⟩, h5'⟩, h5''⟩, h6⟩, h7⟩, h7'⟩, h8⟩, h9⟩ := h
  have hk : env.scope.kind = .function := by
    revert h1
    cases env.scope.kind <;> simp
  have hb : env.blockKind = .function := by unfold Env.blockKind; rw [hk]; rfl
  have hx : env.kindOf x = some .local := h2
  have hy : env.kindOf y = some .local := h3
  have hz : env.kindOf z = some .local := h3'
  have e1 : ∀ e : Expr, noStar e = true → (match e with | .Starred .. => true | _ => false) = false := fun e he => by
    cases e <;> first | rfl | exact absurd he Bool.false_ne_true
  unfold swappedStores
  simp only [hb, hx, hy, hz, h8, h9, h4, h4', List.filterMap_cons, List.filterMap_nil, List.length_cons, List.length_nil, List.head?_cons, Option.map_some, Option.getD_some, beq_self_eq_true, Bool.and_self, if_true, Expr.pos]
  have e2 : ([x, y, z] : List Str).eraseDups = [x, y, z] := by
    simp only [List.eraseDups_cons, List.filter_cons, h5, h5', h5'', Bool.not_false, List.filter_nil, if_true, List.eraseDups_nil]
  simp [e2]
  rintro (z | z | z)
  · exact absurd (z.symm.trans (e1 a h6)) (by decide)
  · exact absurd (z.symm.trans (e1 b h7)) (by decide)
  · exact absurd (z.symm.trans (e1 c h7')) (by decide)
end Pi

set_option maxRecDepth 100000
set_option maxHeartbeats 1000000
/-! PiR: readings of statements. -/
namespace Pi
open PySem PySem.Spec L2

section
variable {X : Cx} {F : Fx} {G : Gl} {call : Nat → List D → Sto → RC} {W : WX} {N : Nat} {pos : Pos}
theorem rs_nil : PSs X [] (RdB F G call W N []) := pss_nil.imp fun D σ H ⟨Uo, m, env, st, S, q⟩ => by
  rw [exB] at q
  exact q σ m H Step.refl S
theorem rs_cons {s : S} {ss : List S} {e : Stmt} {es : List Stmt} (h1 : PS X e (RdS F G call W N s)) (h2 : PSs X es (RdB F G call W N ss)) : PSs X (e :: es) (RdB F G call W N (s :: ss)) := (pss_cons h1 h2).imp fun D0 σ H ⟨Uo, m, env, st, S, q⟩ => by
  rw [exB] at q
  refine ⟨Uo, m, env, st, S, PostS.seq (D1 := { D0 with nx := RdB F G call W N ss D0 }) q ?_ ?_ ?_ ?_ rfl⟩
  · exact fun e s σ' m' H' _ k p S' => ⟨Uo, m', e, s, S', PostS.step p k⟩
  · exact fun e s σ' m' H' k p S' => k σ' m' H' p S'
  · exact fun e s σ' m' H' k p S' => k σ' m' H' p S'
  · exact fun d o e s => rfl
theorem rs_ex {c : C} {e : Expr} (hn : noComp e = true) (h : PE X e (RdE F G call W false c)) : PS X (.Expr e pos) (RdS F G call W N (.ex c)) := (ps_expr h (no_swap hn _ _ _)).imp fun D0 σ H ⟨Uo, m, env, st, S, q⟩ => by
  rw [exS] at q
  exact ⟨Uo, m, env, st, S, bindE closedS q fun v d o m1 env1 st1 H1 p1 S1 r1 q1 => q1 σ m1 H1 Step.refl S1.base⟩
theorem rs_pass : PS X (.Pass pos) (RdS F G call W N .pass) := ps_pass.imp fun D0 σ H ⟨Uo, m, env, st, S, q⟩ => by
  rw [exS] at q
  exact q σ m H Step.refl S
theorem rs_brk : PS X (.Break pos) (RdS F G call W N .brk) := ps_break.imp fun D0 σ H ⟨Uo, m, env, st, S, q⟩ => by
  rw [exS] at q
  exact q σ m H Step.refl S
theorem rs_cont : PS X (.Continue pos) (RdS F G call W N .cont) := ps_continue.imp fun D0 σ H ⟨Uo, m, env, st, S, q⟩ => by
  rw [exS] at q
  exact q σ m H Step.refl S
/-! ### assignments -/
theorem asg_dat {t : T} {c : C} {D0 : Ends} {σ : SL} {H : Hp} (h : RdS F G call W N (.asg t c) D0 σ H) : tAsg (RdE F G call W false c) (t.g F.K) D0 σ H := by
  obtain ⟨Uo, m, env, st, S, q⟩ := h
  rw [exS] at q
  refine ⟨Uo, m, env, st, S, ?_⟩
  revert q
  generalize ev G call false c env st = r
  intro q
  rcases r with _ | ⟨⟨d, o⟩, env1, st1⟩ | ⟨c, x, env', st'⟩
  · exact q.elim
  rotate_left
  · exact fun cls dd m' H' p S e => q cls dd σ m' H' p.wide S e
  have q : PostS F Uo env σ m st.length H W D0 (match setT t (d, o) env1 with
    | some env => .ok .nx env st1
    | none => .no) := q
  intro v m1 H1 p1 S1 r1
  dsimp only at S1 r1
  cases hset : setT t (d, o) env1 with
  | none => rw [hset] at q; exact q.elim
  | some env2 =>
    rw [hset] at q
    have nx : ∀ σ' m' H', Step (OwnAt env σ) env σ m st.length H env2 σ' m' st1.length H' → Sim F Uo m' env2 σ' st1 H' → D0.nx σ' H' := q
    have plain : Rep F (MuOf Uo env1 σ m1 st1.length) m1 st1.length H1 v d → setT t (d, false) env1 = some env2 → t.g F.K v σ H1 D0.nx := fun rv hs =>
      tg_set S1.base rv hs fun σ2 S2 own2 _ => nx σ2 m1 H1 (p1.wide.transS ⟨Nat.le_refl _, fun _ _ => rfl, fun l h1 h2 => absurd (Nat.lt_of_le_of_lt h1 h2) (Nat.lt_irrefl _), fun _ _ e _ _ => e, fun _ e => e, fun b z => .inl (own2 b z)⟩) S2
    have rv := r1.toRep S.uH S1
    cases o with
    | false => exact plain rv hset
    | true =>
      cases t with
      | t is =>
        cases d with
        | tup xs => exact plain rv hset
        | _ => cases hset
      | n i =>
        obtain ⟨a, xs, vs, rfl, rfl, h3, h4, h5⟩ := r1.1 rfl
        have hset : (if i < env1.length then some (env1.set i (some (.lst xs, true))) else none) = some env2 := hset
        by_cases hi : i < env1.length
        · rw [if_pos hi] at hset
          obtain rfl := Option.some.inj hset
          obtain ⟨S2, own2⟩ := sim_take S1 (fun z => S.uH a z h5) hi h3 h4
          refine nx _ m1 H1 ⟨p1.hn, p1.hm, p1.new, fun b o e ht k => p1.fr b o e ht (k.imp id fun z => ⟨fun z => z, z.2⟩), p1.th, fun b z => ?_⟩ S2
          rcases own2 b z with rfl | z
          · exact .inr h5
          · exact p1.own b z
        · rw [if_neg hi] at hset; cases hset
theorem rs_asg {t : T} {c : C} {tg e : Expr} (hn : noComp e = true) (hs : noStores tg e = true) (he : PE X e (RdE F G call W false c)) (hg : PG X tg (t.g F.K)) (h1 : (assignEach [tg] X.env).map (·.2) = [assign tg X.env]) : PS X (.Assign [tg] e pos) (RdS F G call W N (.asg t c)) :=
  (ps_asg he hg (no_swap hn _ _ _) (no_stores hs _) h1).imp fun _ _ _ h => asg_dat h
theorem rs_lc {i : Nat} {elt : C} {tg : T} {it : C} {cond : Option C} {y : Str} {py spos : Pos} {elt' tg' iter : Expr} {ifs : List Expr} {scope : Scope} {own : List (Str × Nat)} (hc : X.calm = true) (hN : X.N.Nodup) (hy : X.N[i]? = some y) (hyl : X.env.scope.names.lookup y = some .local)
    (hsw : swapsWith (.ListComp elt' [⟨tg', iter, ifs, 0⟩] scope pos) (some (.Name y py)) spos.line X.env = pure true) (hi : PI X tg' iter (RdI F G call W it)) (ok : BlkOk X.N X.env.scope scope own) (ho : own.map (·.2) = tg.own)
    (hg : ∀ (s : Shared) (H : Hp) (C : Addr) (cl : List (Str × Addr)) (fp : List Addr), PG (X.blk s H scope (compEnvC scope cl C X.env) fp) tg' (tg.g F.K)) (ht : ∀ (s : Shared) (H : Hp) (C : Addr) (cl : List (Str × Addr)) (fp : List Addr), PTs (X.blk s H scope (compEnvC scope cl C X.env) fp) ifs (RdC F G call cond))
    (he : ∀ (s : Shared) (H : Hp) (C : Addr) (cl : List (Str × Addr)) (fp : List Addr), PE (X.blk s H scope (compEnvC scope cl C X.env) fp) elt' (RdE F G call W0 false elt)) (hs : noSet iter = true) :
    PS X (.Assign [.Name y py] (.ListComp elt' [⟨tg', iter, ifs, 0⟩] scope pos) spos) (RdS F G call W N (.asg (.n i) (.lc elt tg it cond))) :=
  (ps_setLc hc hN hy hyl hsw hi ok hg ht he (no_fold hs _)).imp fun D0 σ H h => by
    rw [ho]
    have h : tAsg (RdE F G call W false (.lc elt tg it cond)) (gName i) D0 σ H := asg_dat h
    exact lc_dat h
theorem rd_lc {bw : Bool} {elt : C} {tg : T} {it : C} {cond : Option C} {elt' tg' iter : Expr} {ifs : List Expr} {scope : Scope} {own : List (Str × Nat)} (hc : X.calm = true) (hN : X.N.Nodup)
    (hi : PI X tg' iter (RdI F G call W it)) (ok : BlkOk X.N X.env.scope scope own) (ho : own.map (·.2) = tg.own)
    (hg : ∀ (s : Shared) (H : Hp) (C : Addr) (cl : List (Str × Addr)) (fp : List Addr), PG (X.blk s H scope (compEnvC scope cl C X.env) fp) tg' (tg.g F.K)) (ht : ∀ (s : Shared) (H : Hp) (C : Addr) (cl : List (Str × Addr)) (fp : List Addr), PTs (X.blk s H scope (compEnvC scope cl C X.env) fp) ifs (RdC F G call cond))
    (he : ∀ (s : Shared) (H : Hp) (C : Addr) (cl : List (Str × Addr)) (fp : List Addr), PE (X.blk s H scope (compEnvC scope cl C X.env) fp) elt' (RdE F G call W0 false elt)) (hs : noSet iter = true) :
    PE X (.ListComp elt' [⟨tg', iter, ifs, 0⟩] scope pos) (RdE F G call W bw (.lc elt tg it cond)) :=
  (pe_lc hc hN hi ok hg ht he (no_fold hs _)).imp fun σ H Q h => by
    rw [ho]
    exact lc_dat h
/-! ### pairs stored from the right -/
theorem setT_two {i j : Nat} {xs : List D} {env env2 : Env} (h : setT (.t [i, j]) (.tup xs, false) env = some env2) : ∃ x y, xs = [x, y] ∧ env2 = (env.set i (some (x, false))).set j (some (y, false)) := by
  have h : (if [i, j].length = xs.length ∧ ∀ k ∈ [i, j], k < env.length then some (envs [i, j] xs env) else none) = some env2 := h
  by_cases hc : [i, j].length = xs.length ∧ ∀ k ∈ [i, j], k < env.length
  · rw [if_pos hc] at h
    obtain rfl := Option.some.inj h
    match xs, hc.1 with
    | [x, y], _ => exact ⟨x, y, rfl, rfl⟩
  · rw [if_neg hc] at h; cases h
theorem setT_three {i j l : Nat} {xs : List D} {env env2 : Env} (h : setT (.t [i, j, l]) (.tup xs, false) env = some env2) : ∃ x y z, xs = [x, y, z] ∧ env2 = ((env.set i (some (x, false))).set j (some (y, false))).set l (some (z, false)) := by
  have h : (if [i, j, l].length = xs.length ∧ ∀ k ∈ [i, j, l], k < env.length then some (envs [i, j, l] xs env) else none) = some env2 := h
  by_cases hc : [i, j, l].length = xs.length ∧ ∀ k ∈ [i, j, l], k < env.length
  · rw [if_pos hc] at h
    obtain rfl := Option.some.inj h
    match xs, hc.1 with
    | [x, y, z], _ => exact ⟨x, y, z, rfl, rfl⟩
  · rw [if_neg hc] at h; cases h
theorem stepS_of {Uo : Addr → Prop} {env env2 : Env} {σ σ2 : SL} {m : Nat → Addr} {n : Nat} {H : Hp} (own2 : ∀ b, OwnAt env2 σ2 b → OwnAt env σ b) : Step (OwnAt env σ) env σ m n H env2 σ2 m n H :=
  ⟨Nat.le_refl _, fun _ _ => rfl, fun l h1 h2 => absurd (Nat.lt_of_le_of_lt h1 h2) (Nat.lt_irrefl _), fun _ _ e _ _ => e, fun _ e => e, fun b z => .inl (own2 b z)⟩
theorem par_dat {is : List Nat} {cs : List C} {D0 : Ends} {σ : SL} {H : Hp} {Q : List V → Hp → Prop} (h : RdS F G call W N (.par is cs) D0 σ H)
    (k : ∀ vs xs Uo m1 env1 env2 st1 H1, setT (.t is) (.tup xs, false) env1 = some env2 → Sim F Uo m1 env1 σ st1 H1 → Reps F (MuOf Uo env1 σ m1 st1.length) m1 st1.length H1 vs xs → (∀ σ2, Sim F Uo m1 env2 σ2 st1 H1 → (∀ b, OwnAt env2 σ2 b → OwnAt env1 σ b) → D0.nx σ2 H1) → Q vs H1) : RdL F G call W false cs σ H Q := by
  obtain ⟨Uo, m, env, st, S, q⟩ := h
  rw [exS] at q
  refine ⟨Uo, m, env, st, S, bindL closedS q fun vs xs m1 env1 st1 H1 p1 S1 r1 _ q1 => ?_⟩
  cases hset : setT (.t is) (.tup xs, false) env1 with
  | none => rw [hset] at q1; exact q1.elim
  | some env2 =>
    rw [hset] at q1
    exact k vs xs Uo m1 env1 env2 st1 H1 hset S1 (r1 rfl) fun σ2 S2 own2 => q1 σ2 m1 H1 (stepS_of (Uo := Uo) own2) S2
theorem rs_par2 {i j : Nat} {x y : Str} {px py pt pt2 : Pos} {kt k2 : Nat} {a b : Expr} {cs : List C} (hc : X.calm = true) (hN : X.N.Nodup) (hi : X.N[i]? = some x) (hj : X.N[j]? = some y) (hij : i ≠ j) (hw : swap2 X.env.scope x px y py a b = true) (ha : PA X [a, b] (RdL F G call W false cs)) :
    PS X (.Assign [.Tuple [.Name x px, .Name y py] kt pt] (.Tuple [a, b] k2 pt2) pos) (RdS F G call W N (.par [i, j] cs)) := by
  have hx : X.env.scope.names.lookup x = some .local := by unfold swap2 at hw; simp only [Bool.and_eq_true, decide_eq_true_eq] at hw; exact hw.1.1.1.1.1.1.1.2
  have hy : X.env.scope.names.lookup y = some .local := by unfold swap2 at hw; simp only [Bool.and_eq_true, decide_eq_true_eq] at hw; exact hw.1.1.1.1.1.1.2
  refine (ps_par hc hN hi hj hij hx hy ha (swap2_ok rfl hw) rfl).imp fun D0 σ H h => par_dat h fun vs xs Uo m1 env1 env2 st1 H1 hset S1 r1 nx => ?_
  obtain ⟨d, e, rfl, rfl⟩ := setT_two hset
  obtain ⟨S2, own2⟩ := sim_sets (is := [i, j]) S1 r1
  match vs, r1 with
  | [v, w], r1 => exact ⟨v, w, rfl, nx _ S2 own2⟩
theorem rs_par3 {i j l : Nat} {x y z : Str} {px py pz pt pt2 : Pos} {kt k2 : Nat} {a b c : Expr} {cs : List C} (hc : X.calm = true) (hN : X.N.Nodup) (hi : X.N[i]? = some x) (hj : X.N[j]? = some y) (hl : X.N[l]? = some z) (hij : i ≠ j) (hil : i ≠ l) (hjl : j ≠ l) (hw : swap3 X.env.scope x px y py z pz a b c = true) (ha : PA X [a, b, c] (RdL F G call W false cs)) :
    PS X (.Assign [.Tuple [.Name x px, .Name y py, .Name z pz] kt pt] (.Tuple [a, b, c] k2 pt2) pos) (RdS F G call W N (.par [i, j, l] cs)) := by
  have hall : X.env.scope.names.lookup x = some .local ∧ X.env.scope.names.lookup y = some .local ∧ X.env.scope.names.lookup z = some .local := by
    unfold swap3 at hw
    simp only [Bool.and_eq_true, decide_eq_true_eq] at hw
    obtain ⟨⟨⟨⟨⟨⟨⟨⟨⟨⟨⟨⟨⟨_, h2⟩, h3⟩, h4⟩, _⟩, _⟩, _⟩, _⟩, _⟩, _⟩, _⟩, _⟩, _⟩, _⟩ := hw
    exact ⟨h2, h3, h4⟩
  refine (ps_par3 hc hN hi hj hl hij hil hjl hall.1 hall.2.1 hall.2.2 ha (swap3_ok rfl hw) rfl).imp fun D0 σ H h => par_dat h fun vs xs Uo m1 env1 env2 st1 H1 hset S1 r1 nx => ?_
  obtain ⟨d, e, f, rfl, rfl⟩ := setT_three hset
  obtain ⟨S2, own2⟩ := sim_sets (is := [i, j, l]) S1 r1
  match vs, r1 with
  | [v, w, u], r1 => exact ⟨v, w, u, rfl, nx _ S2 own2⟩
/-! ### lists that are changed -/
theorem tyV_list {K : PySem.W.Frag} {H : Hp} {a : Addr} {vs : List V} (h : H a = some (.lst vs)) : tyV K "list" (V.ref a) H := .inl ⟨rfl, vs, .inl (.inl h)⟩
theorem szLt {n : Nat} (h : szOk (n + 1) = true) : n < sizeLine := by
  have := of_decide_eq_true h
  rw [sizeLine_eq]; omega
theorem isL_at {Uo : Addr → Prop} {m : Nat → Addr} {env : Env} {σ : SL} {st : Sto} {H : Hp} {i : Nat} (S : Sim F Uo m env σ st H) (h : isL st (getS env i) = true) : ∃ a vs, σ[i]? = some (some (V.ref a)) ∧ H a = some (.lst vs) := by
  cases e : getS env i with
  | none => rw [e] at h; cases h
  | some p =>
    rw [e] at h
    have e := getS_some e
    obtain ⟨d, o⟩ := p
    cases d with
    | lst xs =>
      cases o with
      | false => cases h
      | true =>
        obtain ⟨a, ys, vs, _, h2, h3, _⟩ := S.own i _ e
        exact ⟨a, vs, h2, h3⟩
    | ref l =>
      have h : (match st[l]? with | some (.lst _) => true | _ => false) = true := by cases o <;> exact h
      cases q : st[l]? with
      | none => rw [q] at h; cases h
      | some ob =>
        rw [q] at h
        cases ob with
        | dct _ _ => cases h
        | lst xs =>
          obtain ⟨vs, h1, _⟩ := S.obj l xs q
          cases o with
          | true => obtain ⟨_, _, _, z, _⟩ := S.own i _ e; cases z
          | false =>
            obtain ⟨v, h2, _, rfl⟩ := S.val i _ e
            exact ⟨_, vs, h2, h1⟩
    | _ => cases o <;> cases h
theorem rs_app {i : Nat} {c : C} {x : Str} {px ap cp : Pos} {e : Expr} (hN : X.N[i]? = some x) (hv : Vis X.env.scope x) (hd : (x == ("__debug__" : Str)) = false) (hcd : (x == ("__classdict__" : Str)) = false) (hs : noStar e = true) (hl : (ap.endLine == cp.line) = true) (he : PE X e (RdE F G call W false c)) :
    PS X (.Expr (.Call (.Attribute (.Name x px) "append" ap) [e] [] cp) pos) (RdS F G call W N (.app i c)) := by
  have key : PE X (.Call (.Attribute (.Name x px) "append" ap) [e] [] cp) (tBM X.K "list" rAppend (tVar i) (tCons (RdE F G call W false c) tNil)) :=
    pe_bm PySem.F.plainAttrs_list PySem.F.slot_list_append PySem.type_list_append mt_append (pe_var hN hv hd hcd) (pa_cons he pa_nil (star_cons hs _)) rfl (by rw [star_cons hs]; rfl) hl (star_cons hs _) rfl
  refine (ps_expr key rfl).imp fun D0 σ H ⟨Uo, m, env, st, S, q⟩ => ?_
  rw [exS] at q
  by_cases hL : isL st (getS env i) = true
  · rw [if_pos hL] at q
    obtain ⟨a, vs, hσ, hH⟩ := isL_at S hL
    refine ⟨V.ref a, hσ, tyV_list hH, Uo, m, env, st, S, bindE closedS q fun y d o m1 env1 st1 H1 p1 S1 r1 q1 => ?_⟩
    have ry := r1.toRep S.uH S1
    have S1 := S1.base
    show rAppend (V.ref a) [y] H1 fun _ H1 => D0.nx σ H1
    dsimp only at q1
    cases e1 : getS env1 i with
    | none => rw [e1] at q1; exact q1.elim
    | some p =>
      rw [e1] at q1
      have e1 := getS_some e1
      obtain ⟨dd, oo⟩ := p
      cases dd with
      | lst xs =>
        cases oo with
        | false => exact q1.elim
        | true =>
          have q1 : PostS F Uo env1 σ m1 st1.length H1 W D0 (if szOk (xs.length + 1) then .ok .nx (env1.set i (some (.lst (xs ++ [d]), true))) st1 else .no) := q1
          by_cases hz : szOk (xs.length + 1) = true
          · rw [if_pos hz] at q1
            obtain ⟨b, ys, ws, h1, h2, h3, h4⟩ := S1.own i _ e1
            cases h1
            rw [hσ] at h2
            cases h2
            refine ⟨a, ws, y, rfl, rfl, h3, by rw [Reps.length h4]; exact szLt hz, ?_⟩
            exact q1 σ m1 _ (step_own e1 hσ h3) (sim_own S1 e1 hσ h3 (Reps.append h4 ⟨ry, trivial⟩))
          · rw [if_neg hz] at q1; exact q1.elim
      | ref l =>
        have q1 : PostS F Uo env1 σ m1 st1.length H1 W D0 (match st1[l]? with
          | some (.lst xs) => if szOk (xs.length + 1) then .ok .nx env1 (st1.set l (.lst (xs ++ [d]))) else .no
          | _ => .no) := by cases oo <;> exact q1
        cases q : st1[l]? with
        | none => rw [q] at q1; exact q1.elim
        | some ob =>
          rw [q] at q1
          cases ob with
          | dct _ _ => exact q1.elim
          | lst xs =>
            dsimp only at q1
            by_cases hz : szOk (xs.length + 1) = true
            · rw [if_pos hz] at q1
              obtain ⟨ws, h3, h4⟩ := S1.obj l xs q
              have hσ2 : σ[i]? = some (some (V.ref (m1 l))) := by
                cases oo with
                | true => obtain ⟨_, _, _, z, _⟩ := S1.own i _ e1; cases z
                | false => obtain ⟨v, h2, _, rfl⟩ := S1.val i _ e1; exact h2
              rw [hσ] at hσ2
              cases hσ2
              have hl : l < st1.length := by
                by_cases hl : l < st1.length
                · exact hl
                · rw [List.getElem?_eq_none (by omega)] at q; cases q
              refine ⟨_, ws, y, rfl, rfl, h3, by rw [Reps.length h4]; exact szLt hz, ?_⟩
              exact q1 σ m1 _ (by rw [List.length_set]; exact step_sto hl h3) (sim_sto S1 hl h3 (Reps.append h4 ⟨ry, trivial⟩))
            · rw [if_neg hz] at q1; exact q1.elim
      | _ => cases oo <;> exact q1.elim
  · rw [if_neg hL] at q; exact q.elim
theorem setAt_some {xs ys : List D} {i : Int} {y : D} (h : setAt xs i y = some ys) : ∃ j, ixN xs.length i = some j ∧ ys = xs.set j y := by
  unfold setAt at h
  by_cases hc : 0 ≤ i ∧ i < xs.length
  · rw [if_pos hc] at h
    refine ⟨i.toNat, ?_, (Option.some.inj h).symm⟩
    unfold ixN
    rw [if_pos hc.1, if_pos hc.2]
  · rw [if_neg hc] at h; cases h
theorem rs_set {i : Nat} {k c : C} {x : Str} {px sp : Pos} {ek e : Expr} (hN : X.N[i]? = some x) (hv : Vis X.env.scope x) (hd : (x == ("__debug__" : Str)) = false) (hcd : (x == ("__classdict__" : Str)) = false) (hn : noComp e = true) (hsl : noSlice ek = true) (hk : PE X ek (RdE F G call W true k)) (he : PE X e (RdE F G call W false c)) :
    PS X (.Assign [.Subscript (.Name x px) ek sp] e pos) (RdS F G call W N (.set i k c)) := by
  have hg : PG X (.Subscript (.Name x px) ek sp) (gSub (tVar i) (RdE F G call W true k) rSetL) := pg_sub (pe_var hN hv hd hcd) hk set_list (fun v => by
    cases ek <;> first | rfl | exact absurd hsl Bool.false_ne_true)
  refine (ps_asg (pos := pos) he hg (no_swap hn (some (.Subscript (.Name x px) ek sp)) pos.line X.env) (no_stores (by cases e <;> rfl) _) rfl).imp fun D0 σ H ⟨Uo, m, env, st, S, q⟩ => ?_
  rw [exS] at q
  by_cases hL : isL st (getS env i) = true
  · rw [if_pos hL] at q
    obtain ⟨a0, vs0, hσ, _⟩ := isL_at S hL
    refine ⟨Uo, m, env, st, S, bindE closedS q fun y d o m1 env1 st1 H1 p1 S1 r1 q1 => ⟨V.ref a0, hσ, ?_⟩⟩
    have ry := r1.toRep S.uH S1
    have S1 := S1.base
    refine ⟨Uo, m1, env1, st1, S1, bindE closedS q1 fun j dj oj m2 env2 st2 H2 p2 S2 r2 q2 => ?_⟩
    have rj := r2.toB S2
    have ry := Rep.mov (p2.movE S1) ry
    replace S2 := S2.base
    dsimp only at q2
    cases e2 : getS env2 i with
    | none => rw [e2] at q2; exact q2.elim
    | some p =>
      rw [e2] at q2
      have e2 := getS_some e2
      obtain ⟨dd, oo⟩ := p
      cases dd with
      | lst xs =>
        cases oo with
        | false => cases dj <;> exact q2.elim
        | true =>
          cases dj with
          | int ij =>
            obtain rfl : j = .int ij := rj
            have q2 : PostS F Uo env2 σ m2 st2.length H2 W D0 (match setAt xs ij d with
              | some ys => .ok .nx (env2.set i (some (.lst ys, true))) st2
              | none => .no) := q2
            cases hset : setAt xs ij d with
            | none => rw [hset] at q2; exact q2.elim
            | some ys =>
              rw [hset] at q2
              obtain ⟨jj, hj, rfl⟩ := setAt_some hset
              obtain ⟨a, xs', ws, h1, h2, h3, h4⟩ := S2.own i _ e2
              cases h1
              rw [hσ] at h2
              cases h2
              exact ⟨a0, ws, ij, jj, rfl, rfl, h3, by rw [Reps.length h4]; exact hj, q2 σ m2 _ (step_own e2 hσ h3) (sim_own S2 e2 hσ h3 (Reps.set ry jj h4))⟩
          | _ => exact q2.elim
      | ref l =>
        cases dj with
        | int ij =>
          obtain rfl : j = .int ij := rj
          have q2 : PostS F Uo env2 σ m2 st2.length H2 W D0 (match st2[l]? with
            | some (.lst xs) => match setAt xs ij d with
              | some ys => .ok .nx env2 (st2.set l (.lst ys))
              | none => .no
            | _ => .no) := by cases oo <;> exact q2
          cases q : st2[l]? with
          | none => rw [q] at q2; exact q2.elim
          | some ob =>
            rw [q] at q2
            cases ob with
            | dct _ _ => exact q2.elim
            | lst xs =>
              dsimp only at q2
              cases hset : setAt xs ij d with
              | none => rw [hset] at q2; exact q2.elim
              | some ys =>
                rw [hset] at q2
                obtain ⟨jj, hj, rfl⟩ := setAt_some hset
                obtain ⟨ws, h3, h4⟩ := S2.obj l xs q
                have hσ2 : σ[i]? = some (some (V.ref (m2 l))) := by
                  cases oo with
                  | true => obtain ⟨_, _, _, z, _⟩ := S2.own i _ e2; cases z
                  | false => obtain ⟨v, h2, _, rfl⟩ := S2.val i _ e2; exact h2
                have hl : l < st2.length := by
                  by_cases hl : l < st2.length
                  · exact hl
                  · rw [List.getElem?_eq_none (by omega)] at q; cases q
                rw [hσ] at hσ2
                cases hσ2
                exact ⟨_, ws, ij, jj, rfl, rfl, h3, by rw [Reps.length h4]; exact hj, q2 σ m2 _ (by rw [List.length_set]; exact step_sto hl h3) (sim_sto S2 hl h3 (Reps.set ry jj h4))⟩
        | _ => cases oo <;> exact q2.elim
      | _ => cases oo <;> cases dj <;> exact q2.elim
  · rw [if_neg hL] at q; exact q.elim
end
end Pi

set_option maxRecDepth 100000
set_option maxHeartbeats 1000000
/-! PiU: return, if, for, while, raise. -/
namespace Pi
open PySem PySem.Spec L2

section
variable {X : Cx} {F : Fx} {G : Gl} {call : Nat → List D → Sto → RC} {W : WX} {N : Nat} {pos : Pos}
theorem ret_dat {c : C} {D0 : Ends} {σ : SL} {H : Hp} {Uo : Addr → Prop} {m : Nat → Addr} {env : Env} {st : Sto} (S : Sim F Uo m env σ st H) (q : PostS F Uo env σ m st.length H W D0 ((ev G call false c env st).bind fun x env st => .ok (.ret x.1 x.2) env st)) : RdE F G call W false c σ H D0.rt := by
  refine ⟨Uo, m, env, st, S, ?_⟩
  revert q
  generalize ev G call false c env st = r
  intro q
  rcases r with _ | ⟨⟨d, o⟩, env1, st1⟩ | ⟨c, x, env', st'⟩
  · exact q.elim
  rotate_left
  · exact fun cls dd m' H' p S e => q cls dd σ m' H' p.wide S e
  intro v m1 H1 p1 S1 r1
  have q : PostS F Uo env σ m st.length H W D0 (.ok (.ret d o) env1 st1) := q
  refine q v σ m1 H1 p1.wide S1 (fun e => ?_) fun e => r1.2.1 e rfl
  obtain ⟨a, xs, vs, h1, h2, h3, h4, h5⟩ := r1.1 e
  exact ⟨a, xs, vs, h1, h2, h3, h4, .inl h5⟩
def notV : C → Bool
  | .v _ => false
  | _ => true
theorem rs_ret {c : C} {e : Expr} (hc : notV c = true) (he : PE X e (RdE F G call W false c)) : PS X (.Return (some e) pos) (RdS F G call W N (.ret c)) := (ps_ret he).imp fun D0 σ H ⟨Uo, m, env, st, S, q⟩ => by
  have q : PostS F Uo env σ m st.length H W D0 ((ev G call false c env st).bind fun x env st => .ok (.ret x.1 x.2) env st) := by
    cases c <;> first | exact absurd hc Bool.false_ne_true | (rw [exS] at q <;> first | exact q | (intro i h; cases h))
  exact ret_dat S q
/-- a slot's value, given away -/
theorem rs_retv {i : Nat} {e : Expr} (he : PE X e (tVar i)) : PS X (.Return (some e) pos) (RdS F G call W N (.ret (.v i))) := (ps_ret he).imp fun D0 σ H ⟨Uo, m, env, st, S, q⟩ => by
  rw [exS] at q
  cases e : getS env i with
  | none => rw [e] at q; exact q.elim
  | some p =>
    rw [e] at q
    have e := getS_some e
    obtain ⟨d, o⟩ := p
    have q : PostS F Uo env σ m st.length H W D0 (.ok (.ret d o) (env.set i none) st) := q
    cases o with
    | true =>
      obtain ⟨a, xs, vs, rfl, h2, h3, h4⟩ := S.own i d e
      obtain ⟨S1, mu⟩ := sim_give S e h2
      refine ⟨V.ref a, h2, q (V.ref a) (σ.set i none) m H (stepS_of (Uo := Uo) fun b z => own_set' (fun _ z => by cases z) z) S1 (fun _ => ⟨a, xs, vs, rfl, rfl, h3, Reps.mov (Mov.less mu) h4, .inr ⟨i, _, e, h2⟩⟩) fun e => absurd e (by simp)⟩
    | false =>
      obtain ⟨v, h1, h2⟩ := S.val i d e
      have S1 : Sim F Uo m (env.set i none) (σ.set i none) st H := sim_setS S (fun _ z => by cases z) fun _ z => by cases z
      exact ⟨v, h1, q v (σ.set i none) m H (stepS_of (Uo := Uo) fun b z => own_set' (fun _ z => by cases z) z) S1.plusF (fun e => absurd e (by simp)) fun _ => Rep.plusF (Rep.mov (Mov.less fun b z => mu_set (fun _ z => by cases z) z) h2)⟩
theorem rs_retn : PS X (.Return none pos) (RdS F G call W N .retn) := ps_retN.imp fun D0 σ H ⟨Uo, m, env, st, S, q⟩ => by
  rw [exS] at q
  exact q .non σ m H Step.refl S.plusF (fun e => absurd e (by simp)) fun _ => rfl
theorem rs_if {c : C} {a b : List S} {e : Expr} {ea eb : List Stmt} (hc : PT X e (RdT F G call W c)) (ha : PSs X ea (RdB F G call W N a)) (hb : PSs X eb (RdB F G call W N b)) : PS X (.If e ea eb pos) (RdS F G call W N (.ifs c a b)) := (ps_if hc ha hb).imp fun D0 σ H ⟨Uo, m, env, st, S, q⟩ => by
  rw [exS] at q
  refine ⟨Uo, m, env, st, S, bindG closedS q fun k k' m1 env1 st1 H1 p1 S1 ek q1 => ?_⟩
  subst ek
  cases k with
  | true => rw [if_pos rfl] at q1 ⊢; exact ⟨Uo, m1, env1, st1, S1, q1⟩
  | false => rw [if_neg (by decide)] at q1 ⊢; exact ⟨Uo, m1, env1, st1, S1, q1⟩
theorem rs_raise {c : Nat} {e : Expr} (hc : X.calm = true) (tk : L2N.Takes X W) (he : L2N.PMk X e (fun _ H Q => Q (.ref (F.ga c)) none H)) : PS X (.Raise (some e) none pos) (RdS F G call W N (.raise c none)) := (L2N.ps_raise hc tk he).imp fun D0 σ H ⟨Uo, m, env, st, S, q⟩ => by
  rw [exS] at q
  exact q (.ref (F.ga c)) none σ m H Step.refl S ⟨rfl, rfl⟩

/-- a loop's body, as the interpreter does it -/
def forStep (G : Gl) (call : Nat → List D → Sto → RC) (N : Nat) (t : T) (b : List S) : D → Env → Sto → R Flow := fun x env st => match setT t (x, false) env with
  | some env => exB G call N b env st
  | none => .no
theorem stepS_more {Uo : Addr → Prop} {m : Nat → Addr} {env : Env} {σ : SL} {st : Sto} {H H' : Hp} (S : Sim F Uo m env σ st H) (h : More H H') : Sim F Uo m env σ st H' ∧ Step (OwnAt env σ) env σ m st.length H env σ m st.length H' := let ⟨a, b⟩ := sim_more S h; ⟨a, b.wide⟩
theorem for_dat {t : T} {it : C} {b : List S} {D0 : Ends} {σ : SL} {H : Hp} (h : RdS F G call W N (.for t it b) D0 σ H) : tFor (RdI F G call W it) (t.g F.K) (RdB F G call W N b) D0 σ H := by
  obtain ⟨Uo, m, env, st, S, q⟩ := h
  rw [exS] at q
  refine ⟨Uo, m, env, st, S, ?_⟩
  revert q
  generalize ev G call false it env st = r
  intro q
  rcases r with _ | ⟨⟨d, o⟩, env1, st1⟩ | ⟨c, x, env', st'⟩
  · exact q.elim
  rotate_left
  · exact fun cls dd m' H' p S e => q cls dd σ m' H' p.wide S e
  have q : PostS F Uo env σ m st.length H W D0 (match items d with
    | some xs => forGo (forStep G call N t b) xs env1 st1
    | none => .no) := q
  cases hi : items d with
  | none => rw [hi] at q; exact q.elim
  | some xs =>
    rw [hi] at q
    have q : PostS F Uo env σ m st.length H W D0 (forGo (forStep G call N t b) xs env1 st1) := q
    refine ⟨xs, hi, fun J m1 H1 p1 S1 itv => ?_⟩
    have q := PostS.step p1.wide q
    refine ⟨fun i k σx Hx => k = xs.length - i ∧ i ≤ xs.length ∧ ∃ mi envi sti, Sim F Uo mi envi σx sti Hx ∧ Itv F (MuOf Uo envi σx mi sti.length) mi sti.length Hx J xs ∧ PostS F Uo envi σx mi sti.length Hx W D0 (forGo (forStep G call N t b) (xs.drop i) envi sti),
      ⟨xs.length, by simp, Nat.zero_le _, m1, env1, st1, S1, itv, q⟩, ?_⟩
    rintro i k σx Hx ⟨rfl, hi, mi, envi, sti, Sx, ix, qx⟩
    by_cases hlt : i < xs.length
    · refine .inr ⟨ix.go hlt, _, fun σ' H' hn => ⟨xs.length - (i + 1), by omega, rfl, hlt, hn⟩, fun x H' hy => ?_⟩
      obtain ⟨d, hd, mo, rx⟩ := ix.yld hlt hy
      have hdrop : xs.drop i = d :: xs.drop (i + 1) := by
        rw [List.drop_eq_getElem_cons hlt]
        congr 1
        rw [List.getElem?_eq_getElem hlt] at hd
        exact Option.some.inj hd
      rw [hdrop] at qx
      unfold forGo at qx
      obtain ⟨S', pm⟩ := stepS_more Sx mo
      have qx := PostS.step pm qx
      have ix' := ix.mov (pm.mov Sx fun _ z => z)
      cases hset : setT t (d, false) envi with
      | none =>
        have e : forStep G call N t b d envi sti = .no := by unfold forStep; rw [hset]
        rw [e] at qx
        exact qx.elim
      | some envs =>
        have e : forStep G call N t b d envi sti = exB G call N b envs sti := by unfold forStep; rw [hset]
        rw [e] at qx
        refine tg_set S' rx hset fun σ2 S2 own2 hw => ?_
        have ps : Step (OwnAt envi σx) envi σx mi sti.length H' envs σ2 mi sti.length H' := stepS_of (Uo := Uo) own2
        have qx := PostS.step ps qx
        have ix2 := ix'.mov (ps.mov S' fun _ z => z)
        refine ⟨Uo, mi, envs, sti, S2, PostS.seq qx ?_ ?_ ?_ ?_ rfl⟩
        · exact fun e s σ' m' H'' _ k p S3 => ⟨m', e, s, S3, ix2.mov (p.mov S2 fun _ z => z), PostS.step p k⟩
        · exact fun e s σ' m' H'' k p S3 => k σ' m' H'' p S3
        · exact fun e s σ' m' H'' k p S3 => ⟨m', e, s, S3, ix2.mov (p.mov S2 fun _ z => z), PostS.step p k⟩
        · exact fun d o e s => rfl
    · have ei : i = xs.length := by omega
      subst ei
      rw [List.drop_length] at qx
      exact .inl ⟨ix.stop, qx σx mi Hx Step.refl Sx⟩
theorem rs_for {t : T} {it : C} {b : List S} {tg iter : Expr} {body : List Stmt} (hp : PassesOwn (model X.prog X.w) X.A X.env X.xe) (hc : X.calm = true) (hi : PI X tg iter (RdI F G call W it)) (hg : PG X tg (t.g F.K)) (hb : PSs X body (RdB F G call W N b)) (hs : noSet iter = true) :
    PS X (.For tg iter body [] pos) (RdS F G call W N (.for t it b)) := (ps_for hp hc hi hg hb (no_fold hs _)).imp fun _ _ _ h => for_dat h
theorem while_dat {c : C} {b : List S} {D0 : Ends} {σ : SL} {H : Hp} (h : RdS F G call W N (.while c b) D0 σ H) : tWhile (RdT F G call W c) (RdB F G call W N b) D0 σ H := by
  obtain ⟨Uo, m, env, st, S, q⟩ := h
  rw [exS] at q
  refine ⟨fun k σx Hx => ∃ mi envi sti, Sim F Uo mi envi σx sti Hx ∧ PostS F Uo envi σx mi sti.length Hx W D0 (whileGo (fun env st => truth (ev G call true c env st)) (fun env st => exB G call N b env st) k envi sti), ⟨N, m, env, st, S, q⟩, ?_⟩
  rintro k σx Hx ⟨mi, envi, sti, Sx, qx⟩
  cases k with
  | zero => exact qx.elim
  | succ k =>
    unfold whileGo at qx
    refine ⟨Uo, mi, envi, sti, Sx, bindG closedS qx fun k1 k2 m1 env1 st1 H1 p1 S1 ek q1 => ?_⟩
    subst ek
    cases k1 with
    | false =>
      rw [if_neg (by decide)] at q1 ⊢
      exact q1 σx m1 H1 Step.refl S1
    | true =>
      rw [if_pos rfl] at q1 ⊢
      refine ⟨_, fun σ' H' hn => ⟨k, Nat.lt_succ_self _, hn⟩, Uo, m1, env1, st1, S1, PostS.seq q1 ?_ ?_ ?_ ?_ rfl⟩
      · exact fun e s σ' m' H'' _ k p S3 => ⟨m', e, s, S3, PostS.step p k⟩
      · exact fun e s σ' m' H'' k p S3 => k σ' m' H'' p S3
      · exact fun e s σ' m' H'' k p S3 => ⟨m', e, s, S3, PostS.step p k⟩
      · exact fun d o e s => rfl
theorem rs_while {c : C} {b : List S} {e : Expr} {body : List Stmt} (hp : PassesOwn (model X.prog X.w) X.A X.env X.xe) (hc : PT X e (RdT F G call W c)) (hb : PSs X body (RdB F G call W N b)) : PS X (.While e body [] pos) (RdS F G call W N (.while c b)) := (ps_while hp hc hb).imp fun _ _ _ h => while_dat h
end
end Pi

set_option maxRecDepth 100000
set_option maxHeartbeats 4000000
/-! PiZ: within an except suite: lists walked, tuples unpacked. -/
namespace PySem
open HotX
open PyProof.Rows (IsTup)
section
variable {prog : Program} {w : World} {A : Around} {E : Value → Shared → Prop} {s : Shared}
theorem hz_in1 {x1 : Addr} {h : Heap} (hot : HotAt A x1 h) : HotAt A.in1 x1 h := hot
/-- the stop of a walk, raised beside a handled exception -/
theorem hz_stop {x1 : Addr} {α : Type} {Q : α → Shared → Prop} (hot : HotAt A x1 s.heap)
    (hE : ∀ (e : Addr) (h' : Heap), (∀ b o, s.heap.get? b = some o → h'.get? b = some o) → (∃ o, h'.get? e = some o ∧ o.cls = .type "StopIteration") → E (.ref e) { s with heap := h' }) :
    wpAny (model prog w) A (do let e ← newExc (.type "StopIteration") []; raiseNew e : Sem α) Q E s := by
  obtain ⟨hh, o1, vs1, h1, d1, c1⟩ := hot
  refine wpAny_bind ?_
  simp only [newExc, newTuple]
  refine wpAny_bind (wpAny_newObj_type ?_ (by size_fits))
  refine wpAny_bind (m := firstArgMember _ _) (wpAny_of_eq (a := Value.none) (by first | rfl | (simp only [firstArgMember]; rfl)) ?_)
  refine wpAny_newObj_type ?_ (by size_fits)
  refine raiseNew_hot ⟨hh, o1, vs1, Heap.get?_push_of_some _ (Heap.get?_push_of_some _ h1), d1, c1⟩ (Nat.ne_of_lt (Heap.lt_size (Heap.get?_push_of_some _ h1))) (Heap.get?_push_size _ rfl) rfl (by first | (simp; done) | (simp; omega) | (simp only [Array.size_append]; simp; omega)) ?_
  refine hE _ _ (fun b o e => ?_) ⟨_, Heap.get?_update_self _ (Heap.get?_push_size _ rfl) rfl, rfl⟩
  rw [Heap.get?_update_other _ _ (Nat.ne_of_gt (Heap.lt_size (Heap.get?_push_of_some _ e)))]
  exact Heap.get?_push_of_some _ (Heap.get?_push_of_some _ e)
theorem hz_ne {x1 it : Addr} {o : Obj} {h : Heap} {a b : Value} (hot : HotAt A x1 h) (ho : h.get? it = some o) (hd : o.data = .fields #[a, b]) : x1 ≠ it := fun z => by
  obtain ⟨hh, o1, vs1, h1, d1, c1⟩ := hot
  rw [z, ho] at h1
  cases h1
  rw [hd] at d1
  cases d1
  simp at c1
theorem hz_list_end {it l x1 : Addr} {i : Nat} {items : Array Value} {Q : Option Value → Shared → Prop} (hot : HotAt A x1 s.heap) (hit : s.heap.IsListIter it l i) (hl : s.heap.IsList l items) (hx : items[i]? = none)
    (hQ : ∀ h', Heap.ExtBut it s.heap h' → Q none { s with heap := h' }) : wpAny (model prog w) A (pyNext (.ref it)) Q E s := by
  obtain ⟨o, ho, hc, hd⟩ := id hit
  obtain ⟨ol, hol, _, nl, hdl⟩ := hl
  have hne : x1 ≠ it := hz_ne hot ho hd
  unfold pyNext
  refine wpAny_bind (wpAny_attempt (wpAny_callSpecial?_slot (name := Str.ofString "__next__") hit.typeIs slot_listiter_next
    (wpAny_call_entry slot_listiter_next hit.typeIs entry_listiter_next ?_ (args_listiter_next _))))
  show wpAny _ _ (field (.ref it) 0 >>= _) _ _ s
  refine wpAny_bind (wpAny_field ho hd (x := .ref l) rfl ?_)
  show wpAny _ _ (if (Value.ref l == Value.none) = true then _ else _) _ _ s
  rw [if_neg (show ¬ ((Value.ref l == Value.none) = true) from Bool.false_ne_true)]
  show wpAny _ _ (field (.ref it) 1 >>= _) _ _ s
  refine wpAny_bind (wpAny_field ho hd (x := .int i 0) rfl ?_)
  show wpAny _ _ (seqItems? (.ref l) >>= _) _ _ s
  refine wpAny_bind (wpAny_seqItems hol hdl ?_)
  simp only [Int.toNat_natCast, hx]
  refine wpAny_bind (wpAny_rule (wpAny_bind (wpAny_setField ho hd (by simp) ?_)))
  obtain ⟨hh, o1, vs1, h1, d1, c1⟩ := hot
  refine hz_stop (x1 := x1) ⟨hh, o1, vs1, by rw [Heap.get?_update_other _ _ (Ne.symm hne)]; exact h1, d1, c1⟩ fun e h' k ⟨oe, he, hce⟩ => ?_
  refine wpAny_bind (wpAny_isInstance (T := "StopIteration") (b := true) ⟨oe, he, hce⟩ isSubtype_stop ?_)
  exact wpAny_pure (hQ _ fun b o hb e => k b o (by rw [Heap.get?_update_other _ _ (Ne.symm hb)]; exact e))
theorem hz_tuple_end {it t x1 : Addr} {i : Nat} {items : Array Value} {Q : Option Value → Shared → Prop} (hot : HotAt A x1 s.heap) (hit : s.heap.IsTupleIter it t i) (ht : s.heap.IsTuple t items) (hx : items[i]? = none)
    (hQ : ∀ h', Heap.ExtBut it s.heap h' → Q none { s with heap := h' }) : wpAny (model prog w) A (pyNext (.ref it)) Q E s := by
  obtain ⟨o, ho, hc, hd⟩ := id hit
  obtain ⟨ol, hol, _, nl, hdl⟩ := ht
  have hne : x1 ≠ it := hz_ne hot ho hd
  unfold pyNext
  refine wpAny_bind (wpAny_attempt (wpAny_callSpecial?_slot (name := Str.ofString "__next__") hit.typeIs F.slot_tuple_iterator_next
    (wpAny_call_entry F.slot_tuple_iterator_next hit.typeIs F.entry_tuple_iterator_next ?_ (F.args_tuple_iterator_next_1 _))))
  show wpAny _ _ (field (.ref it) 0 >>= _) _ _ s
  refine wpAny_bind (wpAny_field ho hd (x := .ref t) rfl ?_)
  show wpAny _ _ (if (Value.ref t == Value.none) = true then _ else _) _ _ s
  rw [if_neg (show ¬ ((Value.ref t == Value.none) = true) from Bool.false_ne_true)]
  show wpAny _ _ (field (.ref it) 1 >>= _) _ _ s
  refine wpAny_bind (wpAny_field ho hd (x := .int i 0) rfl ?_)
  show wpAny _ _ (seqItems? (.ref t) >>= _) _ _ s
  refine wpAny_bind (wpAny_seqItems hol hdl ?_)
  simp only [Int.toNat_natCast, hx]
  refine wpAny_bind (wpAny_rule (wpAny_bind (wpAny_setField ho hd (by simp) ?_)))
  obtain ⟨hh, o1, vs1, h1, d1, c1⟩ := hot
  refine hz_stop (x1 := x1) ⟨hh, o1, vs1, by rw [Heap.get?_update_other _ _ (Ne.symm hne)]; exact h1, d1, c1⟩ fun e h' k ⟨oe, he, hce⟩ => ?_
  refine wpAny_bind (wpAny_isInstance (T := "StopIteration") (b := true) ⟨oe, he, hce⟩ isSubtype_stop ?_)
  exact wpAny_pure (hQ _ fun b o hb e => k b o (by rw [Heap.get?_update_other _ _ (Ne.symm hb)]; exact e))
end
end PySem

namespace PySem
open HotX PyProof.Rows
section
variable {prog : Program} {w : World} {A : Around} {E : Value → Shared → Prop} {s : Shared}
theorem hz_same {x1 it : Addr} {h h' : Heap} (hot : HotAt A x1 h) (hne : x1 ≠ it) (k : ∀ b o, b ≠ it → h.get? b = some o → h'.get? b = some o) : HotAt A x1 h' := by
  obtain ⟨hh, o1, vs1, h1, d1, c1⟩ := hot
  exact ⟨hh, o1, vs1, k _ _ hne h1, d1, c1⟩
theorem hz_unpack {t x1 : Addr} {items : Array Value} {Q : List Value → Shared → Prop} (hot : HotAt A x1 s.heap) (ht : IsTup s.heap t items)
    (hQ : ∀ h', Heap.ExtBut s.heap.objs.size s.heap h' → Q items.toList { s with heap := h' }) : wpAny (model prog w) A (unpackItems (.ref t) items.size none) Q E s := by
  have hlt : t ≠ s.heap.objs.size := by obtain ⟨o, ho, _⟩ := ht; exact Nat.ne_of_lt (Heap.lt_size ho)
  have hx : x1 ≠ s.heap.objs.size := by obtain ⟨_, o, _, ho, _⟩ := hot; exact Nat.ne_of_lt (Heap.lt_size ho)
  unfold unpackItems
  refine wpAny_bind ?_
  · unfold notIterableAtAll
    refine wpAny_bind (wpAny_specialOf ht.typeIs slot_tuple_iter.lookup ?_)
    refine wpAny_pure ?_
    simp only [Bool.false_eq_true, if_false]
    refine wpAny_bind (wpAny_holding (iter_tuple ht ?_))
    refine wpAny_bind (wpAny_holding (draw_tuple hlt items.size 0 _ _ ⟨_, Heap.get?_push_size _ rfl, rfl, rfl⟩ (ht.push _) (by omega) fun h₁ hit₁ hs₁ => ?_))
    have hall : List.take items.size (List.drop 0 items.toList) = items.toList := by
      rw [List.drop_zero]; exact List.take_of_length_le (by simp)
    rw [hall]
    rw [if_neg (by simp)]
    have ht₁ : IsTup h₁ t items := (ht.push _).extBut hs₁.extBut hlt
    have hot1 : HotAt A x1 h₁ := hz_same hot hx fun b o hb e => hs₁.extBut b o hb (Heap.get?_push_of_some _ e)
    refine wpAny_bind (wpAny_holding (hz_tuple_end hot1 (show h₁.IsTupleIter _ t _ from hit₁) (show h₁.IsTuple t items from ht₁) (by simp) fun h₂ he₂ => ?_))
    simp only [Option.isSome_none, Bool.false_eq_true, if_false]
    refine wpAny_pure (hQ h₂ fun b o hb e => he₂ b o hb (hs₁.extBut b o hb (Heap.get?_push_of_some _ e)))
theorem hz_assign {env : Env} {elts : List Expr} {k} {pos : Pos} {t x1 : Addr} {items : Array Value} {Q : Unit → Shared → Prop} (hot : HotAt A x1 s.heap) (ht : IsTup s.heap t items)
    (hn : (assignEach elts env).length = items.size) (hstar : (assignEach elts env).findIdx? (·.1) = none)
    (h : ∀ h', Heap.ExtBut s.heap.objs.size s.heap h' → wpAny (model prog w) A (assignInOrder ((assignEach elts env).map (·.2)) items.toList) Q E { s with heap := h' }) :
    wpAny (model prog w) A (assign (.Tuple elts k pos) env (.ref t)) Q E s := by
  rw [assign_Tuple]
  refine wpAny_bind (wpAny_standAt ?_)
  unfold unpack
  rw [hn, hstar]
  exact wpAny_bind (wpAny_holding (hz_unpack hot ht h))
end
end PySem
namespace Pi
open PySem PySem.Spec L2 HotX
/-- wherever this context stands, the handled exception is there -/
def HotI (X : Cx) : Prop := ∀ (pins : List (Addr × Obj)) (σ : SL) (H : Hp) (s : Shared), Inv X pins σ H s → ∃ x1, HotAt X.A x1 s.heap
theorem pg_tupH {X : Cx} {es : List Expr} {k : Nat} {t : TGs} {n : Nat} {pos : Pos} (hot : HotI X) (h : PGs X es t) (hn : (assignEach es X.env).length = n) (hst : (assignEach es X.env).findIdx? (·.1) = none) : PG X (.Tuple es k pos) (gTup X.K n t) := by
  refine ⟨fun pins s σ H v u Q I r hw => ?_⟩
  obtain ⟨a, xs, e1, hq, hl, hw⟩ := hw
  subst e1
  cases r
  obtain ⟨its, rv, ht, hz⟩ := I.tuple hq
  obtain ⟨x1, hx⟩ := hot pins σ H s I
  refine hz_assign hx ht (by simp [hn, ← hl, rv.length]) hst fun h' hx => ?_
  have I1 : Inv X pins σ H { s with heap := h' } := I.kept (t' := s.toks) fun b o e => hx b o (Nat.ne_of_lt (Heap.lt_size e)) e
  exact h.run pins _ σ H xs _ Q I1 (by simpa using rv) hw
/-- a comprehension over a list, within a suite -/
def tLcL (K : PySem.W.Frag) (ti : TE) (g : TG) (tt : TT) (te : TE) (vs : List Nat) : TE := tLc (fun σ H R => ti σ H fun x H1 => ∃ a, x = .ref a ∧ (∃ xs, SqL K H1 a xs) ∧ R (Itl K a) H1) g tt te vs
open PyProof.Rows in
theorem pe_lcH {X : Cx} {elt tg iter : Expr} {ifs : List Expr} {scope : Scope} {own : List (Str × Nat)} {pos : Pos} {ti : TE} {g : TG} {tt : TT} {te : TE}
    (hot : L2H.HotC X) (hN : X.N.Nodup) (hi : PE X iter ti) (ok : BlkOk X.N X.env.scope scope own)
    (hg : ∀ (s : Shared) (H : Hp) (C : Addr) (cl : List (Str × Addr)) (fp : List Addr), HotI (X.blk s H scope (compEnvC scope cl C X.env) fp) → PG (X.blk s H scope (compEnvC scope cl C X.env) fp) tg g)
    (ht : ∀ (s : Shared) (H : Hp) (C : Addr) (cl : List (Str × Addr)) (fp : List Addr), HotI (X.blk s H scope (compEnvC scope cl C X.env) fp) → PTs (X.blk s H scope (compEnvC scope cl C X.env) fp) ifs tt)
    (he : ∀ (s : Shared) (H : Hp) (C : Addr) (cl : List (Str × Addr)) (fp : List Addr), HotI (X.blk s H scope (compEnvC scope cl C X.env) fp) → PE (X.blk s H scope (compEnvC scope cl C X.env) fp) elt te) (hs : ∀ x, foldedSetIterable iter X.env x = pure x) :
    PE X (.ListComp elt [⟨tg, iter, ifs, 0⟩] scope pos) (tLcL X.K ti g tt te (own.map (·.2))) := by
  refine ⟨fun pins s σ H Q I h => ?_⟩
  rw [eval_ListComp]
  have hfree : ∀ y ∈ scope.names, y.2 = .free → ∃ c, X.env.cells.lookup y.1 = some c := fun y hy e => by
    rcases ok.free y hy e with k | k
    · exact I.ok.has _ (.inl k)
    · exact I.ok.has _ (.inr k)
  refine wpAny_comprehension_free (use := none) rfl hs (closure_ok hfree) ok.kind (fun y hy e => by rw [ok.uniq y hy, e])
    (thn (hi.run pins s σ H _ I h) fun xv s1 ⟨x, H1, I1, r1, q1⟩ => ?_)
  obtain ⟨a, ex, ⟨xs, hq⟩, q⟩ := q1
  subst ex
  cases r1
  obtain ⟨its, rv, pl, hz⟩ := I1.list hq
  refine wpAny_pyIter_list pl.isList ?_
  generalize hit : s1.heap.objs.size = it
  generalize hs2 : ({ s1 with heap := s1.heap.push { cls := .type "list_iterator", data := .fields #[.ref a, .int 0 0] } } : Shared) = s2
  have I2 : Inv X pins σ H1 s2 := by rw [← hs2]; exact I1.kept (t' := s1.toks) fun b o e => Heap.get?_push_of_some _ e
  have st2 : s2.heap.IsListIter it a 0 := by rw [← hs2, ← hit]; exact ⟨_, Heap.get?_push_size _ rfl, rfl, rfl⟩
  have f2 : FpOk X pins H1 it := by rw [← hit]; exact I1.fpOk (Nat.le_refl _) (I1.hok.fresh (Nat.le_refl _))
  refine wpAny_newObj_type (newEnv_comp ?_) (by show 0 ≤ sizeLine; decide)
  generalize hD : s2.heap.objs.size = D
  have hDn : H1 D = none := I2.hok.fresh (Nat.le_of_eq hD)
  obtain ⟨W, ⟨m0, w0⟩, turn⟩ := q D hDn
  generalize hs3 : ({ s2 with heap := s2.heap.push { cls := .type "list", data := .seq ([] : List Value).toArray } } : Shared) = s3
  have I3 : Inv X pins σ (upd H1 D (.lst [])) s3 := by
    rw [← hs3]
    refine I2.laid (t' := s2.toks) (fun b o e => Heap.get?_push_of_some _ e) (Nat.le_of_eq hD) ⟨Nat.zero_le _, [], 0, .nil, ?_⟩
    rw [← hD]
    exact Heap.get?_push_size _ rfl
  have h3 : s3.heap = s2.heap.push { cls := .type "list", data := .seq ([] : List Value).toArray } := by rw [← hs3]
  have lit : it < s2.heap.objs.size := by obtain ⟨o, e, _⟩ := st2; exact Heap.lt_size e
  have f3 : ∀ b ∈ [it], FpOk X pins (upd H1 D (.lst [])) b ∧ b < s3.heap.objs.size := fun b hb => by
    obtain rfl : b = it := by simpa using hb
    refine ⟨⟨?_, f2.2⟩, by rw [h3, Heap.size_push]; exact Nat.lt_succ_of_lt lit⟩
    rw [upd_ne (by rw [← hD]; exact Nat.ne_of_lt lit)]
    exact f2.1
  have st3 : s3.heap.IsListIter it a 0 := st2.at fun o e => by rw [h3]; exact Heap.get?_push_of_some _ e
  have I4 := block_start I3 ok hN f3
  -- the handled exception, as it stands ahead of the block
  obtain ⟨p, ⟨hh, v1, e1, c1⟩, hp⟩ := hot
  have P3 := I3.pin p (List.mem_append_left _ hp)
  have blkHot : ∀ (ce : PySem.Env), HotI (X.blk s3 (upd H1 D (.lst [])) scope ce [it]) := fun ce pins' σ' H' s' I' => by
    have kp : s'.heap.get? p.1 = some p.2 := I'.base.keep p.1 p.2 P3.1 P3.2.1 (fun hm => (List.mem_cons.mp (I3.stkSub p.1 hm)).elim P3.2.2.1 P3.2.2.2.1) (fun z => by
      have z : p.1 ∈ [it] := z
      exact (f3 it (by simp)).1.2.2.2.2.2 p (List.mem_append_left _ hp) (by simpa using z))
    exact ⟨p.1, hh, p.2, v1, kp, e1, c1⟩
  have pg := hg s3 (upd H1 D (.lst [])) s3.heap.objs.size (cellsFrom (s3.heap.objs.size + 1) scope.names (cloFrom X.env.cells scope.names [])) [it] (blkHot _)
  have pt := ht s3 (upd H1 D (.lst [])) s3.heap.objs.size (cellsFrom (s3.heap.objs.size + 1) scope.names (cloFrom X.env.cells scope.names [])) [it] (blkHot _)
  have pe := he s3 (upd H1 D (.lst [])) s3.heap.objs.size (cellsFrom (s3.heap.objs.size + 1) scope.names (cloFrom X.env.cells scope.names [])) [it] (blkHot _)
  have bh := blkHot (compEnvC scope (cellsFrom (s3.heap.objs.size + 1) scope.names (cloFrom X.env.cells scope.names [])) s3.heap.objs.size X.env)
  show codeAny _ _ (.compStart (.ListComp elt [⟨tg, iter, ifs, 0⟩] scope pos) 0 (.ref it) (.ref D) (compEnvC scope (cellsFrom (s3.heap.objs.size + 1) scope.names (cloFrom X.env.cells scope.names [])) s3.heap.objs.size X.env)) (compPost (model X.prog X.w) X.A X.xe none (EP X pins σ Q) (.ref D) s3.heap.objs.size) { s3 with heap := pushCells (s3.heap.push { cls := .type "dict", data := .dict #[] }) scope.names }
  generalize hce : compEnvC scope (cellsFrom (s3.heap.objs.size + 1) scope.names (cloFrom X.env.cells scope.names [])) s3.heap.objs.size X.env = ce at I4 pg pt pe bh ⊢
  have cL : ce.locals = s3.heap.objs.size := by subst hce; rfl
  have nfp : (upd H1 D (.lst [])) it = none := (f3 it (by simp)).1.1
  generalize hH3 : upd H1 D (.lst []) = H3 at I3 I4 pg pt pe bh w0 nfp f3
  generalize hs4 : ({ s3 with heap := pushCells (s3.heap.push { cls := .type "dict", data := .dict #[] }) scope.names } : Shared) = s4 at I4 ⊢
  have st4 : s4.heap.IsListIter it a 0 := st3.at fun o e => by rw [← hs4]; exact pushCells_keeps _ _ _ _ (Heap.get?_push_of_some _ e)
  have stat : ∀ {σ' : SL} {H' : Hp} {s' : Shared}, Inv (X.blk s3 H3 scope ce [it]) [] σ' H' s' → H' it = none → FpOk (X.blk s3 H3 scope ce [it]) [] H' it := fun {σ' H' s'} I' hn =>
    ⟨hn, (I'.ok.exf it (by simp)).1, I'.ok.exfs it (by simp), .inl (by simp), fun x c e => (I'.ok.exf it (by simp)).2 x c e, fun p hp => absurd (show p ∈ ([] : List (Addr × Obj)) ++ [] from hp) (by simp)⟩
  have loop : codeAny (model X.prog X.w) X.A (.compLoop (.ListComp elt [⟨tg, iter, ifs, 0⟩] scope pos) 0 (.ref it) (.ref D) ce) (compPost (model X.prog X.w) X.A X.xe none (EP X pins σ Q) (.ref D) s3.heap.objs.size) s4 := by
    refine compLoop_any (fun n s' => ∃ i H', Inv (X.blk s3 H3 scope ce [it]) [] (wipe σ (own.map (·.2))) H' s' ∧ s'.heap.IsListIter it a i ∧ H' it = none ∧ W i n H') ?_ m0 ⟨0, H3, I4, st4, nfp, w0⟩
    rintro n s5 ⟨i, H5, I5, st5, n5, w5⟩
    obtain ⟨g0, g1, g2, g3, g4, g5⟩ := stat I5 n5
    rcases turn i n H5 w5 with ⟨stop, qq⟩ | ⟨go, Nx, hNx, step⟩
    · obtain ⟨ys, hy, hly⟩ := stop
      obtain ⟨its5, rv5, p5, _⟩ := I5.list hy
      have l5 := rv5.length
      obtain ⟨x1, hx1⟩ := bh _ _ _ _ I5
      refine hz_list_end hx1 st5 p5.isList (by simp; omega) fun h' eb => ?_
      have I6 : Inv (X.blk s3 H3 scope ce [it]) [] (wipe σ (own.map (·.2))) H5 { s5 with heap := h' } := I5.turned (t' := s5.toks) (fun b o hb e => eb b o hb e) g0 g1 g3 g4 g5
      have I7 : Inv X pins σ H5 { s5 with heap := h' } := I3.call' (ch := [it]) I6.os I6.base I6.hok I6.bare fun b hb => ⟨(f3 b hb).1.2.2.2.1, (f3 b hb).1.2.1, (f3 b hb).1.2.2.2.2.1, (f3 b hb).1.2.2.2.2.2⟩
      have nC : H5 s3.heap.objs.size = none := by
        have z : H5 ce.locals = none := I6.free
        rw [cL] at z
        exact z
      obtain ⟨m, hn, _⟩ := I6.loc
      have hn : h'.Ns ce.locals m := hn
      rw [cL] at hn
      obtain ⟨k0, k1, k2, k3, k4, k5⟩ := I3.fpOk (Nat.le_refl _) nC
      refine ⟨m, hn, fun h'' sb => ?_⟩
      exact ⟨.ref D, H5, I7.turned (t' := s5.toks) (fun b o hb e => (sb.2 b hb).trans e) k0 k1 k3 k4 k5, rfl, qq⟩
    · obtain ⟨ys, y, hy, hyi⟩ := go
      obtain ⟨its5, rv5, p5, _⟩ := I5.list hy
      obtain ⟨u, hu, ru⟩ := rv5.get hyi
      refine wpAny_pyNext_list_item st5 p5.isList (x := u) (by simpa using hu) fun h' st' sb => ?_
      have I7 : Inv (X.blk s3 H3 scope ce [it]) [] (wipe σ (own.map (·.2))) H5 { s5 with heap := h' } := I5.turned (t' := s5.toks) (fun b o hb e => (sb.2 b hb).trans e) g0 g1 g3 g4 g5
      obtain ⟨oi, ei, ci, di⟩ := id st'
      refine go_of (s := { s5 with heap := h' }) ei ci di (by decide) ?_
      have I7' := I7.pinned (fp := [it]) (fun b hb => by
        obtain rfl : b = it := by simpa using hb
        exact stat I7 n5) (fun b hb => by
        obtain rfl : b = it := by simpa using hb
        exact ⟨oi, ei, fun v z => by rw [di] at z; cases z⟩)
      refine thnF (pg.run _ _ _ H5 y u _ I7' ru (step y H5 ⟨rfl, fun zs hz => by rw [I5.list_inj hz hy]; exact hyi⟩)) fun _ s8 ⟨σ8, H8, I8, hw8, q8⟩ => ?_
      refine thnF (pt.run _ s8 σ8 H8 _ I8 q8) fun b s9 ⟨H9, I9, q9⟩ => ?_
      have fin : ∀ {s' : Shared} {H' : Hp}, Inv (X.blk s3 H3 scope ce [it]) ([] ++ pinsAt [it] h') σ8 H' s' → Nx H' → ∃ m, m < n ∧ ∃ i H', Inv (X.blk s3 H3 scope ce [it]) [] (wipe σ (own.map (·.2))) H' s' ∧ s'.heap.IsListIter it a i ∧ H' it = none ∧ W i m H' := fun {s' H'} I' nx => by
        obtain ⟨m', hm, w'⟩ := hNx H' nx
        have z := I'.pin (it, oi) (List.mem_append_right _ (List.mem_append_right _ (mem_pinsAt (by simp) ei)))
        have hl : (wipe σ (own.map (·.2))).length = σ8.length := by rw [← hw8, wipe_length]
        refine ⟨m', hm, i + 1, H', (I'.unpinned (pins := [])).weak hl (fun j v e => ?_), ⟨oi, z.1, ci, di⟩, z.2.1, w'⟩
        rw [← hw8] at e
        exact (wipe_some e).1
      cases b with
      | false =>
        simp only [Bool.false_eq_true, if_false] at q9 ⊢
        exact fin I9 q9
      | true =>
        simp only [if_true] at q9 ⊢
        refine thnF (pe.run _ s9 σ8 H9 _ I9 q9) fun z s10 ⟨yv, H10, I10, r10, acc, hD10, hz10, nx⟩ => ?_
        exact app_ok (X := X.blk s3 H3 scope ce [it]) I10 hD10 hz10 r10 fun s11 I11 => fin I11 nx
  exact codeAny_compStart_list loop (wpAny_pyIter_listiter st4 loop)
end Pi

set_option maxRecDepth 100000
set_option maxHeartbeats 4000000
/-! Pi3: a lambda is made; a local name without arguments is called; the lambda runs (exceptions with context None). -/
namespace Pi
open PySem PySem.Spec L2
open PyProof.Rows

/-- all but tables stay -/
structure Stays (F : Fx) (H H' : Hp) : Prop where
  kp : ∀ b o, H b = some o → ¬ isTbl o → H' b = some o
  th : ∀ b, H b ≠ none → H' b ≠ none
  tb : LamX.Tabs F.T H'
theorem Stays.refl {F : Fx} {H : Hp} (t : LamX.Tabs F.T H) : Stays F H H := ⟨fun _ _ e _ => e, fun _ e => e, t⟩
/-- the maker of lambdas: its code object and that one's table -/
structure LamAt (X : Cx) (F : Fx) : Prop where
  ex : ∃ c P, X.env.code = .ref c ∧ LamX.TabB X.base X.mg c P ∧ (P, X.env.qual ++ "<lambda>") ∈ F.T ∧ ∀ p ∈ F.T, p.1 = P → p.2 = X.env.qual ++ "<lambda>"

/-! ### the known heap with one more code object -/
section
variable {F : Fx} {H : Hp} {P c : Addr} {q : Str} {old new : Array Value}
def coded (H : Hp) (P c : Addr) (q : Str) (new : Array Value) : Hp := upd (upd H P (.tbl new)) c (LamX.CodeO c q)
theorem coded_tbl (h : P ≠ c) : coded H P c q new P = some (.tbl new) := (upd_ne h).trans upd_same
theorem coded_else {b : Addr} (h : b ≠ P) (h2 : b ≠ c) : coded H P c q new b = H b := (upd_ne h2).trans (upd_ne h)
theorem coded_stays (hT : LamX.Tabs F.T H) (hP : H P = some (.tbl old)) (hc : H c = none) (hq : ∀ p ∈ F.T, p.1 = P → p.2 = q) (ht : TriplesOk new.toList)
    (hn : ∀ (at' : Pos) (cv : Value), codeAmong at' new.toList = some cv → codeAmong at' old.toList = some cv ∨ cv = .ref c) : Stays F H (coded H P c q new) := by
  have apart : P ≠ c := fun z => by rw [z, hc] at hP; cases hP
  have known : ∀ b, H b ≠ none → b ≠ c := fun b h z => h (by rw [z]; exact hc)
  have same : ∀ b o, H b = some o → ¬ isTbl o → coded H P c q new b = some o := by
    intro b o e hb
    rw [coded_else (fun z => ?_) (known b (by rw [e]; simp)), e]
    rw [z, hP] at e
    cases e
    exact hb trivial
  have code : ∀ a w, H a = some (LamX.CodeO a w) → coded H P c q new a = some (LamX.CodeO a w) := fun a w e => same a _ e (by unfold LamX.CodeO isTbl; exact id)
  refine ⟨same, fun b hb => ?_, fun p hp => ?_⟩
  · by_cases z : b = P
    · rw [z, coded_tbl apart]; simp
    · rw [coded_else z (known b hb)]; exact hb
  · obtain ⟨ps, e, tr, all⟩ := hT p hp
    by_cases z : p.1 = P
    · refine ⟨new, by rw [z]; exact coded_tbl apart, ht, fun at' cv f => ?_⟩
      rw [z, hP] at e
      cases e
      rcases hn at' cv f with g | rfl
      · obtain ⟨a, e1, e2⟩ := all at' cv g
        exact ⟨a, e1, code a _ e2⟩
      · exact ⟨c, rfl, by rw [hq p hp z]; exact upd_same⟩
    · refine ⟨ps, by rw [coded_else z (known _ (by rw [e]; simp))]; exact e, tr, fun at' cv f => ?_⟩
      obtain ⟨a, e1, e2⟩ := all at' cv f
      exact ⟨a, e1, code a _ e2⟩
end
/-! ### a lambda is made -/
theorem new_apart {X : Cx} {pins : List (Addr × Obj)} {σ : SL} {H : Hp} {s : Shared} (I : Inv X pins σ H s) {g : Addr} (hg : s.heap.objs.size ≤ g) : g ∉ frs X.stack := by
  intro z
  rcases List.mem_cons.mp (I.stkSub g z) with rfl | z
  · exact absurd I.lt (Nat.not_lt.mpr hg)
  · exact I.nofs hg z
/-- the object of a lambda -/
abbrev lamObj (X : Cx) (params : Arguments) (body : Expr) (scope : Scope) (pm : Value) (c' : Addr) (ctv : Value) : Obj := PySem.W.kla_obj "<lambda>" (X.env.qual ++ "<lambda>") params body scope (cloFrom X.env.cells scope.names []) pm c' ctv
theorem lam_new {X : Cx} {F : Fx} {pins : List (Addr × Obj)} {σ : SL} {H : Hp} {s : Shared} {params : Arguments} {body : Expr} {scope : Scope} {pos : Pos} {E Q : Value → Shared → Prop}
    (I : Inv X pins σ H s) (la : LamAt X F) (hT : LamX.Tabs F.T H) (hdef : defaultsOf params X.env = ([], [])) (L : LamX.LamS X.env.scope scope)
    (then_ : ∀ (g c' : Addr) (pm ctv : Value) (H1 : Hp) (s' : Shared), Inv X pins σ H1 s' → Stays F H H1 → s'.heap.get? g = some (lamObj X params body scope pm c' ctv) → H1 g = none → g ∉ frs X.stack → H1 c' = some (LamX.CodeO c' (X.env.qual ++ "<lambda>")) → Q (.ref g) s') :
    wpAny (model X.prog X.w) X.A (eval (.Lambda params body scope pos) X.env) Q E s := by
  obtain ⟨c, P, code, B, inT, only⟩ := la.ex
  obtain ⟨ps, e, tr, all⟩ := hT _ inT
  have atP := I.hok P _ e
  have free := closure_ok (env := X.env) (L.has I.ok)
  have globs := I.mod.glob.keeps I.bk
  apply PySem.W.kla_eval hdef
  rcases f : codeAmong pos ps.toList with _ | cv
  · refine PySem.W.kla_makeFunction free I.ok.glob globs code (B.code.keeps I.bk) atP tr f B.gP (B.bm.keeps I.bk) ?_
    intro c' ctv h' tk grown low high ⟨_, oc, vs, t, e2, isObj, isFields, named⟩ table
    cases e2
    have unknown : H c' = none := I.hok.fresh low
    have J := LamX.inv_table (t' := tk) (q := X.env.qual ++ "<lambda>") (h' := h'.push (lamObj X params body scope ((X.mg "__name__").getD .none) c' ctv)) I e
      (fun b o ne at_ => Heap.get?_push_of_some _ (grown b o ne at_)) (Heap.get?_push_of_some _ table) low ⟨oc, vs, t, Heap.get?_push_of_some _ isObj, isFields, named⟩
    have list : (ps ++ #[rawInt pos.line, rawInt pos.col, Value.ref c']).toList = ps.toList ++ [rawInt pos.line, rawInt pos.col, .ref c'] := Array.toList_append
    have stays : Stays F H (coded H P c' (X.env.qual ++ "<lambda>") (ps ++ #[rawInt pos.line, rawInt pos.col, .ref c'])) :=
      coded_stays hT e unknown only (by rw [list]; exact PySem.TriplesOk_snoc _ _ _ _ tr) fun at' cv h => LamX.among_app _ tr (by rw [list] at h; exact h)
    have size : s.heap.objs.size ≤ h'.objs.size := by omega
    refine then_ _ c' _ ctv _ _ J stays (Heap.get?_push_size _ rfl) ?_ (new_apart I size) upd_same
    exact (coded_else (Nat.ne_of_gt (Nat.lt_of_lt_of_le (Heap.lt_size atP) size)) (Nat.ne_of_gt high)).trans (I.hok.fresh size)
  · obtain ⟨c', rfl, known⟩ := all pos cv f
    refine PySem.W.kla_makeFunctionHit free I.ok.glob globs code (B.code.keeps I.bk) atP tr f (B.bm.keeps I.bk) ?_
    intro ctv h' tk grown size
    exact then_ _ c' _ ctv H _ (I.kept fun b o at_ => Heap.get?_push_of_some _ (grown b o at_)) (Stays.refl hT) (Heap.get?_push_size _ rfl) (I.hok.fresh size) (new_apart I size) known
/-! ### the lambda runs -/
/-- the context of its body: the hand layer's, but for what is asked of an exception -/
abbrev lamBody (X : Cx) (A : Around) (outer : List PySem.Env) (s : Shared) (H : Hp) (E : XK) (scope : Scope) (g c' : Addr) : Cx := (LamX.lamCx X A outer s H E scope g c').wish fun e s' =>
  wpAny (model X.prog X.w) (A.deeper (LamX.lamEnv X scope s.heap.objs.size g c')) (leaving (LamX.lamEnv X scope s.heap.objs.size g c') e) (fun _ t => L2N.CX X.prog X.w outer H s E e t) (fun e' t => L2N.CX X.prog X.w outer H s E e' t) s'
/-- from any frames: X made it at H, s; it is called at H1, s1 -/
theorem lam_runs {X : Cx} {pins : List (Addr × Obj)} {σ : SL} {H H1 : Hp} {s s1 : Shared} {A : Around} {outer : List PySem.Env} {E : XK} {Q : VK} {g c' : Addr} {pm ctv : Value} {params : Arguments} {body : Expr} {scope : Scope} {k : Nat} {tb : TE}
    (I : Inv X pins σ H s) (L : LamX.LamS X.env.scope scope) (isLam : s1.heap.get? g = some (lamObj X params body scope pm c' ctv))
    (noArgs : bindArgs (PySem.W.kla_fn "<lambda>" (X.env.qual ++ "<lambda>") params body scope (cloFrom X.env.cells scope.names []) pm (.ref c') ctv) ⟨[], []⟩ = pure [])
    (room : Room (k + 1) A) (e0 : Env0 X.prog X.w X.K X.mg X.base A outer s1 H1) (since : Un (frs X.stack) [] H H1 s.heap s1.heap) (lim : s1.heap.NoLimit)
    (known : H1 c' = some (LamX.CodeO c' (X.env.qual ++ "<lambda>"))) (does : Room k (A.deeper (LamX.lamEnv X scope s1.heap.objs.size g c')) → PE (lamBody X A outer s1 H1 E scope g c') body tb) (pre : tb σ H1 Q) :
    codeAny (model X.prog X.w) A (.call (.ref g) ⟨[], []⟩) (CR (L2N.CX X.prog X.w) outer X.prog X.w H1 s1 Q E) s1 := by
  have ⟨⟨oc, vs, t, a1, a2, a3⟩, _, _⟩ := e0.hok c' _ known
  apply PySem.W.kla_callFunE room.depth isLam rfl L.co L.gen rfl ⟨c', oc, vs, t, rfl, a1, a2, a3⟩
  rw [noArgs]
  apply wpAny_pure
  apply wpAny_newFunctionEnv (fun y hy => (L.own y hy).2) (fun y hy => by cases hy) _ L.kind
  intro h2 names but
  have grown : ∀ b o, s1.heap.get? b = some o → h2.get? b = some o := fun b o e => but.extBut b o (fun z => absurd (Heap.lt_size e) (by rw [z]; exact Nat.lt_irrefl _)) (Heap.get?_push_of_some _ e)
  have J := (LamX.lam_start2 (E := E) (scope := scope) (f := g) (c' := c') (tk := s1.toks + ([] : List (Str × Value)).length) I L e0 room.hd since names grown).wish (fun e s' =>
    wpAny (model X.prog X.w) (A.deeper (LamX.lamEnv X scope s1.heap.objs.size g c')) (leaving (LamX.lamEnv X scope s1.heap.objs.size g c') e) (fun _ t => L2N.CX X.prog X.w outer H1 s1 E e t) (fun e' t => L2N.CX X.prog X.w outer H1 s1 E e' t) s')
  refine ⟨lim.fresh _ but, PySem.W.kla_codeExpr (wpAny_mono ((does (room.deeper _)).run _ _ _ _ Q J pre) ?_ fun _ _ z => z)⟩
  intro v t ⟨w, H2, J2, r, q⟩
  exact ⟨w, H2, J2.os, J2.bare, J2.base, J2.hok, r, q⟩
/-! ### a call of what a local name holds, without arguments -/
/-- what is called may stand for itself: at a state of Z that pre tells of, its run is known -/
theorem pe_run0 {Z : Cx} {W : WX} {i : Nat} {a : Str} {p1 p2 : Pos} {g : Addr} {E : XK} {pre : TE} (tk : L2N.Takes Z W) (hW : ∀ cls d (σ : SL) H, σ.length = Z.N.length → E cls d H → W cls d σ H)
    (hN : Z.N[i]? = some a) (hv : Vis Z.env.scope a) (hd : (a == ("__debug__" : Str)) = false) (hcd : (a == ("__classdict__" : Str)) = false)
    (fn : ∀ pins σ H s Q, Inv Z pins σ H s → pre σ H Q → (∃ o dd fd sl, s.heap.get? g = some ⟨o, dd, .func fd, sl⟩) ∧ codeAny (model Z.prog Z.w) Z.A (.call (.ref g) ⟨[], []⟩) (CR (L2N.CX Z.prog Z.w) Z.stack Z.prog Z.w H s Q E) s) :
    PE Z (.Call (.Name a p1) [] [] p2) (fun σ H Q => σ[i]? = some (some (.ref g)) ∧ pre σ H Q) := ⟨by
  intro pins s σ H Q I ⟨slot, h⟩
  apply wpAny_Call_Name_kw
  have named := (pe_var (pos := p1) hN hv hd hcd).run pins s σ H (fun v H1 => v = .ref g ∧ H1 = H) I ⟨_, slot, rfl, rfl⟩
  refine thn named ?_
  rintro u s1 ⟨_, _, I1, r1, rfl, rfl⟩
  cases r1
  obtain ⟨isFn, run⟩ := fn pins σ _ s1 Q I1 h
  refine PySem.W.callWith_F0 isFn (wpAny_call (codeAny_mono run ?_))
  rintro (e | (_ | _ | _ | u)) s2 q
  · exact tk e s2 (L2N.XE.of_call I1 (fun cls d H2 x => hW cls d σ H2 I1.len x) q)
  all_goals first | exact I1.after q | exact False.elim q⟩
end Pi

set_option maxRecDepth 100000
set_option maxHeartbeats 1000000
/-! PiV: the text is held against the code: expressions. -/
namespace Pi
open PySem PySem.Spec L2

/-- what a global name tells -/
inductive GV where
  | fn (i : Nat) | cls (i : Nat) (own : Bool) | cst (d : D) | free
/-- a block's names -/
structure Sc0 where
  N : List Str
  sc : Scope
  fnB : Str → Bool
  hot : Nat := 0
  lam : Bool := false
/-- an exception class of the program without own __init__ -/
def MkOk (X : Cx) (C : Addr) : Prop := ∃ (bmB : List Value) (B newId initId : String), ExcBaseFacts B newId initId bmB ∧ PySem.W.excIn X.K C bmB newId = true ∧ PySem.W.keepIn X.K (.ref C) = true ∧ Raises X (.ref C)
/-- the lambda's parameters and names -/
def lamOk (params : Arguments) (sc scope : Scope) : Bool := (match params with
  | ⟨[], [], none, [], [], none, []⟩ => true
  | _ => false) && LamX.lamSB sc scope
/-- a call of _law_refused with a lambda keeps its reading -/
def RfdR (X : Cx) (F : Fx) (G : Gl) (call : Nat → List D → Sto → RC) (W : WX) (k : Nat) : Prop := ∀ (bw : Bool) (f : Nat) (e : C) (params : Arguments) (body : Expr) (scope : Scope) (p lpos pos : Pos), lamOk params X.env.scope scope = true → L2.Gl X "_law_refused" →
  (∀ (E : XK) (A : Around) (outer : List PySem.Env) (s : Shared) (H : Hp) (g c' : Addr), Room k (A.deeper (LamX.lamEnv X scope s.heap.objs.size g c')) → PE (lamBody X A outer s H E scope g c') body (RdE F G call (fun cls dd _ H' => E cls dd H') false e)) →
  PE X (.Call (.Name "_law_refused" p) [.Lambda params body scope lpos] [] pos) (RdE F G call W bw (.rfd f e))
structure XOk (X : Cx) (F : Fx) (G : Gl) (call : Nat → List D → Sto → RC) (tab : Str → Option GV) (S : Sc0) (W : WX) (k : Nat) : Prop where
  K : X.K = F.K
  N : X.N = S.N
  nd : S.N.Nodup
  sc : X.env.scope = S.sc
  fn : ∀ x, S.fnB x = true → X.fn x = true
  calm : S.hot = 0 → X.calm = true
  un : X.A.units + 64 < cLine
  room : S.hot = 0 → Room k X.A
  rfd : S.lam = true → RfdR X F G call W k
  xi : S.hot = 0 → ∀ i d, G.xi i d = none
  hot1 : S.hot = 1 → L2H.HotC X ∧ ∀ bw W', CallR X (.builtin "isinstance") (rMany F bw W' (bifn G .isinst))
  hot2 : S.hot = 0 ∨ HotI X
  tk : L2N.Takes X W
  po : PassesOwn (model X.prog X.w) X.A X.env X.xe
  fns : Fns X F call G k
  nca : ∀ f ds st, call f ds st ≠ .no → G.ar f = some ds.length
  glob : ∀ x g, tab x = some g → match g with
    | .fn i => X.mg x = some (.ref (F.ga i)) ∧ ∃ n, G.ar i = some n
    | .cls i own => X.mg x = some (.ref (F.ga i)) ∧ (own = true → MkOk X (F.ga i))
    | .cst d => ∃ u v, X.mg x = some u ∧ RelV v u ∧ ∀ Mu m n H, Rep F Mu m n H v d
    | .free => X.mg x = none
/-! ### names -/
def visC (sc : Scope) (x : Str) : Bool := match sc.names.lookup x with
  | some .local | some .cell | some .free => true
  | _ => false
def locC (sc : Scope) (x : Str) : Bool := match sc.names.lookup x with
  | some .local | some .cell => true
  | _ => false
def glC (sc : Scope) (x : Str) : Bool := match sc.names.lookup x with
  | some .globalImplicit => !(x == ("__debug__" : Str))
  | _ => false
def okName (x : Str) : Bool := !(x == ("__debug__" : Str)) && !(x == ("__classdict__" : Str))
def slotC (S : Sc0) (i : Nat) (x : Str) : Bool := decide (S.N[i]? = some x) && visC S.sc x && okName x
def tgtC (S : Sc0) (i : Nat) (x : Str) : Bool := decide (S.N[i]? = some x) && locC S.sc x && (S.fnB x || decide (S.sc.names.lookup x = some .local))
def freeC (tab : Str → Option GV) (S : Sc0) (x : Str) : Bool := glC S.sc x && match tab x with
  | some .free => true
  | _ => false
section
variable {X : Cx} {F : Fx} {G : Gl} {call : Nat → List D → Sto → RC} {tab : Str → Option GV} {S : Sc0} {W : WX} {k : Nat}
theorem visC_ok {sc : Scope} {x : Str} (h : visC sc x = true) : Vis sc x := by
  unfold visC at h
  split at h
  · rename_i e; exact .inl e
  · rename_i e; exact .inr (.inl e)
  · rename_i e; exact .inr (.inr e)
  · cases h
theorem locC_ok {sc : Scope} {x : Str} (h : locC sc x = true) : Loc sc x := by
  unfold locC at h
  split at h
  · rename_i e; exact .inl e
  · rename_i e; exact .inr e
  · cases h
theorem glC_ok (x : XOk X F G call tab S W k) {y : Str} (h : glC S.sc y = true) : L2.Gl X y ∧ (y == ("__debug__" : Str)) = false := by
  unfold glC at h
  split at h
  · rename_i e
    refine ⟨?_, by simpa using h⟩
    show X.env.scope.names.lookup y = _
    rw [x.sc]; exact e
  · cases h
theorem freeC_ok (x : XOk X F G call tab S W k) {y : Str} (h : freeC tab S y = true) : L2.Gl X y ∧ X.mg y = none ∧ (y == ("__debug__" : Str)) = false := by
  unfold freeC at h
  rw [Bool.and_eq_true] at h
  obtain ⟨h1, h2⟩ := h
  obtain ⟨g1, g2⟩ := glC_ok x h1
  split at h2
  · rename_i e; exact ⟨g1, x.glob _ _ e, g2⟩
  · cases h2
theorem okName_ok {x : Str} (h : okName x = true) : (x == ("__debug__" : Str)) = false ∧ (x == ("__classdict__" : Str)) = false := by
  unfold okName at h
  rw [Bool.and_eq_true, Bool.not_eq_true', Bool.not_eq_true'] at h
  exact h
theorem slotC_ok (x : XOk X F G call tab S W k) {i : Nat} {y : Str} (h : slotC S i y = true) : X.N[i]? = some y ∧ Vis X.env.scope y ∧ (y == ("__debug__" : Str)) = false ∧ (y == ("__classdict__" : Str)) = false := by
  unfold slotC at h
  rw [Bool.and_eq_true, Bool.and_eq_true, decide_eq_true_eq] at h
  refine ⟨by rw [x.N]; exact h.1.1, by rw [x.sc]; exact visC_ok h.1.2, okName_ok h.2⟩
theorem pe_slot' (x : XOk X F G call tab S W k) {i : Nat} {y : Str} {p : Pos} (h : slotC S i y = true) : PE X (.Name y p) (tVar i) := let ⟨h1, h2, h3, h4⟩ := slotC_ok x h; pe_var h1 h2 h3 h4
/-! ### targets -/
def chkNames (S : Sc0) : List Nat → List Expr → Bool
  | [], [] => true
  | i :: is, .Name x _ :: es => tgtC S i x && chkNames S is es
  | _, _ => false
def chkT (S : Sc0) : T → Expr → Bool
  | .n i, .Name x _ => tgtC S i x
  | .t is, .Tuple es _ _ => chkNames S is es
  | _, _ => false
theorem tgtC_ok (x : XOk X F G call tab S W k) {i : Nat} {y : Str} {p : Pos} (h : tgtC S i y = true) : PG X (.Name y p) (gName i) := by
  unfold tgtC at h
  rw [Bool.and_eq_true, Bool.and_eq_true, decide_eq_true_eq, Bool.or_eq_true, decide_eq_true_eq] at h
  obtain ⟨⟨h1, h2⟩, h3⟩ := h
  refine pg_name (by rw [x.N]; exact x.nd) (by rw [x.N]; exact h1) (by rw [x.sc]; exact locC_ok h2) (h3.imp (x.fn _) fun z => by rw [x.sc]; exact z)
theorem chkNames_ok (x : XOk X F G call tab S W k) : ∀ {is : List Nat} {es : List Expr}, chkNames S is es = true → PGs X es (tgs is) ∧ (assignEach es X.env).length = is.length ∧ (assignEach es X.env).findIdx? (·.1) = none
  | [], [], _ => ⟨pgs_nil, rfl, rfl⟩
  | i :: is, e :: es, h => by
    cases e with
    | Name y p =>
      have h : (tgtC S i y && chkNames S is es) = true := h
      rw [Bool.and_eq_true] at h
      obtain ⟨h1, h2, h3⟩ := chkNames_ok x h.2
      refine ⟨pgs_cons (tgtC_ok x h.1) h1, ?_, ?_⟩
      · show (assignEach es X.env).length + 1 = _
        rw [h2]; rfl
      · show List.findIdx? _ ((false, _) :: assignEach es X.env) = none
        rw [List.findIdx?_cons]
        simp [h3]
    | _ => cases h
  | [], _ :: _, h => by cases h
  | _ :: _, [], h => by cases h
theorem chkT_ok (x : XOk X F G call tab S W k) {t : T} {e : Expr} (h : chkT S t e = true) : PG X e (t.g F.K) ∧ (assignEach [e] X.env).map (·.2) = [assign e X.env] := by
  cases t with
  | n i =>
    cases e with
    | Name y p => exact ⟨tgtC_ok x h, rfl⟩
    | _ => cases h
  | t is =>
    cases e with
    | Tuple es kk p =>
      obtain ⟨h1, h2, h3⟩ := chkNames_ok x h
      refine ⟨?_, rfl⟩
      rw [show T.g F.K (.t is) = gTup X.K is.length (tgs is) by rw [x.K]; rfl]
      exact x.hot2.elim (fun h => pg_tup (x.calm h) h1 h2 h3) fun h => pg_tupH h h1 h2 h3
    | _ => cases h

/-! ### what is expected of a piece of code -/
def nit : C → Bool
  | .rng _ | .enm _ | .zp _ _ => false
  | _ => true
def needT : C → Bool
  | .enm _ | .zp _ _ => true
  | _ => false
def tupT : Expr → Bool
  | .Tuple .. => true
  | _ => false
structure Good (X : Cx) (F : Fx) (G : Gl) (call : Nat → List D → Sto → RC) (W : WX) (c : C) (e : Expr) : Prop where
  pe : nit c = true → ∀ bw, PE X e (RdE F G call W bw c)
  pt : nit c = true → PT X e (RdT F G call W c)
  pw : (∃ op vs pos, e = .BoolOp op vs pos) → nit c = true → PW X e (RdT F G call W c)
  pi : ∀ tg, (needT c = true → tupT tg = true) → PI X tg e (RdI F G call W c)
theorem good_pe {c : C} {e : Expr} (x : XOk X F G call tab S W k) (hn : nit c = true) (h : ∀ bw, PE X e (RdE F G call W bw c)) (hp : plainTest e = true) : Good X F G call W c e :=
  ⟨fun _ => h, fun _ => rt_val (h true) hp, (fun ⟨_, _, _, z⟩ _ => by rw [z] at hp; cases hp), fun tg _ => ri_seq x.K (h false)⟩
theorem good_pt {c : C} {e : Expr} (x : XOk X F G call tab S W k) (h : ∀ bw, PE X e (RdE F G call W bw c)) (ht : PT X e (RdT F G call W c)) (hw : ∀ op vs pos, e ≠ .BoolOp op vs pos) : Good X F G call W c e :=
  ⟨fun _ => h, fun _ => ht, fun ⟨_, _, _, z⟩ _ => absurd z (hw _ _ _), fun tg _ => ri_seq x.K (h false)⟩
theorem good_pw {c : C} {e : Expr} (x : XOk X F G call tab S W k) (h : ∀ bw, PE X e (RdE F G call W bw c)) (hw : PW X e (RdT F G call W c)) : Good X F G call W c e :=
  ⟨fun _ => h, fun _ => hw.pt, fun _ _ => hw, fun tg _ => ri_seq x.K (h false)⟩
/-- a if t else b, as a test -/
theorem pt_ite {c a b : Expr} {tc ta tb : TT} {pos : Pos} (hc : PT X c tc) (ha : PT X a ta) (hb : PT X b tb) : PT X (.IfExp c a b pos) (fun σ H Q => tc σ H fun k H1 => if k = true then ta σ H1 Q else tb σ H1 Q) := by
  refine ⟨fun pins s σ H Q I h => ?_⟩
  show wpAny _ _ (do if ← isTrue c X.env (eval c X.env) then isTrue a X.env (eval a X.env) else isTrue b X.env (eval b X.env)) _ _ _
  refine wpAny_bind (thn (hc.run pins s σ H _ I h) fun d s1 ⟨H1, I1, q1⟩ => ?_)
  cases d with
  | true => exact ha.run pins s1 σ H1 Q I1 q1
  | false => exact hb.run pins s1 σ H1 Q I1 q1
theorem rt_ite {c a b : C} {ec ea eb : Expr} {pos : Pos} (hc : PT X ec (RdT F G call W c)) (ha : PT X ea (RdT F G call W a)) (hb : PT X eb (RdT F G call W b)) : PT X (.IfExp ec ea eb pos) (RdT F G call W (.ite c a b)) := (pt_ite hc ha hb).imp fun σ H Q ⟨Uo, m, env, st, S, q⟩ => by
  unfold truth at q
  rw [ev] at q
  refine ⟨Uo, m, env, st, S, ?_⟩
  unfold truth
  revert q
  generalize ev G call true c env st = r
  intro q
  cases r with
  | no => exact q.elim
  | ex c x env' st' => exact q
  | ok p env' st' =>
    obtain ⟨d, o⟩ := p
    cases d with
    | bl kk =>
      intro b' m1 H1 p1 S1 e1
      subst e1
      cases b' with
      | true => rw [if_pos rfl]; exact ⟨Uo, m1, env', st', S1, closedG.step _ _ _ _ _ _ _ _ _ p1 q⟩
      | false => rw [if_neg (by decide)]; exact ⟨Uo, m1, env', st', S1, closedG.step _ _ _ _ _ _ _ _ _ p1 q⟩
    | _ => exact q.elim
/-- a value that must be a list -/
theorem asl_lst {bw : Bool} {a : C} {env e : Env} {st s : Sto} {p : D × Bool} (h : ev G call bw (.asl a) env st = .ok p e s) : ∃ xs, p.1 = .lst xs := by
  rw [ev] at h
  cases q : ev G call bw a env st with
  | no => rw [q] at h; cases h
  | ex c x e1 s1 => rw [q] at h; cases h
  | ok x e1 s1 =>
    rw [q] at h
    obtain ⟨d, o⟩ := x
    cases d with
    | lst xs => cases h; exact ⟨xs, rfl⟩
    | _ => cases h
theorem rd_asl {bw : Bool} {a : C} {e : Expr} (ha : PE X e (RdE F G call W bw a)) : PE X e (RdE F G call W bw (.asl a)) := ha.imp fun σ H Q ⟨Uo, m, env, st, S, q⟩ => by
  rw [ev] at q
  refine ⟨Uo, m, env, st, S, ?_⟩
  revert q
  generalize ev G call bw a env st = r
  intro q
  rcases r with _ | ⟨⟨d, o⟩, env1, st1⟩ | ⟨c, x, env', st'⟩
  · exact q
  · cases d with
    | lst xs => exact q
    | _ => exact q.elim
  · exact q
theorem rd_lcH {bw : Bool} {elt : C} {tg : T} {a : C} {cond : Option C} {elt' tg' iter : Expr} {ifs : List Expr} {scope : Scope} {own : List (Str × Nat)} {pos : Pos} (hK : X.K = F.K) (hot : L2H.HotC X) (hN : X.N.Nodup)
    (hi : PE X iter (RdE F G call W false a)) (ok : BlkOk X.N X.env.scope scope own) (ho : own.map (·.2) = tg.own)
    (hg : ∀ (s : Shared) (H : Hp) (C : Addr) (cl : List (Str × Addr)) (fp : List Addr), HotI (X.blk s H scope (compEnvC scope cl C X.env) fp) → PG (X.blk s H scope (compEnvC scope cl C X.env) fp) tg' (tg.g F.K)) (ht : ∀ (s : Shared) (H : Hp) (C : Addr) (cl : List (Str × Addr)) (fp : List Addr), HotI (X.blk s H scope (compEnvC scope cl C X.env) fp) → PTs (X.blk s H scope (compEnvC scope cl C X.env) fp) ifs (RdC F G call cond))
    (he : ∀ (s : Shared) (H : Hp) (C : Addr) (cl : List (Str × Addr)) (fp : List Addr), HotI (X.blk s H scope (compEnvC scope cl C X.env) fp) → PE (X.blk s H scope (compEnvC scope cl C X.env) fp) elt' (RdE F G call W0 false elt)) (hs : noSet iter = true) :
    PE X (.ListComp elt' [⟨tg', iter, ifs, 0⟩] scope pos) (RdE F G call W bw (.lc elt tg (.asl a) cond)) :=
  (pe_lcH hot hN (rd_asl hi) ok hg ht he (no_fold hs _)).imp fun σ H Q h => by
    rw [ho]
    have h := lc_dat h
    unfold tLcL
    obtain ⟨Uo, m, env, st, S, q⟩ := h
    refine ⟨Uo, m, env, st, S, ?_⟩
    revert q
    cases hr : ev G call false (.asl a) env st with
    | no => exact fun q => q
    | ex c x env' st' => exact fun q => q
    | ok p env1 st1 =>
      intro q v m1 H1 p1 S1 r1
      obtain ⟨xs, e, k⟩ := q
      obtain ⟨ys, hy⟩ := asl_lst hr
      have rep := r1.toRep S.uH S1
      rw [hy] at rep e
      cases e
      obtain ⟨b, vs, rfl, hq, hm, hrr⟩ := rep
      exact ⟨b, rfl, ⟨vs, .inl hq⟩, by rw [hK]; exact k _ m1 H1 p1 S1.base (.lst hq hm hrr)⟩
theorem boot_bi (b : Bi) (h : b ≠ .sortset) : bootBuiltins b.name = some b.val ∧ b.name ≠ "__name__" ∧ (b.name == ("__debug__" : Str)) = false := by
  cases b <;> first
    | exact absurd rfl h
    | exact ⟨by decide +kernel, by decide, by decide⟩
end
end Pi

set_option maxRecDepth 100000
set_option maxHeartbeats 4000000
/-! PiW: the check of expressions. -/
namespace Pi
open PySem PySem.Spec L2

/-- the block of a comprehension -/
def subS (S : Sc0) (scope : Scope) : Sc0 := ⟨S.N, relS scope S.sc, fun x => scope.names.lookup x == some .cell, 0, false⟩
def hotS (S : Sc0) (scope : Scope) : Sc0 := ⟨S.N, relS scope S.sc, fun x => scope.names.lookup x == some .cell, 2, false⟩
def cold (S : Sc0) : Bool := decide (S.hot = 0)
def hotBi (S : Sc0) (b : Bi) : Bool := decide (S.hot = 1) && decide (b = .isinst)
def tgtNames : Expr → List Str
  | .Name x _ => [x]
  | .Tuple es _ _ => es.filterMap fun | .Name x _ => some x | _ => none
  | _ => []
section
variable (tab : Str → Option GV)
mutual
def chkE (S : Sc0) : C → Expr → Bool
  | .k d, e => match d, e with
    | .non, .Constant .none _ _ => true
    | .bl b, .Constant (.bool b') _ _ => b == b'
    | .int i, .Constant (.int j) _ _ => decide (i = j)
    | .str s, .Constant (.str t) _ _ => decide (s = t)
    | _, _ => false
  | .g d, e => match e with
    | .Name x _ => match d with
      | .ty t => freeC tab S x && decide (bootBuiltins x = some (.type t)) && !(x == ("__name__" : Str))
      | .gl i => glC S.sc x && (match tab x with | some (.fn j) => decide (i = j) | some (.cls j _) => decide (i = j) | _ => false)
      | .int i => glC S.sc x && (match tab x with | some (.cst (.int j)) => decide (i = j) | _ => false)
      | _ => false
    | _ => false
  | .v i, e => match e with
    | .Name x _ => slotC S i x
    | _ => false
  | .tp cs, e => match e with
    | .Tuple es _ _ => chkL S cs es
    | _ => false
  | .ls cs, e => match e with
    | .List es _ => chkL S cs es
    | _ => false
  | .bin o a b, e => match e with
    | .BinOp x op y _ => decide (op = o.op) && (nit a && chkE S a x) && (nit b && chkE S b y)
    | _ => false
  | .neg a, e => match e with
    | .UnaryOp .USub x _ => nit a && chkE S a x
    | _ => false
  | .not a, e => match e with
    | .UnaryOp .Not x _ => nit a && chkE S a x
    | _ => false
  | .and a b, e => match e with
    | .BoolOp .And (x :: y :: r) pos => (nit a && chkE S a x) && (nit b && (match r with | [] => chkE S b y | z :: r => chkE S b (.BoolOp .And (y :: z :: r) pos)))
    | _ => false
  | .or a b, e => match e with
    | .BoolOp .Or (x :: y :: r) pos => (nit a && chkE S a x) && (nit b && (match r with | [] => chkE S b y | z :: r => chkE S b (.BoolOp .Or (y :: z :: r) pos)))
    | _ => false
  | .ite t a b, e => match e with
    | .IfExp x y z _ => (nit t && chkE S t x) && (nit a && chkE S a y) && (nit b && chkE S b z)
    | _ => false
  | .cmp o a b, e => match e with
    | .Compare x [op] [y] _ => decide (op = o.op) && !behindInMarks op y && (nit a && chkE S a x) && (nit b && chkE S b y)
    | _ => false
  | .chn o p a b c, e => match e with
    | .Compare x [op, op2] [y, z] _ => decide (op = o.op) && decide (op2 = p.op) && !lastMarks [op, op2] [y, z] && (nit a && chkE S a x) && (nit b && chkE S b y) && (nit c && chkE S c z)
    | _ => false
  | .ix a i, e => match e with
    | .Subscript x y _ => noSlice y && (nit a && chkE S a x) && (nit i && chkE S i y)
    | _ => false
  | .sl a lo hi, e => match e with
    | .Subscript x (.Slice l h none _) _ => (nit a && chkE S a x) && chkO S lo l && chkO S hi h
    | _ => false
  | .rev a, e => match e with
    | .Subscript x (.Slice none none (some (.UnaryOp .USub (.Constant (.int i) _ _) _)) _) _ => decide (i = 1) && (nit a && chkE S a x)
    | _ => false
  | .call f cs, e => match e with
    | .Call (.Name x _) (y :: ys) [] _ => (cold S && glC S.sc x) && (match tab x with | some (.fn j) => decide (f = j) | _ => false) && chkL S cs (y :: ys)
    | _ => false
  | .cv i cs, e => match e with
    | .Call (.Name x _) (y :: ys) [] _ => (cold S && slotC S i x) && chkL S cs (y :: ys)
    | _ => false
  | .bi b cs, e => match e with
    | .Call (.Name x _) (y :: ys) [] _ => match b with
      | .sortset => match cs, y, ys with
        | [a], .Call (.Name z _) [w] [] _, [] => cold S && (x == ("sorted" : Str)) && (z == ("set" : Str)) && freeC tab S x && freeC tab S z && noStar w && (nit a && chkE S a w)
        | _, _, _ => false
      | b => (decide (x = b.name) && (cold S || hotBi S b)) && freeC tab S x && chkL S cs (y :: ys)
    | _ => false
  | .me m a cs, e => match e with
    | .Call (.Attribute o n ap) [y] [] cp => match m, cs with
      | .join, [b] => (n == ("join" : Str)) && noStar y && noCall o && (ap.endLine == cp.line) && (nit a && chkE S a o) && (nit b && chkE S b y)
      | _, _ => false
    | _ => false
  | .rng cs, e => match e with
    | .Call (.Name x _) ys [] _ => (x == ("range" : Str)) && freeC tab S x && decide (ys.length ≤ 2) && decide (1 ≤ ys.length) && chkL S cs ys
    | _ => false
  | .enm a, e => match e with
    | .Call (.Name x _) [y] [] _ => (x == ("enumerate" : Str)) && freeC tab S x && noStar y && (nit a && chkE S a y)
    | _ => false
  | .zp a b, e => match e with
    | .Call (.Name x _) [y, z] [] _ => (x == ("zip" : Str)) && freeC tab S x && noStar y && noStar z && (nit a && chkE S a y) && (nit b && chkE S b z)
    | _ => false
  | .lc elt tg it cond, e => match e with
    | .ListComp x [⟨t, i, ifs, ia⟩] scope _ => (cold S && decide (ia = 0) && noSet i && blkC S.N S.sc scope ((tgtNames t).zip tg.own) && decide (((tgtNames t).zip tg.own).map (·.2) = tg.own) && (!needT it || tupT t) && chkE S it i &&
        chkT (subS S scope) tg t && (nit elt && chkE (subS S scope) elt x) && chkC (subS S scope) cond ifs) ||
        (decide (S.hot = 1) && decide (ia = 0) && noSet i && blkC S.N S.sc scope ((tgtNames t).zip tg.own) && decide (((tgtNames t).zip tg.own).map (·.2) = tg.own) && (match it with
          | .asl a => nit a && chkE S a i
          | _ => false) &&
        chkT (hotS S scope) tg t && (nit elt && chkE (hotS S scope) elt x) && chkC (hotS S scope) cond ifs)
    | _ => false
  | .mk a, e => plainTest e && (nit a && chkE S a e)
  | .asl a, e => plainTest e && (nit a && chkE S a e)
  | .rfd _ a, e => match e with
    | .Call (.Name x _) [.Lambda params body scope _] [] _ => (S.lam && cold S) && (x == ("_law_refused" : Str)) && glC S.sc x && lamOk params S.sc scope && (nit a && chkE ⟨S.N, scope, fun _ => false, 0, false⟩ a body)
    | _ => false
def chkL (S : Sc0) : List C → List Expr → Bool
  | [], [] => true
  | c :: cs, e :: es => noStar e && (nit c && chkE S c e) && chkL S cs es
  | _, _ => false
def chkO (S : Sc0) : Option C → Option Expr → Bool
  | none, none => true
  | some c, some e => nit c && chkE S c e
  | _, _ => false
def chkC (S : Sc0) : Option C → List Expr → Bool
  | none, [] => true
  | some c, [e] => nit c && chkE S c e
  | _, _ => false
end
end

theorem and3 {a b c : Bool} (h : (a && b && c) = true) : a = true ∧ b = true ∧ c = true := by
  rw [Bool.and_eq_true, Bool.and_eq_true] at h
  exact ⟨h.1.1, h.1.2, h.2⟩
theorem noT {e : Expr} {op : BoolOp} {vs : List Expr} {pos : Pos} (h : plainTest e = true) : e ≠ .BoolOp op vs pos := fun z => by rw [z] at h; cases h
section
variable {F : Fx} {G : Gl} {call : Nat → List D → Sto → RC} {tab : Str → Option GV} {k : Nat}
theorem xok_blk {X : Cx} {S : Sc0} {W : WX} (x : XOk X F G call tab S W k) (hc : S.hot = 0) (s : Shared) (H : Hp) (scope : Scope) (C : Addr) (cl : List (Str × Addr)) (fp : List Addr) : XOk (X.blk s H scope (compEnvC scope cl C X.env) fp) F G call tab (subS S scope) W0 k where
  K := x.K
  N := x.N
  nd := x.nd
  sc := by
    show relS scope X.env.scope = _
    rw [x.sc]; rfl
  fn := fun y h => h
  calm := fun _ => x.calm hc
  un := x.un
  room := fun _ => x.room hc
  xi := fun _ => x.xi hc
  rfd := fun z => by cases z
  hot1 := fun z => by cases z
  hot2 := .inl rfl
  tk := fun u s' ⟨_, _, _, _, _, _, _, _, _, _, _, _, _, _, _, _, w⟩ => w.elim
  po := PassesOwn.never
  fns := x.fns
  nca := x.nca
  glob := x.glob
theorem xok_hot {X : Cx} {S : Sc0} {W : WX} (x : XOk X F G call tab S W k) (s : Shared) (H : Hp) (scope : Scope) (C : Addr) (cl : List (Str × Addr)) (fp : List Addr) (hh : HotI (X.blk s H scope (compEnvC scope cl C X.env) fp)) : XOk (X.blk s H scope (compEnvC scope cl C X.env) fp) F G call tab (hotS S scope) W0 k where
  K := x.K
  N := x.N
  nd := x.nd
  sc := by
    show relS scope X.env.scope = _
    rw [x.sc]; rfl
  fn := fun y h => h
  calm := fun z => by cases z
  un := x.un
  room := fun z => by cases z
  xi := fun z => by cases z
  rfd := fun z => by cases z
  hot1 := fun z => by cases z
  hot2 := .inr hh
  tk := fun u s' ⟨_, _, _, _, _, _, _, _, _, _, _, _, _, _, _, _, w⟩ => w.elim
  po := PassesOwn.never
  fns := x.fns
  nca := x.nca
  glob := x.glob
theorem xok_lam {X : Cx} {S : Sc0} {W : WX} (x : XOk X F G call tab S W k) (hc : S.hot = 0) (E : XK) (A : Around) (outer : List PySem.Env) (s : Shared) (H : Hp) (scope : Scope) (f c' : Addr) (hr : Room k (A.deeper (LamX.lamEnv X scope s.heap.objs.size f c'))) : XOk (lamBody X A outer s H E scope f c') F G call tab ⟨S.N, scope, fun _ => false, 0, false⟩ (fun cls dd _ H' => E cls dd H') k where
  K := x.K
  N := x.N
  nd := x.nd
  sc := rfl
  fn := fun y h => by cases h
  calm := fun _ => rfl
  un := hr.units
  room := fun _ => hr
  xi := fun _ => x.xi hc
  rfd := fun z => by cases z
  hot1 := fun z => by cases z
  hot2 := .inl rfl
  tk := L2N.takes_of rfl rfl rfl rfl
  po := passes_of rfl
  fns := x.fns
  nca := x.nca
  glob := x.glob
theorem cold_ok {S : Sc0} (h : cold S = true) : S.hot = 0 := of_decide_eq_true h
set_option linter.unusedVariables false
mutual
theorem chkE_ok : ∀ (c : C) {X : Cx} {S : Sc0} {W : WX} (x : XOk X F G call tab S W k) (e : Expr), chkE tab S c e = true → Good X F G call W c e
  | .k d, X, S, W, x, e, h => by
    unfold chkE at h
    split at h
    · exact good_pe x rfl (fun _ => rd_k (v := .non) pe_non fun _ _ _ _ => rfl) rfl
    · rename_i b b' _ _
      obtain rfl : b = b' := by simpa using h
      exact good_pe x rfl (fun _ => rd_k (v := .bl b) pe_bl fun _ _ _ _ => rfl) rfl
    · obtain rfl := of_decide_eq_true h
      exact good_pe x rfl (fun _ => rd_k pe_int fun _ _ _ _ => rfl) rfl
    · obtain rfl := of_decide_eq_true h
      exact good_pe x rfl (fun _ => rd_k pe_str fun _ _ _ _ => rfl) rfl
    · cases h
  | .g d, X, S, W, x, e, h => by
    unfold chkE at h
    split at h
    · rename_i y p
      split at h
      · rename_i t
        obtain ⟨h1, h2, h3⟩ := and3 h
        obtain ⟨f1, f2, f3⟩ := freeC_ok x h1
        exact good_pe x rfl (fun _ => rd_g (v := .ty t) (pe_bltn f1 f2 (of_decide_eq_true h2) rfl (by simpa using h3) f3) fun _ _ _ _ => rfl) rfl
      · rename_i i
        rw [Bool.and_eq_true] at h
        obtain ⟨g1, g2⟩ := glC_ok x h.1
        have hm : X.mg y = some (.ref (F.ga i)) := by
          have h2 := h.2
          split at h2
          · rename_i e
            obtain rfl := of_decide_eq_true h2
            exact (x.glob _ _ e).1
          · rename_i e
            obtain rfl := of_decide_eq_true h2
            exact (x.glob _ _ e).1
          · cases h2
        exact good_pe x rfl (fun _ => rd_g (v := .ref (F.ga i)) (pe_glob g1 hm rfl g2) fun _ _ _ _ => rfl) rfl
      · rename_i i
        rw [Bool.and_eq_true] at h
        obtain ⟨g1, g2⟩ := glC_ok x h.1
        have h2 := h.2
        split at h2
        · rename_i e
          obtain rfl := of_decide_eq_true h2
          obtain ⟨u, v, hm, rv, rr⟩ := x.glob _ _ e
          exact good_pe x rfl (fun _ => rd_g (v := v) (pe_glob g1 hm rv g2) rr) rfl
        · cases h2
      · cases h
    · cases h
  | .v i, X, S, W, x, e, h => by
    unfold chkE at h
    split at h
    · exact good_pe x rfl (fun _ => rd_v (pe_slot' x h)) rfl
    · cases h
  | .tp cs, X, S, W, x, e, h => by
    unfold chkE at h
    split at h
    · obtain ⟨h1, h2⟩ := chkL_ok cs x _ h
      exact good_pe x rfl (fun _ => rd_tp (h1 false)) rfl
    · cases h
  | .ls cs, X, S, W, x, e, h => by
    unfold chkE at h
    split at h
    · obtain ⟨h1, h2⟩ := chkL_ok cs x _ h
      exact good_pe x rfl (fun _ => rd_ls (h1 false)) rfl
    · cases h
  | .bin o a b, X, S, W, x, e, h => by
    unfold chkE at h
    split at h
    · obtain ⟨h1, h2, h3⟩ := and3 h
      rw [Bool.and_eq_true] at h2 h3
      obtain rfl := of_decide_eq_true h1
      exact good_pe x rfl (fun _ => rd_bin x.K o ((chkE_ok a x _ h2.2).pe h2.1 true) ((chkE_ok b x _ h3.2).pe h3.1 true)) rfl
    · cases h
  | .neg a, X, S, W, x, e, h => by
    unfold chkE at h
    split at h
    · rw [Bool.and_eq_true] at h
      exact good_pe x rfl (fun _ => rd_neg ((chkE_ok a x _ h.2).pe h.1 true)) rfl
    · cases h
  | .not a, X, S, W, x, e, h => by
    unfold chkE at h
    split at h
    · rw [Bool.and_eq_true] at h
      have g := chkE_ok a x _ h.2
      exact good_pt x (fun _ => rd_not (g.pe h.1 true)) (rt_not (g.pt h.1)) fun _ _ _ z => by cases z
    · cases h
  | .and a b, X, S, W, x, e, h => by
    unfold chkE at h
    split at h
    · rename_i ea eb r pos
      rw [Bool.and_eq_true, Bool.and_eq_true, Bool.and_eq_true] at h
      obtain ⟨⟨h1, h2⟩, h3, h4⟩ := h
      have ga := chkE_ok a x _ h2
      split at h4
      · have gb := chkE_ok b x _ h4
        exact good_pw x (fun bw => rd_and (ga.pe h1 true) (pe_one (gb.pe h3 bw))) (rw_and (ga.pt h1) (pw_and1 (gb.pt h3)))
      · have gb := chkE_ok b x _ h4
        exact good_pw x (fun bw => rd_and (ga.pe h1 true) (gb.pe h3 bw)) (rw_and (ga.pt h1) (gb.pw ⟨_, _, _, rfl⟩ h3))
    · cases h
  | .or a b, X, S, W, x, e, h => by
    unfold chkE at h
    split at h
    · rename_i ea eb r pos
      rw [Bool.and_eq_true, Bool.and_eq_true, Bool.and_eq_true] at h
      obtain ⟨⟨h1, h2⟩, h3, h4⟩ := h
      have ga := chkE_ok a x _ h2
      split at h4
      · have gb := chkE_ok b x _ h4
        exact good_pw x (fun bw => rd_or (ga.pe h1 true) (pe_one (gb.pe h3 bw))) (rw_or (ga.pt h1) (pw_or1 (gb.pt h3)))
      · have gb := chkE_ok b x _ h4
        exact good_pw x (fun bw => rd_or (ga.pe h1 true) (gb.pe h3 bw)) (rw_or (ga.pt h1) (gb.pw ⟨_, _, _, rfl⟩ h3))
    · cases h
  | .ite t a b, X, S, W, x, e, h => by
    unfold chkE at h
    split at h
    · obtain ⟨h1, h2, h3⟩ := and3 h
      rw [Bool.and_eq_true] at h1 h2 h3
      have gt := chkE_ok t x _ h1.2
      have ga := chkE_ok a x _ h2.2
      have gb := chkE_ok b x _ h3.2
      exact good_pt x (fun bw => rd_ite (gt.pt h1.1) (ga.pe h2.1 bw) (gb.pe h3.1 bw)) (rt_ite (gt.pt h1.1) (ga.pt h2.1) (gb.pt h3.1)) fun _ _ _ z => by cases z
    · cases h
  | .cmp o a b, X, S, W, x, e, h => by
    unfold chkE at h
    split at h
    · rw [Bool.and_eq_true, Bool.and_eq_true, Bool.and_eq_true, Bool.and_eq_true, Bool.and_eq_true, Bool.not_eq_true', decide_eq_true_eq] at h
      obtain ⟨⟨⟨rfl, h1⟩, h2, h3⟩, h4, h5⟩ := h
      have ga := chkE_ok a x _ h3
      have gb := chkE_ok b x _ h5
      exact good_pt x (fun bw => rd_cmp x.K x.un o h1 (ga.pe h2 true) (gb.pe h4 true)) (rt_cmp x.K x.un o h1 (ga.pe h2 true) (gb.pe h4 true)) fun _ _ _ z => by cases z
    · cases h
  | .chn o p a b c, X, S, W, x, e, h => by
    unfold chkE at h
    split at h
    · simp only [Bool.and_eq_true, Bool.not_eq_true', decide_eq_true_eq] at h
      obtain ⟨⟨⟨⟨⟨rfl, rfl⟩, h1⟩, h2, h3⟩, h4, h5⟩, h6, h7⟩ := h
      have ga := chkE_ok a x _ h3
      have gb := chkE_ok b x _ h5
      have gc := chkE_ok c x _ h7
      exact good_pt x (fun bw => rd_chn x.K x.un o p h1 (ga.pe h2 true) (gb.pe h4 true) (gc.pe h6 true)) (rt_chn x.K x.un o p h1 (ga.pe h2 true) (gb.pe h4 true) (gc.pe h6 true)) fun _ _ _ z => by cases z
    · cases h
  | .ix a i, X, S, W, x, e, h => by
    unfold chkE at h
    split at h
    · obtain ⟨h1, h2, h3⟩ := and3 h
      rw [Bool.and_eq_true] at h2 h3
      exact good_pe x rfl (fun _ => rd_ix x.K (plain_ix h1) ((chkE_ok a x _ h2.2).pe h2.1 true) ((chkE_ok i x _ h3.2).pe h3.1 true)) rfl
    · cases h
  | .sl a lo hi, X, S, W, x, e, h => by
    unfold chkE at h
    split at h
    · obtain ⟨h1, h2, h3⟩ := and3 h
      rw [Bool.and_eq_true] at h1
      exact good_pe x rfl (fun _ => rd_sl x.K ((chkE_ok a x _ h1.2).pe h1.1 true) (chkO_ok lo x _ h2) (chkO_ok hi x _ h3)) rfl
    · cases h
  | .rev a, X, S, W, x, e, h => by
    unfold chkE at h
    split at h
    · rw [Bool.and_eq_true, Bool.and_eq_true] at h
      obtain rfl := of_decide_eq_true h.1
      exact good_pe x rfl (fun _ => rd_rev ((chkE_ok a x _ h.2.2).pe h.2.1 true)) rfl
    · cases h
  | .call f cs, X, S, W, x, e, h => by
    unfold chkE at h
    split at h
    · obtain ⟨h1, h2, h3⟩ := and3 h
      rw [Bool.and_eq_true] at h1
      have hc := cold_ok h1.1
      obtain ⟨g1, g2⟩ := glC_ok x h1.2
      obtain ⟨h4, h5⟩ := chkL_ok cs x _ h3
      rw [List.all_cons, Bool.and_eq_true] at h5
      split at h2
      · rename_i e
        obtain rfl := of_decide_eq_true h2
        obtain ⟨hm, n, hn⟩ := x.glob _ _ e
        exact good_pe x rfl (fun _ => rd_call x.fns hn (x.room hc) x.tk g1 hm g2 x.nca h5.1 h5.2 (h4 false)) rfl
      · cases h2
    · cases h
  | .cv i cs, X, S, W, x, e, h => by
    unfold chkE at h
    split at h
    · rw [Bool.and_eq_true, Bool.and_eq_true] at h
      have hc := cold_ok h.1.1
      obtain ⟨h1, h2, h3, h6⟩ := slotC_ok x h.1.2
      obtain ⟨h4, h5⟩ := chkL_ok cs x _ h.2
      rw [List.all_cons, Bool.and_eq_true] at h5
      exact good_pe x rfl (fun _ => rd_cv x.fns (x.room hc) x.tk h1 h2 h3 h6 x.nca h5.1 h5.2 (h4 false)) rfl
    · cases h
  | .bi b cs, X, S, W, x, e, h => by
    unfold chkE at h
    split at h
    · split at h
      · split at h
        · rename_i a z _ w _
          simp only [Bool.and_eq_true, beq_iff_eq] at h
          obtain ⟨⟨⟨⟨⟨⟨hc, rfl⟩, rfl⟩, h1⟩, h2⟩, h3⟩, h4, h5⟩ := h
          have hc := cold_ok hc
          obtain ⟨f1, f2, _⟩ := freeC_ok x h1
          obtain ⟨f3, f4, _⟩ := freeC_ok x h2
          exact good_pe x rfl (fun _ => rd_sortset x.K x.un (x.calm hc) f1 f2 f3 f4 (fun env => star_cons h3 env) ((chkE_ok a x _ h5).pe h4 true)) rfl
        · cases h
      · rename_i hb
        obtain ⟨h1, h2, h3⟩ := and3 h
        rw [Bool.and_eq_true, Bool.or_eq_true] at h1
        obtain ⟨h0, h1⟩ := h1
        obtain rfl := of_decide_eq_true h0
        obtain ⟨f1, f2, f9⟩ := freeC_ok x h2
        obtain ⟨h4, h5⟩ := chkL_ok cs x _ h3
        rw [List.all_cons, Bool.and_eq_true] at h5
        have hb : b ≠ .sortset := fun z => hb z
        obtain ⟨b1, b2, b3⟩ := boot_bi b hb
        rcases h1 with hc | hc
        · have hc := cold_ok hc
          exact good_pe x rfl (fun _ => rd_bi (x.xi hc) x.K x.un (x.calm hc) b hb f1 f2 b1 b2 b3 h5.1 h5.2 (h4 true)) rfl
        · unfold hotBi at hc
          rw [Bool.and_eq_true, decide_eq_true_eq, decide_eq_true_eq] at hc
          obtain ⟨hc, rfl⟩ := hc
          refine good_pe x rfl (fun bw => ?_) rfl
          refine (pe_callB ((x.hot1 hc).2 bw W) f1 f2 b1 (h4 true) b2 b3 (star_cons h5.1 _) (star_none h5.2 _ _)).imp fun σ H Q ⟨Uo, m, env, st, S, q⟩ => ?_
          rw [ev] at q
          exact ⟨Uo, m, env, st, S, bindL closedE q fun vs ds m1 env1 st1 H1 p1 S1 _ rb q1 => ⟨σ, Uo, m1, env1, st1, ds, S1, rb, q1⟩⟩
    · cases h
  | .me m a cs, X, S, W, x, e, h => by
    unfold chkE at h
    split at h
    · split at h
      · rename_i b
        simp only [Bool.and_eq_true, beq_iff_eq] at h
        obtain ⟨⟨⟨⟨⟨rfl, h1⟩, h2⟩, h3⟩, h4, h5⟩, h6, h7⟩ := h
        exact good_pe x rfl (fun _ => rd_join x.K h1 h2 (by simpa using h3) ((chkE_ok a x _ h5).pe h4 true) ((chkE_ok b x _ h7).pe h6 true)) rfl
      · cases h
    · cases h
  | .rng cs, X, S, W, x, e, h => by
    unfold chkE at h
    split at h
    · rename_i ys _
      simp only [Bool.and_eq_true, beq_iff_eq, decide_eq_true_eq] at h
      obtain ⟨⟨⟨⟨rfl, h1⟩, h2⟩, h3⟩, h4⟩ := h
      obtain ⟨f1, f2, _⟩ := freeC_ok x h1
      obtain ⟨h5, h6⟩ := chkL_ok cs x _ h4
      refine ⟨(fun z => by cases z), (fun z => by cases z), (fun _ z => by cases z), fun tg _ => ?_⟩
      match cs, ys, h4, h5, h6 with
      | [c], [y], h4, h5, h6 => exact ri_rng1 f1 f2 (by simpa using h6) (h5 true)
      | [c, c2], [y, y2], h4, h5, h6 =>
        simp at h6
        exact ri_rng2 f1 f2 h6.1 h6.2 (h5 true)
      | _, [], _, _, _ => simp at h3
      | _, _ :: _ :: _ :: _, _, _, _ => simp at h2
      | [], [_], h4, _, _ => cases h4
      | [], [_, _], h4, _, _ => cases h4
      | _ :: _ :: _, [_], h4, _, _ => simp [chkL] at h4
      | [_], [_, _], h4, _, _ => simp [chkL] at h4
      | _ :: _ :: _ :: _, [_, _], h4, _, _ => simp [chkL] at h4
    · cases h
  | .enm a, X, S, W, x, e, h => by
    unfold chkE at h
    split at h
    · simp only [Bool.and_eq_true, beq_iff_eq] at h
      obtain ⟨⟨⟨rfl, h1⟩, h2⟩, h3, h4⟩ := h
      obtain ⟨f1, f2, _⟩ := freeC_ok x h1
      refine ⟨(fun z => by cases z), (fun z => by cases z), (fun _ z => by cases z), fun tg ht => ?_⟩
      have ht := ht rfl
      cases tg with
      | Tuple es kk tp => exact ri_enm x.K f1 f2 h2 ((chkE_ok a x _ h4).pe h3 false)
      | _ => cases ht
    · cases h
  | .zp a b, X, S, W, x, e, h => by
    unfold chkE at h
    split at h
    · simp only [Bool.and_eq_true, beq_iff_eq] at h
      obtain ⟨⟨⟨⟨⟨rfl, h1⟩, h2⟩, h3⟩, h4, h5⟩, h6, h7⟩ := h
      obtain ⟨f1, f2, _⟩ := freeC_ok x h1
      refine ⟨(fun z => by cases z), (fun z => by cases z), (fun _ z => by cases z), fun tg ht => ?_⟩
      have ht := ht rfl
      cases tg with
      | Tuple es kk tp => exact ri_zip x.K f1 f2 h2 h3 ((chkE_ok a x _ h5).pe h4 false) ((chkE_ok b x _ h7).pe h6 false)
      | _ => cases ht
    · cases h
  | .lc elt tg it cond, X, S, W, x, e, h => by
    unfold chkE at h
    split at h
    · rename_i ex t i ifs ia scope _
      rw [Bool.or_eq_true] at h
      rcases h with h | h
      rotate_left
      · simp only [Bool.and_eq_true, decide_eq_true_eq] at h
        obtain ⟨⟨⟨⟨⟨⟨⟨⟨hc, rfl⟩, h1⟩, h2⟩, h3⟩, h4⟩, h6⟩, h7, h8⟩, h9⟩ := h
        cases it with
        | asl a =>
          have h4 : (nit a && chkE tab S a i) = true := h4
          rw [Bool.and_eq_true] at h4
          have hn : X.N.Nodup := by rw [x.N]; exact x.nd
          exact good_pe x rfl (fun bw => rd_lcH x.K (x.hot1 hc).1 hn ((chkE_ok a x _ h4.2).pe h4.1 false) (by rw [x.N, x.sc]; exact blkOk_by h2) h3
            (fun s H C cl fp hh => (chkT_ok (xok_hot x s H scope C cl fp hh) h6).1) (fun s H C cl fp hh => chkC_ok cond (xok_hot x s H scope C cl fp hh) _ h9) (fun s H C cl fp hh => (chkE_ok elt (xok_hot x s H scope C cl fp hh) _ h8).pe h7 false) h1) rfl
        | _ => cases h4
      simp only [Bool.and_eq_true, decide_eq_true_eq, Bool.or_eq_true, Bool.not_eq_true'] at h
      obtain ⟨⟨⟨⟨⟨⟨⟨⟨⟨hc, rfl⟩, h1⟩, h2⟩, h3⟩, h4⟩, h5⟩, h6⟩, h7, h8⟩, h9⟩ := h
      have hc := cold_ok hc
      refine good_pe x rfl (fun bw => rd_lc (x.calm hc) (by rw [x.N]; exact x.nd) ((chkE_ok it x _ h5).pi t fun z => h4.resolve_left (by rw [z]; decide)) (by rw [x.N, x.sc]; exact blkOk_by h2) h3
        (fun s H C cl fp => (chkT_ok (xok_blk x hc s H scope C cl fp) h6).1) (fun s H C cl fp => chkC_ok cond (xok_blk x hc s H scope C cl fp) _ h9) (fun s H C cl fp => (chkE_ok elt (xok_blk x hc s H scope C cl fp) _ h8).pe h7 false) h1) rfl
    · cases h
  | .mk a, X, S, W, x, e, h => by
    unfold chkE at h
    rw [Bool.and_eq_true, Bool.and_eq_true] at h
    have g := chkE_ok a x _ h.2.2
    exact good_pe x rfl (fun _ => rd_mk (g.pe h.2.1 false)) h.1
  | .asl a, X, S, W, x, e, h => by
    unfold chkE at h
    rw [Bool.and_eq_true, Bool.and_eq_true] at h
    have g := chkE_ok a x _ h.2.2
    exact good_pe x rfl (fun bw => rd_asl (g.pe h.2.1 bw)) h.1
  | .rfd f a, X, S, W, x, e, h => by
    unfold chkE at h
    split at h
    · rename_i y p params body scope lpos pos
      simp only [Bool.and_eq_true, beq_iff_eq] at h
      obtain ⟨⟨⟨⟨⟨h1, hc⟩, rfl⟩, h2⟩, h3⟩, h4, h5⟩ := h
      refine good_pe x rfl (fun bw => x.rfd h1 bw f a params body scope p lpos pos (by rw [x.sc]; exact h3) (glC_ok x h2).1 fun E A outer s H g c' hr => ?_) rfl
      exact (chkE_ok a (xok_lam x (cold_ok hc) E A outer s H scope g c' hr) body h5).pe h4 false
    · cases h
theorem chkL_ok : ∀ (cs : List C) {X : Cx} {S : Sc0} {W : WX} (x : XOk X F G call tab S W k) (es : List Expr), chkL tab S cs es = true → (∀ bw, PA X es (RdL F G call W bw cs)) ∧ es.all noStar = true
  | [], X, S, W, x, [], _ => ⟨fun _ => rl_nil, rfl⟩
  | c :: cs, X, S, W, x, e :: es, h => by
    rw [chkL, Bool.and_eq_true, Bool.and_eq_true, Bool.and_eq_true] at h
    obtain ⟨⟨h1, h2, h3⟩, h4⟩ := h
    obtain ⟨h5, h6⟩ := chkL_ok cs x _ h4
    refine ⟨fun bw => rl_cons h1 ((chkE_ok c x _ h3).pe h2 bw) (h5 bw), ?_⟩
    rw [List.all_cons, h1, h6]; rfl
  | [], X, S, W, x, _ :: _, h => by rw [chkL] at h <;> cases h
  | _ :: _, X, S, W, x, [], h => by rw [chkL] at h <;> cases h
theorem chkO_ok : ∀ (o : Option C) {X : Cx} {S : Sc0} {W : WX} (x : XOk X F G call tab S W k) (e : Option Expr), chkO tab S o e = true → PO X e (RdO F G call W o)
  | none, X, S, W, x, none, _ => ro_none
  | some c, X, S, W, x, some e, h => by
    rw [chkO, Bool.and_eq_true] at h
    exact ro_some ((chkE_ok c x _ h.2).pe h.1 true)
  | none, X, S, W, x, some _, h => by rw [chkO] at h <;> cases h
  | some _, X, S, W, x, none, h => by rw [chkO] at h <;> cases h
theorem chkC_ok : ∀ (o : Option C) {X : Cx} {S : Sc0} (x : XOk X F G call tab S W0 k) (e : List Expr), chkC tab S o e = true → PTs X e (RdC F G call o)
  | none, X, S, x, [], _ => pts_nil
  | some c, X, S, x, [e], h => by
    rw [chkC, Bool.and_eq_true] at h
    exact pts_one ((chkE_ok c x _ h.2).pt h.1)
  | none, X, S, x, _ :: _, h => by rw [chkC] at h <;> cases h
  | some _, X, S, x, [], h => by rw [chkC] at h <;> cases h
  | some _, X, S, x, _ :: _ :: _, h => by rw [chkC] at h <;> cases h
end
end
end Pi

set_option maxRecDepth 100000
set_option maxHeartbeats 4000000
/-! PiX: the check of statements. -/
namespace Pi
open PySem PySem.Spec L2

/-- whether a comprehension's value goes to its name ahead of the clearing -/
def swapC (sc : Scope) (y : Str) (py : Pos) : Expr → Bool
  | .ListComp _ _ s p => funKind sc && decide (sc.names.lookup y = some .local) && (py.line == p.line) && !(s.names.any fun q => q.1 == y && (q.2 == .local || q.2 == .cell))
  | _ => false
theorem funKind_ok {sc : Scope} (h : funKind sc = true) : sc.kind = .function := by
  unfold funKind at h
  revert h
  cases sc.kind <;> simp
theorem blockKind_of {env : PySem.Env} {sc : Scope} (he : env.scope = sc) (h : funKind sc = true) : env.blockKind = .function := by
  subst he
  unfold Env.blockKind
  rw [funKind_ok h]; rfl
theorem swapC_ok {env : PySem.Env} {sc : Scope} (he : env.scope = sc) (hk : funKind sc = true) {elt : Expr} {gs : List Comprehension} {s : Scope} {p py : Pos} {y : Str} {l : Nat} : swapsWith (.ListComp elt gs s p) (some (.Name y py)) l env = pure (swapC sc y py (.ListComp elt gs s p)) := by
  have hb := blockKind_of he hk
  subst he
  show (pure (env.blockKind == .function && env.kindOf y == some .local && py.line == (Expr.ListComp elt gs s p).pos.line && !(s.names.any fun (n, k) => n == y && (k == .local || k == .cell))) : Sem Bool) = _
  congr 1
  unfold swapC
  rw [hb, hk]
  congr 1
  congr 1
  show (true && env.kindOf y == some .local) = (true && decide (env.scope.names.lookup y = some .local))
  congr 1
  show (env.scope.names.lookup y == some .local) = _
  generalize env.scope.names.lookup y = z
  cases z with
  | none => rfl
  | some w => cases w <;> rfl
def noSwap (sc : Scope) (tg e : Expr) : Bool := noComp e || (funKind sc && match tg, e with
  | .Name y py, .ListComp a b c d => !swapC sc y py (.ListComp a b c d)
  | _, _ => false)
theorem noSwap_ok {env : PySem.Env} {sc : Scope} (he : env.scope = sc) {tg e : Expr} {l : Nat} (h : noSwap sc tg e = true) : swapsWithSole [tg] e l env = pure false := by
  unfold noSwap at h
  rw [Bool.or_eq_true, Bool.and_eq_true] at h
  rcases h with h | ⟨h1, h2⟩
  · exact no_swap h _ _ _
  · split at h2
    · rename_i y py a b c d
      show swapsWith (.ListComp a b c d) (some (.Name y py)) l env = _
      rw [swapC_ok he h1]
      congr 1
      simpa using h2
    · cases h2
section
variable (tab : Str → Option GV)
mutual
def chkS (S : Sc0) : Pi.S → Stmt → Bool
  | .ex c, s => match s with
    | .Expr e _ => noComp e && (nit c && chkE tab S c e)
    | _ => false
  | .asg t c, s => match s with
    | .Assign [tg] e _ => (noSwap S.sc tg e && noStores tg e && chkT S t tg && (nit c && chkE tab S c e)) ||
      (match t, c, tg, e with
        | .n i, .lc elt tg it cond, .Name y py, .ListComp x [⟨t, ie, ifs, ia⟩] scope p => cold S && decide (ia = 0) && funKind S.sc && decide (S.N[i]? = some y) && swapC S.sc y py (.ListComp x [⟨t, ie, ifs, ia⟩] scope p) &&
          noSet ie && blkC S.N S.sc scope ((tgtNames t).zip tg.own) && decide (((tgtNames t).zip tg.own).map (·.2) = tg.own) && (!needT it || tupT t) && chkE tab S it ie &&
          chkT (subS S scope) tg t && (nit elt && chkE tab (subS S scope) elt x) && chkC tab (subS S scope) cond ifs
        | _, _, _, _ => false)
    | _ => false
  | .par is cs, s => match s with
    | .Assign [.Tuple ts _ _] (.Tuple es _ _) _ => match is, ts, es with
      | [i, j], [.Name x px, .Name y py], [a, b] => cold S && decide (S.N[i]? = some x) && decide (S.N[j]? = some y) && decide (i ≠ j) && swap2 S.sc x px y py a b && chkL tab S cs [a, b]
      | [i, j, l], [.Name x px, .Name y py, .Name z pz], [a, b, c] => cold S && decide (S.N[i]? = some x) && decide (S.N[j]? = some y) && decide (S.N[l]? = some z) && decide (i ≠ j) && decide (i ≠ l) && decide (j ≠ l) && swap3 S.sc x px y py z pz a b c && chkL tab S cs [a, b, c]
      | _, _, _ => false
    | _ => false
  | .app i c, s => match s with
    | .Expr (.Call (.Attribute (.Name x _) m ap) [e] [] cp) _ => (m == ("append" : Str)) && slotC S i x && noStar e && (ap.endLine == cp.line) && (nit c && chkE tab S c e)
    | _ => false
  | .set i k c, s => match s with
    | .Assign [.Subscript (.Name x _) ek _] e _ => slotC S i x && noComp e && noSlice ek && (nit k && chkE tab S k ek) && (nit c && chkE tab S c e)
    | _ => false
  | .ret c, s => match s with
    | .Return (some e) _ => match c with
      | .v i => (match e with | .Name x _ => slotC S i x | _ => false)
      | c => notV c && (nit c && chkE tab S c e)
    | _ => false
  | .retn, s => match s with
    | .Return none _ => true
    | _ => false
  | .ifs c a b, s => match s with
    | .If e ea eb _ => (nit c && chkE tab S c e) && chkB S a ea && chkB S b eb
    | _ => false
  | .for t it b, s => match s with
    | .For tg iter body [] _ => cold S && noSet iter && (!needT it || tupT tg) && chkE tab S it iter && chkT S t tg && chkB S b body
    | _ => false
  | .while c b, s => match s with
    | .While e body [] _ => (nit c && chkE tab S c e) && chkB S b body
    | _ => false
  | .raise c o, s => match o, s with
    | none, .Raise (some (.Call (.Name x _) [.Constant (.str _) _ _] [] _)) none _ => (cold S && glC S.sc x) && (match tab x with | some (.cls j true) => decide (c = j) | _ => false)
    | _, _ => false
  | .pass, s => match s with
    | .Pass _ => true
    | _ => false
  | .brk, s => match s with
    | .Break _ => true
    | _ => false
  | .cont, s => match s with
    | .Continue _ => true
    | _ => false
def chkB (S : Sc0) : List Pi.S → List Stmt → Bool
  | [], [] => true
  | s :: ss, e :: es => chkS S s e && chkB S ss es
  | _, _ => false
end
end
section
variable {F : Fx} {G : Gl} {call : Nat → List D → Sto → RC} {tab : Str → Option GV} {k N : Nat} {X : Cx} {S : Sc0} {W : WX}
theorem rs_asg' {t : T} {c : C} {tg e : Expr} {pos : Pos} (x : XOk X F G call tab S W k) (hn : noSwap S.sc tg e = true) (hs : noStores tg e = true) (he : PE X e (RdE F G call W false c)) (hg : PG X tg (t.g F.K)) (h1 : (assignEach [tg] X.env).map (·.2) = [assign tg X.env]) : PS X (.Assign [tg] e pos) (RdS F G call W N (.asg t c)) :=
  (ps_asg he hg (noSwap_ok x.sc hn) (no_stores hs _) h1).imp fun _ _ _ h => asg_dat h
mutual
theorem chkS_ok (x : XOk X F G call tab S W k) : ∀ (s : Pi.S) (e : Stmt), chkS tab S s e = true → PS X e (RdS F G call W N s)
  | .ex c, e, h => by
    unfold chkS at h
    split at h
    · rw [Bool.and_eq_true, Bool.and_eq_true] at h
      exact rs_ex h.1 ((chkE_ok c x _ h.2.2).pe h.2.1 false)
    · cases h
  | .asg t c, e, h => by
    unfold chkS at h
    split at h
    · rename_i tg e pos
      rw [Bool.or_eq_true] at h
      rcases h with h | h
      · rw [Bool.and_eq_true, Bool.and_eq_true, Bool.and_eq_true, Bool.and_eq_true] at h
        obtain ⟨⟨⟨h1, h2⟩, h3⟩, h4, h5⟩ := h
        obtain ⟨g1, g2⟩ := chkT_ok x h3
        exact rs_asg' x h1 h2 ((chkE_ok c x _ h5).pe h4 false) g1 g2
      · split at h
        · rename_i i elt tg' it cond y py ex t ie ifs ia scope p
          simp only [Bool.and_eq_true, decide_eq_true_eq, Bool.or_eq_true, Bool.not_eq_true'] at h
          obtain ⟨⟨⟨⟨⟨⟨⟨⟨⟨⟨⟨⟨hc, rfl⟩, hk⟩, hy⟩, hsw⟩, h1⟩, h2⟩, h3⟩, h4⟩, h5⟩, h6⟩, h7, h8⟩, h9⟩ := h
          have hc := cold_ok hc
          have hl : S.sc.names.lookup y = some .local := by
            have hsw := hsw
            unfold swapC at hsw
            simp only [Bool.and_eq_true, decide_eq_true_eq] at hsw
            exact hsw.1.1.2
          exact rs_lc (x.calm hc) (by rw [x.N]; exact x.nd) (by rw [x.N]; exact hy) (by rw [x.sc]; exact hl) (by rw [swapC_ok x.sc hk, hsw]) ((chkE_ok _ x _ h5).pi _ fun z => h4.resolve_left (by rw [z]; decide)) (by rw [x.N, x.sc]; exact blkOk_by h2) h3
            (fun s H C cl fp => (chkT_ok (xok_blk x hc s H _ C cl fp) h6).1) (fun s H C cl fp => chkC_ok _ (xok_blk x hc s H _ C cl fp) _ h9) (fun s H C cl fp => (chkE_ok _ (xok_blk x hc s H _ C cl fp) _ h8).pe h7 false) h1
        · cases h
    · cases h
  | .par is cs, e, h => by
    unfold chkS at h
    split at h
    · split at h
      · simp only [Bool.and_eq_true, decide_eq_true_eq] at h
        obtain ⟨⟨⟨⟨⟨hc, h1⟩, h2⟩, h3⟩, h4⟩, h5⟩ := h
        exact rs_par2 (x.calm (cold_ok hc)) (by rw [x.N]; exact x.nd) (by rw [x.N]; exact h1) (by rw [x.N]; exact h2) h3 (by rw [x.sc]; exact h4) ((chkL_ok cs x _ h5).1 false)
      · simp only [Bool.and_eq_true, decide_eq_true_eq] at h
        obtain ⟨⟨⟨⟨⟨⟨⟨⟨hc, h1⟩, h2⟩, h2'⟩, h3⟩, h3'⟩, h3''⟩, h4⟩, h5⟩ := h
        exact rs_par3 (x.calm (cold_ok hc)) (by rw [x.N]; exact x.nd) (by rw [x.N]; exact h1) (by rw [x.N]; exact h2) (by rw [x.N]; exact h2') h3 h3' h3'' (by rw [x.sc]; exact h4) ((chkL_ok cs x _ h5).1 false)
      · cases h
    · cases h
  | .app i c, e, h => by
    unfold chkS at h
    split at h
    · simp only [Bool.and_eq_true, beq_iff_eq] at h
      obtain ⟨⟨⟨⟨rfl, h1⟩, h2⟩, h3⟩, h4, h5⟩ := h
      obtain ⟨s1, s2, s3, s4⟩ := slotC_ok x h1
      exact rs_app s1 s2 s3 s4 h2 (by simpa using h3) ((chkE_ok c x _ h5).pe h4 false)
    · cases h
  | .set i kk c, e, h => by
    unfold chkS at h
    split at h
    · simp only [Bool.and_eq_true] at h
      obtain ⟨⟨⟨⟨h1, h2⟩, h3⟩, h4, h5⟩, h6, h7⟩ := h
      obtain ⟨s1, s2, s3, s4⟩ := slotC_ok x h1
      exact rs_set s1 s2 s3 s4 h2 h3 ((chkE_ok kk x _ h5).pe h4 true) ((chkE_ok c x _ h7).pe h6 false)
    · cases h
  | .ret c, e, h => by
    unfold chkS at h
    split at h
    · split at h
      · split at h
        · exact rs_retv (pe_slot' x h)
        · cases h
      · rw [Bool.and_eq_true, Bool.and_eq_true] at h
        exact rs_ret h.1 ((chkE_ok c x _ h.2.2).pe h.2.1 false)
    · cases h
  | .retn, e, h => by
    unfold chkS at h
    split at h
    · exact rs_retn
    · cases h
  | .ifs c a b, e, h => by
    unfold chkS at h
    split at h
    · simp only [Bool.and_eq_true] at h
      obtain ⟨⟨⟨h1, h2⟩, h3⟩, h4⟩ := h
      exact rs_if ((chkE_ok c x _ h2).pt h1) (chkB_ok x a _ h3) (chkB_ok x b _ h4)
    · cases h
  | .for t it b, e, h => by
    unfold chkS at h
    split at h
    · simp only [Bool.and_eq_true, Bool.or_eq_true, Bool.not_eq_true'] at h
      obtain ⟨⟨⟨⟨⟨hc, h1⟩, h2⟩, h3⟩, h4⟩, h5⟩ := h
      exact rs_for x.po (x.calm (cold_ok hc)) ((chkE_ok it x _ h3).pi _ fun z => h2.resolve_left (by rw [z]; decide)) (chkT_ok x h4).1 (chkB_ok x b _ h5) h1
    · cases h
  | .while c b, e, h => by
    unfold chkS at h
    split at h
    · simp only [Bool.and_eq_true] at h
      obtain ⟨⟨h1, h2⟩, h3⟩ := h
      exact rs_while x.po ((chkE_ok c x _ h2).pt h1) (chkB_ok x b _ h3)
    · cases h
  | .raise c o, e, h => by
    unfold chkS at h
    split at h
    · rw [Bool.and_eq_true, Bool.and_eq_true] at h
      have hc := cold_ok h.1.1
      obtain ⟨g1, g2⟩ := glC_ok x h.1.2
      have h2 := h.2
      split at h2
      · rename_i e
        obtain rfl := of_decide_eq_true h2
        obtain ⟨hm, hmk⟩ := x.glob _ _ e
        obtain ⟨bmB, B, newId, initId, f1, f2, f3, f4⟩ := hmk rfl
        exact rs_raise (x.calm hc) x.tk (L2N.pmk_own f1 f2 hm f3 f4 g1 g2)
      · cases h2
    · cases h
  | .pass, e, h => by
    unfold chkS at h
    split at h
    · exact rs_pass
    · cases h
  | .brk, e, h => by
    unfold chkS at h
    split at h
    · exact rs_brk
    · cases h
  | .cont, e, h => by
    unfold chkS at h
    split at h
    · exact rs_cont
    · cases h
theorem chkB_ok (x : XOk X F G call tab S W k) : ∀ (ss : List Pi.S) (es : List Stmt), chkB tab S ss es = true → PSs X es (RdB F G call W N ss)
  | [], [], _ => rs_nil
  | s :: ss, e :: es, h => by
    rw [chkB, Bool.and_eq_true] at h
    exact rs_cons (chkS_ok x s e h.1) (chkB_ok x ss es h.2)
  | [], _ :: _, h => by rw [chkB] at h <;> cases h
  | _ :: _, [], h => by rw [chkB] at h <;> cases h
end
end
end Pi

set_option maxRecDepth 100000
set_option maxHeartbeats 4000000
/-! PiY: functions. -/
namespace Pi
open PySem PySem.Spec L2

theorem lookup_zip : ∀ {ns : List Str} {us : List Value} {n : Str}, n ∈ ns → us.length = ns.length → ((ns.zip us).lookup n).isSome = true
  | [], _, _, h, _ => by cases h
  | m :: ns, [], _, _, hl => by cases hl
  | m :: ns, u :: us, n, h, hl => by
    rw [List.zip_cons_cons, List.lookup_cons]
    by_cases e : n = m
    · subst e; simp
    · have e2 : (n == m) = false := by simpa using e
      rw [e2]
      exact lookup_zip ((List.mem_cons.mp h).resolve_left e) (by simpa using hl)
theorem filterMap_zip : ∀ {ns : List Str} {us : List Value} (pre : List (Str × Value)), (∀ n ∈ ns, pre.lookup n = none) → ns.Nodup → us.length = ns.length → ns.filterMap (fun n => ((pre ++ ns.zip us).lookup n).map (n, ·)) = ns.zip us
  | [], [], _, _, _, _ => rfl
  | [], _ :: _, _, _, _, h => by cases h
  | _ :: _, [], _, _, _, h => by cases h
  | n :: ns, u :: us, pre, hp, hn, hl => by
    rw [List.nodup_cons] at hn
    have app : ∀ {l : List (Str × Value)} {l2 : List (Str × Value)} {x : Str}, l.lookup x = none → (l ++ l2).lookup x = l2.lookup x := by
      intro l l2 x h
      rw [List.lookup_append, h]; rfl
    have e0 : (pre ++ (n :: ns).zip (u :: us)).lookup n = some u := by
      rw [app (hp n List.mem_cons_self), List.zip_cons_cons, List.lookup_cons]
      simp
    rw [List.filterMap_cons, e0]
    simp only [Option.map_some]
    rw [List.zip_cons_cons]
    congr 1
    have ih := filterMap_zip (ns := ns) (us := us) (pre ++ [(n, u)]) (fun x hx => by
      rw [app (hp x (List.mem_cons_of_mem _ hx)), List.lookup_cons]
      have e : (x == n) = false := by
        have : x ≠ n := fun z => hn.1 (by rw [← z]; exact hx)
        simpa using this
      rw [e]; rfl) hn.2 (by simpa using hl)
    rw [List.append_assoc] at ih
    exact ih
theorem bind_plain {name qual : Str} {as : List Arg} {body : List Stmt} {scope : Scope} {kV doc pm cdv ct : Value} {an : Option Addr} {us : List Value} (hd : (as.map (·.arg)).Nodup) (hl : us.length = (as.map (·.arg)).length) :
    bindArgs (PySem.W.fnOf name qual ⟨[], as, none, [], [], none, []⟩ body scope .none kV doc pm an cdv ct) ⟨us, []⟩ = pure ((as.map (·.arg)).zip us) := by
  have key := filterMap_zip (ns := as.map (·.arg)) (us := us) [] (fun _ _ => rfl) hd hl
  have miss : (as.map (·.arg)).filter (fun n => (((as.map (·.arg)).zip us).lookup n).isNone) = [] := by
    rw [List.filter_eq_nil_iff]
    intro n hn
    have := lookup_zip hn hl
    simp [Option.isNone_iff_eq_none, Option.isSome_iff_ne_none] at this ⊢
    exact this
  unfold bindArgs PySem.W.fnOf
  have hs : seqItems? Value.none = pure none := rfl
  have hl' : us.length = as.length := by simpa using hl
  simp only [List.nil_append] at key
  simp only [hs, pure_bind, List.map_nil, List.nil_append, List.append_nil, List.forIn_pure_yield_eq_foldl, List.foldl_nil, List.forIn_nil, Option.getD_none, List.length_map, List.length_nil, hl', Nat.lt_irrefl, List.drop_nil, Nat.sub_zero, decide_false, Bool.false_and, if_false, gt_iff_lt, Bool.false_eq_true, ite_false, List.take_length, false_and, List.zip_nil_right]
  have e1 : List.take as.length (as.map fun x => x.arg) = as.map fun x => x.arg := by
    rw [List.take_of_length_le]; simp
  rw [e1, miss, key]
  rfl
/-- parameters without more -/
def plainArgs (p : Arguments) : Bool := match p with
  | ⟨[], as, none, [], [], none, []⟩ => decide (as.map (·.arg)).Nodup
  | _ => false
def argNames (p : Arguments) : List Str := p.args.map (·.arg)
theorem plain_bind {p : Arguments} (h : plainArgs p = true) {name qual : Str} {body : List Stmt} {scope : Scope} {kV doc pm cdv ct : Value} {an : Option Addr} {us : List Value} (hl : us.length = (argNames p).length) :
    bindArgs (PySem.W.fnOf name qual p body scope .none kV doc pm an cdv ct) ⟨us, []⟩ = pure ((argNames p).zip us) := by
  unfold plainArgs at h
  split at h
  · exact bind_plain (of_decide_eq_true h) hl
  · cases h

/-! ### a function's start and end -/
section
variable {F : Fx} {Uo : Addr → Prop} {m m1 : Nat → Addr} {H H1 : Hp} {st st1 : Sto}
def env0 (k : Nat) (ds : List D) : Env := ds.map (fun d => some (d, false)) ++ List.replicate (k - ds.length) none
theorem env0_get {k : Nat} {ds : List D} {i : Nat} {p : D × Bool} (h : (env0 k ds)[i]? = some (some p)) : p.2 = false ∧ ds[i]? = some p.1 := by
  unfold env0 at h
  by_cases hi : i < ds.length
  · rw [List.getElem?_append_left (by simpa using hi), List.getElem?_map] at h
    cases e : ds[i]? with
    | none => rw [e] at h; cases h
    | some d => rw [e] at h; cases h; exact ⟨rfl, rfl⟩
  · rw [List.getElem?_append_right (by simpa using hi), List.getElem?_replicate] at h
    split at h <;> cases h
theorem own0 {k : Nat} {ds : List D} {σ : SL} {b : Addr} : ¬ OwnAt (env0 k ds) σ b := fun ⟨i, d, h, _⟩ => by
  have := (env0_get h).1
  cases this
theorem mu0 {k n : Nat} {ds : List D} {σ : SL} {b : Addr} (h : MuOf Uo (env0 k ds) σ m n b) : MuOf Uo [] [] m n b := h.imp id fun z => z.elim (fun z => absurd z own0) .inr
theorem sim_start {N : List Str} {ds : List D} {vs : List V} (S : Sim F Uo m [] [] st H) (r : Reps F (MuOf Uo [] [] m st.length) m st.length H vs ds) (hN : N.length = k) : Sim F Uo m (env0 k ds) (L2.start N vs) st H := by
  have hl := Reps.length r
  have L : Mov (MuOf Uo [] [] m st.length) (MuOf Uo (env0 k ds) (L2.start N vs) m st.length) m m st.length st.length H H := Mov.less fun _ z => mu0 z
  exact {
    len := by unfold env0 L2.start; simp [hl, hN]
    inj := S.inj
    obj := fun l xs e => let ⟨vs, h1, h2⟩ := S.obj l xs e; ⟨vs, h1, Reps.mov L h2⟩
    noD := S.noD
    val := fun i d e => by
      have h := (env0_get e).2
      obtain ⟨v, h1, h2⟩ := Reps.get r h
      have hi : i < vs.length := by
        by_cases hi : i < vs.length
        · exact hi
        · rw [List.getElem?_eq_none (by omega)] at h1; cases h1
      refine ⟨v, ?_, Rep.mov L h2⟩
      unfold L2.start
      rw [List.getElem?_append_left (by simpa using hi), List.getElem?_map, h1]; rfl
    own := fun i d e => by have := (env0_get e).1; cases this
    sep := fun i j a d e h => by have := (env0_get h).1; cases this
    osto := fun b hb => absurd hb own0
    usto := S.usto
    uH := S.uH
    tab := S.tab }
theorem sim_end {env : Env} {σ : SL} {T : Addr → Prop} (S : Sim F (Plus Uo T) m env σ st H) : Sim F (Plus Uo T) m [] [] st H := by
  have L : Mov (MuOf (Plus Uo T) env σ m st.length) (MuOf (Plus Uo T) [] [] m st.length) m m st.length st.length H H := Mov.less fun b z => z.imp id fun z => z.elim (fun z => absurd z own_nil) .inr
  exact {
    len := rfl
    inj := S.inj
    obj := fun l xs e => let ⟨vs, h1, h2⟩ := S.obj l xs e; ⟨vs, h1, Reps.mov L h2⟩
    noD := S.noD
    val := fun i d e => by simp at e
    own := fun i d e => by simp at e
    sep := fun i j a d e h => by simp at h
    osto := fun b hb => absurd hb own_nil
    usto := S.usto
    uH := S.uH
    tab := S.tab }
theorem step_end {k : Nat} {ds : List D} {env : Env} {σ0 σ : SL} (p : Step (OwnAt (env0 k ds) σ0) (env0 k ds) σ0 m st.length H env σ m1 st1.length H1) : Step noCh [] [] m st.length H [] [] m1 st1.length H1 :=
  ⟨p.hn, p.hm, p.new, fun a o e ht h => p.fr a o e ht (h.imp id fun z => ⟨own0, z.2⟩), p.th, fun b hb => absurd hb own_nil⟩
/-- the promise of a call, as the body's -/
theorem body_of {G : Gl} {fns : List Fn} {W n f : Nat} {fn : Fn} {N : List Str} {ds : List D} {vs : List V} {Q : VK} {E : XK} (hf : fns[f]? = some fn) (hN : N.length = fn.ns) (S : Sim F Uo m [] [] st H) (r : Reps F (MuOf Uo [] [] m st.length) m st.length H vs ds)
    (q : PostE F Uo [] [] m st.length H (fun cls dd _ H' => E cls dd H') false Q (ofCall (callN G fns W (n + 1) f ds st) [])) :
    ds.length = fn.np ∧ RdB F G (callN G fns W n) (fun cls dd _ H' => E cls dd H') W fn.body { nx := fun _ H' => Q .non H', rt := Q } (L2.start N vs) H := by
  unfold callN at q
  rw [hf] at q
  dsimp only at q
  by_cases hl : ds.length = fn.np
  · rw [if_pos hl] at q
    refine ⟨hl, Uo, m, env0 fn.ns ds, st, sim_start S r hN, ?_⟩
    have e0 : ds.map (fun d => some (d, false)) ++ List.replicate (fn.ns - fn.np) none = env0 fn.ns ds := by unfold env0; rw [hl]
    rw [e0] at q
    revert q
    generalize exB G (callN G fns W n) W fn.body (env0 fn.ns ds) st = z
    intro q
    cases z with
    | no => exact q
    | ex c x env' st' =>
      intro cls dd σ' m' H' p S' e
      have S1 : Sim F (Plus Uo fun _ => False) m' env' σ' st' H' := S'.less fun a z => z.elim id fun z => z.elim
      exact q cls dd m' H' (step_end p) (sim_end S1).base e
    | ok fl env' st' =>
      cases fl with
      | nx =>
        intro σ' m' H' p S'
        exact q .non m' H' (step_end p) (sim_end S'.plusF) ⟨fun e => absurd e (by simp), fun _ _ => rfl, fun _ _ => rfl⟩
      | brk => exact q.elim
      | ct => exact q.elim
      | ret d o =>
        intro v σ' m' H' p S' r1 r2
        have L : Mov (MuOf (Plus Uo (Tmp o v)) env' σ' m' st'.length) (MuOf (Plus Uo (Tmp o v)) [] [] m' st'.length) m' m' st'.length st'.length H' H' := Mov.less fun b z => z.imp id fun z => z.elim (fun z => absurd z own_nil) .inr
        refine q v m' H' (step_end p) (sim_end S') ⟨fun e => ?_, fun e _ => Rep.mov L (r2 e), fun e z => absurd z (by simp)⟩
        obtain ⟨a, xs, vs, h1, h2, h3, h4, h5⟩ := r1 e
        exact ⟨a, xs, vs, h1, h2, h3, Reps.mov L h4, h5.resolve_right own0⟩
  · rw [if_neg hl] at q; exact q.elim
end

/-! ### all functions -/
/-- a function of the text and its code -/
structure FM where
  N : List Str
  lam : Bool
  name : Str
  params : Arguments
  body : List Stmt
  scope : Scope
def FM.sc (f : FM) : Sc0 := ⟨f.N, f.scope, fun _ => true, 0, f.lam⟩
/-- the text holds the code -/
def FM.chk (tab : Str → Option GV) (f : FM) (fn : Fn) : Bool := C8.scC f.N (argNames f.params) f.scope && plainArgs f.params && decide ((argNames f.params).length = fn.np) && decide (f.N.length = fn.ns) && chkB tab f.sc fn.body f.body
/-- what the global names tell, at a written part -/
def MkK (K : PySem.W.Frag) (C : Addr) : Prop := ∃ (bmB : List Value) (B newId initId : String), ExcBaseFacts B newId initId bmB ∧ PySem.W.excIn K C bmB newId = true ∧ PySem.W.keepIn K (.ref C) = true ∧ PySem.W.subIn K (.ref C) (.type "BaseException") = some true ∧ PySem.W.typeIn K (.ref C) = some (.type "type")
def GlobOk (F : Fx) (G : Gl) (tab : Str → Option GV) (mg : Str → Option Value) : Prop := ∀ x g, tab x = some g → match g with
  | .fn i => mg x = some (.ref (F.ga i)) ∧ ∃ n, G.ar i = some n
  | .cls i own => mg x = some (.ref (F.ga i)) ∧ (own = true → MkK F.K (F.ga i))
  | .cst d => ∃ u v, mg x = some u ∧ RelV v u ∧ ∀ Mu m n H, Rep F Mu m n H v d
  | .free => mg x = none
/-- the functions' code at the level n -/
def FnsAt (P : Program) (w : World) (mg : Str → Option Value) (base : Heap) (F : Fx) (G : Gl) (call : Nat → List D → Sto → RC) (k : Nat) : Prop :=
  ∀ f n, G.ar f = some n → ∃ fd ps, FnOk P w F.K mg base (L2N.CX P w) k (F.ga f) fd ps (spOf F call f n) ∧ Binds F.K fd ps [] ∧ PySem.W.keepIn F.K (.ref (F.ga f)) = true
theorem spOf_no {F : Fx} {call : Nat → List D → Sto → RC} {f k : Nat} (h : ∀ ds st, call f ds st = .no) (vs : List V) (H : Hp) (Q : VK) (E : XK) : ¬ spOf F call f k vs H Q E := fun ⟨Uo, m, ds, st, _, _, _, q⟩ => by
  rw [h] at q; exact q
theorem callN_len {G : Gl} {fns : List Fn} {W n f : Nat} {ds : List D} {st : Sto} (h : callN G fns W n f ds st ≠ .no) : ∃ fn, fns[f]? = some fn ∧ ds.length = fn.np := by
  cases n with
  | zero => exact absurd rfl h
  | succ n =>
    unfold callN at h
    cases e : fns[f]? with
    | none => rw [e] at h; exact absurd rfl h
    | some fn =>
      rw [e] at h
      refine ⟨fn, rfl, ?_⟩
      by_cases hl : ds.length = fn.np
      · exact hl
      · dsimp only at h
        rw [if_neg hl] at h; exact absurd rfl h
end Pi

set_option maxRecDepth 100000
set_option maxHeartbeats 4000000
/-! Pi1: _law_error within the except suite. -/
namespace Pi
open PySem PySem.Spec L2
open HotX (HotAt)
open PyProof.Rows

/-- a def's call beside a handled exception p -/
theorem run_hot {CX : CXT} {P : Program} {w : World} {K : PySem.W.Frag} {mg : Str → Option Value} {base : Heap} {k : Nat} {f : Addr} {name qual : Str} {params : Arguments} {body : List Stmt} {scope : Scope} {dV kV doc pm cdv ct oc : Value} {an od : Option Addr}
    {osl : Array (Option Value)} {N ps : List Str} (lk : K.lookup f = some ⟨oc, od, .func (PySem.W.fnOf name qual params body scope dV kV doc pm an cdv ct), osl⟩) (hcd : PySem.W.codeIn K cdv qual = true) (S : FnScope N ps scope)
    {A : Around} {outer : List PySem.Env} {s : Shared} {H : Hp} {args : Args} {us : List Value} {vs : List V} {Q : VK} {E : XK} {p : Addr × Obj} (hr : L2H.RoomH (k + 1) A) (hpin : L2H.PinOk outer H s p) (e0 : Env0 P w K mg base A outer s H) (hb : BindsTo s (PySem.W.fnOf name qual params body scope dV kV doc pm an cdv ct) args (ps.zip us)) (r : Vals vs us) (hl : vs.length = ps.length)
    (hbody : L2H.RoomH k (A.deeper (envOfC qual scope s.heap.objs.size f cdv)) → ∃ t, PSs (L2H.cxH CX P w K mg base N qual scope f cdv A outer s H E p) body t ∧ t { nx := fun _ H' => Q .non H', rt := Q } (L2.start N vs) H) :
    codeAny (model P w) A (.call (.ref f) args) (CR CX outer P w H s Q E) s := by
  have kin : K.In s.heap := e0.mod.kin.keeps fun b o e => (e0.bs b o e).1
  have lim : s.heap.NoLimit := e0.mod.nolimit.keeps fun b o e => (e0.bs b o e).1
  have kinds : ∀ y ∈ ps.zip us, scope.names.lookup y.1 = some .local ∨ (scope.names.lookup y.1 = some .cell ∧ ((cellsFrom (s.heap.objs.size + 1) scope.names []).lookup y.1).isSome = true) := fun ⟨n, v⟩ hy => by
    rcases S.par n (List.of_mem_zip hy).1 with q | q
    · exact .inl q
    · exact .inr ⟨q, PySem.W.cellsFrom_some _ _ _ (.inl q)⟩
  refine codeAny_call_function hr.depth (kin _ _ lk) rfl S.co S.gen rfl (PySem.W.codeRec_of kin hcd) (hb _ _ _ _ ?_)
  refine wpAny_newFunctionEnv_cells S.kind kinds fun env he s1 x => ?_
  subst he
  refine ⟨lim.keeps x.toInCall.keep, codeAny_func ?_⟩
  obtain ⟨t, ht, hq⟩ := hbody (hr.deeper _)
  have J := L2H.inv_startH (CX := CX) (E := E) S hpin e0 hl r x
  refine wpAny_mono (ht.run [] s1 (L2.start N vs) H _ J hq) (fun fl s' hs => ?_) fun e s' hs => hs
  cases fl with
  | ret u => obtain ⟨v, σ', H', J', rv, q⟩ := hs; exact ⟨v, H', J'.os, J'.bare, J'.base, J'.hok, rv, q⟩
  | next => obtain ⟨σ', H', J', q⟩ := hs; exact ⟨V.non, H', J'.os, J'.bare, J'.base, J'.hok, rfl, q⟩
  | brk => obtain ⟨_, _, _, q⟩ := hs; exact False.elim q
  | cont => obtain ⟨_, _, _, q⟩ := hs; exact False.elim q

/-- what the classes of exceptions tell -/
structure ErrK (F : Fx) (G : Gl) (cls : Nat → Bool) : Prop where
  exc : ∀ c, cls c = true → ExcC F.K (F.ga c)
  kit : ∀ c d, cls c = true → cls d = true → PySem.W.kitOne F.K (.ref (F.ga c)) (.ref (F.ga d)) = some (G.sub c d)
/-- the parts for the run over an exception of the class c at a: the exception is the thing 0, the others one further -/
def shF (F : Fx) (a : Addr) : Fx := { F with ga := fun i => match i with
  | 0 => a
  | i + 1 => F.ga i }
def shG (G : Gl) (cls : Nat → Bool) (c : Nat) : Gl := { G with ar := fun _ => none, xi := fun i d => match i, d with
  | 0, d + 1 => if cls d then some (G.sub c d) else none
  | _, _ => none }
def shT (tab : Str → Option GV) : Str → Option GV := fun x => match tab x with
  | some (.cls i _) => some (.cls (i + 1) false)
  | some .free => some .free
  | _ => none
def noCall0 : Nat → List D → Sto → RC := fun _ _ _ => .no
theorem isH_dat {X : Cx} {F : Fx} {G : Gl} {cls : Nat → Bool} {c : Nat} {a : Addr} {oe : Obj} {bw : Bool} {W : WX} (hK : X.K = F.K) (ek : ErrK F G cls) (hc : cls c = true) (hp : (a, oe) ∈ X.pn) (hz : Zc (.ref (F.ga c)) none oe) (hf : ∃ vs, oe.data = .fields vs) :
    CallR X (.builtin "isinstance") (rMany (shF F a) bw W (bifn (shG G cls c) .isinst)) := by
  intro pins s σ H xs us Q I r h
  obtain ⟨σ0, Uo, m, env, st, ds, S, rs, hp'⟩ := h
  generalize e : bifn (shG G cls c) .isinst ds = z at hp'
  unfold bifn at e
  split at e <;> first
    | (rename_i hb; cases hb)
    | skip
  · rename_i x t
    obtain ⟨v, w, rfl, ra, rb⟩ := RepBs.two rs
    cases q : isInst (shG G cls c) x t with
    | none => rw [q] at e; subst e; exact hp'.elim
    | some k =>
      rw [q] at e
      subst e
      cases t with
      | ty t => exact isi_dat (F := shF F a) (by rw [hK]; rfl) I r ra rb q (hp'.here S rfl)
      | gl d =>
        cases x with
        | exc _ _ => exact ra.elim
        | gl i =>
          have q : (shG G cls c).xi i d = some k := q
          cases i with
          | succ i => cases q
          | zero =>
            cases d with
            | zero => cases q
            | succ d =>
              have q : (if cls d then some (G.sub c d) else none) = some k := q
              by_cases hd : cls d = true
              · rw [if_pos hd] at q
                cases q
                obtain rfl : v = .ref a := ra
                obtain rfl : w = .ref (F.ga d) := rb
                have C := ek.exc c hc
                have kk := ek.kit c d hc hd
                rw [← hK] at C kk
                obtain ⟨u1, u2, rfl, r1, r2⟩ := Vals.two r
                cases r1
                cases r2
                obtain ⟨hget, _⟩ := I.pin (a, oe) (List.mem_append.mpr (.inl hp))
                obtain ⟨vs, hv⟩ := hf
                have J : PySem.W.InstAt s.heap a oe (F.ga c) none := by
                  obtain ⟨oc, od, oda, osl⟩ := oe
                  obtain ⟨h1, h2⟩ := hz
                  dsimp only at h1 h2 hv
                  subst h1 h2 hv
                  exact ⟨hget, rfl, rfl, trivial⟩
                exact PySem.W.kia_one (PySem.W.handS_kitx_exc C.hg C.hk C.hs C.hd C.ha C.hn C.ht C.hm) I.kIn J kk (fun z => nomatch z) fun tk => ⟨.bl _, H, I.kept (t' := tk) fun _ _ z => z, rfl, hp'.here S rfl⟩
              · rw [if_neg hd] at q; cases q
        | _ => cases q
      | _ => cases x <;> cases q
  · subst e; exact hp'.elim
end Pi

set_option maxRecDepth 100000
set_option maxHeartbeats 4000000
/-! Pi2: the call of _law_error. -/
namespace Pi
open PySem PySem.Spec L2
open HotX (HotAt)
open PyProof.Rows

/-- _law_error's text holds its code -/
def FM.chkH (tab : Str → Option GV) (f : FM) (fn : Fn) : Bool := C8.scC f.N (argNames f.params) f.scope && plainArgs f.params && decide ((argNames f.params).length = 1) && decide (f.N.length = fn.ns) && chkB (shT tab) ⟨f.N, f.scope, fun _ => true, 1, false⟩ fn.body f.body
/-- .. and tells w of the class c -/
def errSays (G : Gl) (cls : Nat → Bool) (fn : Fn) (c : Nat) (w : Str) : Prop := ∃ env' st', exB (shG G cls c) noCall0 0 fn.body (env0 fn.ns [.gl 0]) [] = .ok (.ret (.str w) false) env' st'

theorem hotc_i {X : Cx} (h : L2H.HotC X) : HotI X := fun _ _ _ _ I => h.at I
theorem pe_err {Z : Cx} {F : Fx} {G : Gl} {cls : Nat → Bool} {tab : Str → Option GV} {fm : FM} {fn : Fn} {f a : Addr} {oe : Obj} {pn : List (Addr × Obj)} {c i k : Nat} {w : Str} {x y : Str} {p p2 pos : Pos} {fd : FuncData} {W : WX} (hK : Z.K = F.K) (hgl : GlobOk F G tab Z.mg) (ek : ErrK F G cls)
    (fD : FunD F.K fm.name fm.name fm.params fm.body fm.scope [] [] f fd) (hch : fm.chkH tab fn = true) (hw : errSays G cls fn c w) (hc : cls c = true) (hz : L2N.Zn (.ref (F.ga c)) none oe) (hf : ∃ vs, oe.data = .fields vs) (hr : Room (k + 1) Z.A)
    (hg : L2.Gl Z x) (hm : Z.mg x = some (.ref f)) (hdx : (x == ("__debug__" : Str)) = false) (hN : Z.N[i]? = some y) (hv : Vis Z.env.scope y) (hd : (y == ("__debug__" : Str)) = false) (hcd : (y == ("__classdict__" : Str)) = false) :
    PE (Z.suite a ((a, oe) :: pn)) (.Call (.Name x p) [.Name y p2] [] pos) (fun σ H Q => σ[i]? = some (some (.ref a)) ∧ LamX.Tabs F.T H ∧ ∀ H', (∀ b o, H b = some o → ¬ isTbl o → H' b = some o) → (∀ b, H b ≠ none → H' b ≠ none) → LamX.Tabs F.T H' → Q (.str w) H') := by
  refine ⟨fun pins s σ H Q I h => ?_⟩
  obtain ⟨hs, hT, h⟩ := h
  unfold FM.chkH at hch
  simp only [Bool.and_eq_true, decide_eq_true_eq] at hch
  obtain ⟨⟨⟨⟨h1, h2⟩, h3⟩, h4⟩, h5⟩ := hch
  have S := C8.fnScope_by h1
  have hot : L2H.Hot1 (Z.suite a ((a, oe) :: pn)).A (a, oe) := ⟨rfl, let ⟨vs, e⟩ := hf; ⟨vs, e, hz.2.2 vs e⟩⟩
  refine wpAny_Call_Name_kw (ld_glob (X := Z.suite a ((a, oe) :: pn)) I hg hm ?_ hdx)
  have ha : PA (Z.suite a ((a, oe) :: pn)) [.Name y p2] (tCons (tVar i) tNil) := pa_cons (pe_var hN hv hd hcd) pa_nil
  refine PySem.W.callWith_K (h₀ := Z.base) I.ok.mod.kin (show PySem.W.keepIn Z.K (.ref f) = true by rw [hK]; exact fD.kp) (thn (ha.run pos pins s σ H (fun vs H1 => vs = [V.ref a] ∧ H1 = H) I ⟨_, hs, rfl, rfl⟩) fun us s1 ⟨vs, H1, I1, r, q1⟩ => ⟨I1.kIn, ?_⟩) rfl rfl
  obtain ⟨rfl, rfl⟩ := q1
  have P1 := I1.pin (a, oe) (List.mem_append_left _ (List.mem_cons_self))
  have hpin : L2H.PinOk (Z.suite a ((a, oe) :: pn)).stack H1 s1 (a, oe) := ⟨P1.1, P1.2.1, fun hm => (List.mem_cons.mp (I1.stkSub a hm)).elim P1.2.2.1 P1.2.2.2.1, P1.2.2.2.2⟩
  have hb : Binds F.K fd (argNames fm.params) [] := fD.bindsN fun _ _ _ _ _ _ us hl => plain_bind h2 hl
  obtain ⟨oc, od, dV, kV, doc, pm, an, cdv, ct, osl, rfl, lk, hcode, _, _⟩ := fD.ex
  have hlu : us.length = (argNames fm.params).length := by rw [← r.length, h3]; rfl
  have hb1 := hb s1 us (by rw [← hK]; exact I1.kIn) (by rw [List.append_nil]; exact hlu)
  rw [List.append_nil] at hb1
  have rc : codeAny (model Z.prog Z.w) (Z.suite a ((a, oe) :: pn)).A (.call (.ref f) ⟨us, []⟩) (CR (fun _ _ _ _ _ _ => False) (Z.suite a ((a, oe) :: pn)).stack Z.prog Z.w H1 s1 Q (fun _ _ _ => False)) s1 := by
    refine run_hot (p := (a, oe)) (K := Z.K) (mg := Z.mg) (base := Z.base) (k := k) (N := fm.N) (ps := argNames fm.params) (by rw [hK]; exact lk) (by rw [hK]; exact hcode) S (L2H.roomH_mark hr _) hpin I1.env0 hb1 r (by rw [h3]; rfl) fun hrh => ?_
    obtain ⟨env', st', hev⟩ := hw
    refine ⟨RdB (shF F a) (shG G cls c) noCall0 (fun _ _ _ _ => False) 0 fn.body, ?_, ?_⟩
    · have hhc : L2H.HotC (L2H.cxH (fun _ _ _ _ _ _ => False) Z.prog Z.w Z.K Z.mg Z.base fm.N fm.name fm.scope f cdv (Z.suite a ((a, oe) :: pn)).A (Z.suite a ((a, oe) :: pn)).stack s1 H1 (fun _ _ _ => False) (a, oe)) := ⟨(a, oe), hot, List.mem_cons_self⟩
      refine chkB_ok (k := k) (tab := shT tab) (S := ⟨fm.N, fm.scope, fun _ => true, 1, false⟩) ?_ _ _ h5
      exact {
        K := hK
        N := rfl
        nd := S.nd
        sc := rfl
        fn := fun _ _ => rfl
        calm := fun z => by cases z
        un := by
          have := hrh.un
          show ((Z.suite a ((a, oe) :: pn)).A.deeper (envOfC fm.name fm.scope s1.heap.objs.size f cdv)).units + 64 < cLine
          omega
        room := fun z => by cases z
        xi := fun z => by cases z
        rfd := fun z => by cases z
        hot1 := fun _ => ⟨hhc, fun bw W' => isH_dat hK ek hc List.mem_cons_self hz.zc hf⟩
        hot2 := .inr (hotc_i hhc)
        tk := fun u s' ⟨_, _, _, _, _, _, _, _, _, _, _, _, _, _, _, _, z⟩ => z.elim
        po := passes_of rfl
        fns := fun f n z => by cases z
        nca := fun f ds st z => absurd rfl z
        glob := fun x g e => by
          unfold shT at e
          cases q : tab x with
          | none => rw [q] at e; cases e
          | some g0 =>
            rw [q] at e
            have z := hgl x g0 q
            cases g0 with
            | fn _ => cases e
            | cst _ => cases e
            | free => cases e; exact z
            | cls j own =>
              cases e
              exact ⟨z.1, fun z => by cases z⟩ }
    · refine ⟨fun _ => False, fun _ => 0, env0 fn.ns [.gl 0], [], ?_, ?_⟩
      · refine sim_start (F := shF F a) (Uo := fun _ => False) (m := fun _ => 0) (ds := [.gl 0]) (vs := [.ref a]) ?_ ⟨rfl, trivial⟩ h4
        exact {
          len := rfl
          inj := fun i j hi => absurd hi (by simp)
          obj := fun l xs e => by simp at e
          noD := fun l ks vs e => by simp at e
          val := fun i d e => by simp at e
          own := fun i d e => by simp at e
          sep := fun i j a d e h => by simp at h
          osto := fun b hb => absurd hb own_nil
          usto := fun b ⟨l, hl, _⟩ => absurd hl (by simp)
          uH := fun a z => z.elim
          tab := hT }
      · rw [hev]
        intro v σ' m' H' pst S' _ r2
        obtain rfl : v = .str w := r2 rfl
        exact h H' (fun b o e ht => pst.fr b o e ht (.inr ⟨own0, fun ⟨l, hl, _⟩ => absurd hl (by simp)⟩)) pst.th S'.tab
  refine wpAny_call (codeAny_mono rc fun r s' hq => ?_)
  cases r with
  | error e => exact False.elim hq
  | ok fl =>
    cases fl with
    | ret u => exact I1.after (X := Z.suite a ((a, oe) :: pn)) hq
    | next => exact False.elim hq
    | brk => exact False.elim hq
    | cont => exact False.elim hq
end Pi

set_option maxRecDepth 100000
set_option maxHeartbeats 4000000
/-! Pi4: _law_refused with a lambda. -/
namespace Pi
open PySem PySem.Spec L2
open HotX (HotAt)
open PyProof.Rows

section
variable {F : Fx} {Uo : Addr → Prop} {env : Env} {σ : SL} {m : Nat → Addr} {n : Nat} {H H' : Hp} {st : Sto}
theorem imm_tbl {o : HO} (h : imm o) : ¬ isTbl o := by cases o <;> first | exact fun z => z | exact h.elim
theorem Stays.mov {Mu : Addr → Prop} (k : Stays F H H') : Mov Mu Mu m m n n H H' := ⟨Nat.le_refl _, fun _ _ => rfl, fun a o e h => k.kp a o e (by
  rcases h with h | ⟨⟨xs, rfl⟩, _⟩
  · exact imm_tbl h
  · exact fun z => z), fun _ z => .inl z⟩
theorem Stays.step {Ch : Addr → Prop} (k : Stays F H H') : Step Ch env σ m n H env σ m n H' := ⟨Nat.le_refl _, fun _ _ => rfl, fun l h1 h2 => absurd (Nat.lt_of_le_of_lt h1 h2) (Nat.lt_irrefl _), fun a o e ht _ => k.kp a o e ht, k.th, fun _ z => .inl z⟩
theorem Stays.sim (k : Stays F H H') (S : Sim F Uo m env σ st H) : Sim F Uo m env σ st H' where
  len := S.len
  inj := S.inj
  obj := fun l xs e => let ⟨vs, h1, h2⟩ := S.obj l xs e; ⟨vs, k.kp _ _ h1 (fun z => z), Reps.mov k.mov h2⟩
  noD := S.noD
  val := fun i d e => let ⟨v, h1, h2⟩ := S.val i d e; ⟨v, h1, Rep.mov k.mov h2⟩
  own := fun i d e => let ⟨a, xs, vs, h1, h2, h3, h4⟩ := S.own i d e; ⟨a, xs, vs, h1, h2, k.kp _ _ h3 (fun z => z), Reps.mov k.mov h4⟩
  sep := S.sep
  osto := S.osto
  usto := S.usto
  uH := fun a z => k.th a (S.uH a z)
  tab := k.tb
end

/-- _law_refused's text -/
def refC (tab : Str → Option GV) (le pl : Nat) (fm : FM) : Bool := C8.scC fm.N (argNames fm.params) fm.scope && plainArgs fm.params && match fm.N, fm.body with
  | [a, e], [.Try [.Expr (.Call (.Name a' _) [] [] _) _] [.ExceptHandler (some (.Name xp _)) (some e') [.Return (some (.Call (.Name xl _) [.Name e'' _] [] _)) _] _] [] [] _, .Return (some (.Constant (.str z) _ _)) _] =>
    decide (argNames fm.params = [a]) && decide (a' = a) && decide (e' = e) && decide (e'' = e) && decide (z = Str.ofString "") && visC fm.scope a && decide (fm.scope.names.lookup e = some .local) && okName a && okName e && glC fm.scope xl && glC fm.scope xp &&
      (match tab xl with | some (.cls j _) => decide (j = le) | _ => false) && (match tab xp with | some (.cls j _) => decide (j = pl) | _ => false)
  | _, _ => false

structure ErrAll (F : Fx) (G : Gl) (tab : Str → Option GV) (cls : Nat → Bool) (le pl lr : Nat) (em rm : FM) (en : Fn) : Prop where
  ek : ErrK F G cls
  top : ∀ c, cls c = true → PySem.W.exmOne F.K (.ref (F.ga c)) (.ref (F.ga pl)) = some true
  words : ∀ c w, G.words c = some w → cls c = true ∧ errSays G cls en c w
  fe : ∃ fd, FunD F.K em.name em.name em.params em.body em.scope [] [] (F.ga le) fd
  ce : em.chkH tab en = true
  fr : ∃ fd, FunD F.K rm.name rm.name rm.params rm.body rm.scope [] [] (F.ga lr) fd
  cr : refC tab le pl rm = true
  lr : tab "_law_refused" = some (.cls lr false)

abbrev refZ (X : Cx) (N : List Str) (name : Str) (sc : Scope) (g : Addr) (cdv : Value) (s' : Shared) (H1 : Hp) : Cx := cxOf (L2N.CX X.prog X.w) X.prog X.w X.K X.mg X.base N name sc g cdv X.A X.stack s' H1 (fun _ _ _ => False)
theorem takes_no {X : Cx} : L2N.Takes X W0 := fun u s' h => by
  obtain ⟨_, _, _, _, _, _, _, _, _, _, _, _, _, _, _, _, z⟩ := h
  exact z.elim
def tsR (F : Fx) (G : Gl) : Addr → Value → Option Addr → TS := fun a cls d D σ0 H0 => ∃ c w, cls = .ref (F.ga c) ∧ d = none ∧ G.words c = some w ∧ σ0[1]? = some (some (.ref a)) ∧ LamX.Tabs F.T H0 ∧ ∀ H'', Stays F H0 H'' → D.rt (.str w) H''
def tbR (F : Fx) (G : Gl) (call : Nat → List D → Sto → RC) (e : C) (σ : SL) (n : Nat) (g c' : Addr) (q : Str) : WX → TS := fun W' D σ0 H0 => ∃ Ech : XK, (∀ cls d (σ' : SL) H', σ'.length = n → Ech cls d H' → W' cls d σ' H') ∧ σ0[0]? = some (some (.ref g)) ∧ H0 c' = some (LamX.CodeO c' q) ∧
  RdE F G call (fun cls dd _ H' => Ech cls dd H') false e σ H0 (fun _ H'' => D.nx σ0 H'')
theorem glC_raw {sc : Scope} {y : Str} (h : glC sc y = true) : sc.names.lookup y = some .globalImplicit ∧ (y == ("__debug__" : Str)) = false := by
  unfold glC at h
  split at h
  · rename_i e; exact ⟨e, by simpa using h⟩
  · cases h
theorem rfd_ok {X : Cx} {F : Fx} {G : Gl} {call : Nat → List D → Sto → RC} {tab : Str → Option GV} {cls : Nat → Bool} {le pl lr : Nat} {em rm : FM} {en : Fn} {W : WX} {k : Nat} (hK : X.K = F.K) (hgl : GlobOk F G tab X.mg) (ea : ErrAll F G tab cls le pl lr em rm en) (la : LamAt X F) (hr : Room (k + 2) X.A) : RfdR X F G call W k := by
  intro bw f e params body scope p lpos pos hlo hg hbody
  unfold lamOk at hlo
  rw [Bool.and_eq_true] at hlo
  obtain ⟨hpar, hls⟩ := hlo
  have L := LamX.lamS_by hls
  have hdef : defaultsOf params X.env = ([], []) := by
    split at hpar
    · rfl
    · cases hpar
  have hbind : ∀ (q : Str) (cl : List (Str × Addr)) (pm cv ctv : Value), bindArgs (PySem.W.kla_fn "<lambda>" q params body scope cl pm cv ctv) ⟨[], []⟩ = pure [] := by
    split at hpar
    · intro q cl pm cv ctv; rfl
    · cases hpar
  have hm := (hgl _ _ ea.lr).1
  obtain ⟨fdr, fR⟩ := ea.fr
  obtain ⟨fde, fE⟩ := ea.fe
  have hcr := ea.cr
  unfold refC at hcr
  rw [Bool.and_eq_true, Bool.and_eq_true] at hcr
  obtain ⟨⟨sc1, sc2⟩, hcr⟩ := hcr
  have SR := C8.fnScope_by sc1
  have bR : Binds F.K fdr (argNames rm.params) [] := fR.bindsN fun _ _ _ _ _ _ us hl => plain_bind sc2 hl
  obtain ⟨oc, od, dV, kV, doc, pm, an, cdv, ct, osl, rfl, lk, hcdR, _, _⟩ := fR.ex
  split at hcr
  rotate_left
  · cases hcr
  rename_i a en' a' q1 q2 q3 xp q4 e' xl q5 e'' q6 q7 q8 q9 q10 z kz q11 q12 hN hB
  simp only [Bool.and_eq_true, decide_eq_true_eq] at hcr
  obtain ⟨⟨⟨⟨⟨⟨⟨⟨⟨⟨⟨⟨hps, rfl⟩, rfl⟩, rfl⟩, rfl⟩, hva⟩, hle⟩, hna⟩, hne⟩, hgl1⟩, hgp⟩, ht1⟩, ht2⟩ := hcr
  have hmE : X.mg xl = some (.ref (F.ga le)) := by
    split at ht1
    · rename_i e1
      obtain rfl := of_decide_eq_true ht1
      exact (hgl _ _ e1).1
    · cases ht1
  have hmP : X.mg xp = some (.ref (F.ga pl)) := by
    split at ht2
    · rename_i e1
      obtain rfl := of_decide_eq_true ht2
      exact (hgl _ _ e1).1
    · cases ht2
  obtain ⟨gE1, gE2⟩ := glC_raw hgl1
  obtain ⟨gP1, gP2⟩ := glC_raw hgp
  obtain ⟨na1, na2⟩ := okName_ok hna
  obtain ⟨ne1, ne2⟩ := okName_ok hne
  refine ⟨fun pins s σ H Q I h => ?_⟩
  obtain ⟨Uo, m, env, st, S, q⟩ := h
  rw [ev] at q
  refine wpAny_Call_Name_kw (ld_glob I hg hm ?_ (by decide))
  refine PySem.W.callWith_K (h₀ := X.base) I.ok.mod.kin (show PySem.W.keepIn X.K (.ref (F.ga lr)) = true by rw [hK]; exact fR.kp) ?_ (by rfl) (by rfl)
  show wpAny _ _ (spliced ((false, eval (.Lambda params body scope lpos) X.env) :: backTo pos (starEach [] X.env))) _ _ s
  refine Calls.spliced_cons (lam_new I la S.tab hdef L fun g c' pm' ctv H1 s' I1 K1 hf hfn hfr hco => ?_)
  refine Calls.spliced_nil ⟨I1.kIn, ?_⟩
  have S1 := K1.sim S
  have hN0 : rm.N[0]? = some a' := by rw [hN]; rfl
  have hN1 : rm.N[1]? = some e'' := by rw [hN]; rfl
  have hNl : rm.N.length = 2 := by rw [hN]; rfl
  have b1 := bR s' [.ref g] (by rw [← hK]; exact I1.kIn) (by rw [hps]; rfl)
  rw [List.append_nil] at b1
  have rc : codeAny (model X.prog X.w) X.A (.call (.ref (F.ga lr)) ⟨[.ref g], []⟩) (CR (L2N.CX X.prog X.w) X.stack X.prog X.w H1 s' Q (fun _ _ _ => False)) s' := by
    refine LamX.run_ofS (K := X.K) (mg := X.mg) (base := X.base) (k := k + 1) (N := rm.N) (ps := argNames rm.params) (us := [.ref g]) (vs := [.ref g]) (by rw [hK]; exact lk) (by rw [hK]; exact hcdR) SR hr I1.env0 b1 (.cons rfl .nil) (by rw [hps]; rfl) fun hr' => ?_
    have t1 : PS (refZ X rm.N rm.name rm.scope (F.ga lr) cdv s' H1) (.Try [.Expr (.Call (.Name a' q1) [] [] q2) q3] [.ExceptHandler (some (.Name xp q4)) (some e'') [.Return (some (.Call (.Name xl q5) [.Name e'' q6] [] q7)) q8] q9] [] [] q10)
        (fun D σ0 H0 => tbR F G call e σ rm.N.length g c' (X.env.qual ++ "<lambda>") (wAs X.K (.ref (F.ga pl)) 1 (tsR F G) W0 D) D σ0 H0) := by
      refine L2N.ps_try_as (X := refZ X rm.N rm.name rm.scope (F.ga lr) cdv s' H1) (tb := tbR F G call e σ rm.N.length g c' (X.env.qual ++ "<lambda>")) (ts := tsR F G) rfl rfl SR.nd hN1 hle ⟨gP1, gP2, .inl hmP⟩ takes_no (fun W' pn xe tk' _ => ?_) (fun a oe cls d pn hz hf' => ?_)
      · refine ⟨fun pinsZ sZ σZ HZ D IZ ⟨Ech, hW, z1, z2, z3⟩ => ?_⟩
        have hp := pe_run0 (Z := (refZ X rm.N rm.name rm.scope (F.ga lr) cdv s' H1).tr pn xe) (W := W') (E := Ech) (i := 0) (g := g) (p1 := q1) (p2 := q2) (pre := fun _ H0 Q => H0 c' = some (LamX.CodeO c' (X.env.qual ++ "<lambda>")) ∧ RdE F G call (fun cls dd _ H' => Ech cls dd H') false e σ H0 Q)
          tk' hW hN0 (visC_ok hva) na1 na2 (fun pins0 σ0 H0 s0 Q0 I0 ⟨known, pre⟩ => by
            have isLam := I0.base.keep g _ hf hfn hfr (fun z => nomatch (show g ∈ ([] : List Addr) from z))
            have run := lam_runs (X := X) (A := X.A.deeper (envOfC rm.name rm.scope s'.heap.objs.size (F.ga lr) cdv)) (outer := envOfC rm.name rm.scope s'.heap.objs.size (F.ga lr) cdv :: X.stack) (E := Ech) (Q := Q0) I1 L isLam (hbind _ _ _ _ _) hr' I0.env0 I0.base I0.nolimit known (fun hr2 => hbody Ech _ _ _ _ g c' hr2) pre
            exact ⟨⟨_, _, _, _, isLam⟩, run⟩)
        exact (pss_one (ps_expr (pos := q3) hp rfl)).run pinsZ sZ σZ HZ D IZ ⟨z1, z2, z3⟩
      · refine ⟨fun pinsZ sZ σZ HZ D IZ ⟨c, w, e1, e2, hw, z1, z2, z3⟩ => ?_⟩
        subst e1 e2
        obtain ⟨w1, w2⟩ := ea.words c w hw
        have hp := pe_err (a := a) (Z := refZ X rm.N rm.name rm.scope (F.ga lr) cdv s' H1) (W := W0) (pn := pn) (i := 1) (x := xl) (y := e'') (p := q5) (p2 := q6) (pos := q7) (k := k) hK hgl ea.ek fE ea.ce w2 w1 hz hf' hr' gE1 hmE gE2 hN1 (.inl hle) ne1 ne2
        exact (pss_one (ps_ret (pos := q8) hp)).run pinsZ sZ σZ HZ D IZ ⟨z1, z2, fun H' k1 k2 k3 => z3 H' ⟨k1, k2, k3⟩⟩
    refine ⟨_, by rw [hB]; exact pss_cons t1 (pss_one (ps_ret pe_str)), ?_⟩
    refine ⟨fun cls dd H' => ∃ c w, cls = .ref (F.ga c) ∧ dd = none ∧ G.words c = some w ∧ LamX.Tabs F.T H' ∧ ∀ H'', Stays F H' H'' → Q (.str w) H'', fun cls d σ' H' hl ⟨c, w, e1, e2, hw, hT, hq⟩ => ?_, ?_, hco, Uo, m, env, st, S1, ?_⟩
    · subst e1 e2
      refine ⟨true, by rw [hK]; exact ea.top c (ea.words c w hw).1, fun _ a _ => ⟨c, w, rfl, rfl, hw, List.getElem?_set_self (by rw [hl, hNl]; decide), hT, hq⟩, fun z => by cases z⟩
    · rw [show L2.start rm.N [V.ref g] = [some (V.ref g)] ++ List.replicate (rm.N.length - 1) none from rfl]; rfl
    · revert q
      generalize ev G call false e env st = r
      intro q
      rcases r with _ | ⟨⟨d, o⟩, env1, st1⟩ | ⟨c, x, env1, st1⟩
      · exact q.elim
      · intro v m' H' p S2 _
        exact q (.str (Str.ofString "")) m' H' (K1.step.transE p) S2.base.plusF ⟨fun e => absurd e (by simp), fun _ _ => rfl, fun _ _ => rfl⟩
      · intro cls dd m' H' p S2 hx
        cases x with
        | non =>
          have q : PostE F Uo env σ m st.length H W bw Q (lift ((G.words c).map fun w => (D.str w, false)) env1 st1) := q
          cases hw : G.words c with
          | none => rw [hw] at q; exact q.elim
          | some w =>
            rw [hw] at q
            refine ⟨c, w, hx.1, hx.2, hw, S2.tab, fun H'' k2 => ?_⟩
            exact q (.str w) m' H'' ((K1.step.transE p).transE k2.step) (k2.sim S2).plusF ⟨fun e => absurd e (by simp), fun _ _ => rfl, fun _ _ => rfl⟩
        | _ => exact q.elim
  refine wpAny_call (codeAny_mono rc fun r s2 hq => ?_)
  cases r with
  | error e =>
    obtain ⟨_, _, _, _, _, _, _, _, _, _, _, _, z⟩ := hq
    exact z.elim
  | ok fl =>
    cases fl with
    | ret u => exact I1.after hq
    | next => exact False.elim hq
    | brk => exact False.elim hq
    | cont => exact False.elim hq
end Pi

set_option maxRecDepth 100000
set_option maxHeartbeats 4000000
/-! Pi5: all functions keep their promises. -/
namespace Pi
open PySem PySem.Spec L2
open PyProof.Rows
/-- a maker of lambdas, as the written part and the base have it -/
def LamFact (base : Heap) (mg : Str → Option Value) (F : Fx) (fm : FM) (f : Nat) : Prop := ∃ (c P : Addr) (od : Option Addr) (oc : Value) (osl : Array (Option Value)) (fd : FuncData), F.K.lookup (F.ga f) = some ⟨oc, od, .func fd, osl⟩ ∧ fd.code = .ref c ∧ LamX.TabB base mg c P ∧
  (P, (envOfC fm.name fm.scope 0 0 .none).qual ++ "<lambda>") ∈ F.T ∧ ∀ p ∈ F.T, p.1 = P → p.2 = (envOfC fm.name fm.scope 0 0 .none).qual ++ "<lambda>"
theorem fns_ok {P : Program} {w : World} {mg : Str → Option Value} {base : Heap} {F : Fx} {G : Gl} {tab : Str → Option GV} {fns : List Fn} {ms : List FM} {Wl c : Nat} (hg : GlobOk F G tab mg) (hxi : ∀ i d, G.xi i d = none)
    (har : ∀ f n, G.ar f = some n ↔ ∃ fn, fns[f]? = some fn ∧ fn.np = n)
    (hm : ∀ f fn, fns[f]? = some fn → ∃ fm, ms[f]? = some fm ∧ (∃ fd, FunD F.K fm.name fm.name fm.params fm.body fm.scope [] [] (F.ga f) fd) ∧ fm.chk tab fn = true ∧ (fm.lam = true → LamFact base mg F fm f))
    (hrf : ∀ (f : Nat) (fm : FM), ms[f]? = some fm → fm.lam = true → ∃ cls le pl lr em rm en, ErrAll F G tab cls le pl lr em rm en) :
    ∀ n, FnsAt P w mg base F G (callN G fns Wl n) (3 * n + c)
  | 0 => fun f k hk => by
    obtain ⟨fn, hf, hn⟩ := (har f k).mp hk
    obtain ⟨fm, hfm, ⟨fd, fD⟩, hc, _⟩ := hm f fn hf
    unfold FM.chk at hc
    simp only [Bool.and_eq_true, decide_eq_true_eq] at hc
    obtain ⟨⟨⟨⟨h1, h2⟩, h3⟩, h4⟩, h5⟩ := hc
    have no : ∀ vs H Q E, ¬ spOf F (callN G fns Wl 0) f k vs H Q E := spOf_no fun _ _ => rfl
    exact ⟨fd, argNames fm.params, ⟨fun vs H Q E z => absurd z (no _ _ _ _), fun A outer s H args us vs Q E _ _ _ _ z => absurd z (no _ _ _ _)⟩, fD.bindsN fun _ _ _ _ _ _ us hl => plain_bind h2 hl, fD.kp⟩
  | n + 1 => fun f k hk => by
    obtain ⟨fn, hf, hn⟩ := (har f k).mp hk
    obtain ⟨fm, hfm, ⟨fd, fD⟩, hc, hlam⟩ := hm f fn hf
    unfold FM.chk at hc
    simp only [Bool.and_eq_true, decide_eq_true_eq] at hc
    obtain ⟨⟨⟨⟨h1, h2⟩, h3⟩, h4⟩, h5⟩ := hc
    have ih := fns_ok (P := P) (w := w) (base := base) (Wl := Wl) (c := c) hg hxi har hm hrf n
    have S := C8.fnScope_by h1
    refine ⟨fd, argNames fm.params, ?_, fD.bindsN fun _ _ _ _ _ _ us hl => plain_bind h2 hl, fD.kp⟩
    have e : 3 * (n + 1) + c = 3 * n + c + 2 + 1 := by omega
    rw [e]
    obtain ⟨oc, od, dV, kV, doc, pm, an, cdv, ct, osl, efd, lk, hcode, _, _⟩ := fD.ex
    subst efd
    refine fn_of lk hcode S (fun vs H Q E ⟨_, _, _, _, _, _, hl, _⟩ => by rw [hl, h3, hn]) fun A outer s H vs Q E hr hsp => ?_
    obtain ⟨Uo, m, ds, st, Sm, r, hl, q⟩ := hsp
    obtain ⟨_, rb⟩ := body_of hf h4 Sm r q
    refine ⟨_, chkB_ok (k := 3 * n + c) (tab := tab) (S := fm.sc) (W := fun cls dd _ H' => E cls dd H') ?_ _ _ h5, rb⟩
    exact {
      K := rfl
      N := rfl
      nd := S.nd
      sc := rfl
      fn := fun _ _ => rfl
      calm := fun _ => rfl
      un := hr.units
      room := fun _ => hr.mono (Nat.le_add_right _ _)
      rfd := fun hl => by
        obtain ⟨cls, le, pl, lr, em, rm, en, ea⟩ := hrf f fm hfm hl
        obtain ⟨c0, P0, od0, oc0, osl0, fd0, l1, l2, l3, l4, l5⟩ := hlam hl
        rw [lk] at l1
        cases l1
        exact rfd_ok rfl hg ea ⟨⟨c0, P0, l2, l3, l4, l5⟩⟩ hr
      xi := fun _ => hxi
      hot1 := fun z => by cases z
      hot2 := .inl rfl
      tk := L2N.takes_of rfl rfl rfl rfl
      po := passes_of rfl
      fns := ih
      nca := fun f ds st z => by
        obtain ⟨fn, e1, e2⟩ := callN_len z
        exact (har f _).mpr ⟨fn, e1, e2.symm⟩
      glob := fun x g e => by
        have z := hg x g e
        cases g with
        | fn i => exact z
        | cls i own =>
          refine ⟨z.1, fun ho => ?_⟩
          obtain ⟨bmB, B, newId, initId, q1, q2, q3, q4, q5⟩ := z.2 ho
          exact ⟨bmB, B, newId, initId, q1, q2, q3, raises_own q4 q5⟩
        | cst d => exact z
        | free => exact z }
end Pi

set_option maxRecDepth 100000
set_option maxHeartbeats 4000000
/-! Pi6: the head's facts give what the functions need. -/
namespace Pi
open PySem PySem.Spec L2
open PyProof.Rows
/-- the level above, for one function object -/
theorem law_fn {P : Program} {w : World} {mg : Str → Option Value} {base : Heap} {F : Fx} {G : Gl} {tab : Str → Option GV} {fns : List Fn} {ms : List FM} {Wl c : Nat} (hg : GlobOk F G tab mg) (hxi : ∀ i d, G.xi i d = none)
    (har : ∀ f n, G.ar f = some n ↔ ∃ fn, fns[f]? = some fn ∧ fn.np = n)
    (hm : ∀ f fn, fns[f]? = some fn → ∃ fm, ms[f]? = some fm ∧ (∃ fd, FunD F.K fm.name fm.name fm.params fm.body fm.scope [] [] (F.ga f) fd) ∧ fm.chk tab fn = true ∧ (fm.lam = true → LamFact base mg F fm f))
    (hrf : ∀ (f : Nat) (fm : FM), ms[f]? = some fm → fm.lam = true → ∃ cls le pl lr em rm en, ErrAll F G tab cls le pl lr em rm en)
    {n f : Nat} {fn : Fn} {fm : FM} {fd : FuncData} (hf : fns[f]? = some fn) (hfm : ms[f]? = some fm) (fD : FunD F.K fm.name fm.name fm.params fm.body fm.scope [] [] (F.ga f) fd) (hc : fm.chk tab fn = true) (hlam : fm.lam = true → LamFact base mg F fm f) :
    FnOk P w F.K mg base (L2N.CX P w) (3 * (n + 1) + c) (F.ga f) fd (argNames fm.params) (spOf F (callN G fns Wl (n + 1)) f fn.np) := by
  unfold FM.chk at hc
  simp only [Bool.and_eq_true, decide_eq_true_eq] at hc
  obtain ⟨⟨⟨⟨h1, h2⟩, h3⟩, h4⟩, h5⟩ := hc
  have ih := fns_ok (P := P) (w := w) (base := base) (Wl := Wl) (c := c) hg hxi har hm hrf n
  have S := C8.fnScope_by h1
  have e : 3 * (n + 1) + c = 3 * n + c + 2 + 1 := by omega
  rw [e]
  obtain ⟨oc, od, dV, kV, doc, pm, an, cdv, ct, osl, efd, lk, hcode, _, _⟩ := fD.ex
  subst efd
  refine fn_of lk hcode S (fun vs H Q E ⟨_, _, _, _, _, _, hl, _⟩ => by rw [hl, h3]) fun A outer s H vs Q E hr hsp => ?_
  obtain ⟨Uo, m, ds, st, Sm, r, hl, q⟩ := hsp
  obtain ⟨_, rb⟩ := body_of hf h4 Sm r q
  refine ⟨_, chkB_ok (k := 3 * n + c) (tab := tab) (S := fm.sc) (W := fun cls dd _ H' => E cls dd H') ?_ _ _ h5, rb⟩
  exact {
    K := rfl
    N := rfl
    nd := S.nd
    sc := rfl
    fn := fun _ _ => rfl
    calm := fun _ => rfl
    un := hr.units
    room := fun _ => hr.mono (Nat.le_add_right _ _)
    rfd := fun hl => by
      obtain ⟨cls, le, pl, lr, em, rm, en, ea⟩ := hrf f fm hfm hl
      obtain ⟨c0, P0, od0, oc0, osl0, fd0, l1, l2, l3, l4, l5⟩ := hlam hl
      rw [lk] at l1
      cases l1
      exact rfd_ok rfl hg ea ⟨⟨c0, P0, l2, l3, l4, l5⟩⟩ hr
    xi := fun _ => hxi
    hot1 := fun z => by cases z
    hot2 := .inl rfl
    tk := L2N.takes_of rfl rfl rfl rfl
    po := passes_of rfl
    fns := ih
    nca := fun f ds st z => by
      obtain ⟨fn, e1, e2⟩ := callN_len z
      exact (har f _).mpr ⟨fn, e1, e2.symm⟩
    glob := fun x g e => by
      have z := hg x g e
      cases g with
      | fn i => exact z
      | cls i own =>
        refine ⟨z.1, fun ho => ?_⟩
        obtain ⟨bmB, B, newId, initId, q1, q2, q3, q4, q5⟩ := z.2 ho
        exact ⟨bmB, B, newId, initId, q1, q2, q3, raises_own q4 q5⟩
      | cst d => exact z
      | free => exact z }

/-! ### the claim's data -/
structure Cd where
  fns : List Fn
  ms : List FM
  tabL : List (Str × GV)
  free : List Str
  names : List Str
  em : FM
  en : Fn
  rm : FM
  le : Nat
  lr : Nat
  pl : Nat
  cl : List Nat
  words : List (Nat × Str)
  law : Nat
def Cd.tab (c : Cd) (x : Str) : Option GV := if c.free.contains x then some .free else c.tabL.lookup x
def Cd.nm (c : Cd) (i : Nat) : Str := c.names.getD i ""
def Cd.cls (c : Cd) (i : Nat) : Bool := c.cl.contains i
def Cd.G (c : Cd) : Gl := ⟨fun i j => i == j || j == c.pl, fun f => (c.fns[f]?).map (·.np), fun _ _ => none, fun i => c.words.lookup i⟩
def Cd.lams (c : Cd) : List FM := c.ms.filter (·.lam)
def Cd.tf (c : Cd) : List He.Defn := c.lams.map fun m => (m.name, none)
def lamQ (m : FM) : Str := (envOfC m.name m.scope 0 0 .none).qual ++ "<lambda>"
def Cd.T (c : Cd) (K : PySem.W.Frag) : List (Addr × Str) := c.lams.map fun m => ((He.cT K (m.name, none)).2, lamQ m)
def Cd.F (c : Cd) (K : PySem.W.Frag) : Fx := ⟨K, fun i => He.ga K (c.nm i), fun _ => "", c.T K⟩
def fmD (m : FM) : He.DefD := ⟨(m.name, none), m.name, m.name, m.params, m.body, m.scope, [], []⟩
def Cd.fn (c : Cd) : List He.DefD := (c.ms ++ [c.em, c.rm]).map fmD
def tabFa : Str × GV → List He.Fa
  | (x, .fn _) => [.glo x]
  | (x, .cls _ own) => .glo x :: (if own then [.exc x] else [])
  | (x, .cst (.int i)) => [.int x i]
  | _ => []
def Cd.fa (c : Cd) : List He.Fa := c.tabL.flatMap tabFa ++ c.free.map He.Fa.free ++ c.cl.map fun i => He.Fa.exm (c.nm i) (c.nm c.pl) true
def excB (K : PySem.W.Frag) (D : Addr) : Bool := decide (PySem.W.findIn K (.ref D) "__getattribute__" = some (some (.builtin "BaseException.__getattribute__"))) && (decide (PySem.W.findIn K (.ref D) "__getattr__" = some none) && (decide (PySem.W.subIn K (.ref D) (.type "BaseException") = some true) &&
  (PySem.W.hasDictIn K D && (decide (PySem.W.findIn K (.ref D) "__class__" = some (some (.builtin "object.__class__"))) && (decide (PySem.W.specialIn K (.builtin "object.__class__") "__get__" = some (some (.builtin "getset_descriptor.__get__"))) && (decide (PySem.W.takesIn K (.builtin "object.__class__") = some true) && decide (PySem.W.mroIn K D (.type "object") = some true)))))))
theorem excB_ok {K : PySem.W.Frag} {D : Addr} (h : excB K D = true) : ExcC K D := by
  unfold excB at h
  simp only [Bool.and_eq_true, decide_eq_true_eq] at h
  obtain ⟨h1, h2, h3, h4, h5, h6, h7, h8⟩ := h
  exact ⟨h1, h2, h3, h4, h5, h6, h7, h8⟩
def Cd.ex (c : Cd) (K : PySem.W.Frag) : Bool := (c.cl.all fun i => excB K (He.ga K (c.nm i)) && c.cl.all fun j => decide (PySem.W.kitOne K (.ref (He.ga K (c.nm i))) (.ref (He.ga K (c.nm j))) = some (c.G.sub i j))) &&
  decide ((c.lams.map fun m => (He.cT K (m.name, none)).2).Nodup)
/-- the data fit together, and the texts hold the code -/
def Cd.okT (c : Cd) : Bool := c.tabL.all fun q => match q.2 with
  | .fn i => decide (c.names[i]? = some q.1) && decide (i < c.fns.length)
  | .cls i _ => decide (c.names[i]? = some q.1)
  | .cst (.int _) => true
  | _ => false
def Cd.okM (c : Cd) : Bool := decide (c.ms.length = c.fns.length) && (List.range c.ms.length).all fun i => match c.ms[i]?, c.fns[i]? with
  | some m, some fn => decide (c.names[i]? = some m.name) && m.chk c.tab fn
  | _, _ => false
def Cd.okE (c : Cd) : Bool := decide (c.names[c.le]? = some c.em.name) && decide (c.names[c.lr]? = some c.rm.name) && c.em.chkH c.tab c.en && refC c.tab c.le c.pl c.rm && (match c.tab "_law_refused" with
  | some (.cls j false) => decide (j = c.lr)
  | _ => false) && (c.words.all fun q => c.cl.contains q.1)
/-- what _law_error tells -/
def Cd.Says (c : Cd) : Prop := ∀ i w, c.words.lookup i = some w → errSays c.G c.cls c.en i w

section
variable {c : Cd} {K : PySem.W.Frag} {mg : Str → Option Value} {h : Heap} {w : World}
theorem lookup_mem' {α : Type} {x : Str} {g : α} : ∀ {l : List (Str × α)}, l.lookup x = some g → (x, g) ∈ l
  | [], h => by cases h
  | (y, u) :: r, h => by
    rw [List.lookup_cons] at h
    by_cases e : x = y
    · subst e
      simp at h
      rw [h]; exact List.mem_cons_self
    · have e2 : (x == y) = false := by simpa using e
      rw [e2] at h
      exact List.mem_cons_of_mem _ (lookup_mem' h)
theorem nm_of {i : Nat} {x : Str} (h : c.names[i]? = some x) : c.nm i = x := by
  unfold Cd.nm
  rw [List.getD_eq_getElem?_getD, h]; rfl
theorem glob_ok (X : K.In h) (hG : h.Ns mainGlobals mg) (s : He.SaysD c.fa c.fn K) (hT : c.okT = true) (hM : c.okM = true) : GlobOk (c.F K) c.G c.tab mg := by
  intro x g e
  have inFa : ∀ {q : Str × GV} {f : He.Fa}, q ∈ c.tabL → f ∈ tabFa q → f ∈ c.fa := fun hq hf => List.mem_append_left _ (List.mem_append_left _ (List.mem_flatMap.mpr ⟨_, hq, hf⟩))
  unfold Cd.tab at e
  split at e
  · rename_i hx
    cases e
    refine He.free_ok X hG (s.facts ?_)
    exact List.mem_append_left _ (List.mem_append_right _ (List.mem_map.mpr ⟨x, by simpa using hx, rfl⟩))
  · have hm := lookup_mem' e
    have hq := List.all_eq_true.mp hT _ hm
    cases g with
    | fn i =>
      simp only [Bool.and_eq_true, decide_eq_true_eq] at hq
      refine ⟨?_, ?_⟩
      · have := He.glo_ok X hG (s.facts (inFa (f := .glo x) hm List.mem_cons_self))
        rw [this]
        show _ = some (Value.ref (He.ga K (c.nm i)))
        rw [nm_of hq.1]
      · refine ⟨(c.fns[i]'hq.2).np, ?_⟩
        show (c.fns[i]?).map (·.np) = _
        rw [List.getElem?_eq_getElem hq.2]; rfl
    | cls i own =>
      simp only [decide_eq_true_eq] at hq
      refine ⟨?_, fun ho => ?_⟩
      · have := He.glo_ok X hG (s.facts (inFa (f := .glo x) hm List.mem_cons_self))
        rw [this]
        show _ = some (Value.ref (He.ga K (c.nm i)))
        rw [nm_of hq]
      · subst ho
        obtain ⟨h1, h2, h3, h4⟩ := He.exc_ok (s.facts (inFa (f := .exc x) hm (by simp [tabFa])))
        show MkK K (He.ga K (c.nm i))
        rw [nm_of hq]
        exact ⟨_, _, _, _, PySem.F.excBase_ValueError, h1, h2, h3, h4⟩
    | cst d =>
      cases d with
      | int i =>
        obtain ⟨t, ht⟩ := He.int_ok X hG (s.facts (inFa (f := .int x i) hm List.mem_cons_self))
        exact ⟨_, .int i, ht, ⟨t, rfl⟩, fun _ _ _ _ => rfl⟩
      | _ => cases hq
    | free => cases hq
theorem funD_of (s : He.SaysD c.fa c.fn K) {m : FM} (hm : m ∈ c.ms ++ [c.em, c.rm]) : ∃ fd, FunD K m.name m.name m.params m.body m.scope [] [] (He.ga K m.name) fd := s.defs (d := fmD m) (List.mem_map.mpr ⟨m, hm, rfl⟩)
theorem okM_at (hM : c.okM = true) {f : Nat} {fn : Fn} (hf : c.fns[f]? = some fn) : ∃ fm, c.ms[f]? = some fm ∧ c.names[f]? = some fm.name ∧ fm.chk c.tab fn = true := by
  unfold Cd.okM at hM
  rw [Bool.and_eq_true] at hM
  obtain ⟨h1, h2⟩ := hM
  have h1 := of_decide_eq_true h1
  have hl : f < c.fns.length := (List.getElem?_eq_some_iff.mp hf).1
  have h3 := List.all_eq_true.mp h2 f (List.mem_range.mpr (by omega))
  rw [hf] at h3
  cases e : c.ms[f]? with
  | none => rw [e] at h3; cases h3
  | some m =>
    rw [e] at h3
    simp only [Bool.and_eq_true, decide_eq_true_eq] at h3
    exact ⟨m, rfl, h3.1, h3.2⟩
theorem errAll_ok (s : He.SaysD c.fa c.fn K) (hx : c.ex K = true) (hE : c.okE = true) (hW : c.Says) : ErrAll (c.F K) c.G c.tab c.cls c.le c.pl c.lr c.em c.rm c.en := by
  unfold Cd.okE at hE
  simp only [Bool.and_eq_true, decide_eq_true_eq] at hE
  obtain ⟨⟨⟨⟨⟨e1, e2⟩, e3⟩, e4⟩, e5⟩, e6⟩ := hE
  unfold Cd.ex at hx
  rw [Bool.and_eq_true] at hx
  have hx1 := List.all_eq_true.mp hx.1
  refine ⟨⟨fun i hi => ?_, fun i j hi hj => ?_⟩, fun i hi => ?_, fun i w hw => ⟨?_, hW i w hw⟩, ?_, e3, ?_, e4, ?_⟩
  · have := hx1 i (by simpa [Cd.cls] using hi)
    rw [Bool.and_eq_true] at this
    exact excB_ok this.1
  · have := hx1 i (by simpa [Cd.cls] using hi)
    rw [Bool.and_eq_true] at this
    exact of_decide_eq_true (List.all_eq_true.mp this.2 j (by simpa [Cd.cls] using hj))
  · refine He.exm_ok (s.facts ?_)
    exact List.mem_append_right _ (List.mem_map.mpr ⟨i, by simpa [Cd.cls] using hi, rfl⟩)
  · have key : ∀ {l : List (Nat × Str)}, l.lookup i = some w → (i, w) ∈ l := by
      intro l
      induction l with
      | nil => intro h; cases h
      | cons q r ih =>
        intro h
        obtain ⟨y, u⟩ := q
        rw [List.lookup_cons] at h
        by_cases e : i = y
        · subst e
          simp at h
          rw [h]; exact List.mem_cons_self
        · have e2 : (i == y) = false := by simpa using e
          rw [e2] at h
          exact List.mem_cons_of_mem _ (ih h)
    exact List.all_eq_true.mp e6 _ (key hw)
  · obtain ⟨fd, h⟩ := funD_of s (m := c.em) (by simp)
    refine ⟨fd, ?_⟩
    show FunD K _ _ _ _ _ _ _ (He.ga K (c.nm c.le)) fd
    rw [nm_of e1]; exact h
  · obtain ⟨fd, h⟩ := funD_of s (m := c.rm) (by simp)
    refine ⟨fd, ?_⟩
    show FunD K _ _ _ _ _ _ _ (He.ga K (c.nm c.lr)) fd
    rw [nm_of e2]; exact h
  · revert e5
    cases c.tab "_law_refused" with
    | none => intro z; cases z
    | some g =>
      cases g with
      | cls j own =>
        cases own with
        | false => intro z; rw [of_decide_eq_true z]
        | true => intro z; cases z
      | _ => intro z; cases z
theorem nodup_inj {α β : Type} {f : α → β} : ∀ {l : List α}, (l.map f).Nodup → ∀ {x y : α}, x ∈ l → y ∈ l → f x = f y → x = y
  | [], _, _, _, h, _, _ => by cases h
  | a :: l, hn, x, y, hx, hy, e => by
    rw [List.map_cons, List.nodup_cons] at hn
    rcases List.mem_cons.mp hx with ex | hx
    · rcases List.mem_cons.mp hy with ey | hy
      · rw [ex, ey]
      · exact absurd (List.mem_map.mpr ⟨y, hy, by rw [← e, ex]⟩) hn.1
    · rcases List.mem_cons.mp hy with ey | hy
      · exact absurd (List.mem_map.mpr ⟨x, hx, by rw [e, ey]⟩) hn.1
      · exact nodup_inj hn.2 hx hy e
theorem lamFact_ok (s : He.SaysD c.fa c.fn K) (hx : c.ex K = true) {base : Heap} (TB : ∀ p ∈ c.tf.map (He.cT K), LamX.TabB base mg p.1 p.2) {f : Nat} {m : FM} (hn : c.names[f]? = some m.name) (hm : m ∈ c.ms) (hl : m.lam = true) : LamFact base mg (c.F K) m f := by
  obtain ⟨fd, fD⟩ := funD_of s (m := m) (List.mem_append_left _ hm)
  obtain ⟨oc, od, dV, kV, doc, pm, an, cdv, ct, osl, rfl, lk, hcode, _, _⟩ := fD.ex
  obtain ⟨cc, rfl⟩ := He.codeIn_ref hcode
  have hm' : m ∈ c.lams := List.mem_filter.mpr ⟨hm, hl⟩
  have ec : He.codeOf K (m.name, none) = cc := He.codeOf_eq (p := (m.name, none)) lk rfl
  have hT := TB (He.cT K (m.name, none)) (List.mem_map.mpr ⟨_, List.mem_map.mpr ⟨m, hm', rfl⟩, rfl⟩)
  refine ⟨cc, (He.cT K (m.name, none)).2, od, oc, osl, PySem.W.fnOf m.name m.name m.params m.body m.scope dV kV doc pm an (.ref cc) ct, ?_, rfl, ?_, ?_, ?_⟩
  · show K.lookup (He.ga K (c.nm f)) = _
    rw [nm_of hn]; exact lk
  · have e1 : (He.cT K (m.name, none)).1 = cc := ec
    rw [← e1]; exact hT
  · exact List.mem_map.mpr ⟨m, hm', rfl⟩
  · intro p hp e
    obtain ⟨m2, h2, rfl⟩ := List.mem_map.mp hp
    unfold Cd.ex at hx
    rw [Bool.and_eq_true] at hx
    have := nodup_inj (of_decide_eq_true hx.2) h2 hm' e
    subst this
    rfl
/-- the law's script, as what it is -/
inductive Scr : List Int → D → Prop where
  | lst (ns : List Int) : Scr ns (.lst (ns.map .int))
  | scr (ns : List Int) : Scr ns (.scr (ns.map .int))
theorem reps_scr {F : Fx} {Mu : Addr → Prop} {m : Nat → Addr} {n : Nat} {H : Hp} : ∀ ns : List Int, Reps F Mu m n H (ns.map V.int) (ns.map D.int)
  | [] => trivial
  | _ :: r => ⟨rfl, reps_scr r⟩
def saysB (c : Cd) (q : Nat × Str) : Bool := match exB (shG c.G c.cls q.1) noCall0 0 c.en.body (env0 c.en.ns [.gl 0]) [] with
  | .ok (.ret (.str w) false) _ _ => decide (w = q.2)
  | _ => false
def Cd.okW (c : Cd) : Bool := c.words.all (saysB c)
theorem okW_says (h : c.okW = true) : c.Says := by
  intro i w hw
  have key : ∀ {l : List (Nat × Str)}, l.lookup i = some w → (i, w) ∈ l := by
    intro l
    induction l with
    | nil => intro h; cases h
    | cons q r ih =>
      intro h
      obtain ⟨y, u⟩ := q
      rw [List.lookup_cons] at h
      by_cases e : i = y
      · subst e
        simp at h
        rw [h]; exact List.mem_cons_self
      · have e2 : (i == y) = false := by simpa using e
        rw [e2] at h
        exact List.mem_cons_of_mem _ (ih h)
  have := List.all_eq_true.mp h _ (key hw)
  unfold saysB at this
  unfold errSays
  split at this
  · rename_i z env st e
    obtain rfl := of_decide_eq_true this
    exact ⟨_, _, e⟩
  · cases this
/-- the head's facts, the code and the plain law give the law's promise -/
theorem law_at {l : PySem.W.OpenLaw} {lev Wl n k0 : Nat} {x : Str} {fa : Addr} {fnL : Fn} {mL : FM} (X : K.In h) (hG : h.Ns mainGlobals mg) (s : He.SaysX c.fa c.fn [] c.tf c.ex w h K) (hT : c.okT = true) (hM : c.okM = true) (hE : c.okE = true) (hW : c.Says)
    (hfn : c.fns[c.law]? = some fnL) (hnp : fnL.np = 1) (hmL : c.ms[c.law]? = some mL) (hxs : argNames mL.params = [x]) (hfa : mg mL.name = some (.ref fa))
    (htab : c.tab mL.name = some (.fn c.law))
    (plain : ∀ (ns : List Int) (d : D), ns.length ≤ n → (∀ z ∈ ns, Builtin.Int.intBits z ≤ 1048576) → Scr ns d → ∃ o st, callN c.G c.fns Wl (lev + 1) c.law [d] [] = .ok (.bl true) o st) :
    LamX.LawAtS l w K (L2N.CX l.prog w) (3 * (lev + 1) + k0) n x mg fa h := by
  have sd := s.t.d
  have gl := glob_ok X hG sd hT hM
  obtain ⟨m2, e2, hnm, hchk⟩ := okM_at hM hfn
  rw [hmL] at e2
  cases e2
  have hmm : mL ∈ c.ms := List.mem_of_getElem? hmL
  have hga : (c.F K).ga c.law = He.ga K mL.name := by
    show He.ga K (c.nm c.law) = _
    rw [nm_of hnm]
  obtain ⟨fd, fD⟩ := funD_of sd (m := mL) (List.mem_append_left _ hmm)
  have hfa2 : fa = He.ga K mL.name := by
    have := (gl _ _ htab).1
    rw [hfa] at this
    cases this
    exact hga
  subst hfa2
  have hpl : plainArgs mL.params = true := by
    have hchk := hchk
    unfold FM.chk at hchk
    simp only [Bool.and_eq_true] at hchk
    exact hchk.1.1.1.2
  refine ⟨fd, c.tf.map (He.cT K), spOf (c.F K) (callN c.G c.fns Wl (lev + 1)) c.law fnL.np, ?_, ?_, ?_, ?_, ?_, ?_⟩
  · intro p hp
    obtain ⟨q, hq, rfl⟩ := List.mem_map.mp hp
    exact s.empty q hq
  · intro p hp
    obtain ⟨q, hq, rfl⟩ := List.mem_map.mp hp
    exact s.out q hq
  · intro p hp
    obtain ⟨q, hq, rfl⟩ := List.mem_map.mp hp
    exact PySem.W.codeHd_of_K X (s.hd q hq)
  · intro s0 u
    have := FunD.bindsA (ps := argNames mL.params) fD (fun _ _ _ _ _ _ us hl => plain_bind hpl hl) s0 [u] (by rw [hxs]; rfl)
    rw [hxs] at this
    exact this
  · intro H a ns hlen hbits hH hS
    have tabs : LamX.Tabs (c.F K).T H := by
      intro p hp
      obtain ⟨m, hm, rfl⟩ := List.mem_map.mp hp
      exact LamX.TabS.nil (hH _ (List.mem_map.mpr ⟨_, List.mem_map.mpr ⟨m, hm, rfl⟩, rfl⟩))
    have no : ∀ b, ¬ MuOf (fun _ => False) [] [] (fun _ => 0) 0 b := by
      intro b z
      rcases z with z | z | z
      · exact z
      · exact own_nil z
      · obtain ⟨l, z, _⟩ := z
        exact absurd z (Nat.not_lt_zero _)
    have hd : ∃ d, Scr ns d ∧ Rep (c.F K) (MuOf (fun _ => False) [] [] (fun _ => 0) 0) (fun _ => 0) 0 H (.ref a) d := by
      rcases hS with hS | ⟨o, its, n, h1, h2, h3, h4, h5, h6⟩
      · exact ⟨_, .lst ns, a, _, rfl, hS, no a, reps_scr ns⟩
      · exact ⟨_, .scr ns, a, _, rfl, ⟨o, its, n, h1, h2, h3, h4, h5, h6⟩, reps_scr ns⟩
    obtain ⟨d, hscr, hrep⟩ := hd
    obtain ⟨o, st', hcall⟩ := plain ns d hlen hbits hscr
    refine ⟨fun _ => False, fun _ => 0, [d], [], ?_, ⟨hrep, trivial⟩, by rw [hnp]; rfl, ?_⟩
    · exact {
        len := rfl
        inj := fun i j z => absurd z (Nat.not_lt_zero _)
        obj := fun l xs z => by simp at z
        noD := fun l ks vs z => by simp at z
        val := fun i d z => by simp at z
        own := fun i d z => by simp at z
        sep := fun i j a d e z => by simp at z
        osto := fun b z => absurd z own_nil
        usto := fun b ⟨l, z, _⟩ => absurd z (Nat.not_lt_zero _)
        uH := fun a z => z.elim
        tab := tabs }
    · rw [hcall]
      intro v m' H' _ _ hv
      obtain ⟨v1, v2, _⟩ := hv
      cases o with
      | true =>
        obtain ⟨_, _, _, _, z, _⟩ := v1 rfl
        cases z
      | false => exact v2 rfl rfl
  · intro base hKb hns hTB
    have hfn' := law_fn (P := l.prog) (w := w) (mg := mg) (base := base) (F := c.F K) (G := c.G) (tab := c.tab) (fns := c.fns) (ms := c.ms) (Wl := Wl) (c := k0) gl (fun _ _ => rfl)
      (fun f n => by
        show (c.fns[f]?).map (·.np) = some n ↔ _
        rw [Option.map_eq_some_iff])
      (fun f fn hf => by
        obtain ⟨fm, q1, q2, q3⟩ := okM_at hM hf
        refine ⟨fm, q1, ?_, q3, fun hl => lamFact_ok sd s.more hTB q2 (List.mem_of_getElem? q1) hl⟩
        show ∃ fd, FunD K _ _ _ _ _ _ _ (He.ga K (c.nm f)) fd
        rw [nm_of q2]
        exact funD_of sd (List.mem_append_left _ (List.mem_of_getElem? q1)))
      (fun f fm _ _ => ⟨_, _, _, _, _, _, _, errAll_ok sd s.more hE hW⟩)
      (n := lev) (f := c.law) (fn := fnL) (fm := mL) (fd := fd) hfn hmL (by rw [hga]; exact fD) hchk (fun hl => lamFact_ok sd s.more hTB hnm hmm hl)
    rw [hga, hxs] at hfn'
    exact hfn'
end
end Pi

set_option maxRecDepth 100000
set_option maxHeartbeats 0
/-! K1c: the code of the law and of the program's functions, held against the text. -/
namespace K1
open PySem PySem.Spec Pi
def body : List Stmt := PySem.Challenge.pw_cutpleats_k01_scripts_and_snips_recogniz.main.body
def ent (n : Str) (g : GV) : Str × GV := (n, g)
def fmOf (N : List Str) (lam : Bool) : Stmt → FM
  | .FunctionDef name args b _ _ _ sc _ _ _ => ⟨N, lam, name, args, b, sc⟩
  | _ => ⟨N, lam, "", ⟨[], [], none, [], [], none, []⟩, [], default⟩
def c_is_within : Fn := ⟨3, 3, [
 .ret (.and (.bi .isinst [.v 0, .g (.ty "int")]) (.and (.not (.bi .isinst [.v 0, .g (.ty "bool")])) (.chn .le .le (.v 1) (.v 0) (.v 2))))]⟩
def c_is_pair : Fn := ⟨1, 1, [
 .ret (.and (.bi .isinst [.v 0, .g (.ty "tuple")]) (.cmp .eq (.bi .len [.v 0]) (.k (.int 2))))]⟩
def c_is_lot : Fn := ⟨3, 6, [
 .ifs (.or (.not (.bi .isinst [.v 0, .g (.ty "tuple")])) (.not (.bi .all [.lc (.call 1 [.v 3]) (.n 3) (.v 0) none]))) [
  .ret (.k (.bl false))] [],
 .ifs (.not (.bi .all [.lc (.and (.call 0 [.v 4, .k (.int 0), .bin .sub (.v 1) (.k (.int 1))]) (.call 0 [.v 5, .k (.int 0), .bin .sub (.v 2) (.k (.int 1))])) (.t [4, 5]) (.v 0) none])) [
  .ret (.k (.bl false))] [],
 .ret (.cmp .eq (.bi .list [.v 0]) (.bi .sortset [.v 0]))]⟩
def c_is_round : Fn := ⟨3, 3, [
 .ifs (.or (.not (.bi .isinst [.v 0, .g (.ty "tuple")])) (.or (.cmp .ne (.bi .len [.v 0]) (.k (.int 3))) (.not (.call 0 [.ix (.v 0) (.k (.int 0)), .k (.int 2), .k (.int 3)])))) [
  .ret (.k (.bl false))] [],
 .ret (.and (.call 2 [.ix (.v 0) (.k (.int 1)), .v 1, .v 2]) (.call 2 [.ix (.v 0) (.k (.int 2)), .v 1, .v 2]))]⟩
def c_is_right_script : Fn := ⟨1, 7, [
 .ifs (.or (.not (.bi .isinst [.v 0, .g (.ty "tuple")])) (.cmp .ne (.bi .len [.v 0]) (.k (.int 5)))) [
  .ret (.k (.bl false))] [],
 .asg (.t [1, 2, 3, 4, 5]) (.v 0),
 .ifs (.or (.not (.call 0 [.v 1, .k (.int 1), .k (.int 3)])) (.not (.call 0 [.v 2, .k (.int 1), .k (.int 3)]))) [
  .ret (.k (.bl false))] [],
 .ifs (.or (.not (.call 1 [.v 3])) (.or (.not (.call 2 [.ix (.v 3) (.k (.int 0)), .v 1, .v 2])) (.not (.call 2 [.ix (.v 3) (.k (.int 1)), .v 1, .v 2])))) [
  .ret (.k (.bl false))] [],
 .ifs (.or (.not (.bi .isinst [.v 4, .g (.ty "tuple")])) (.not (.chn .le .le (.k (.int 1)) (.bi .len [.v 4]) (.k (.int 3))))) [
  .ret (.k (.bl false))] [],
 .ret (.and (.bi .all [.lc (.call 3 [.v 6, .v 1, .v 2]) (.n 6) (.v 4) none]) (.call 2 [.v 5, .v 1, .v 2]))]⟩
def c_need_script : Fn := ⟨1, 1, [
 .ifs (.not (.call 4 [.v 0])) [
  .raise 40 none] []]⟩
def c_need_rounds : Fn := ⟨2, 2, [
 .ifs (.not (.call 0 [.v 0, .k (.int 0), .v 1])) [
  .raise 41 none] []]⟩
def c_parts_at : Fn := ⟨2, 3, [
 .asg (.n 2) (.ix (.v 0) (.k (.int 3))),
 .ret (.ix (.ix (.v 2) (.bin .mod (.bin .sub (.v 1) (.k (.int 1))) (.bi .len [.v 2]))) (.k (.int 0)))]⟩
def c_folds_in : Fn := ⟨2, 4, [
 .asg (.n 2) (.k (.int 1)),
 .for (.n 3) (.rng [.k (.int 1), .bin .add (.v 1) (.k (.int 1))]) [
  .asg (.n 2) (.bin .mul (.v 2) (.call 7 [.v 0, .v 3]))],
 .ret (.v 2)]⟩
def c_all_snips : Fn := ⟨1, 15, [
 .asg (.t [2, 3, 4, 5, 6]) (.v 0),
 .asg (.n 1) (.ls []),
 .for (.t [7, 8]) (.enm (.bin .add (.tp [.v 4]) (.bi .tuple [.lc (.sl (.v 11) (some (.k (.int 1))) none) (.n 11) (.v 5) none]))) [
  .for (.t [9, 10]) (.tp [.tp [.k (.str "left"), .ix (.v 8) (.k (.int 0))], .tp [.k (.str "right"), .ix (.v 8) (.k (.int 1))]]) [
   .asg (.n 1) (.bin .add (.v 1) (.lc (.tp [.v 7, .v 9, .v 12, .v 14]) (.t [12, 14]) (.v 10) none))]],
 .ret (.bi .sorted [.bin .add (.v 1) (.lc (.tp [.bin .add (.bi .len [.v 5]) (.k (.int 1)), .k (.str "at"), .v 12, .v 13]) (.t [12, 13]) (.v 6) none)])]⟩
def c_left_out : Fn := ⟨2, 3, [
 .ret (.bi .tuple [.lc (.v 2) (.n 2) (.v 0) (some (.cmp .ne (.v 2) (.v 1)))])]⟩
def c_lots_without : Fn := ⟨2, 3, [
 .asg (.n 2) (.sl (.v 1) (some (.k (.int 2))) none),
 .ifs (.cmp .eq (.ix (.v 1) (.k (.int 1))) (.k (.str "left"))) [
  .ret (.tp [.call 10 [.ix (.v 0) (.k (.int 0)), .v 2], .ix (.v 0) (.k (.int 1))])] [],
 .ret (.tp [.ix (.v 0) (.k (.int 0)), .call 10 [.ix (.v 0) (.k (.int 1)), .v 2]])]⟩
def c_script_without : Fn := ⟨2, 10, [
 .asg (.t [5, 6, 7, 8, 9]) (.v 0),
 .asg (.n 2) (.ix (.v 1) (.k (.int 0))),
 .ifs (.cmp .eq (.v 2) (.k (.int 0))) [
  .ret (.tp [.v 5, .v 6, .call 11 [.v 7, .v 1], .v 8, .v 9])] [],
 .ifs (.cmp .gt (.v 2) (.bi .len [.v 8])) [
  .ret (.tp [.v 5, .v 6, .v 7, .v 8, .call 10 [.v 9, .sl (.v 1) (some (.k (.int 2))) none]])] [],
 .asg (.n 3) (.ix (.v 8) (.bin .sub (.v 2) (.k (.int 1)))),
 .asg (.n 4) (.bin .add (.sl (.v 3) none (some (.k (.int 1)))) (.call 11 [.sl (.v 3) (some (.k (.int 1))) none, .v 1])),
 .ret (.tp [.v 5, .v 6, .v 7, .bin .add (.bin .add (.sl (.v 8) none (some (.bin .sub (.v 2) (.k (.int 1))))) (.tp [.v 4])) (.sl (.v 8) (some (.v 2)) none), .v 9])]⟩
def c_need_snip : Fn := ⟨2, 2, [
 .ifs (.or (.not (.bi .isinst [.v 1, .g (.ty "tuple")])) (.or (.cmp .ne (.bi .len [.v 1]) (.k (.int 4))) (.not (.call 0 [.ix (.v 1) (.k (.int 0)), .k (.int 0), .k (.int 4)])))) [
  .raise 45 none] [],
 .ifs (.or (.not (.bi .isinst [.ix (.v 1) (.k (.int 1)), .g (.ty "str")])) (.or (.not (.call 0 [.ix (.v 1) (.k (.int 2)), .k (.int 0), .k (.int 2)])) (.not (.call 0 [.ix (.v 1) (.k (.int 3)), .k (.int 0), .k (.int 2)])))) [
  .raise 45 none] [],
 .ifs (.cmp .notin (.v 1) (.call 9 [.v 0])) [
  .raise 45 none] []]⟩
def c_is_script : Fn := ⟨1, 1, [
 .ret (.call 4 [.v 0])]⟩
def c_count_columns : Fn := ⟨2, 2, [
 .ex (.call 5 [.v 0]),
 .ex (.call 6 [.v 1, .g (.int 60)]),
 .ret (.bin .mul (.ix (.v 0) (.k (.int 1))) (.call 8 [.v 0, .v 1]))]⟩
def c_snips : Fn := ⟨1, 1, [
 .ex (.call 5 [.v 0]),
 .ret (.call 9 [.v 0])]⟩
def c_without : Fn := ⟨2, 2, [
 .ex (.call 5 [.v 0]),
 .ex (.call 13 [.v 0, .v 1]),
 .ret (.call 12 [.v 0, .v 1])]⟩
def c_law_source : Fn := ⟨2, 4, [
 .asg (.n 2) (.k (.int 0)),
 .ifs (.cmp .gt (.bi .len [.v 0]) (.v 1)) [
  .asg (.n 2) (.bi .int [.ix (.v 0) (.v 1)])] [],
 .asg (.n 3) (.bin .mod (.bin .add (.bin .add (.bin .mul (.v 2) (.k (.int 16807))) (.bin .mul (.k (.int 60919)) (.v 1))) (.k (.int 31))) (.k (.int 2147481173))),
 .asg (.n 3) (.bin .add (.bin .add (.bin .mod (.bin .mul (.v 3) (.v 3)) (.k (.int 2147481151))) (.bin .mul (.k (.int 2)) (.v 1))) (.k (.int 5))),
 .ret (.mk (.ls [.ite (.cmp .ge (.v 2) (.bin .pow (.k (.int 10)) (.k (.int 18)))) (.v 2) (.k (.int 0)), .v 3]))]⟩
def c_law_pick : Fn := ⟨2, 3, [
 .ifs (.cmp .gt (.ix (.v 0) (.k (.int 0))) (.k (.int 0))) [
  .asg (.n 2) (.bin .mod (.bi .int [.ix (.v 0) (.k (.int 0))]) (.v 1)),
  .set 0 (.k (.int 0)) (.bin .fdiv (.bi .int [.ix (.v 0) (.k (.int 0))]) (.v 1)),
  .ret (.v 2)] [],
 .set 0 (.k (.int 1)) (.bin .mod (.bi .int [.bin .add (.bin .mul (.ix (.v 0) (.k (.int 1))) (.k (.int 44497))) (.k (.int 9973))]) (.k (.int 2147483647))),
 .ret (.bin .mod (.bin .fdiv (.bin .mod (.bi .int [.bin .mul (.ix (.v 0) (.k (.int 1))) (.ix (.v 0) (.k (.int 1)))]) (.k (.int 2147483399))) (.k (.int 11))) (.v 1))]⟩
def c_law_chosen : Fn := ⟨2, 2, [
 .ret (.ix (.v 1) (.call 19 [.v 0, .bi .len [.v 1]]))]⟩
def c_law_is_bool : Fn := ⟨2, 2, [
 .ret (.and (.bi .isinst [.v 0, .g (.ty "bool")]) (.cmp .eq (.v 0) (.v 1)))]⟩
def c_law_wide : Fn := ⟨3, 3, [
 .ret (.and (.bi .isinst [.v 0, .g (.ty "tuple")]) (.chn .le .le (.v 1) (.bi .len [.v 0]) (.v 2)))]⟩
def c_law_any_value : Fn := ⟨2, 6, [
 .asg (.n 2) (.ls [.k .non, .k (.bl true), .k (.bl false), .k (.int 0), .k (.int 1), .k (.int 2), .k (.int 3), .neg (.k (.int 1)), .k (.str ""), .k (.str "left"), .tp [], .ls [], .tp [.k (.int 0), .k (.int 0)], .tp [.tp [.k (.int 0), .k (.int 0)]], .tp [.tp [], .tp []]]),
 .asg (.n 3) (.call 19 [.v 0, .k (.int 8)]),
 .ifs (.or (.cmp .lt (.v 1) (.k (.int 1))) (.cmp .lt (.v 3) (.k (.int 5)))) [
  .ret (.call 20 [.v 0, .v 2])] [],
 .asg (.n 4) (.lc (.call 23 [.v 0, .bin .sub (.v 1) (.k (.int 1))]) (.n 5) (.rng [.call 19 [.v 0, .k (.int 5)]]) none),
 .ret (.ite (.cmp .eq (.v 3) (.k (.int 5))) (.v 4) (.bi .tuple [.v 4]))]⟩
def c_law_variant : Fn := ⟨3, 8, [
 .asg (.n 3) (.bi .list [.v 1]),
 .ifs (.cmp .eq (.v 3) (.ls [])) [
  .ret (.tp [.call 23 [.v 0, .k (.int 1)]])] [],
 .par [5, 6] [.call 19 [.v 0, .bi .len [.v 3]], .call 19 [.v 0, .k (.int 9)]],
 .asg (.n 4) (.ix (.v 3) (.v 5)),
 .ifs (.and (.bi .isinst [.v 4, .g (.ty "tuple")]) (.and (.cmp .gt (.v 2) (.k (.int 0))) (.cmp .gt (.v 6) (.k (.int 2))))) [
  .ret (.bin .add (.bin .add (.bi .tuple [.sl (.v 3) none (some (.v 5))]) (.tp [.call 24 [.v 0, .v 4, .bin .sub (.v 2) (.k (.int 1))]])) (.bi .tuple [.sl (.v 3) (some (.bin .add (.v 5) (.k (.int 1)))) none]))] [],
 .ifs (.cmp .eq (.v 6) (.k (.int 0))) [
  .ret (.bi .tuple [.bin .add (.sl (.v 3) none (some (.v 5))) (.sl (.v 3) (some (.bin .add (.v 5) (.k (.int 1)))) none)])] [],
 .ifs (.cmp .eq (.v 6) (.k (.int 1))) [
  .ret (.bi .tuple [.bin .add (.sl (.v 3) none (some (.bin .add (.v 5) (.k (.int 1))))) (.sl (.v 3) (some (.v 5)) none)])] [],
 .ifs (.cmp .eq (.v 6) (.k (.int 2))) [
  .ret (.bi .tuple [.bin .add (.bin .add (.sl (.v 3) none (some (.v 5))) (.rev (.sl (.v 3) (some (.v 5)) (some (.bin .add (.v 5) (.k (.int 2))))))) (.sl (.v 3) (some (.bin .add (.v 5) (.k (.int 2)))) none)])] [],
 .ifs (.cmp .eq (.v 6) (.k (.int 3))) [
  .ret (.v 3)] [],
 .ifs (.cmp .lt (.v 6) (.k (.int 6))) [
  .set 3 (.v 5) (.call 23 [.v 0, .k (.int 2)])] [
  .asg (.n 7) (.ls [.k .non, .k (.bl true), .k (.bl false), .k (.int 0), .k (.int 1), .k (.int 2), .k (.int 3), .k (.int 4), .k (.str ""), .tp [], .tp [.k (.int 0), .k (.int 0)], .tp [.tp [.k (.int 0), .k (.int 0)]], .tp [.tp [.k (.int 1), .k (.int 0)], .tp [.k (.int 0), .k (.int 0)]]]),
  .set 3 (.v 5) (.call 20 [.v 0, .v 7])],
 .ret (.bi .tuple [.v 3])]⟩
def c_law_whole : Fn := ⟨3, 3, [
 .ret (.and (.bi .isinst [.v 0, .g (.ty "int")]) (.and (.not (.bi .isinst [.v 0, .g (.ty "bool")])) (.chn .le .le (.v 1) (.v 0) (.v 2))))]⟩
def c_law_error : Fn := ⟨1, 4, [
 .asg (.n 1) (.ls [.tp [.k (.str "script"), .bi .isinst [.v 0, .g (.gl 41)]], .tp [.k (.str "number"), .bi .isinst [.v 0, .g (.gl 42)]]]),
 .asg (.n 1) (.bin .add (.v 1) (.ls [.tp [.k (.str "word"), .bi .isinst [.v 0, .g (.gl 43)]], .tp [.k (.str "row"), .bi .isinst [.v 0, .g (.gl 44)]]])),
 .asg (.n 1) (.bin .add (.v 1) (.ls [.tp [.k (.str "column"), .bi .isinst [.v 0, .g (.gl 45)]], .tp [.k (.str "snip"), .bi .isinst [.v 0, .g (.gl 46)]]])),
 .asg (.n 1) (.bin .add (.v 1) (.ls [.tp [.k (.str "seen"), .bi .isinst [.v 0, .g (.gl 47)]], .tp [.k (.str "unlike"), .bi .isinst [.v 0, .g (.gl 48)]]])),
 .asg (.n 1) (.bin .add (.v 1) (.ls [.tp [.k (.str "flat"), .bi .isinst [.v 0, .g (.gl 49)]], .tp [.k (.str "undo"), .bi .isinst [.v 0, .g (.gl 50)]]])),
 .asg (.n 1) (.bin .add (.v 1) (.ls [.tp [.k (.str "many"), .bi .isinst [.v 0, .g (.gl 51)]], .tp [.k (.str "text"), .bi .isinst [.v 0, .g (.gl 52)]]])),
 .ret (.me .join (.k (.str " ")) [.lc (.v 2) (.t [2, 3]) (.asl (.v 1)) (some (.v 3))])]⟩
def c_law_by_one : Fn := ⟨2, 2, [
 .ret (.rfd 0 (.cv 0 [.v 1]))]⟩
def c_law_by_two : Fn := ⟨3, 3, [
 .ret (.rfd 0 (.cv 0 [.v 1, .v 2]))]⟩
def c_law_drawn_lot : Fn := ⟨3, 7, [
 .asg (.n 3) (.call 20 [.v 0, .ls [.k (.int 2), .k (.int 3), .k (.int 4), .k (.int 9), .k (.int 9)]]),
 .asg (.n 4) (.ls []),
 .for (.n 5) (.rng [.v 1]) [
  .for (.n 6) (.rng [.v 2]) [
   .ifs (.cmp .eq (.call 19 [.v 0, .v 3]) (.k (.int 0))) [
    .app 4 (.tp [.v 5, .v 6])] []]],
 .ret (.bi .tuple [.v 4])]⟩
def c_law_script : Fn := ⟨2, 10, [
 .par [3, 4] [.call 20 [.v 0, .ls [.k (.int 1), .k (.int 2), .k (.int 2), .k (.int 3), .k (.int 3), .k (.int 3)]], .call 20 [.v 0, .ls [.k (.int 1), .k (.int 2), .k (.int 2), .k (.int 3)]]],
 .asg (.t [5, 6, 7]) (.tp [.tp [.tp [], .tp []], .tp [], .tp []]),
 .ifs (.cmp .eq (.call 19 [.v 0, .k (.int 3)]) (.k (.int 0))) [
  .asg (.n 8) (.call 28 [.v 0, .v 3, .v 4]),
  .asg (.n 5) (.tp [.v 8, .call 28 [.v 0, .v 3, .v 4]])] [],
 .for (.n 2) (.rng [.bin .add (.k (.int 1)) (.call 19 [.v 0, .v 1])]) [
  .par [9, 8] [.call 20 [.v 0, .ls [.k (.int 2), .k (.int 2), .k (.int 3)]], .call 28 [.v 0, .v 3, .v 4]],
  .asg (.n 7) (.bin .add (.v 7) (.tp [.tp [.v 9, .v 8, .call 28 [.v 0, .v 3, .v 4]]]))],
 .ifs (.cmp .eq (.call 19 [.v 0, .k (.int 2)]) (.k (.int 0))) [
  .asg (.n 6) (.call 28 [.v 0, .v 3, .v 4])] [],
 .ret (.tp [.v 3, .v 4, .v 5, .v 7, .v 6])]⟩
def c_law_folds_into : Fn := ⟨2, 2, [
 .ret (.ix (.ix (.ix (.v 0) (.k (.int 3))) (.bin .mod (.bin .sub (.v 1) (.k (.int 1))) (.bi .len [.ix (.v 0) (.k (.int 3))]))) (.k (.int 0)))]⟩
def c_law_columns : Fn := ⟨2, 4, [
 .asg (.n 2) (.ix (.v 0) (.k (.int 1))),
 .for (.n 3) (.rng [.v 1]) [
  .asg (.n 2) (.bin .mul (.v 2) (.call 30 [.v 0, .bin .add (.v 3) (.k (.int 1))]))],
 .ret (.v 2)]⟩
def c_law_good_lot : Fn := ⟨3, 6, [
 .ifs (.not (.bi .isinst [.v 0, .g (.ty "tuple")])) [
  .ret (.k (.bl false))] [],
 .for (.n 3) (.v 0) [
  .ifs (.or (.not (.call 22 [.v 3, .k (.int 2), .k (.int 2)])) (.not (.call 25 [.ix (.v 3) (.k (.int 0)), .k (.int 0), .bin .sub (.v 1) (.k (.int 1))]))) [
   .ret (.k (.bl false))] [],
  .ifs (.not (.call 25 [.ix (.v 3) (.k (.int 1)), .k (.int 0), .bin .sub (.v 2) (.k (.int 1))])) [
   .ret (.k (.bl false))] []],
 .ret (.cmp .eq (.lc (.k (.int 1)) (.t [4, 5]) (.zp (.v 0) (.sl (.v 0) (some (.k (.int 1))) none)) (some (.not (.cmp .lt (.v 4) (.v 5))))) (.ls []))]⟩
def c_law_good_script : Fn := ⟨1, 9, [
 .ifs (.or (.not (.call 22 [.v 0, .k (.int 5), .k (.int 5)])) (.or (.not (.call 25 [.ix (.v 0) (.k (.int 0)), .k (.int 1), .k (.int 3)])) (.not (.call 25 [.ix (.v 0) (.k (.int 1)), .k (.int 1), .k (.int 3)])))) [
  .ret (.k (.bl false))] [],
 .asg (.t [3, 4, 5, 6, 7]) (.v 0),
 .ifs (.or (.not (.call 22 [.v 5, .k (.int 2), .k (.int 2)])) (.not (.call 22 [.v 6, .k (.int 1), .k (.int 3)]))) [
  .ret (.k (.bl false))] [],
 .ifs (.not (.call 32 [.v 7, .v 3, .v 4])) [
  .ret (.k (.bl false))] [],
 .for (.n 1) (.v 6) [
  .ifs (.or (.not (.call 22 [.v 1, .k (.int 3), .k (.int 3)])) (.not (.call 25 [.ix (.v 1) (.k (.int 0)), .k (.int 2), .k (.int 3)]))) [
   .ret (.k (.bl false))] []],
 .asg (.n 2) (.bi .list [.v 5]),
 .for (.n 1) (.v 6) [
  .asg (.n 2) (.bin .add (.v 2) (.ls [.ix (.v 1) (.k (.int 1)), .ix (.v 1) (.k (.int 2))]))],
 .ret (.cmp .eq (.lc (.v 8) (.n 8) (.v 2) (some (.not (.call 32 [.v 8, .v 3, .v 4])))) (.ls []))]⟩
def c_law_all_snips : Fn := ⟨1, 6, [
 .asg (.n 1) (.ls []),
 .for (.t [2, 3]) (.enm (.bin .add (.ls [.ix (.v 0) (.k (.int 2))]) (.lc (.sl (.v 4) (some (.k (.int 1))) none) (.n 4) (.ix (.v 0) (.k (.int 3))) none))) [
  .asg (.n 1) (.bin .add (.v 1) (.lc (.bin .add (.tp [.v 2, .k (.str "left")]) (.v 5)) (.n 5) (.ix (.v 3) (.k (.int 0))) none)),
  .asg (.n 1) (.bin .add (.v 1) (.lc (.bin .add (.tp [.v 2, .k (.str "right")]) (.v 5)) (.n 5) (.ix (.v 3) (.k (.int 1))) none))],
 .ret (.bi .sorted [.bin .add (.v 1) (.lc (.bin .add (.tp [.bin .add (.bi .len [.ix (.v 0) (.k (.int 3))]) (.k (.int 1)), .k (.str "at")]) (.v 5)) (.n 5) (.ix (.v 0) (.k (.int 4))) none)])]⟩
def c_law_snips_right : Fn := ⟨2, 12, [
 .asg (.n 2) (.call 34 [.v 1]),
 .for (.n 3) (.rng [.k (.int 2)]) [
  .asg (.n 8) (.call 16 [.v 1]),
  .ifs (.or (.not (.bi .isinst [.v 8, .g (.ty "list")])) (.cmp .ne (.v 8) (.v 2))) [
   .ret (.k (.bl false))] [],
  .app 8 (.k (.str "odd"))],
 .for (.n 4) (.v 2) [
  .asg (.n 9) (.call 17 [.v 1, .v 4]),
  .ifs (.or (.not (.call 33 [.v 9])) (.cmp .ne (.call 34 [.v 9]) (.lc (.v 11) (.n 11) (.v 2) (some (.cmp .ne (.v 11) (.v 4)))))) [
   .ret (.k (.bl false))] [],
  .asg (.n 10) (.lc (.ix (.v 11) (.k (.int 0))) (.n 11) (.ix (.v 9) (.k (.int 3))) none),
  .ifs (.or (.cmp .ne (.sl (.v 9) none (some (.k (.int 2)))) (.sl (.v 1) none (some (.k (.int 2))))) (.cmp .ne (.v 10) (.lc (.ix (.v 11) (.k (.int 0))) (.n 11) (.ix (.v 1) (.k (.int 3))) none))) [
   .ret (.k (.bl false))] []],
 .asg (.n 5) (.bi .len [.ix (.v 1) (.k (.int 3))]),
 .asg (.n 6) (.ls [.k .non, .tp [], .tp [.k (.int 0), .k (.str "left"), .k (.int 0), .k (.int 3)], .tp [.bin .add (.v 5) (.k (.int 1)), .k (.str "left"), .k (.int 0), .k (.int 0)], .tp [.k (.int 0), .k (.str "at"), .k (.int 0), .k (.int 0)], .tp [.k (.int 9), .k (.str "at"), .k (.int 0), .k (.int 0)]]),
 .asg (.n 6) (.bin .add (.v 6) (.ls [.ls [.k (.int 0), .k (.str "left"), .k (.int 0), .k (.int 0)], .tp [.k (.bl false), .k (.str "left"), .k (.int 0), .k (.int 0)], .tp [.k (.int 1), .k (.str "left"), .k (.int 0)], .tp [.k (.int 0), .k (.int 0), .k (.int 0), .k (.int 0)], .tp [.neg (.k (.int 1)), .k (.str "left"), .k (.int 0), .k (.int 0)]])),
 .for (.n 7) (.v 6) [
  .ifs (.cmp .ne (.call 27 [.g (.gl 17), .v 1, .v 7]) (.k (.str "snip"))) [
   .ret (.k (.bl false))] []],
 .ret (.and (.cmp .eq (.call 27 [.g (.gl 17), .k .non, .k .non]) (.k (.str "script"))) (.cmp .eq (.call 26 [.g (.gl 16), .bi .list [.v 1]]) (.k (.str "script"))))]⟩
def c_law : Fn := ⟨1, 12, [
 .for (.n 1) (.rng [.bi .max2 [.k (.int 6), .bi .min2 [.k (.int 20), .bi .len [.v 0]]]]) [
  .asg (.n 3) (.call 18 [.v 0, .v 1]),
  .asg (.n 4) (.call 29 [.v 3, .k (.int 3)]),
  .asg (.n 5) (.ls [.v 4, .bi .list [.v 4], .sl (.v 4) none (some (.k (.int 4))), .bin .add (.v 4) (.tp [.tp []]), .ix (.v 4) (.k (.int 3))]),
  .for (.n 6) (.rng [.k (.int 40)]) [
   .asg (.n 9) (.call 24 [.v 3, .v 4, .k (.int 6)]),
   .app 5 (.v 9),
   .ifs (.and (.bi .isinst [.v 9, .g (.ty "tuple")]) (.cmp .eq (.call 19 [.v 3, .k (.int 3)]) (.k (.int 0)))) [
    .app 5 (.call 24 [.v 3, .v 9, .k (.int 6)])] []],
  .for (.n 7) (.bin .add (.v 5) (.ls [.call 23 [.v 3, .k (.int 3)]])) [
   .ifs (.not (.call 21 [.call 14 [.v 7], .call 33 [.v 7]])) [
    .ret (.k (.bl false))] []],
  .ifs (.not (.call 35 [.v 3, .v 4])) [
   .ret (.k (.bl false))] [],
  .for (.n 8) (.ls [.k (.int 0), .k (.int 1), .k (.int 2), .k (.int 5), .k (.int 60)]) [
   .ifs (.cmp .ne (.call 15 [.v 4, .v 8]) (.call 31 [.v 4, .v 8])) [
    .ret (.k (.bl false))] []],
  .for (.n 9) (.ls [.neg (.k (.int 1)), .k (.int 61), .k (.bl true), .k .non, .k (.str "1")]) [
   .ifs (.cmp .ne (.call 27 [.g (.gl 15), .v 4, .v 9]) (.k (.str "number"))) [
    .ret (.k (.bl false))] [],
   .ifs (.cmp .ne (.call 27 [.g (.gl 15), .v 9, .v 9]) (.k (.str "script"))) [
    .ret (.k (.bl false))] []]],
 .asg (.t [10, 11]) (.tp [.tp [.tp [], .tp []], .tp [.k (.int 2), .tp [], .tp []]]),
 .asg (.n 2) (.ls [.tp [.k (.int 1), .k (.int 1), .v 10, .tp [.v 11], .tp []], .tp [.k (.int 0), .k (.int 1), .v 10, .tp [.v 11], .tp []], .tp [.k (.int 3), .k (.int 3), .v 10, .bin .mul (.tp [.v 11]) (.k (.int 3)), .tp [.tp [.k (.int 2), .k (.int 2)]]]]),
 .asg (.n 2) (.bin .add (.v 2) (.ls [.tp [.k (.int 3), .k (.int 4), .v 10, .tp [.v 11], .tp []], .tp [.k (.int 1), .k (.int 1), .v 10, .tp [], .tp []], .tp [.k (.int 1), .k (.int 1), .v 10, .bin .mul (.tp [.v 11]) (.k (.int 4)), .tp []]])),
 .asg (.n 2) (.bin .add (.v 2) (.ls [.tp [.k (.int 2), .k (.int 2), .v 10, .tp [.tp [.k (.int 4), .tp [], .tp []]], .tp []], .tp [.k (.int 2), .k (.int 2), .v 10, .tp [.tp [.k (.int 3), .tp [.tp [.k (.int 0), .k (.int 0)], .tp [.k (.int 0), .k (.int 0)]], .tp []]], .tp []]])),
 .asg (.n 2) (.bin .add (.v 2) (.ls [.tp [.k (.int 2), .k (.int 2), .v 10, .tp [.tp [.k (.int 3), .tp [.tp [.k (.int 1), .k (.int 0)], .tp [.k (.int 0), .k (.int 0)]], .tp []]], .tp []], .tp [.k (.int 2), .k (.int 2), .v 10, .tp [.v 11], .tp [.tp [.k (.int 0), .k (.bl true)]]]])),
 .asg (.n 2) (.bin .add (.v 2) (.ls [.tp [.k (.bl true), .k (.int 1), .v 10, .tp [.v 11], .tp []], .tp [.k (.int 1), .k (.int 1), .tp [], .tp [.v 11], .tp []]])),
 .ret (.cmp .eq (.lc (.v 7) (.n 7) (.v 2) (some (.not (.call 21 [.call 14 [.v 7], .call 33 [.v 7]])))) (.ls []))]⟩
def fns : List Fn := [c_is_within, c_is_pair, c_is_lot, c_is_round, c_is_right_script, c_need_script, c_need_rounds, c_parts_at, c_folds_in, c_all_snips, c_left_out, c_lots_without, c_script_without, c_need_snip, c_is_script, c_count_columns, c_snips, c_without, c_law_source, c_law_pick, c_law_chosen, c_law_is_bool, c_law_wide, c_law_any_value, c_law_variant, c_law_whole, c_law_by_one, c_law_by_two, c_law_drawn_lot, c_law_script, c_law_folds_into, c_law_columns, c_law_good_lot, c_law_good_script, c_law_all_snips, c_law_snips_right, c_law]
def ms : List FM := [
 (fmOf ["value", "low", "high"] false (body.getD 16 (.Pass ⟨0,0,0,0⟩))),
 (fmOf ["value"] false (body.getD 17 (.Pass ⟨0,0,0,0⟩))),
 (fmOf ["value", "rows", "length", "cell", "row", "far"] false (body.getD 18 (.Pass ⟨0,0,0,0⟩))),
 (fmOf ["value", "rows", "length"] false (body.getD 19 (.Pass ⟨0,0,0,0⟩))),
 (fmOf ["value", "rows", "length", "before", "rounds", "after", "one"] false (body.getD 20 (.Pass ⟨0,0,0,0⟩))),
 (fmOf ["value"] false (body.getD 21 (.Pass ⟨0,0,0,0⟩))),
 (fmOf ["value", "most"] false (body.getD 22 (.Pass ⟨0,0,0,0⟩))),
 (fmOf ["script", "number", "rounds"] false (body.getD 23 (.Pass ⟨0,0,0,0⟩))),
 (fmOf ["script", "n", "found", "number"] false (body.getD 24 (.Pass ⟨0,0,0,0⟩))),
 (fmOf ["script", "found", "rows", "length", "before", "rounds", "after", "where", "lots", "side", "lot", "one", "row", "column", "far"] false (body.getD 25 (.Pass ⟨0,0,0,0⟩))),
 (fmOf ["lot", "cell", "one"] false (body.getD 26 (.Pass ⟨0,0,0,0⟩))),
 (fmOf ["lots", "snip", "cell"] false (body.getD 27 (.Pass ⟨0,0,0,0⟩))),
 (fmOf ["script", "snip", "where", "old", "new", "rows", "length", "before", "rounds", "after"] false (body.getD 28 (.Pass ⟨0,0,0,0⟩))),
 (fmOf ["script", "value"] false (body.getD 29 (.Pass ⟨0,0,0,0⟩))),
 (fmOf ["value"] false (body.getD 30 (.Pass ⟨0,0,0,0⟩))),
 (fmOf ["script", "n"] false (body.getD 31 (.Pass ⟨0,0,0,0⟩))),
 (fmOf ["script"] false (body.getD 32 (.Pass ⟨0,0,0,0⟩))),
 (fmOf ["script", "snip"] false (body.getD 33 (.Pass ⟨0,0,0,0⟩))),
 (fmOf ["script", "k", "number", "start"] false (body.getD 35 (.Pass ⟨0,0,0,0⟩))),
 (fmOf ["source", "many", "found"] false (body.getD 36 (.Pass ⟨0,0,0,0⟩))),
 (fmOf ["source", "things"] false (body.getD 37 (.Pass ⟨0,0,0,0⟩))),
 (fmOf ["told", "due"] false (body.getD 38 (.Pass ⟨0,0,0,0⟩))),
 (fmOf ["value", "low", "high"] false (body.getD 39 (.Pass ⟨0,0,0,0⟩))),
 (fmOf ["source", "deep", "simple_so", "way", "parts", "turn"] false (body.getD 40 (.Pass ⟨0,0,0,0⟩))),
 (fmOf ["source", "value", "deep", "parts", "inner", "spot", "way", "near"] false (body.getD 41 (.Pass ⟨0,0,0,0⟩))),
 (fmOf ["value", "low", "high"] false (body.getD 42 (.Pass ⟨0,0,0,0⟩))),
 (fmOf ["call", "one"] true (body.getD 45 (.Pass ⟨0,0,0,0⟩))),
 (fmOf ["call", "one", "other"] true (body.getD 46 (.Pass ⟨0,0,0,0⟩))),
 (fmOf ["source", "rows", "length", "rare", "found", "row", "far"] false (body.getD 47 (.Pass ⟨0,0,0,0⟩))),
 (fmOf ["source", "most", "turn", "rows", "length", "ends_so", "last_so", "rounds", "first", "parts"] false (body.getD 48 (.Pass ⟨0,0,0,0⟩))),
 (fmOf ["script", "number"] false (body.getD 49 (.Pass ⟨0,0,0,0⟩))),
 (fmOf ["script", "n", "found", "number"] false (body.getD 50 (.Pass ⟨0,0,0,0⟩))),
 (fmOf ["value", "rows", "length", "cell", "one", "other"] false (body.getD 51 (.Pass ⟨0,0,0,0⟩))),
 (fmOf ["value", "one", "lots", "rows", "length", "before", "rounds", "after", "lot"] false (body.getD 52 (.Pass ⟨0,0,0,0⟩))),
 (fmOf ["script", "found", "where", "pair", "one", "cell"] false (body.getD 53 (.Pass ⟨0,0,0,0⟩))),
 (fmOf ["source", "script", "due", "again", "snip", "many", "odds", "odd", "told", "other", "parts", "one"] false (body.getD 54 (.Pass ⟨0,0,0,0⟩))),
 (fmOf ["script", "k", "rows", "source", "some", "values", "turn", "value", "n", "odd", "none", "one"] false (body.getD 55 (.Pass ⟨0,0,0,0⟩)))]
def m_law_error : FM := (fmOf ["e", "some", "word_so", "good"] false (body.getD 43 (.Pass ⟨0,0,0,0⟩)))
def m_law_refused : FM := (fmOf ["call", "e"] false (body.getD 44 (.Pass ⟨0,0,0,0⟩)))
def tabL : List (Str × GV) := [
 ent "is_within" (.fn 0),
 ent "is_pair" (.fn 1),
 ent "is_lot" (.fn 2),
 ent "is_round" (.fn 3),
 ent "is_right_script" (.fn 4),
 ent "need_script" (.fn 5),
 ent "need_rounds" (.fn 6),
 ent "parts_at" (.fn 7),
 ent "folds_in" (.fn 8),
 ent "all_snips" (.fn 9),
 ent "left_out" (.fn 10),
 ent "lots_without" (.fn 11),
 ent "script_without" (.fn 12),
 ent "need_snip" (.fn 13),
 ent "is_script" (.fn 14),
 ent "count_columns" (.fn 15),
 ent "snips" (.fn 16),
 ent "without" (.fn 17),
 ent "_law_source" (.fn 18),
 ent "_law_pick" (.fn 19),
 ent "_law_chosen" (.fn 20),
 ent "_law_is_bool" (.fn 21),
 ent "_law_wide" (.fn 22),
 ent "_law_any_value" (.fn 23),
 ent "_law_variant" (.fn 24),
 ent "_law_whole" (.fn 25),
 ent "_law_by_one" (.fn 26),
 ent "_law_by_two" (.fn 27),
 ent "_law_drawn_lot" (.fn 28),
 ent "_law_script" (.fn 29),
 ent "_law_folds_into" (.fn 30),
 ent "_law_columns" (.fn 31),
 ent "_law_good_lot" (.fn 32),
 ent "_law_good_script" (.fn 33),
 ent "_law_all_snips" (.fn 34),
 ent "_law_snips_right" (.fn 35),
 ent "law" (.fn 36),
 ent "_law_error" (.cls 37 false),
 ent "_law_refused" (.cls 38 false),
 ent "PleatError" (.cls 39 true),
 ent "InvalidScript" (.cls 40 true),
 ent "InvalidNumber" (.cls 41 true),
 ent "InvalidWord" (.cls 42 true),
 ent "InvalidRow" (.cls 43 true),
 ent "InvalidColumn" (.cls 44 true),
 ent "InvalidSnip" (.cls 45 true),
 ent "InvalidSeen" (.cls 46 true),
 ent "Unlike" (.cls 47 true),
 ent "NothingFolded" (.cls 48 true),
 ent "NothingToUndo" (.cls 49 true),
 ent "TooMany" (.cls 50 false),
 ent "InvalidText" (.cls 51 false),
 ent "MOST_ROUNDS" (.cst (.int 60))]
def freeL : List Str := ["all", "bool", "enumerate", "int", "isinstance", "len", "list", "max", "min", "range", "set", "sorted", "str", "tuple", "zip"]
def tab (x : Str) : Option GV := if freeL.contains x then some .free else tabL.lookup x
def nmsL : List Str := [("is_within" : Str), ("is_pair" : Str), ("is_lot" : Str), ("is_round" : Str), ("is_right_script" : Str), ("need_script" : Str), ("need_rounds" : Str), ("parts_at" : Str), ("folds_in" : Str), ("all_snips" : Str), ("left_out" : Str), ("lots_without" : Str), ("script_without" : Str), ("need_snip" : Str), ("is_script" : Str), ("count_columns" : Str), ("snips" : Str), ("without" : Str), ("_law_source" : Str), ("_law_pick" : Str)] ++ [("_law_chosen" : Str), ("_law_is_bool" : Str), ("_law_wide" : Str), ("_law_any_value" : Str), ("_law_variant" : Str), ("_law_whole" : Str), ("_law_by_one" : Str), ("_law_by_two" : Str), ("_law_drawn_lot" : Str), ("_law_script" : Str), ("_law_folds_into" : Str), ("_law_columns" : Str), ("_law_good_lot" : Str), ("_law_good_script" : Str), ("_law_all_snips" : Str), ("_law_snips_right" : Str), ("law" : Str), ("_law_error" : Str), ("_law_refused" : Str), ("PleatError" : Str)] ++ [("InvalidScript" : Str), ("InvalidNumber" : Str), ("InvalidWord" : Str), ("InvalidRow" : Str), ("InvalidColumn" : Str), ("InvalidSnip" : Str), ("InvalidSeen" : Str), ("Unlike" : Str), ("NothingFolded" : Str), ("NothingToUndo" : Str), ("TooMany" : Str), ("InvalidText" : Str)]
def cd : Pi.Cd := ⟨fns, ms, tabL, freeL, nmsL, m_law_error, c_law_error, m_law_refused, 37, 38, 39, [39, 40, 41, 42, 43, 44, 45, 46, 47, 48, 49, 50, 51], [(40, "script"), (41, "number"), (42, "word"), (43, "row"), (44, "column"), (45, "snip"), (46, "seen"), (47, "unlike"), (48, "flat"), (49, "undo")], 36⟩
/- place of law in the body: 55 -/

theorem okT : cd.okT = true := by kernel_rfl
theorem okM : cd.okM = true := by kernel_rfl
theorem okW : cd.okW = true := by kernel_rfl
theorem okE : cd.okE = true := by kernel_rfl

end K1

set_option maxRecDepth 100000
set_option maxHeartbeats 0
/-! Ev: rules of the interpreter, step by step. -/
namespace Pi.EvR
open PySem
open PySem
section
variable {G : Gl} {cl : Nat → List D → Sto → RC} {W : Nat} {bw : Bool} {env env1 env2 env3 : Env} {st st1 st2 st3 : Sto} {a b c : C} {d x y z : D} {o o1 o2 o3 : Bool} {ss : List S}
theorem e_not {q : Bool} (h : ev G cl true a env st = .ok (.bl q, o) env1 st1) : ev G cl bw (.not a) env st = .ok (.bl (!q), false) env1 st1 := by
  conv => lhs; unfold ev
  rw [h]; rfl
theorem e_and {p q : Bool} (h : ev G cl true a env st = .ok (.bl p, o) env1 st1) (h2 : p = true → ev G cl bw b env1 st1 = .ok (.bl q, false) env1 st1) : ev G cl bw (.and a b) env st = .ok (.bl (p && q), false) env1 st1 := by
  conv => lhs; unfold ev
  rw [h]
  cases p with
  | false => rfl
  | true => exact h2 rfl
theorem e_or {p q : Bool} (h : ev G cl true a env st = .ok (.bl p, o) env1 st1) (h2 : p = false → ev G cl bw b env1 st1 = .ok (.bl q, false) env1 st1) : ev G cl bw (.or a b) env st = .ok (.bl (p || q), false) env1 st1 := by
  conv => lhs; unfold ev
  rw [h]
  cases p with
  | true => rfl
  | false => exact h2 rfl
theorem e_iteT (h : ev G cl true a env st = .ok (.bl true, o) env1 st1) : ev G cl bw (.ite a b c) env st = ev G cl bw b env1 st1 := by
  conv => lhs; unfold ev
  rw [h]; rfl
theorem e_iteF (h : ev G cl true a env st = .ok (.bl false, o) env1 st1) : ev G cl bw (.ite a b c) env st = ev G cl bw c env1 st1 := by
  conv => lhs; unfold ev
  rw [h]; rfl
theorem e_cmp {k : COp} {q : Bool} (h : ev G cl true a env st = .ok (x, o) env1 st1) (h2 : ev G cl true b env1 st1 = .ok (y, o2) env2 st2) (h3 : cmpop k x y = some q) : ev G cl bw (.cmp k a b) env st = .ok (.bl q, false) env2 st2 := by
  conv => lhs; unfold ev
  rw [h]
  show (ev G cl true b env1 st1).bind _ = _
  rw [h2]
  show lift ((cmpop k x y).map _) env2 st2 = _
  rw [h3]; rfl
theorem e_chn {k k2 : COp} {p q : Bool} (h : ev G cl true a env st = .ok (x, o) env1 st1) (h2 : ev G cl true b env1 st1 = .ok (y, o2) env2 st2) (h3 : cmpop k x y = some p) (h4 : p = true → ev G cl true c env2 st2 = .ok (z, o3) env2 st2) (h5 : p = true → cmpop k2 y z = some q) : ev G cl bw (.chn k k2 a b c) env st = .ok (.bl (p && q), false) env2 st2 := by
  conv => lhs; unfold ev
  rw [h]
  show (ev G cl true b env1 st1).bind _ = _
  rw [h2]
  show (match cmpop k x y with
    | some true => _
    | some false => _
    | none => _) = _
  rw [h3]
  cases p with
  | false => rfl
  | true =>
    show (ev G cl true c env2 st2).bind _ = _
    rw [h4 rfl]
    show lift ((cmpop k2 y z).map _) env2 st2 = _
    rw [h5 rfl]; rfl
theorem e_bin {k : BOp} {q : D × Bool} (h : ev G cl true a env st = .ok (x, o) env1 st1) (h2 : ev G cl true b env1 st1 = .ok (y, o2) env2 st2) (h3 : binop k x y = some q) : ev G cl bw (.bin k a b) env st = .ok q env2 st2 := by
  conv => lhs; unfold ev
  rw [h]
  show (ev G cl true b env1 st1).bind _ = _
  rw [h2]
  show lift (binop k x y) env2 st2 = _
  rw [h3]; rfl
theorem e_ix {q : D × Bool} (h : ev G cl true a env st = .ok (x, o) env1 st1) (h2 : ev G cl true b env1 st1 = .ok (y, o2) env2 st2) (h3 : ixF st2 x y = some q) : ev G cl bw (.ix a b) env st = .ok q env2 st2 := by
  conv => lhs; unfold ev
  rw [h]
  show (ev G cl true b env1 st1).bind _ = _
  rw [h2]
  show lift (ixF st2 x y) env2 st2 = _
  rw [h3]; rfl
theorem e_sl {lo hi : Option C} {l u : Option Int} {q : D × Bool} (h : ev G cl true a env st = .ok (x, o) env1 st1) (h2 : evo G cl lo env1 st1 = .ok l env2 st2) (h3 : evo G cl hi env2 st2 = .ok u env3 st3) (h4 : slice x l u = some q) : ev G cl bw (.sl a lo hi) env st = .ok q env3 st3 := by
  conv => lhs; unfold ev
  rw [h]
  show (evo G cl lo env1 st1).bind _ = _
  rw [h2]
  show (evo G cl hi env2 st2).bind _ = _
  rw [h3]
  show lift (slice x l u) env3 st3 = _
  rw [h4]; rfl
theorem e_call {f : Nat} {es : List C} {ds : List D} (h : evs G cl false es env st = .ok ds env1 st1) (h2 : cl f ds st1 = .ok d o st2) : ev G cl bw (.call f es) env st = .ok (d, o) env1 st2 := by
  conv => lhs; unfold ev
  rw [h]
  show ofCall (cl f ds st1) env1 = _
  rw [h2]; rfl
theorem e_callx {f c : Nat} {es : List C} {ds : List D} (h : evs G cl false es env st = .ok ds env1 st1) (h2 : cl f ds st1 = .ex c d st2) : ev G cl bw (.call f es) env st = .ex c d env1 st2 := by
  conv => lhs; unfold ev
  rw [h]
  show ofCall (cl f ds st1) env1 = _
  rw [h2]; rfl
theorem e_bi {k : Bi} {es : List C} {ds : List D} {q : D × Bool} (h : evs G cl true es env st = .ok ds env1 st1) (h2 : bifn G k ds = some q) : ev G cl bw (.bi k es) env st = .ok q env1 st1 := by
  conv => lhs; unfold ev
  rw [h]
  show lift (bifn G k ds) env1 st1 = _
  rw [h2]; rfl
theorem e_rng {es : List C} {ds : List D} (h : evs G cl true es env st = .ok ds env1 st1) (h2 : rangeOf ds = some d) : ev G cl bw (.rng es) env st = .ok (d, false) env1 st1 := by
  conv => lhs; unfold ev
  rw [h]
  show lift ((rangeOf ds).map _) env1 st1 = _
  rw [h2]; rfl
theorem e_enm (h : ev G cl false a env st = .ok (x, o) env1 st1) (h2 : enumOf x = some d) : ev G cl bw (.enm a) env st = .ok (d, false) env1 st1 := by
  conv => lhs; unfold ev
  rw [h]
  show lift ((enumOf x).map _) env1 st1 = _
  rw [h2]; rfl
theorem e_zp (h : ev G cl false a env st = .ok (x, o) env1 st1) (h2 : ev G cl false b env1 st1 = .ok (y, o2) env2 st2) (h3 : zipOf x y = some d) : ev G cl bw (.zp a b) env st = .ok (d, false) env2 st2 := by
  conv => lhs; unfold ev
  rw [h]
  show (ev G cl false b env1 st1).bind _ = _
  rw [h2]
  show lift ((zipOf x y).map _) env2 st2 = _
  rw [h3]; rfl
theorem e_tp {es : List C} {ds : List D} (h : evs G cl false es env st = .ok ds env1 st1) (h2 : szOk ds.length = true) : ev G cl bw (.tp es) env st = .ok (.tup ds, false) env1 st1 := by
  conv => lhs; unfold ev
  rw [h]
  show (if szOk ds.length = true then _ else _) = _
  rw [if_pos h2]
theorem e_ls {es : List C} {ds : List D} (h : evs G cl false es env st = .ok ds env1 st1) (h2 : szOk ds.length = true) : ev G cl bw (.ls es) env st = .ok (.lst ds, true) env1 st1 := by
  conv => lhs; unfold ev
  rw [h]
  show (if szOk ds.length = true then _ else _) = _
  rw [if_pos h2]
theorem es_nil : evs G cl bw [] env st = .ok [] env st := rfl
theorem es_cons {es : List C} {ds : List D} (h : ev G cl bw a env st = .ok (x, o) env1 st1) (h2 : evs G cl bw es env1 st1 = .ok ds env2 st2) : evs G cl bw (a :: es) env st = .ok (x :: ds) env2 st2 := by
  conv => lhs; unfold evs
  rw [h]
  show (evs G cl bw es env1 st1).bind _ = _
  rw [h2]; rfl
theorem eo_some {i : Int} (h : ev G cl true a env st = .ok (.int i, o) env1 st1) : evo G cl (some a) env st = .ok (some i) env1 st1 := by
  conv => lhs; unfold evo
  rw [h]; rfl
theorem t_of {q : Bool} (h : ev G cl true a env st = .ok (.bl q, o) env1 st1) : truth (ev G cl true a env st) = .ok q env1 st1 := by
  rw [h]; rfl
theorem b_nx {s : S} (h : exS G cl W s env st = .ok .nx env1 st1) : exB G cl W (s :: ss) env st = exB G cl W ss env1 st1 := by
  conv => lhs; unfold exB
  rw [h]; rfl
theorem b_rt {s : S} (h : exS G cl W s env st = .ok (.ret d o) env1 st1) : exB G cl W (s :: ss) env st = .ok (.ret d o) env1 st1 := by
  conv => lhs; unfold exB
  rw [h]; rfl
theorem b_exc {s : S} {k : Nat} (h : exS G cl W s env st = .ex k d env1 st1) : exB G cl W (s :: ss) env st = .ex k d env1 st1 := by
  conv => lhs; unfold exB
  rw [h]; rfl
theorem b_asg {t : T} {p : D × Bool} (h : ev G cl false c env st = .ok p env1 st1) (hs : setT t p env1 = some env2) : exB G cl W (.asg t c :: ss) env st = exB G cl W ss env2 st1 := b_nx (by
  conv => lhs; unfold exS
  rw [h]
  show (match setT t p env1 with | some env => R.ok Flow.nx env st1 | none => R.no) = _
  rw [hs])
theorem b_par {is : List Nat} {es : List C} {ds : List D} (h : evs G cl false es env st = .ok ds env1 st1) (hs : setT (.t is) (.tup ds, false) env1 = some env2) : exB G cl W (.par is es :: ss) env st = exB G cl W ss env2 st1 := b_nx (by
  conv => lhs; unfold exS
  rw [h]
  show (match setT (.t is) (.tup ds, false) env1 with | some env => R.ok Flow.nx env st1 | none => R.no) = _
  rw [hs])
theorem b_expr {p : D × Bool} (h : ev G cl false c env st = .ok p env1 st1) : exB G cl W (.ex c :: ss) env st = exB G cl W ss env1 st1 := b_nx (by
  conv => lhs; unfold exS
  rw [h]; rfl)
theorem b_exprx {k : Nat} (h : ev G cl false c env st = .ex k d env1 st1) : exB G cl W (.ex c :: ss) env st = .ex k d env1 st1 := b_exc (by
  conv => lhs; unfold exS
  rw [h]; rfl)
theorem s_if {q : Bool} {p r : List S} (h : ev G cl true a env st = .ok (.bl q, o) env1 st1) : exS G cl W (.ifs a p r) env st = if q then exB G cl W p env1 st1 else exB G cl W r env1 st1 := by
  conv => lhs; unfold exS
  rw [t_of h]; rfl
theorem b_ifF {q : Bool} {p : List S} (h : ev G cl true a env st = .ok (.bl q, o) env1 st1) (hq : q = false) : exB G cl W (.ifs a p [] :: ss) env st = exB G cl W ss env1 st1 := b_nx (by
  rw [s_if h, hq]; rfl)
theorem b_ifFe {q : Bool} {p r : List S} (h : ev G cl true a env st = .ok (.bl q, o) env1 st1) (hq : q = false) (hr : exB G cl W r env1 st1 = .ok .nx env2 st2) : exB G cl W (.ifs a p r :: ss) env st = exB G cl W ss env2 st2 := b_nx (by
  rw [s_if h, hq]; exact hr)
theorem b_ifT {q : Bool} {p r : List S} (h : ev G cl true a env st = .ok (.bl q, o) env1 st1) (hq : q = true) (hr : exB G cl W p env1 st1 = .ok .nx env2 st2) : exB G cl W (.ifs a p r :: ss) env st = exB G cl W ss env2 st2 := b_nx (by
  rw [s_if h, hq]; exact hr)
theorem b_ifR {q : Bool} {p r : List S} (h : ev G cl true a env st = .ok (.bl q, o) env1 st1) (hq : q = true) (hr : exB G cl W p env1 st1 = .ok (.ret d o2) env2 st2) : exB G cl W (.ifs a p r :: ss) env st = .ok (.ret d o2) env2 st2 := b_rt (by
  rw [s_if h, hq]; exact hr)
theorem b_ifX {q : Bool} {k : Nat} {p r : List S} (h : ev G cl true a env st = .ok (.bl q, o) env1 st1) (hq : q = true) (hr : exB G cl W p env1 st1 = .ex k d env2 st2) : exB G cl W (.ifs a p r :: ss) env st = .ex k d env2 st2 := b_exc (by
  rw [s_if h, hq]; exact hr)
/-- a value that is returned is no name's -/
def notV : C → Bool
  | .v _ => false
  | _ => true
theorem b_ret (hn : notV c = true) (h : ev G cl false c env st = .ok (d, o) env1 st1) : exB G cl W (.ret c :: ss) env st = .ok (.ret d o) env1 st1 := b_rt (by
  have e : exS G cl W (.ret c) env st = (ev G cl false c env st).bind fun x env st => .ok (.ret x.1 x.2) env st := by
    cases c <;> first | rfl | cases hn
  rw [e, h]; rfl)
theorem b_retx {k : Nat} (hn : notV c = true) (h : ev G cl false c env st = .ex k d env1 st1) : exB G cl W (.ret c :: ss) env st = .ex k d env1 st1 := b_exc (by
  have e : exS G cl W (.ret c) env st = (ev G cl false c env st).bind fun x env st => .ok (.ret x.1 x.2) env st := by
    cases c <;> first | rfl | cases hn
  rw [e, h]; rfl)
theorem b_retv {i : Nat} (h : getS env i = some (d, o)) : exB G cl W (.ret (.v i) :: ss) env st = .ok (.ret d o) (env.set i none) st := b_rt (by
  conv => lhs; unfold exS
  rw [h])
abbrev fStep (G : Gl) (cl : Nat → List D → Sto → RC) (W : Nat) (t : T) (b : List S) : D → Env → Sto → R Flow := fun x env st => match setT t (x, false) env with
      | some env => exB G cl W b env st
      | none => .no
theorem s_for {t : T} {b : List S} {xs : List D} (hit : ev G cl false c env st = .ok (x, o) env1 st1) (hx : items x = some xs) : exS G cl W (.for t c b) env st = forGo (fStep G cl W t b) xs env1 st1 := by
  conv => lhs; unfold exS
  rw [hit]
  show (match items x with
    | some xs => _
    | none => R.no) = _
  rw [hx] <;> rfl
abbrev lStep (G : Gl) (cl : Nat → List D → Sto → RC) (elt : C) (tg : T) (cond : Option C) : D → Env → Sto → R (Option D) := fun x env st => match setT tg (x, false) env with
        | none => .no
        | some env => match cond with
          | none => (ev G cl false elt env st).calm.bind fun y env st => .ok (some y.1) (clear env tg.own) st
          | some c => (truth (ev G cl true c env st)).calm.bind fun b env st => if b then (ev G cl false elt env st).calm.bind fun y env st => .ok (some y.1) (clear env tg.own) st
            else .ok none (clear env tg.own) st
theorem e_lc {elt it : C} {tg : T} {cond : Option C} {xs ys : List D} (hit : ev G cl false it env st = .ok (x, o) env1 st1) (hx : items x = some xs) (hz : szOk xs.length = true)
    (hl : lcGo (lStep G cl elt tg cond) xs (clear env1 tg.own) st1 = .ok ys env2 st2) (he : restore env1 env2 tg.own = env3) : ev G cl bw (.lc elt tg it cond) env st = .ok (.lst ys, true) env3 st2 := by
  subst he
  conv => lhs; unfold ev
  rw [hit]
  show (match items x with
    | none => R.no
    | some xs => _) = _
  rw [hx]
  dsimp only
  have key : ∀ stp, stp = lStep G cl elt tg cond → ((lcGo stp xs (clear env1 tg.own) st1).bind fun ys env st => if szOk xs.length = true then R.ok (D.lst ys, true) (restore env1 env tg.own) st else .no) = .ok (.lst ys, true) (restore env1 env2 tg.own) st2 := by
    rintro _ rfl
    rw [hl]
    show (if szOk xs.length = true then _ else _) = _
    rw [if_pos hz]
  cases cond <;> exact key _ rfl
/-- a comprehension that changes nothing: each item by itself -/
theorem lc_map {elt : C} {tg : T} {env0 : Env} {f : D → D} {xs : List D} (hs : ∀ x ∈ xs, ∃ e1 o, setT tg (x, false) env0 = some e1 ∧ ev G cl false elt e1 st = .ok (f x, o) e1 st ∧ clear e1 tg.own = env0) : lcGo (lStep G cl elt tg none) xs env0 st = .ok (xs.map f) env0 st := by
  induction xs with
  | nil => rfl
  | cons x xs ih =>
    obtain ⟨e1, o, h1, h2, h3⟩ := hs x List.mem_cons_self
    show (lStep G cl elt tg none x env0 st).bind _ = _
    have : lStep G cl elt tg none x env0 st = .ok (some (f x)) env0 st := by
      unfold lStep
      rw [h1]
      dsimp only
      rw [h2]
      show R.ok _ (clear e1 tg.own) st = _
      rw [h3]
    rw [this]
    show (lcGo (lStep G cl elt tg none) xs env0 st).bind _ = _
    rw [ih fun y hy => hs y (List.mem_cons_of_mem _ hy)]; rfl
theorem lc_filter {elt k : C} {tg : T} {env0 : Env} {f : D → D} {p : D → Bool} {xs : List D} (hs : ∀ x ∈ xs, ∃ e1 o o2, setT tg (x, false) env0 = some e1 ∧ ev G cl true k e1 st = .ok (.bl (p x), o2) e1 st ∧ (p x = true → ev G cl false elt e1 st = .ok (f x, o) e1 st) ∧ clear e1 tg.own = env0) : lcGo (lStep G cl elt tg (some k)) xs env0 st = .ok ((xs.filter p).map f) env0 st := by
  induction xs with
  | nil => rfl
  | cons x xs ih =>
    obtain ⟨e1, o, o2, h1, h2, h4, h3⟩ := hs x List.mem_cons_self
    show (lStep G cl elt tg (some k) x env0 st).bind _ = _
    have : lStep G cl elt tg (some k) x env0 st = .ok (if p x then some (f x) else none) env0 st := by
      unfold lStep
      rw [h1]
      dsimp only
      rw [t_of h2]
      cases hp : p x with
      | false =>
        show R.ok _ (clear e1 tg.own) st = _
        rw [h3]; rfl
      | true =>
        show (ev G cl false elt e1 st).calm.bind _ = _
        rw [h4 hp]
        show R.ok _ (clear e1 tg.own) st = _
        rw [h3]; rfl
    rw [this]
    show (lcGo (lStep G cl elt tg (some k)) xs env0 st).bind _ = _
    rw [ih fun y hy => hs y (List.mem_cons_of_mem _ hy)]
    cases hp : p x <;> simp [R.bind, hp]
/-- a walk whose turns change one slot's value by a fold -/
theorem for_fold {t : T} {b : List S} {α : Type} {E : α → Env} {g : α → D → α} {xs : List D} {s : α} (hs : ∀ x ∈ xs, ∀ s, fStep G cl W t b x (E s) st = .ok .nx (E (g s x)) st) : forGo (fStep G cl W t b) xs (E s) st = .ok .nx (E (xs.foldl g s)) st := by
  induction xs generalizing s with
  | nil => rfl
  | cons x xs ih =>
    show (fStep G cl W t b x (E s) st).bind _ = _
    rw [hs x List.mem_cons_self s]
    exact ih fun y hy => hs y (List.mem_cons_of_mem _ hy)
end
theorem for_all {body : D → Env → Sto → R Flow} {P : D → Bool} {E : Slot → Env} {st : Sto} : ∀ {xs : List D} {s : Slot}, (∀ x ∈ xs, ∀ s, (P x = true → body x (E s) st = .ok .nx (E (some (x, false))) st) ∧ (P x = false → ∃ e, body x (E s) st = .ok (.ret (.bl false) false) e st)) →
    (xs.all P = true → ∃ s', forGo body xs (E s) st = .ok .nx (E s') st) ∧ (xs.all P = false → ∃ e, forGo body xs (E s) st = .ok (.ret (.bl false) false) e st)
  | [], s, _ => ⟨fun _ => ⟨s, rfl⟩, fun h => by cases h⟩
  | x :: xs, s, h => by
    obtain ⟨h1, h2⟩ := h x List.mem_cons_self s
    obtain ⟨i1, i2⟩ := for_all (xs := xs) (s := some (x, false)) (fun y hy => h y (List.mem_cons_of_mem _ hy))
    rw [List.all_cons]
    cases hp : P x with
    | false =>
      refine ⟨(fun z => by cases z), fun _ => ?_⟩
      obtain ⟨e, he⟩ := h2 hp
      refine ⟨e, ?_⟩
      show (body x (E s) st).bind _ = _
      rw [he]; rfl
    | true =>
      have hb := h1 hp
      rw [Bool.true_and]
      refine ⟨fun z => ?_, fun z => ?_⟩
      · obtain ⟨s', h⟩ := i1 z
        refine ⟨s', ?_⟩
        show (body x (E s) st).bind _ = _
        rw [hb]; exact h
      · obtain ⟨s', h⟩ := i2 z
        refine ⟨s', ?_⟩
        show (body x (E s) st).bind _ = _
        rw [hb]; exact h
/-- what a call gives -/
def fnl : R Flow → RC
  | .no => .no
  | .ok (.ret d o) _ st => .ok d o st
  | .ok .nx _ st => .ok .non false st
  | .ok _ _ _ => .no
  | .ex c x _ st => .ex c x st
theorem call_fn {G : Gl} {fns : List Fn} {W n f : Nat} {fn : Fn} {ds : List D} {st : Sto} (h : fns[f]? = some fn) (hl : ds.length = fn.np) : callN G fns W (n + 1) f ds st = fnl (exB G (callN G fns W n) W fn.body (ds.map (fun d => some (d, false)) ++ List.replicate (fn.ns - fn.np) none) st) := by
  show callN _ _ _ _ _ _ _ = _
  conv => lhs; unfold callN
  rw [h]
  dsimp only
  rw [if_pos hl]
  generalize exB G (callN G fns W n) W fn.body (ds.map (fun d => some (d, false)) ++ List.replicate (fn.ns - fn.np) none) st = r
  cases r with
  | no => rfl
  | ok a e s => cases a <;> rfl
  | ex c x e s => rfl
/-- a call whose block ends in a return -/
theorem call_ret {G : Gl} {fns : List Fn} {W n f : Nat} {fn : Fn} {ds : List D} {st st1 : Sto} {env1 : Env} {d : D} {o : Bool} (h : fns[f]? = some fn) (hl : ds.length = fn.np) (hb : exB G (callN G fns W n) W fn.body (ds.map (fun d => some (d, false)) ++ List.replicate (fn.ns - fn.np) none) st = .ok (.ret d o) env1 st1) : callN G fns W (n + 1) f ds st = .ok d o st1 := by
  rw [call_fn h hl, hb]; rfl
theorem call_nx {G : Gl} {fns : List Fn} {W n f : Nat} {fn : Fn} {ds : List D} {st st1 : Sto} {env1 : Env} (h : fns[f]? = some fn) (hl : ds.length = fn.np) (hb : exB G (callN G fns W n) W fn.body (ds.map (fun d => some (d, false)) ++ List.replicate (fn.ns - fn.np) none) st = .ok .nx env1 st1) : callN G fns W (n + 1) f ds st = .ok .non false st1 := by
  rw [call_fn h hl, hb]; rfl
theorem call_exc {G : Gl} {fns : List Fn} {W n f k : Nat} {fn : Fn} {ds : List D} {st st1 : Sto} {env1 : Env} {d : D} (h : fns[f]? = some fn) (hl : ds.length = fn.np) (hb : exB G (callN G fns W n) W fn.body (ds.map (fun d => some (d, false)) ++ List.replicate (fn.ns - fn.np) none) st = .ex k d env1 st1) : callN G fns W (n + 1) f ds st = .ex k d st1 := by
  rw [call_fn h hl, hb]; rfl
end Pi.EvR

set_option maxRecDepth 100000
set_option maxHeartbeats 0
/-! L1: the plain law of k01: functions. -/
namespace K1
open PySem Pi
abbrev call (n : Nat) : Nat → List D → Pi.Sto → RC := callN cd.G cd.fns 0 n
/-- what a call gives -/
def fin : R Pi.Flow → RC
  | .no => .no
  | .ok (.ret d o) _ st => .ok d o st
  | .ok .nx _ st => .ok .non false st
  | .ok _ _ _ => .no
  | .ex c x _ st => .ex c x st
theorem call_at {n f : Nat} {fn : Fn} {ds : List D} {st : Pi.Sto} (h : cd.fns[f]? = some fn) (hl : ds.length = fn.np) : call (n + 1) f ds st = fin (exB cd.G (call n) 0 fn.body (ds.map (fun d => some (d, false)) ++ List.replicate (fn.ns - fn.np) none) st) := by
  show callN _ _ _ _ _ _ _ = _
  conv => lhs; unfold callN
  rw [h]
  dsimp only
  rw [if_pos hl]
  generalize exB cd.G (call n) 0 fn.body (ds.map (fun d => some (d, false)) ++ List.replicate (fn.ns - fn.np) none) st = r
  cases r with
  | no => rfl
  | ok a e s => cases a <;> rfl
  | ex c x e s => rfl
def within (v : D) (lo hi : Int) : Bool := match v with
  | .int i => decide (lo ≤ i) && decide (i ≤ hi)
  | _ => false
theorem f0 {n : Nat} {v : D} {lo hi : Int} {st : Pi.Sto} (hv : v.pl = true) : call (n + 1) 0 [v, .int lo, .int hi] st = .ok (.bl (within v lo hi)) false st := by
  rw [call_at (fn := c_is_within) rfl rfl]
  cases v with
  | int i =>
    have e : exB cd.G (call n) 0 c_is_within.body ([D.int i, .int lo, .int hi].map (fun d => some (d, false)) ++ List.replicate (c_is_within.ns - c_is_within.np) none) st = (match (some (!decide (i < lo)) : Option Bool) with
      | some true => R.ok (Pi.Flow.ret (.bl (!decide (hi < i))) false) [some (D.int i, false), some (D.int lo, false), some (D.int hi, false)] st
      | some false => R.ok (Pi.Flow.ret (.bl false) false) [some (D.int i, false), some (D.int lo, false), some (D.int hi, false)] st
      | none => R.no) := by
      simp [c_is_within, exB, exS, ev, evs, R.bind, getS, lift, bifn, isInst, dbl, cmpop, D.pl, D.dep, dlt, alk]
      by_cases h : i < lo <;> simp [h]
    rw [e]
    unfold within
    by_cases h : i < lo
    · have h2 : ¬ lo ≤ i := by omega
      simp [h, h2, fin]
    · have h2 : lo ≤ i := by omega
      simp [h, h2, fin]
      by_cases h3 : hi < i
      · have : ¬ i ≤ hi := by omega
        simp [h3, this]
      · have : i ≤ hi := by omega
        simp [h3, this]
  | bl i => rfl
  | non => rfl
  | str => rfl
  | tup => rfl
  | lst => rfl
  | _ => cases hv
theorem f25 {n : Nat} {v : D} {lo hi : Int} {st : Pi.Sto} (hv : v.pl = true) : call (n + 1) 25 [v, .int lo, .int hi] st = .ok (.bl (within v lo hi)) false st := by
  rw [← f0 hv (n := n), call_at (fn := c_law_whole) rfl rfl, call_at (fn := c_is_within) rfl rfl]
  rfl
theorem ix20 : L2.ixN 2 0 = some 0 := by rfl
theorem ix21 : L2.ixN 2 1 = some 1 := by rfl
/-! ### drawing -/
/-- the l-th thing of the store is a source -/
def Src (st : Pi.Sto) (l : Nat) : Prop := ∃ a b : Int, st[l]? = some (.lst [.int a, .int b]) ∧ 0 ≤ a ∧ 0 ≤ b ∧ b < 4294967296
def Same (st st' : Pi.Sto) : Prop := st'.length = st.length
theorem f19 {n l : Nat} {many : Int} {st : Pi.Sto} (hs : Src st l) (h1 : 0 < many) (h2 : many < 1073741824) : ∃ (r : Int) (st' : Pi.Sto), call (n + 1) 19 [.ref l, .int many] st = .ok (.int r) false st' ∧ 0 ≤ r ∧ r < many ∧ Src st' l ∧ Same st st' := by
  obtain ⟨a, b, hl, ha, hb, hb2⟩ := hs
  have hlen : l < st.length := (List.getElem?_eq_some_iff.mp hl).1
  have E : ∀ x : Int, D.pl (.int x) = true := fun _ => rfl
  rw [call_at (fn := c_law_pick) rfl rfl]
  by_cases h : 0 < a
  · refine ⟨a % many, st.set l (.lst [.int (a / many), .int b]), ?_, Int.emod_nonneg _ (by omega), Int.emod_lt_of_pos _ h1, ⟨a / many, b, by simp [hlen], Int.ediv_nonneg ha (by omega), hb, hb2⟩, by simp [Same]⟩
    simp [c_law_pick, exB, exS, ev, evs, R.bind, getS, lift, bifn, cmpop, D.pl, D.dep, dlt, alk, fin, ixF, hl, index, atIx, L2.atI, ix20, ix21, truth, dbl, h, h1, h2, binop, setT, isL, setAt]
  · refine ⟨(((b * 44497 + 9973) % 2147483647) * ((b * 44497 + 9973) % 2147483647)) % 2147483399 / 11 % many, st.set l (.lst [.int a, .int ((b * 44497 + 9973) % 2147483647)]), ?_, Int.emod_nonneg _ (by omega), Int.emod_lt_of_pos _ h1, ⟨a, _, by simp [hlen], ha, Int.emod_nonneg (b * 44497 + 9973) (b := 2147483647) (by omega), by
      have := Int.emod_lt_of_pos (b * 44497 + 9973) (b := 2147483647) (by omega)
      omega⟩, by simp [Same]⟩
    have b1 : bigOk ((b * 44497 + 9973) % 2147483647) = true := by
      have := Int.emod_lt_of_pos (b * 44497 + 9973) (b := 2147483647) (by omega)
      have := Int.emod_nonneg (b * 44497 + 9973) (b := 2147483647) (by omega)
      simp [bigOk]
      constructor <;> omega
    have hset : (st.set l (.lst [.int a, .int ((b * 44497 + 9973) % 2147483647)]))[l]? = some (.lst [.int a, .int ((b * 44497 + 9973) % 2147483647)]) := by rw [List.getElem?_set_self hlen]
    have b2 : bigOk 44497 = true := by decide
    simp [c_law_pick, exB, exS, ev, evs, R.bind, getS, lift, bifn, cmpop, D.pl, D.dep, dlt, alk, fin, ixF, hl, index, atIx, L2.atI, ix20, ix21, truth, dbl, h, h1, h2, binop, setT, isL, setAt, b1, b2, hset]
theorem ixN_of {n : Nat} {i : Int} (h0 : 0 ≤ i) (h1 : i < n) : L2.ixN n i = some i.toNat := by
  unfold L2.ixN
  simp [h0, h1]
  try omega
theorem atIx_of {xs : List D} {i : Int} (h0 : 0 ≤ i) (h1 : i < xs.length) : atIx xs i = xs[i.toNat]? := by
  unfold atIx L2.atI
  rw [ixN_of h0 h1]; rfl
theorem atIx_mem {xs : List D} {i : Int} (h0 : 0 ≤ i) (h1 : i < xs.length) : ∃ d ∈ xs, atIx xs i = some d := by
  rw [atIx_of h0 h1]
  have : i.toNat < xs.length := by omega
  exact ⟨xs[i.toNat], List.getElem_mem this, List.getElem?_eq_getElem this⟩
theorem f20 {n l : Nat} {xs : List D} {st : Pi.Sto} (hs : Src st l) (h1 : xs ≠ []) (h2 : xs.length < 1000) : ∃ (d : D) (st' : Pi.Sto), call (n + 2) 20 [.ref l, .lst xs] st = .ok d false st' ∧ d ∈ xs ∧ Src st' l ∧ Same st st' := by
  have hp : 0 < xs.length := List.length_pos_iff.mpr h1
  obtain ⟨r, st', e, r0, r1, s1, s2⟩ := f19 (n := n) hs (many := xs.length) (by omega) (by omega)
  obtain ⟨d, hd, ed⟩ := atIx_mem r0 r1
  refine ⟨d, st', ?_, hd, s1, s2⟩
  rw [call_at (fn := c_law_chosen) rfl rfl]
  simp [c_law_chosen, exB, exS, ev, evs, R.bind, getS, lift, bifn, fin, ixF, e, ofCall, index, ed]
end K1

set_option maxRecDepth 100000
set_option maxHeartbeats 0
/-! L2x: drawn values. -/
namespace K1
open PySem Pi
theorem lcGo_inv {step : D → Pi.Env → Pi.Sto → R (Option D)} {I : Pi.Sto → Prop} {P : D → Prop} {env : Pi.Env} : ∀ {xs : List D} {st : Pi.Sto}, I st → (∀ x ∈ xs, ∀ st, I st → ∃ y st', step x env st = .ok (some y) env st' ∧ I st' ∧ P y) →
    ∃ ys st', lcGo step xs env st = .ok ys env st' ∧ I st' ∧ ys.length = xs.length ∧ ∀ y ∈ ys, P y
  | [], st, h, _ => ⟨[], st, rfl, h, rfl, fun _ z => by cases z⟩
  | x :: xs, st, h, hs => by
    obtain ⟨y, st1, e1, i1, p1⟩ := hs x List.mem_cons_self st h
    obtain ⟨ys, st2, e2, i2, l2, p2⟩ := lcGo_inv (xs := xs) i1 fun x hx => hs x (List.mem_cons_of_mem _ hx)
    refine ⟨y :: ys, st2, ?_, i2, by simp [l2], fun z hz => ?_⟩
    · show (step x env st).bind _ = _
      rw [e1]
      show (lcGo step xs env st1).bind _ = _
      rw [e2]; rfl
    · rcases List.mem_cons.mp hz with rfl | hz
      · exact p1
      · exact p2 z hz
theorem lcGo_pure {step : D → Pi.Env → Pi.Sto → R (Option D)} {f : D → Option D} {env : Pi.Env} {st : Pi.Sto} : ∀ {xs : List D}, (∀ x ∈ xs, step x env st = .ok (f x) env st) → lcGo step xs env st = .ok (xs.filterMap f) env st
  | [], _ => rfl
  | x :: xs, hs => by
    show (step x env st).bind _ = _
    rw [hs x List.mem_cons_self]
    show (lcGo step xs env st).bind _ = _
    rw [lcGo_pure (xs := xs) fun x hx => hs x (List.mem_cons_of_mem _ hx)]
    show R.ok _ env st = _
    cases e : f x <;> simp [List.filterMap_cons, e]
theorem forGo_inv {body : D → Pi.Env → Pi.Sto → R Pi.Flow} {I : List D → Pi.Env → Pi.Sto → Prop} : ∀ {xs : List D} {env : Pi.Env} {st : Pi.Sto}, I xs env st → (∀ x xs env st, I (x :: xs) env st → ∃ env' st', (body x env st = .ok .nx env' st' ∨ body x env st = .ok .ct env' st') ∧ I xs env' st') →
    ∃ env' st', forGo body xs env st = .ok .nx env' st' ∧ I [] env' st'
  | [], env, st, h, _ => ⟨env, st, rfl, h⟩
  | x :: xs, env, st, h, hs => by
    obtain ⟨e1, s1, hb, i1⟩ := hs x xs env st h
    obtain ⟨e2, s2, hf, i2⟩ := forGo_inv (xs := xs) i1 hs
    refine ⟨e2, s2, ?_, i2⟩
    show (body x env st).bind _ = _
    rcases hb with hb | hb <;> rw [hb] <;> exact hf
mutual
/-- the widest tuple or list -/
def wid : D → Nat
  | .tup xs | .lst xs => max xs.length (wids xs)
  | _ => 0
def wids : List D → Nat
  | [] => 0
  | x :: xs => max (wid x) (wids xs)
end
/-- plain, not wide, not deep -/
structure Vk (w k : Nat) (d : D) : Prop where
  pl : d.pl = true
  wd : wid d ≤ w
  dp : d.dep ≤ k
theorem pls_all : ∀ {xs : List D}, (∀ x ∈ xs, x.pl = true) → D.pls xs = true
  | [], _ => rfl
  | x :: xs, h => by
    show (D.pl x && D.pls xs) = true
    rw [h x List.mem_cons_self, pls_all fun y hy => h y (List.mem_cons_of_mem _ hy)]; rfl
theorem wids_le {w : Nat} : ∀ {xs : List D}, (∀ x ∈ xs, wid x ≤ w) → wids xs ≤ w
  | [], _ => Nat.zero_le _
  | x :: xs, h => by
    show max (wid x) (wids xs) ≤ w
    have := h x List.mem_cons_self
    have := wids_le (xs := xs) fun y hy => h y (List.mem_cons_of_mem _ hy)
    omega
theorem deps_le {w : Nat} : ∀ {xs : List D}, (∀ x ∈ xs, x.dep ≤ w) → D.deps xs ≤ w
  | [], _ => Nat.zero_le _
  | x :: xs, h => by
    show max (D.dep x) (D.deps xs) ≤ w
    have := h x List.mem_cons_self
    have := deps_le (xs := xs) fun y hy => h y (List.mem_cons_of_mem _ hy)
    omega
theorem Vk.tup {w k : Nat} {xs : List D} (h : ∀ x ∈ xs, Vk w k x) (hl : xs.length ≤ w) : Vk w (k + 1) (.tup xs) := ⟨pls_all fun x hx => (h x hx).pl, by
  show max xs.length (wids xs) ≤ w
  have := wids_le fun x hx => (h x hx).wd
  omega, by
  show D.deps xs + 1 ≤ k + 1
  have := deps_le fun x hx => (h x hx).dp
  omega⟩
theorem Vk.lst {w k : Nat} {xs : List D} (h : ∀ x ∈ xs, Vk w k x) (hl : xs.length ≤ w) : Vk w (k + 1) (.lst xs) := ⟨pls_all fun x hx => (h x hx).pl, by
  show max xs.length (wids xs) ≤ w
  have := wids_le fun x hx => (h x hx).wd
  omega, by
  show D.deps xs + 1 ≤ k + 1
  have := deps_le fun x hx => (h x hx).dp
  omega⟩
theorem Vk.mono {w k w' k' : Nat} {d : D} (h : Vk w k d) (hw : w ≤ w') (hk : k ≤ k') : Vk w' k' d := ⟨h.pl, Nat.le_trans h.wd hw, Nat.le_trans h.dp hk⟩
section
variable {cl : Nat → List D → Pi.Sto → RC} {W : Nat} {s : S} {ss : List S} {env env1 env2 : Pi.Env} {st st1 : Pi.Sto}
theorem xb_nx (h : exS cd.G cl W s env st = .ok .nx env1 st1) : exB cd.G cl W (s :: ss) env st = exB cd.G cl W ss env1 st1 := by
  conv => lhs; unfold exB
  rw [h]; rfl
theorem xb_ret {d : D} {o : Bool} (h : exS cd.G cl W s env st = .ok (.ret d o) env1 st1) : exB cd.G cl W (s :: ss) env st = .ok (.ret d o) env1 st1 := by
  conv => lhs; unfold exB
  rw [h]; rfl
theorem xb_ex {c : Nat} {d : D} (h : exS cd.G cl W s env st = .ex c d env1 st1) : exB cd.G cl W (s :: ss) env st = .ex c d env1 st1 := by
  conv => lhs; unfold exB
  rw [h]; rfl
theorem xs_asg {t : T} {c : C} {x : D × Bool} (h : ev cd.G cl false c env st = .ok x env1 st1) (hs : setT t x env1 = some env2) : exS cd.G cl W (.asg t c) env st = .ok .nx env2 st1 := by
  conv => lhs; unfold exS
  rw [h]
  show (match setT t x env1 with | some env => R.ok Pi.Flow.nx env st1 | none => R.no) = _
  rw [hs]
end
def simpleSo : List D := [.non, .bl true, .bl false, .int 0, .int 1, .int 2, .int 3, .int (-1), .str (Str.ofString ""), .str (Str.ofString "left"), .tup [], .lst [], .tup [.int 0, .int 0], .tup [.tup [.int 0, .int 0]], .tup [.tup [], .tup []]]
theorem simple_vk : ∀ d ∈ simpleSo, Vk 4 2 d := by
  have h : (simpleSo.all fun d => d.pl && decide (wid d ≤ 4) && decide (d.dep ≤ 2)) = true := by decide
  intro d hd
  have := List.all_eq_true.mp h d hd
  simp only [Bool.and_eq_true, decide_eq_true_eq] at this
  exact ⟨this.1.1, this.1.2, this.2⟩
theorem rangeD_len : ∀ (n : Nat) (lo : Int), (rangeD lo n).length = n
  | 0, _ => rfl
  | n + 1, lo => by show (rangeD (lo + 1) n).length + 1 = n + 1; rw [rangeD_len n]
abbrev lcStep (cl : Nat → List D → Pi.Sto → RC) (elt : C) (tg : T) (cond : Option C) : D → Pi.Env → Pi.Sto → R (Option D) := fun x env st => match setT tg (x, false) env with
        | none => .no
        | some env => match cond with
          | none => (ev cd.G cl false elt env st).calm.bind fun y env st => .ok (some y.1) (clear env tg.own) st
          | some c => (truth (ev cd.G cl true c env st)).calm.bind fun b env st => if b then (ev cd.G cl false elt env st).calm.bind fun y env st => .ok (some y.1) (clear env tg.own) st
            else .ok none (clear env tg.own) st
theorem ev_lc {cl : Nat → List D → Pi.Sto → RC} {bw o : Bool} {elt it : C} {tg : T} {cond : Option C} {env env1 env2 : Pi.Env} {st st1 st2 : Pi.Sto} {x : D} {xs ys : List D} (hit : ev cd.G cl false it env st = .ok (x, o) env1 st1) (hx : items x = some xs) (hz : szOk xs.length = true)
    (hl : lcGo (lcStep cl elt tg cond) xs (clear env1 tg.own) st1 = .ok ys env2 st2) : ev cd.G cl bw (.lc elt tg it cond) env st = .ok (.lst ys, true) (restore env1 env2 tg.own) st2 := by
  conv => lhs; unfold ev
  rw [hit]
  show (match items x with
    | none => R.no
    | some xs => _) = _
  rw [hx]
  dsimp only
  have key : ∀ stp, stp = lcStep cl elt tg cond → ((lcGo stp xs (clear env1 tg.own) st1).bind fun ys env st => if szOk xs.length = true then R.ok (D.lst ys, true) (restore env1 env tg.own) st else .no) = .ok (.lst ys, true) (restore env1 env2 tg.own) st2 := by
    rintro _ rfl
    rw [hl]
    show (if szOk xs.length = true then _ else _) = _
    rw [if_pos hz]
  cases cond <;> exact key _ rfl
theorem f23 {l : Nat} : ∀ (deep m : Nat) (st : Pi.Sto), deep + 3 ≤ m → deep ≤ 20 → Src st l → ∃ (d : D) (o : Bool) (st' : Pi.Sto), call m 23 [.ref l, .int deep] st = .ok d o st' ∧ Vk 4 (deep + 2) d ∧ Src st' l ∧ Same st st'
  | deep, m, st, hm, hd, hs => by
    obtain ⟨k, rfl⟩ : ∃ k, m = k + 3 := ⟨m - 3, by omega⟩
    obtain ⟨r, st1, e1, r0, r1, s1, q1⟩ := f19 (n := k + 1) hs (many := 8) (by omega) (by omega)
    obtain ⟨dc, st2, e2, hdc, s2, q2⟩ := f20 (n := k) s1 (xs := simpleSo) (by simp [simpleSo]) (by simp [simpleSo])
    have e1 : callN cd.G cd.fns 0 (k + 2) 19 [.ref l, .int 8] st = _ := e1
    have e2 : callN cd.G cd.fns 0 (k + 2) 20 [.ref l, .lst simpleSo] st1 = _ := e2
    rw [call_at (fn := c_law_any_value) rfl rfl]
    by_cases h : (deep : Int) < 1 ∨ r < 5
    · refine ⟨dc, false, st2, ?_, ?_, s2, q2.trans q1⟩
      · unfold simpleSo at e2
        rcases h with h | h <;> by_cases h' : (deep : Int) < 1 <;>
        simp [c_law_any_value, exB, exS, ev, evs, R.bind, getS, lift, bifn, fin, ofCall, setT, truth, cmpop, D.pl, D.dep, alk, dlt, e1, h, h', dbl, dnum, e2, szOk]
      · exact (simple_vk dc hdc).mono (Nat.le_refl _) (by omega)
    · have h1 : ¬ (deep : Int) < 1 := fun z => h (.inl z)
      have h2 : ¬ r < 5 := fun z => h (.inr z)
      obtain ⟨dp, rfl⟩ : ∃ dp, deep = dp + 1 := ⟨deep - 1, by omega⟩
      obtain ⟨r2, st3, e3, r20, r21, s3, q3⟩ := f19 (n := k + 1) s1 (many := 5) (by omega) (by omega)
      have e3 : callN cd.G cd.fns 0 (k + 2) 19 [.ref l, .int 5] st1 = _ := e3
      let env : Pi.Env := [some (.ref l, false), some (.int ((dp + 1 : Nat) : Int), false), some (.lst simpleSo, true), some (.int r, false), none, none]
      obtain ⟨ys, st4, e4, ⟨s4, q4⟩, l4, p4⟩ := lcGo_inv (step := lcStep (call (k + 2)) (.call 23 [.v 0, .bin .sub (.v 1) (.k (.int 1))]) (.n 5) none) (I := fun s => Src s l ∧ Same st3 s) (P := Vk 4 (dp + 2)) (env := env) (xs := rangeD 0 r2.toNat) (st := st3) ⟨s3, rfl⟩ (by
        rintro x hx s ⟨i1, i2⟩
        obtain ⟨d, o, s', e5, v5, s5, q5⟩ := f23 dp (k + 2) s (by omega) (by omega) i1
        have e5 : callN cd.G cd.fns 0 (k + 2) 23 [.ref l, .int dp] s = _ := e5
        refine ⟨d, s', ?_, ⟨s5, q5.trans i2⟩, v5⟩
        have e6 : (((dp + 1 : Nat) : Int) - 1) = dp := by omega
        simp [lcStep, setT, env, ev, evs, R.bind, getS, lift, binop, ofCall, e6, e5, R.calm, clear, T.own])
      have hlc : ev cd.G (call (k + 2)) false (.lc (.call 23 [.v 0, .bin .sub (.v 1) (.k (.int 1))]) (.n 5) (.rng [.call 19 [.v 0, .k (.int 5)]]) none) env st1 = .ok (.lst ys, true) env st4 := by
        refine (ev_lc (x := .lst (rangeD 0 r2.toNat)) (o := false) (env1 := env) (st1 := st3) ?_ rfl ?_ e4).trans rfl
        · have : small r2 = true := by
            simp [small]
            constructor <;> omega
          simp [env, ev, evs, R.bind, getS, ofCall, e3, lift, rangeOf, this]
        · rw [rangeD_len]
          simp [szOk]
          omega
      have lenY : ys.length ≤ 4 := by
        rw [l4, rangeD_len]; omega
      by_cases hw : r = 5
      · refine ⟨.lst ys, false, st4, ?_, Vk.lst p4 lenY, s4, q4.trans (q3.trans q1)⟩
        show fin (exB cd.G (call (k + 2)) 0 c_law_any_value.body [some (.ref l, false), some (.int ((dp + 1 : Nat) : Int), false), none, none, none, none] st) = _
        unfold c_law_any_value
        dsimp only
        rw [xb_nx (env1 := [some (.ref l, false), some (.int ((dp + 1 : Nat) : Int), false), some (.lst simpleSo, true), none, none, none]) (st1 := st) (by simp [exS, ev, evs, R.bind, lift, setT, dnum, szOk, simpleSo])]
        rw [xb_nx (env1 := env) (st1 := st1) (by simp [exS, ev, evs, R.bind, lift, setT, getS, ofCall, e1, env])]
        rw [xb_nx (env1 := env) (st1 := st1) (by simp [exS, exB, ev, evs, R.bind, lift, setT, getS, ofCall, truth, cmpop, D.pl, D.dep, alk, dlt, dbl, h2, env, (show ¬ ((dp : Int) + 1 < 1) by omega)])]
        rw [xb_nx (env1 := [some (.ref l, false), some (.int ((dp + 1 : Nat) : Int), false), some (.lst simpleSo, true), some (.int r, false), some (.lst ys, true), none]) (st1 := st4) (xs_asg hlc rfl)]
        simp [exB, exS, ev, evs, R.bind, lift, getS, cmpop, D.pl, D.dep, deq, hw, fin, freeze, bifn]
      · refine ⟨.tup ys, false, st4, ?_, Vk.tup p4 lenY, s4, q4.trans (q3.trans q1)⟩
        show fin (exB cd.G (call (k + 2)) 0 c_law_any_value.body [some (.ref l, false), some (.int ((dp + 1 : Nat) : Int), false), none, none, none, none] st) = _
        unfold c_law_any_value
        dsimp only
        rw [xb_nx (env1 := [some (.ref l, false), some (.int ((dp + 1 : Nat) : Int), false), some (.lst simpleSo, true), none, none, none]) (st1 := st) (by simp [exS, ev, evs, R.bind, lift, setT, dnum, szOk, simpleSo])]
        rw [xb_nx (env1 := env) (st1 := st1) (by simp [exS, ev, evs, R.bind, lift, setT, getS, ofCall, e1, env])]
        rw [xb_nx (env1 := env) (st1 := st1) (by simp [exS, exB, ev, evs, R.bind, lift, setT, getS, ofCall, truth, cmpop, D.pl, D.dep, alk, dlt, dbl, h2, env, (show ¬ ((dp : Int) + 1 < 1) by omega)])]
        rw [xb_nx (env1 := [some (.ref l, false), some (.int ((dp + 1 : Nat) : Int), false), some (.lst simpleSo, true), some (.int r, false), some (.lst ys, true), none]) (st1 := st4) (xs_asg hlc rfl)]
        have hw' : (r == 5) = false := by simpa using hw
        simp [exB, exS, ev, evs, R.bind, lift, getS, cmpop, D.pl, D.dep, deq, hw', fin, freeze, bifn]
end K1

set_option maxRecDepth 100000
set_option maxHeartbeats 0
/-! L3: variants. -/
namespace K1
open PySem Pi
theorem sIx_of {n d : Nat} {i : Int} (h : 0 ≤ i) : HT.sIx n d (some i) = min i.toNat n := by
  show (if i < 0 then (i + (n : Int)).toNat else min i.toNat n) = _
  rw [if_neg (by omega)]
theorem cut_lo {xs : List D} {i : Int} (h : 0 ≤ i) : cutBy xs none (some i) = xs.take i.toNat := by
  unfold cutBy
  rw [sIx_of h]
  show (xs.drop 0).take (min i.toNat xs.length - 0) = _
  simp [List.take_eq_take_iff]
theorem cut_hi {xs : List D} {i : Int} (h : 0 ≤ i) : cutBy xs (some i) none = xs.drop i.toNat := by
  unfold cutBy
  rw [sIx_of h]
  show (xs.drop (min i.toNat xs.length)).take (xs.length - min i.toNat xs.length) = _
  by_cases hh : i.toNat ≤ xs.length
  · rw [Nat.min_eq_left hh]
    rw [List.take_of_length_le (by simp)]
  · rw [Nat.min_eq_right (by omega)]
    simp
    omega
theorem cut_mid {xs : List D} {i j : Int} (h : 0 ≤ i) (hj : i ≤ j) : cutBy xs (some i) (some j) = (xs.drop i.toNat).take (j.toNat - i.toNat) := by
  unfold cutBy
  rw [sIx_of h, sIx_of (Int.le_trans h hj)]
  by_cases hh : i.toNat ≤ xs.length
  · rw [Nat.min_eq_left hh]
    by_cases h2 : j.toNat ≤ xs.length
    · rw [Nat.min_eq_left h2]
    · rw [Nat.min_eq_right (by omega), List.take_of_length_le (by simp), List.take_of_length_le (by simp; omega)]
  · dsimp only
    rw [Nat.min_eq_right (show xs.length ≤ i.toNat by omega), List.drop_eq_nil_of_le (Nat.le_refl _), List.drop_eq_nil_of_le (show xs.length ≤ i.toNat by omega)]
    simp
/-- a variant's form -/
def Tl (d : D) : Prop := (∃ ys, d = .tup ys) ∨ ∃ ys, d = .lst ys
theorem Vk.inv {w k : Nat} {xs : List D} (h : Vk w k (.tup xs)) : ∃ j, k = j + 1 ∧ xs.length ≤ w ∧ ∀ x ∈ xs, Vk w j x := by
  obtain ⟨h1, h2, h3⟩ := h
  have h1 : D.pls xs = true := h1
  have h2 : max xs.length (wids xs) ≤ w := h2
  have h3 : D.deps xs + 1 ≤ k := h3
  refine ⟨k - 1, by omega, by omega, fun x hx => ?_⟩
  have key : ∀ {xs : List D}, x ∈ xs → D.pls xs = true → wids xs ≤ w → D.deps xs ≤ k - 1 → Vk w (k - 1) x := by
    intro xs
    induction xs with
    | nil => intro h; cases h
    | cons y ys ih =>
      intro hx a b c
      have a : (D.pl y && D.pls ys) = true := a
      rw [Bool.and_eq_true] at a
      have b : max (wid y) (wids ys) ≤ w := b
      have c : max (D.dep y) (D.deps ys) ≤ k - 1 := c
      rcases List.mem_cons.mp hx with rfl | hx
      · exact ⟨a.1, by omega, by omega⟩
      · exact ih hx a.2 (by omega) (by omega)
  exact key hx h1 (by omega) (by omega)
theorem mk_vk {w k : Nat} {ys : List D} (h : ∀ y ∈ ys, Vk w k y) (hl : ys.length ≤ w) : Vk w (k + 1) (.tup ys) := Vk.tup h hl
def nearL : List D := [.non, .bl true, .bl false, .int 0, .int 1, .int 2, .int 3, .int 4, .str (Str.ofString ""), .tup [], .tup [.int 0, .int 0], .tup [.tup [.int 0, .int 0]], .tup [.tup [.int 1, .int 0], .tup [.int 0, .int 0]]]
theorem near_vk : ∀ d ∈ nearL, Vk 4 2 d := by
  have h : (nearL.all fun d => d.pl && decide (wid d ≤ 4) && decide (d.dep ≤ 2)) = true := by decide
  intro d hd
  have := List.all_eq_true.mp h d hd
  simp only [Bool.and_eq_true, decide_eq_true_eq] at this
  exact ⟨this.1.1, this.1.2, this.2⟩
end K1

set_option maxRecDepth 100000
set_option maxHeartbeats 0
/-! L4: variants. -/
namespace K1
open PySem Pi
theorem deqs_nil {xs : List D} (h : xs ≠ []) : deqs xs [] = false := by
  cases xs with
  | nil => exact absurd rfl h
  | cons x xs => rfl
def isTup : D → Bool
  | .tup _ => true
  | _ => false
theorem isTup_ok {x : D} (h : x.pl = true) : isInst cd.G x (.ty "tuple") = some (isTup x) := by
  cases x <;> first | rfl | cases h
theorem xs_ifs {cl : Nat → List D → Pi.Sto → RC} {W : Nat} {t : C} {a b : List S} {env env1 : Pi.Env} {st st1 : Pi.Sto} {c : Bool} (h : truth (ev cd.G cl true t env st) = .ok c env1 st1) : exS cd.G cl W (.ifs t a b) env st = if c then exB cd.G cl W a env1 st1 else exB cd.G cl W b env1 st1 := by
  conv => lhs; unfold exS
  rw [h]; rfl
theorem xb_if_no {cl : Nat → List D → Pi.Sto → RC} {W : Nat} {t : C} {a : List S} {ss : List S} {env env1 : Pi.Env} {st st1 : Pi.Sto} {c : Bool} (h : truth (ev cd.G cl true t env st) = .ok c env1 st1) (hc : c = false) : exB cd.G cl W (.ifs t a [] :: ss) env st = exB cd.G cl W ss env1 st1 := by
  subst hc
  exact xb_nx (xs_ifs h)
theorem xb_if_ret {cl : Nat → List D → Pi.Sto → RC} {W : Nat} {t : C} {a b : List S} {ss : List S} {env env1 env2 : Pi.Env} {st st1 st2 : Pi.Sto} {c : Bool} {d : D} {o : Bool} (h : truth (ev cd.G cl true t env st) = .ok c env1 st1) (hc : c = true) (hr : exB cd.G cl W a env1 st1 = .ok (.ret d o) env2 st2) : exB cd.G cl W (.ifs t a b :: ss) env st = .ok (.ret d o) env2 st2 := by
  subst hc
  exact xb_ret ((xs_ifs h).trans hr)
theorem mem_take_drop {xs : List D} {n m : Nat} {z : D} (h : z ∈ xs.take n ++ xs.drop m) : z ∈ xs := by
  rcases List.mem_append.mp h with h | h
  · exact List.mem_of_mem_take h
  · exact List.mem_of_mem_drop h
theorem f24 {l w : Nat} (hw : 4 ≤ w) (hw2 : w ≤ 100) : ∀ (deep m k : Nat) (xs : List D) (st : Pi.Sto), deep + 7 ≤ m → Vk w k (.tup xs) → k ≤ 30 → Src st l → ∃ (d : D) (o : Bool) (st' : Pi.Sto), call m 24 [.ref l, .tup xs, .int deep] st = .ok d o st' ∧ Vk (w + 1) (k + 5) d ∧ Tl d ∧ Src st' l ∧ Same st st'
  | deep, m, k, xs, st, hm, hv, hk, hs => by
    obtain ⟨q, rfl⟩ : ∃ q, m = q + 7 := ⟨m - 7, by omega⟩
    obtain ⟨j, rfl, hl, hx⟩ := hv.inv
    have plx : D.pls xs = true := hv.pl
    by_cases hn : xs = []
    · subst hn
      obtain ⟨d, o, st', e, v, s', q'⟩ := f23 1 (q + 6) st (by omega) (by omega) hs
      have e : callN cd.G cd.fns 0 (q + 6) 23 [.ref l, .int 1] st = _ := e
      refine ⟨.tup [d], false, st', ?_, ?_, .inl ⟨_, rfl⟩, s', q'⟩
      · rw [call_at (fn := c_law_variant) rfl rfl]
        simp [c_law_variant, exB, exS, ev, evs, R.bind, getS, lift, bifn, fin, ofCall, setT, truth, cmpop, D.pl, D.pls, D.dep, D.deps, deq, deqs, dbl, szOk, e]
      · refine (Vk.tup (w := 4) (k := 3) (xs := [d]) ?_ (by simp)).mono (by omega) (by omega)
        intro x hx
        rw [List.mem_singleton.mp hx]
        exact v
    · have hp : 0 < xs.length := List.length_pos_iff.mpr hn
      obtain ⟨r, st1, e1, r0, r1, s1, q1⟩ := f19 (n := q + 5) hs (many := xs.length) (by omega) (by omega)
      obtain ⟨y, st2, e2, y0, y1, s2, q2⟩ := f19 (n := q + 5) s1 (many := 9) (by omega) (by omega)
      have e1 : callN cd.G cd.fns 0 (q + 6) 19 [.ref l, .int xs.length] st = _ := e1
      have e2 : callN cd.G cd.fns 0 (q + 6) 19 [.ref l, .int 9] st1 = _ := e2
      obtain ⟨x, hxm, ex⟩ := atIx_mem (xs := xs) r0 r1
      let env : Pi.Env := [some (.ref l, false), some (.tup xs, false), some (.int deep, false), some (.lst xs, true), some (x, false), some (.int r, false), some (.int y, false), none]
      have start : call (q + 7) 24 [.ref l, .tup xs, .int deep] st = fin (exB cd.G (call (q + 6)) 0 (c_law_variant.body.drop 4) env st2) := by
        rw [call_at (fn := c_law_variant) rfl rfl]
        show fin (exB cd.G (call (q + 6)) 0 c_law_variant.body [some (.ref l, false), some (.tup xs, false), some (.int deep, false), none, none, none, none, none] st) = _
        unfold c_law_variant
        dsimp only [List.drop]
        rw [xb_nx (env1 := [some (.ref l, false), some (.tup xs, false), some (.int deep, false), some (.lst xs, true), none, none, none, none]) (st1 := st) (by simp [exS, ev, evs, R.bind, lift, setT, getS, bifn])]
        rw [xb_nx (env1 := [some (.ref l, false), some (.tup xs, false), some (.int deep, false), some (.lst xs, true), none, none, none, none]) (st1 := st) (by simp [exS, exB, ev, evs, R.bind, lift, setT, getS, bifn, truth, cmpop, D.pl, plx, D.pls, D.dep, D.deps, deq, deqs_nil hn, dbl, szOk])]
        rw [xb_nx (env1 := [some (.ref l, false), some (.tup xs, false), some (.int deep, false), some (.lst xs, true), none, some (.int r, false), some (.int y, false), none]) (st1 := st2) (by simp [exS, exB, ev, evs, R.bind, lift, setT, getS, bifn, ofCall, e1, e2])]
        rw [xb_nx (env1 := env) (st1 := st2) (by simp [exS, exB, ev, evs, R.bind, lift, setT, getS, ixF, index, ex, env])]
      rw [start]
      have px : x.pl = true := (hx x hxm).pl
      have cond : truth (ev cd.G (call (q + 6)) true (.and (.bi .isinst [.v 4, .g (.ty "tuple")]) (.and (.cmp .gt (.v 2) (.k (.int 0))) (.cmp .gt (.v 6) (.k (.int 2))))) env st2) = .ok (isTup x && (decide (0 < deep) && decide (2 < y))) env st2 := by
        cases ht : isTup x with
        | false => simp [ev, evs, R.bind, lift, getS, bifn, isTup_ok px, ht, truth, dbl, env]
        | true =>
          by_cases h1 : 0 < deep
          · simp [ev, evs, R.bind, lift, getS, bifn, isTup_ok px, ht, truth, dbl, env, cmpop, D.pl, D.dep, alk, dlt, h1]
          · simp [ev, evs, R.bind, lift, getS, bifn, isTup_ok px, ht, truth, dbl, env, cmpop, D.pl, D.dep, alk, dlt, h1]
      have hx' : ∀ z ∈ xs, Vk (w + 1) (j + 5) z := fun z hz => (hx z hz).mono (by omega) (by omega)
      have szx : xs.length ≤ 100 := by omega
      have eqB : ∀ (c : Int), truth (ev cd.G (call (q + 6)) true (.cmp .eq (.v 6) (.k (.int c))) env st2) = .ok (y == c) env st2 := fun c => by
        simp [ev, evs, R.bind, lift, getS, truth, dbl, env, cmpop, D.pl, D.dep, deq]
      show ∃ d o st', fin (exB cd.G (call (q + 6)) 0 (.ifs _ _ [] :: _) env st2) = _ ∧ _
      cases hA : (isTup x && (decide (0 < deep) && decide (2 < y))) with
      | true =>
        have hA2 := hA
        rw [Bool.and_eq_true, Bool.and_eq_true] at hA2
        have hdp : 0 < deep := of_decide_eq_true hA2.2.1
        obtain ⟨ts, hts⟩ : ∃ ts, x = .tup ts := by
          have := hA2.1
          cases x <;> first | exact ⟨_, rfl⟩ | cases this
        obtain ⟨dp, hdp2⟩ : ∃ dp, deep = dp + 1 := ⟨deep - 1, by omega⟩
        have vts : Vk w j (.tup ts) := hts ▸ hx x hxm
        obtain ⟨d', o', st3, e3, v3, _, s3, q3⟩ := f24 hw hw2 dp (q + 6) j ts st2 (by omega) vts (by omega) s2
        have e3 : callN cd.G cd.fns 0 (q + 6) 24 [.ref l, .tup ts, .int dp] st2 = _ := e3
        have e4 : (deep : Int) - 1 = dp := by omega
        refine ⟨.tup (xs.take r.toNat ++ [d'] ++ xs.drop (r + 1).toNat), false, st3, ?_, Vk.tup (fun z hz => ?_) ?_, .inl ⟨_, rfl⟩, s3, q3.trans (q2.trans q1)⟩
        · rw [xb_if_ret cond hA (d := .tup (xs.take r.toNat ++ [d'] ++ xs.drop (r + 1).toNat)) (o := false) (env2 := env) (st2 := st3) (by
            simp [exB, exS, ev, evs, evo, R.bind, lift, getS, bifn, binop, slice, cut_lo r0, cut_hi (show 0 ≤ r + 1 by omega), szOk, env, dnum, ofCall, hts, e4, e3, (show min r.toNat xs.length + 1 ≤ 1000000 by omega), (show min r.toNat xs.length + (xs.length - (r + 1).toNat + 1) ≤ 1000000 by omega), (show min r.toNat xs.length + 1 + (xs.length - (r + 1).toNat) ≤ 1000000 by omega)])]
          rfl
        · rcases List.mem_append.mp hz with hz | hz
          · rcases List.mem_append.mp hz with hz | hz
            · exact hx' z (List.mem_of_mem_take hz)
            · rw [List.mem_singleton.mp hz]; exact v3
          · exact hx' z (List.mem_of_mem_drop hz)
        · simp; omega
      | false =>
        rw [xb_if_no cond hA]
        cases h0 : (y == 0) with
        | true =>
          refine ⟨.tup (xs.take r.toNat ++ xs.drop (r + 1).toNat), false, st2, ?_, Vk.tup (fun z hz => hx' z (mem_take_drop hz)) (by simp; omega), .inl ⟨_, rfl⟩, s2, q2.trans q1⟩
          rw [xb_if_ret (eqB 0) h0 (d := .tup (xs.take r.toNat ++ xs.drop (r + 1).toNat)) (o := false) (env2 := env) (st2 := st2) (by
            simp [exB, exS, ev, evs, evo, R.bind, lift, getS, bifn, binop, slice, cut_lo r0, cut_hi (show 0 ≤ r + 1 by omega), szOk, env, dnum, (show min r.toNat xs.length + (xs.length - (r + 1).toNat) ≤ 1000000 by omega)])]
          rfl
        | false =>
        rw [xb_if_no (eqB 0) h0]
        cases h1 : (y == 1) with
        | true =>
          refine ⟨.tup (xs.take (r + 1).toNat ++ xs.drop r.toNat), false, st2, ?_, Vk.tup (fun z hz => hx' z (mem_take_drop hz)) (by simp; omega), .inl ⟨_, rfl⟩, s2, q2.trans q1⟩
          rw [xb_if_ret (eqB 1) h1 (d := .tup (xs.take (r + 1).toNat ++ xs.drop r.toNat)) (o := false) (env2 := env) (st2 := st2) (by
            simp [exB, exS, ev, evs, evo, R.bind, lift, getS, bifn, binop, slice, cut_hi r0, cut_lo (show 0 ≤ r + 1 by omega), szOk, env, dnum, (show min (r + 1).toNat xs.length + (xs.length - r.toNat) ≤ 1000000 by omega)])]
          rfl
        | false =>
        rw [xb_if_no (eqB 1) h1]
        cases h2 : (y == 2) with
        | true =>
          refine ⟨.tup (xs.take r.toNat ++ ((xs.drop r.toNat).take ((r + 2).toNat - r.toNat)).reverse ++ xs.drop (r + 2).toNat), false, st2, ?_, Vk.tup (fun z hz => hx' z ?_) ?_, .inl ⟨_, rfl⟩, s2, q2.trans q1⟩
          · rw [xb_if_ret (eqB 2) h2 (d := .tup (xs.take r.toNat ++ ((xs.drop r.toNat).take ((r + 2).toNat - r.toNat)).reverse ++ xs.drop (r + 2).toNat)) (o := false) (env2 := env) (st2 := st2) (by
              simp [exB, exS, ev, evs, evo, R.bind, lift, getS, bifn, binop, slice, revD, cut_lo r0, cut_hi (show 0 ≤ r + 2 by omega), cut_mid r0 (show r ≤ r + 2 by omega), szOk, env, dnum, (show min r.toNat xs.length + min ((r + 2).toNat - r.toNat) (xs.length - r.toNat) ≤ 1000000 by omega), (show min r.toNat xs.length + min ((r + 2).toNat - r.toNat) (xs.length - r.toNat) + (xs.length - (r + 2).toNat) ≤ 1000000 by omega), (show min r.toNat xs.length + (min ((r + 2).toNat - r.toNat) (xs.length - r.toNat) + (xs.length - (r + 2).toNat)) ≤ 1000000 by omega)])]
            rfl
          · rcases List.mem_append.mp hz with hz | hz
            · rcases List.mem_append.mp hz with hz | hz
              · exact List.mem_of_mem_take hz
              · exact List.mem_of_mem_drop (List.mem_of_mem_take (List.mem_reverse.mp hz))
            · exact List.mem_of_mem_drop hz
          · simp; omega
        | false =>
        rw [xb_if_no (eqB 2) h2]
        cases h3 : (y == 3) with
        | true =>
          refine ⟨.lst xs, true, st2, ?_, Vk.lst hx' (by omega), .inr ⟨_, rfl⟩, s2, q2.trans q1⟩
          rw [xb_if_ret (eqB 3) h3 (d := .lst xs) (o := true) (env2 := env.set 3 none) (st2 := st2) (by
            simp [exB, exS, R.bind, getS, env])]
          rfl
        | false =>
        rw [xb_if_no (eqB 3) h3]
        have ltB : truth (ev cd.G (call (q + 6)) true (.cmp .lt (.v 6) (.k (.int 6))) env st2) = .ok (decide (y < 6)) env st2 := by
          simp [ev, evs, R.bind, lift, getS, truth, dbl, env, cmpop, D.pl, D.dep, dlt, alk]
        have key : ∀ (z : D) (st3 : Pi.Sto), Vk 4 4 z → Src st3 l → Same st st3 → Vk (w + 1) (j + 1 + 5) (.tup (xs.set r.toNat z)) := fun z st3 hz _ _ => Vk.tup (fun u hu => by
          rcases List.mem_or_eq_of_mem_set hu with hu | rfl
          · exact hx' u hu
          · exact hz.mono (by omega) (by omega)) (by simp; omega)
        have sA : ∀ z, setAt xs r z = some (xs.set r.toNat z) := fun z => by
          unfold setAt
          rw [if_pos ⟨r0, r1⟩]
        by_cases h6 : y < 6
        · obtain ⟨d, o, st3, e3, v3, s3, q3⟩ := f23 2 (q + 6) st2 (by omega) (by omega) s2
          have e3 : callN cd.G cd.fns 0 (q + 6) 23 [.ref l, .int 2] st2 = _ := e3
          refine ⟨.tup (xs.set r.toNat d), false, st3, ?_, key d st3 v3 s3 (q3.trans (q2.trans q1)), .inl ⟨_, rfl⟩, s3, q3.trans (q2.trans q1)⟩
          rw [xb_nx (env1 := env.set 3 (some (.lst (xs.set r.toNat d), true))) (st1 := st3) (by
            rw [xs_ifs ltB]
            simp [exB, exS, ev, evs, R.bind, lift, getS, ofCall, e3, env, isL, sA, h6])]
          simp [exB, exS, ev, evs, R.bind, lift, getS, bifn, env, fin]
        · obtain ⟨d, st3, e3, hd, s3, q3⟩ := f20 (n := q + 4) s2 (xs := nearL) (by simp [nearL]) (by simp [nearL])
          have e3 : callN cd.G cd.fns 0 (q + 6) 20 [.ref l, .lst nearL] st2 = _ := e3
          unfold nearL at e3
          refine ⟨.tup (xs.set r.toNat d), false, st3, ?_, key d st3 ((near_vk d hd).mono (by omega) (by omega)) s3 (q3.trans (q2.trans q1)), .inl ⟨_, rfl⟩, s3, q3.trans (q2.trans q1)⟩
          rw [xb_nx (env1 := (env.set 3 (some (.lst (xs.set r.toNat d), true))).set 7 (some (.lst nearL, false))) (st1 := st3) (by
            rw [xs_ifs ltB]
            simp [exB, exS, ev, evs, R.bind, lift, getS, ofCall, e3, env, isL, sA, h6, setT, szOk, freeze, nearL])]
          simp [exB, exS, ev, evs, R.bind, lift, getS, bifn, env, fin]
end K1

set_option maxRecDepth 100000
set_option maxHeartbeats 0
/-! L5: the script's rules. -/
namespace K1
open PySem Pi
def wideB (v : D) (lo hi : Int) : Bool := match v with
  | .tup xs => decide (lo ≤ xs.length) && decide (xs.length ≤ hi)
  | _ => false
theorem f22 {n : Nat} {v : D} {lo hi : Int} {st : Pi.Sto} (hv : v.pl = true) : call (n + 1) 22 [v, .int lo, .int hi] st = .ok (.bl (wideB v lo hi)) false st := by
  rw [call_at (fn := c_law_wide) rfl rfl]
  cases v with
  | tup xs =>
    unfold wideB
    by_cases h : (xs.length : Int) < lo
    · have h2 : ¬ lo ≤ xs.length := by omega
      simp [c_law_wide, exB, exS, ev, evs, R.bind, getS, lift, bifn, isInst, dbl, cmpop, D.pl, D.dep, dlt, alk, h, h2, fin]
    · have h2 : lo ≤ xs.length := by omega
      by_cases h3 : hi < xs.length
      · have h4 : ¬ (xs.length : Int) ≤ hi := by omega
        simp [c_law_wide, exB, exS, ev, evs, R.bind, getS, lift, bifn, isInst, dbl, cmpop, D.pl, D.dep, dlt, alk, h, h2, h3, h4, fin]
      · have h4 : (xs.length : Int) ≤ hi := by omega
        simp [c_law_wide, exB, exS, ev, evs, R.bind, getS, lift, bifn, isInst, dbl, cmpop, D.pl, D.dep, dlt, alk, h, h2, h3, h4, fin]
  | bl i => rfl
  | non => rfl
  | str => rfl
  | int => rfl
  | lst => rfl
  | _ => cases hv
def pairB (v : D) : Bool := match v with
  | .tup xs => xs.length == 2
  | _ => false
theorem f1 {n : Nat} {v : D} {st : Pi.Sto} (hv : v.pl = true) : call (n + 1) 1 [v] st = .ok (.bl (pairB v)) false st := by
  rw [call_at (fn := c_is_pair) rfl rfl]
  cases v with
  | tup xs =>
    unfold pairB
    have e : ((xs.length : Int) == 2) = (xs.length == 2) := by
      rw [Bool.eq_iff_iff, beq_iff_eq, beq_iff_eq]
      omega
    simp [c_is_pair, exB, exS, ev, evs, R.bind, getS, lift, bifn, isInst, dbl, cmpop, D.pl, D.dep, deq, fin, e]
  | bl i => rfl
  | non => rfl
  | str => rfl
  | int => rfl
  | lst => rfl
  | _ => cases hv
theorem f21 {n : Nat} {b c : Bool} {st : Pi.Sto} : call (n + 1) 21 [.bl b, .bl c] st = .ok (.bl (b == c)) false st := by
  rw [call_at (fn := c_law_is_bool) rfl rfl]
  simp [c_law_is_bool, exB, exS, ev, evs, R.bind, getS, lift, bifn, isInst, dbl, cmpop, D.pl, D.dep, deq, fin]
end K1

set_option maxRecDepth 100000
set_option maxHeartbeats 0
/-! L6: a drawn lot. -/
namespace K1
open PySem Pi
abbrev forStep (cl : Nat → List D → Pi.Sto → RC) (W : Nat) (t : T) (b : List S) : D → Pi.Env → Pi.Sto → R Pi.Flow := fun x env st => match setT t (x, false) env with
      | some env => exB cd.G cl W b env st
      | none => .no
theorem xs_for {cl : Nat → List D → Pi.Sto → RC} {W : Nat} {t : T} {it : C} {b : List S} {env env1 : Pi.Env} {st st1 : Pi.Sto} {x : D} {xs : List D} {o : Bool} (hit : ev cd.G cl false it env st = .ok (x, o) env1 st1) (hx : items x = some xs) : exS cd.G cl W (.for t it b) env st = forGo (forStep cl W t b) xs env1 st1 := by
  conv => lhs; unfold exS
  rw [hit]
  show (match items x with
    | some xs => _
    | none => R.no) = _
  rw [hx] <;> rfl
def cD (p : Int × Int) : D := .tup [.int p.1, .int p.2]
def plt (p q : Int × Int) : Prop := p.1 < q.1 ∨ (p.1 = q.1 ∧ p.2 < q.2)
/-- a lot: cells within, in order, each once -/
structure Lot (rows len : Int) (ps : List (Int × Int)) : Prop where
  ord : ps.Pairwise plt
  rng : ∀ p ∈ ps, 0 ≤ p.1 ∧ p.1 < rows ∧ 0 ≤ p.2 ∧ p.2 < len
theorem Lot.nil {rows len : Int} : Lot rows len [] := ⟨List.Pairwise.nil, fun _ h => by cases h⟩
theorem Lot.snoc {rows len i j : Int} {ps : List (Int × Int)} (h : Lot rows len ps) (hl : ∀ p ∈ ps, plt p (i, j)) (hi : 0 ≤ i ∧ i < rows ∧ 0 ≤ j ∧ j < len) : Lot rows len (ps ++ [(i, j)]) := ⟨by
  rw [List.pairwise_append]
  exact ⟨h.ord, List.pairwise_singleton _ _, fun p hp q hq => by rw [List.mem_singleton.mp hq]; exact hl p hp⟩, fun p hp => by
  rcases List.mem_append.mp hp with hp | hp
  · exact h.rng p hp
  · rw [List.mem_singleton.mp hp]; exact hi⟩
theorem rangeD_cons {lo hi : Int} (h : lo < hi) : rangeD lo (hi - lo).toNat = .int lo :: rangeD (lo + 1) (hi - (lo + 1)).toNat := by
  have e : (hi - lo).toNat = (hi - (lo + 1)).toNat + 1 := by omega
  rw [e]; rfl
theorem rangeD_nil {lo hi : Int} (h : hi ≤ lo) : rangeD lo (hi - lo).toNat = [] := by
  have e : (hi - lo).toNat = 0 := by omega
  rw [e]; rfl
def envL (l : Nat) (rows len rare : Int) (ps : List (Int × Int)) (s5 s6 : Slot) : Pi.Env := [some (.ref l, false), some (.int rows, false), some (.int len, false), some (.int rare, false), some (.lst (ps.map cD), true), s5, s6]
abbrev inB : List S := [.ifs (.cmp .eq (.call 19 [.v 0, .v 3]) (.k (.int 0))) [.app 4 (.tp [.v 5, .v 6])] []]
theorem lot_inner {n l : Nat} {rows len rare i : Int} (h1 : 0 < rare) (h2 : rare < 1000) (hi : 0 ≤ i ∧ i < rows) : ∀ (k : Nat) (j : Int) (ps : List (Int × Int)) (s6 : Slot) (st : Pi.Sto), (len - j).toNat = k → 0 ≤ j → Src st l → Lot rows len ps → (∀ p ∈ ps, plt p (i, j)) → ps.length + k ≤ 100 →
    ∃ ps' s6' st', forGo (forStep (call (n + 1)) 0 (.n 6) inB) (rangeD j (len - j).toNat) (envL l rows len rare ps (some (.int i, false)) s6) st = .ok .nx (envL l rows len rare ps' (some (.int i, false)) s6') st' ∧ Src st' l ∧ Same st st' ∧ Lot rows len ps' ∧ (∀ p ∈ ps', p.1 ≤ i) ∧ ps'.length ≤ ps.length + k
  | 0, j, ps, s6, st, hk, hj, hs, hl, hp, hb => by
    rw [rangeD_nil (by omega)]
    exact ⟨ps, s6, st, rfl, hs, rfl, hl, fun p h => by rcases hp p h with z | ⟨z, _⟩ <;> simp at z <;> omega, Nat.le_refl _⟩
  | k + 1, j, ps, s6, st, hk, hj, hs, hl, hp, hb => by
    have hjl : j < len := by omega
    rw [rangeD_cons hjl]
    obtain ⟨r, st1, e1, r0, r1, s1, q1⟩ := f19 (n := n) hs h1 (by omega : rare < 1073741824)
    have e1 : callN cd.G cd.fns 0 (n + 1) 19 [.ref l, .int rare] st = _ := e1
    by_cases hr : r = 0
    · have step : forStep (call (n + 1)) 0 (.n 6) inB (.int j) (envL l rows len rare ps (some (.int i, false)) s6) st = .ok .nx (envL l rows len rare (ps ++ [(i, j)]) (some (.int i, false)) (some (.int j, false))) st1 := by
        simp [forStep, inB, envL, setT, exB, exS, ev, evs, R.bind, lift, getS, ofCall, e1, hr, truth, cmpop, D.pl, D.dep, deq, dbl, isL, szOk, cD, (show ps.length + 1 ≤ 1000000 by omega)]
      obtain ⟨ps', s6', st', e2, s2, q2, l2, p2, b2⟩ := lot_inner (n := n) h1 h2 hi k (j + 1) (ps ++ [(i, j)]) (some (.int j, false)) st1 (by omega) (by omega) s1 (hl.snoc hp ⟨hi.1, hi.2, hj, hjl⟩) (fun p h => by
        rcases List.mem_append.mp h with h | h
        · rcases hp p h with z | ⟨z, z2⟩
          · exact .inl z
          · exact .inr ⟨z, by simp at z2 ⊢; omega⟩
        · rw [List.mem_singleton.mp h]; exact .inr ⟨rfl, by simp; omega⟩) (by simp; omega)
      refine ⟨ps', s6', st', ?_, s2, q2.trans q1, l2, p2, by simp at b2; omega⟩
      show (forStep _ _ _ _ _ _ _).bind _ = _
      rw [step]
      exact e2
    · have hr' : (r == 0) = false := by simpa using hr
      have step : forStep (call (n + 1)) 0 (.n 6) inB (.int j) (envL l rows len rare ps (some (.int i, false)) s6) st = .ok .nx (envL l rows len rare ps (some (.int i, false)) (some (.int j, false))) st1 := by
        simp [forStep, inB, envL, setT, exB, exS, ev, evs, R.bind, lift, getS, ofCall, e1, hr', truth, cmpop, D.pl, D.dep, deq, dbl]
      obtain ⟨ps', s6', st', e2, s2, q2, l2, p2, b2⟩ := lot_inner (n := n) h1 h2 hi k (j + 1) ps (some (.int j, false)) st1 (by omega) (by omega) s1 hl (fun p h => by
        rcases hp p h with z | ⟨z, z2⟩
        · exact .inl z
        · exact .inr ⟨z, by simp at z2 ⊢; omega⟩) (by omega)
      refine ⟨ps', s6', st', ?_, s2, q2.trans q1, l2, p2, by omega⟩
      show (forStep _ _ _ _ _ _ _).bind _ = _
      rw [step]
      exact e2
end K1

set_option maxRecDepth 100000
set_option maxHeartbeats 0
/-! L7: a drawn lot. -/
namespace K1
open PySem Pi
theorem lot_outer {n l : Nat} {rows len rare : Int} (h1 : 0 < rare) (h2 : rare < 1000) (hlen : 0 ≤ len ∧ len ≤ 3) : ∀ (k : Nat) (i : Int) (ps : List (Int × Int)) (s5 s6 : Slot) (st : Pi.Sto), (rows - i).toNat = k → 0 ≤ i → Src st l → Lot rows len ps → (∀ p ∈ ps, p.1 < i) → ps.length + 3 * k ≤ 90 →
    ∃ ps' s5' s6' st', forGo (forStep (call (n + 1)) 0 (.n 5) [.for (.n 6) (.rng [.v 2]) inB]) (rangeD i (rows - i).toNat) (envL l rows len rare ps s5 s6) st = .ok .nx (envL l rows len rare ps' s5' s6') st' ∧ Src st' l ∧ Same st st' ∧ Lot rows len ps' ∧ ps'.length ≤ ps.length + 3 * k
  | 0, i, ps, s5, s6, st, hk, hi, hs, hl, hp, hb => by
    rw [rangeD_nil (by omega)]
    exact ⟨ps, s5, s6, st, rfl, hs, rfl, hl, by omega⟩
  | k + 1, i, ps, s5, s6, st, hk, hi, hs, hl, hp, hb => by
    have hir : i < rows := by omega
    rw [rangeD_cons hir]
    obtain ⟨ps1, s61, st1, e1, s1, q1, l1, p1, b1⟩ := lot_inner (n := n) (i := i) h1 h2 ⟨hi, hir⟩ (len - 0).toNat 0 ps s6 st rfl (by omega) hs hl (fun p h => .inl (hp p h)) (by omega)
    obtain ⟨ps', s5', s6', st', e2, s2, q2, l2, b2⟩ := lot_outer (n := n) h1 h2 hlen k (i + 1) ps1 (some (.int i, false)) s61 st1 (by omega) (by omega) s1 l1 (fun p h => by have := p1 p h; omega) (by omega)
    refine ⟨ps', s5', s6', st', ?_, s2, q2.trans q1, l2, by omega⟩
    have step : forStep (call (n + 1)) 0 (.n 5) [.for (.n 6) (.rng [.v 2]) inB] (.int i) (envL l rows len rare ps s5 s6) st = .ok .nx (envL l rows len rare ps1 (some (.int i, false)) s61) st1 := by
      show exB cd.G (call (n + 1)) 0 [.for (.n 6) (.rng [.v 2]) inB] (envL l rows len rare ps (some (.int i, false)) s6) st = _
      refine (xb_nx ((xs_for (x := .lst (rangeD 0 (len - 0).toNat)) (o := false) (env1 := envL l rows len rare ps (some (.int i, false)) s6) (st1 := st) ?_ rfl).trans e1)).trans rfl
      have hsm : small len = true := by
        simp [small]; constructor <;> omega
      simp [envL, ev, evs, R.bind, getS, lift, rangeOf, hsm]
    show (forStep _ _ _ _ _ _ _).bind _ = _
    rw [step]
    exact e2
theorem f28 {n l : Nat} {rows len : Int} {st : Pi.Sto} (hr : 0 ≤ rows ∧ rows ≤ 3) (hlen : 0 ≤ len ∧ len ≤ 3) (hs : Src st l) : ∃ (ps : List (Int × Int)) (st' : Pi.Sto), call (n + 3) 28 [.ref l, .int rows, .int len] st = .ok (.tup (ps.map cD)) false st' ∧ Lot rows len ps ∧ ps.length ≤ 9 ∧ Src st' l ∧ Same st st' := by
  obtain ⟨d, st1, e1, hd, s1, q1⟩ := f20 (n := n) hs (xs := [.int 2, .int 3, .int 4, .int 9, .int 9]) (by simp) (by simp)
  obtain ⟨rare, rfl, r1, r2⟩ : ∃ rare : Int, d = .int rare ∧ 0 < rare ∧ rare < 1000 := by
    simp at hd
    rcases hd with rfl | rfl | rfl | rfl <;> exact ⟨_, rfl, by omega, by omega⟩
  obtain ⟨ps, s5, s6, st2, e2, s2, q2, l2, b2⟩ := lot_outer (n := n + 1) r1 r2 hlen (rows - 0).toNat 0 [] none none st1 rfl (by omega) s1 Lot.nil (fun p h => by cases h) (by simp; omega)
  have e1 : callN cd.G cd.fns 0 (n + 2) 20 [.ref l, .lst [.int 2, .int 3, .int 4, .int 9, .int 9]] st = _ := e1
  refine ⟨ps, st2, ?_, l2, by simp at b2; omega, s2, q2.trans q1⟩
  rw [call_at (fn := c_law_drawn_lot) rfl rfl]
  show fin (exB cd.G (call (n + 2)) 0 c_law_drawn_lot.body [some (.ref l, false), some (.int rows, false), some (.int len, false), none, none, none, none] st) = _
  unfold c_law_drawn_lot
  dsimp only
  rw [xb_nx (env1 := [some (.ref l, false), some (.int rows, false), some (.int len, false), some (.int rare, false), none, none, none]) (st1 := st1) (by simp [exS, ev, evs, R.bind, lift, setT, getS, ofCall, e1, szOk])]
  rw [xb_nx (env1 := envL l rows len rare [] none none) (st1 := st1) (by simp [exS, ev, evs, R.bind, lift, setT, szOk, envL])]
  rw [xb_nx ((xs_for (x := .lst (rangeD 0 (rows - 0).toNat)) (o := false) (env1 := envL l rows len rare [] none none) (st1 := st1) (by
    have hsm : small rows = true := by
      simp [small]; constructor <;> omega
    simp [envL, ev, evs, R.bind, getS, lift, rangeOf, hsm]) rfl).trans e2)]
  simp [exB, exS, ev, evs, R.bind, lift, getS, bifn, envL, fin]
end K1

set_option maxRecDepth 100000
set_option maxHeartbeats 0
/-! L8: a drawn script. -/
namespace K1
open PySem Pi
abbrev Cs := List (Int × Int)
def lotD (ps : Cs) : D := .tup (ps.map cD)
def rdD (r : Int × Cs × Cs) : D := .tup [.int r.1, lotD r.2.1, lotD r.2.2]
structure Scp where
  rows : Int
  len : Int
  b1 : Cs
  b2 : Cs
  rds : List (Int × Cs × Cs)
  aft : Cs
def Scp.d (s : Scp) : D := .tup [.int s.rows, .int s.len, .tup [lotD s.b1, lotD s.b2], .tup (s.rds.map rdD), lotD s.aft]
structure LotOk (rows len : Int) (ps : Cs) : Prop where
  lot : Lot rows len ps
  few : ps.length ≤ 9
structure Scp.Ok (s : Scp) : Prop where
  rows : 1 ≤ s.rows ∧ s.rows ≤ 3
  len : 1 ≤ s.len ∧ s.len ≤ 3
  b1 : LotOk s.rows s.len s.b1
  b2 : LotOk s.rows s.len s.b2
  rds : ∀ r ∈ s.rds, (2 ≤ r.1 ∧ r.1 ≤ 3) ∧ LotOk s.rows s.len r.2.1 ∧ LotOk s.rows s.len r.2.2
  some : 1 ≤ s.rds.length
  few : s.rds.length ≤ 3
  aft : LotOk s.rows s.len s.aft
theorem LotOk.nil {rows len : Int} : LotOk rows len [] := ⟨Lot.nil, Nat.zero_le _⟩
def envS (l : Nat) (most rows len : Int) (e5 : D) (rds : List (Int × Cs × Cs)) (s2 s8 s9 : Slot) : Pi.Env := [some (.ref l, false), some (.int most, false), s2, some (.int rows, false), some (.int len, false), some (e5, false), some (.tup [], false), some (.tup (rds.map rdD), false), s8, s9]
abbrev rdB : List S := [.par [9, 8] [.call 20 [.v 0, .ls [.k (.int 2), .k (.int 2), .k (.int 3)]], .call 28 [.v 0, .v 3, .v 4]],
  .asg (.n 7) (.bin .add (.v 7) (.tp [.tp [.v 9, .v 8, .call 28 [.v 0, .v 3, .v 4]]]))]
def RdOk (rows len : Int) (r : Int × Cs × Cs) : Prop := (2 ≤ r.1 ∧ r.1 ≤ 3) ∧ LotOk rows len r.2.1 ∧ LotOk rows len r.2.2
theorem rd_loop {n l : Nat} {most rows len : Int} {e5 : D} (hr : 1 ≤ rows ∧ rows ≤ 3) (hl : 1 ≤ len ∧ len ≤ 3) : ∀ (k : Nat) (i hi : Int) (rds : List (Int × Cs × Cs)) (s2 s8 s9 : Slot) (st : Pi.Sto), (hi - i).toNat = k → Src st l → (∀ r ∈ rds, RdOk rows len r) → rds.length + k ≤ 100 →
    ∃ rds' s2' s8' s9' st', forGo (forStep (call (n + 3)) 0 (.n 2) rdB) (rangeD i (hi - i).toNat) (envS l most rows len e5 rds s2 s8 s9) st = .ok .nx (envS l most rows len e5 rds' s2' s8' s9') st' ∧ Src st' l ∧ Same st st' ∧ (∀ r ∈ rds', RdOk rows len r) ∧ rds'.length = rds.length + k
  | 0, i, hi, rds, s2, s8, s9, st, hk, hs, hok, hb => by
    rw [rangeD_nil (by omega)]
    exact ⟨rds, s2, s8, s9, st, rfl, hs, rfl, hok, rfl⟩
  | k + 1, i, hi, rds, s2, s8, s9, st, hk, hs, hok, hb => by
    rw [rangeD_cons (by omega)]
    obtain ⟨d, st1, e1, hd, s1, q1⟩ := f20 (n := n + 1) hs (xs := [.int 2, .int 2, .int 3]) (by simp) (by simp)
    obtain ⟨pt, rfl, p1, p2⟩ : ∃ pt : Int, d = .int pt ∧ 2 ≤ pt ∧ pt ≤ 3 := by
      simp at hd
      rcases hd with rfl | rfl <;> exact ⟨_, rfl, by omega, by omega⟩
    obtain ⟨a, st2, e2, la, fa, s2', q2⟩ := f28 (n := n) (rows := rows) (len := len) (by omega) (by omega) s1
    obtain ⟨b, st3, e3, lb, fb, s3', q3⟩ := f28 (n := n) (rows := rows) (len := len) (by omega) (by omega) s2'
    have e1 : callN cd.G cd.fns 0 (n + 3) 20 [.ref l, .lst [.int 2, .int 2, .int 3]] st = _ := e1
    have e2 : callN cd.G cd.fns 0 (n + 3) 28 [.ref l, .int rows, .int len] st1 = _ := e2
    have e3 : callN cd.G cd.fns 0 (n + 3) 28 [.ref l, .int rows, .int len] st2 = _ := e3
    obtain ⟨rds', t2, t8, t9, st', e4, s4, q4, ok4, n4⟩ := rd_loop (n := n) (most := most) (e5 := e5) hr hl k (i + 1) hi (rds ++ [(pt, a, b)]) (some (.int i, false)) (some (lotD a, false)) (some (.int pt, false)) st3 (by omega) s3' (fun r h => by
      rcases List.mem_append.mp h with h | h
      · exact hok r h
      · rw [List.mem_singleton.mp h]; exact ⟨⟨p1, p2⟩, ⟨la, fa⟩, ⟨lb, fb⟩⟩) (by simp; omega)
    refine ⟨rds', t2, t8, t9, st', ?_, s4, q4.trans (q3.trans (q2.trans q1)), ok4, by simp at n4; omega⟩
    have step : forStep (call (n + 3)) 0 (.n 2) rdB (.int i) (envS l most rows len e5 rds s2 s8 s9) st = .ok .nx (envS l most rows len e5 (rds ++ [(pt, a, b)]) (some (.int i, false)) (some (lotD a, false)) (some (.int pt, false))) st3 := by
      simp [forStep, rdB, envS, setT, exB, exS, ev, evs, R.bind, lift, getS, ofCall, e1, e2, e3, binop, szOk, rdD, lotD, (show rds.length + 1 ≤ 1000000 by omega)]
    show (forStep _ _ _ _ _ _ _).bind _ = _
    rw [step]
    exact e4
theorem f29 {n l : Nat} {most : Int} {st : Pi.Sto} (hm : 0 < most ∧ most ≤ 3) (hs : Src st l) : ∃ (s : Scp) (st' : Pi.Sto), call (n + 4) 29 [.ref l, .int most] st = .ok s.d false st' ∧ s.Ok ∧ Src st' l ∧ Same st st' := by
  obtain ⟨dr, st1, e1, hd1, s1, q1⟩ := f20 (n := n + 1) hs (xs := [.int 1, .int 2, .int 2, .int 3, .int 3, .int 3]) (by simp) (by simp)
  obtain ⟨rows, rfl, a1, a2⟩ : ∃ r : Int, dr = .int r ∧ 1 ≤ r ∧ r ≤ 3 := by
    simp at hd1
    rcases hd1 with rfl | rfl | rfl <;> exact ⟨_, rfl, by omega, by omega⟩
  obtain ⟨dl, st2, e2, hd2, s2, q2⟩ := f20 (n := n + 1) s1 (xs := [.int 1, .int 2, .int 2, .int 3]) (by simp) (by simp)
  obtain ⟨len, rfl, b1, b2⟩ : ∃ r : Int, dl = .int r ∧ 1 ≤ r ∧ r ≤ 3 := by
    simp at hd2
    rcases hd2 with rfl | rfl | rfl <;> exact ⟨_, rfl, by omega, by omega⟩
  obtain ⟨c3, st3, e3, _, _, s3, q3⟩ := f19 (n := n + 2) s2 (many := 3) (by omega) (by omega)
  have e1 : callN cd.G cd.fns 0 (n + 3) 20 [.ref l, .lst [.int 1, .int 2, .int 2, .int 3, .int 3, .int 3]] st = _ := e1
  have e2 : callN cd.G cd.fns 0 (n + 3) 20 [.ref l, .lst [.int 1, .int 2, .int 2, .int 3]] st1 = _ := e2
  have e3 : callN cd.G cd.fns 0 (n + 3) 19 [.ref l, .int 3] st2 = _ := e3
  -- the ends
  obtain ⟨x1, x2, s8, st4, e4, lx1, lx2, s4, q4⟩ : ∃ (x1 x2 : Cs) (s8 : Slot) (st4 : Pi.Sto), exS cd.G (call (n + 3)) 0 (.ifs (.cmp .eq (.call 19 [.v 0, .k (.int 3)]) (.k (.int 0))) [
  .asg (.n 8) (.call 28 [.v 0, .v 3, .v 4]),
  .asg (.n 5) (.tp [.v 8, .call 28 [.v 0, .v 3, .v 4]])] []) (envS l most rows len (.tup [.tup [], .tup []]) [] none none none) st2 = .ok .nx (envS l most rows len (.tup [lotD x1, lotD x2]) [] none s8 none) st4 ∧ LotOk rows len x1 ∧ LotOk rows len x2 ∧ Src st4 l ∧ Same st3 st4 := by
    by_cases h : c3 = 0
    · obtain ⟨x1, t1, g1, l1, m1, r1, w1⟩ := f28 (n := n) (rows := rows) (len := len) (by omega) (by omega) s3
      obtain ⟨x2, t2, g2, l2, m2, r2, w2⟩ := f28 (n := n) (rows := rows) (len := len) (by omega) (by omega) r1
      have g1 : callN cd.G cd.fns 0 (n + 3) 28 [.ref l, .int rows, .int len] st3 = _ := g1
      have g2 : callN cd.G cd.fns 0 (n + 3) 28 [.ref l, .int rows, .int len] t1 = _ := g2
      refine ⟨x1, x2, some (lotD x1, false), t2, ?_, ⟨l1, m1⟩, ⟨l2, m2⟩, r2, w2.trans w1⟩
      simp [envS, setT, exB, exS, ev, evs, R.bind, lift, getS, ofCall, e3, g1, g2, truth, cmpop, D.pl, D.dep, deq, dbl, szOk, h, lotD]
    · have h' : (c3 == 0) = false := by simpa using h
      refine ⟨[], [], none, st3, ?_, LotOk.nil, LotOk.nil, s3, rfl⟩
      simp [envS, setT, exB, exS, ev, evs, R.bind, lift, getS, ofCall, e3, truth, cmpop, D.pl, D.dep, deq, dbl, szOk, h', lotD]
  obtain ⟨r5, st5, e5, p5, p5', s5, q5⟩ := f19 (n := n + 2) s4 (many := most) (by omega) (by omega)
  have e5 : callN cd.G cd.fns 0 (n + 3) 19 [.ref l, .int most] st4 = _ := e5
  obtain ⟨rds, t2, t8, t9, st6, e6, s6, q6, ok6, n6⟩ := rd_loop (n := n) (most := most) (e5 := .tup [lotD x1, lotD x2]) ⟨a1, a2⟩ ⟨b1, b2⟩ (1 + r5 - 0).toNat 0 (1 + r5) [] none s8 none st5 rfl s5 (fun r h => by cases h) (by simp; omega)
  obtain ⟨r7, st7, e7, _, _, s7, q7⟩ := f19 (n := n + 2) s6 (many := 2) (by omega) (by omega)
  have e7 : callN cd.G cd.fns 0 (n + 3) 19 [.ref l, .int 2] st6 = _ := e7
  have nl : rds.length = (1 + r5 - 0).toNat := by simpa using n6
  have smr : small (1 + r5) = true := by
    simp [small]; constructor <;> omega
  have start : call (n + 4) 29 [.ref l, .int most] st = fin (exB cd.G (call (n + 3)) 0 (c_law_script.body.drop 4) (envS l most rows len (.tup [lotD x1, lotD x2]) rds t2 t8 t9) st6) := by
    rw [call_at (fn := c_law_script) rfl rfl]
    show fin (exB cd.G (call (n + 3)) 0 c_law_script.body [some (.ref l, false), some (.int most, false), none, none, none, none, none, none, none, none] st) = _
    unfold c_law_script
    dsimp only [List.drop]
    rw [xb_nx (env1 := [some (.ref l, false), some (.int most, false), none, some (.int rows, false), some (.int len, false), none, none, none, none, none]) (st1 := st2) (by simp [exS, ev, evs, R.bind, lift, setT, getS, ofCall, e1, e2, szOk])]
    rw [xb_nx (env1 := envS l most rows len (.tup [.tup [], .tup []]) [] none none none) (st1 := st2) (by simp [exS, ev, evs, R.bind, lift, setT, getS, szOk, envS])]
    rw [xb_nx e4]
    rw [xb_nx ((xs_for (x := .lst (rangeD 0 (1 + r5 - 0).toNat)) (o := false) (env1 := envS l most rows len (.tup [lotD x1, lotD x2]) [] none s8 none) (st1 := st5) (by
      simp [envS, ev, evs, R.bind, getS, lift, rangeOf, ofCall, e5, binop, smr]) rfl).trans e6)]
  rw [start]
  by_cases h : r7 = 0
  · obtain ⟨y, t1, g1, l1, m1, w1, v1⟩ := f28 (n := n) (rows := rows) (len := len) (by omega) (by omega) s7
    have g1 : callN cd.G cd.fns 0 (n + 3) 28 [.ref l, .int rows, .int len] st7 = _ := g1
    refine ⟨⟨rows, len, x1, x2, rds, y⟩, t1, ?_, ⟨⟨a1, a2⟩, ⟨b1, b2⟩, lx1, lx2, ok6, by simp; omega, by simp; omega, ⟨l1, m1⟩⟩, w1, v1.trans (q7.trans (q6.trans (q5.trans (q4.trans (q3.trans (q2.trans q1))))))⟩
    simp [c_law_script, envS, setT, exB, exS, ev, evs, R.bind, lift, getS, ofCall, e7, g1, truth, cmpop, D.pl, D.dep, deq, dbl, szOk, h, lotD, fin, Scp.d]
  · have h' : (r7 == 0) = false := by simpa using h
    refine ⟨⟨rows, len, x1, x2, rds, []⟩, st7, ?_, ⟨⟨a1, a2⟩, ⟨b1, b2⟩, lx1, lx2, ok6, by simp; omega, by simp; omega, LotOk.nil⟩, s7, q7.trans (q6.trans (q5.trans (q4.trans (q3.trans (q2.trans q1)))))⟩
    simp [c_law_script, envS, setT, exB, exS, ev, evs, R.bind, lift, getS, ofCall, e7, truth, cmpop, D.pl, D.dep, deq, dbl, szOk, h', lotD, fin, Scp.d]
end K1

set_option maxRecDepth 100000
set_option maxHeartbeats 0
/-! L9: lots recognized. -/
namespace K1
open PySem Pi Pi.EvR
/-! ### cells in order, natively -/
def pltB (p q : Int × Int) : Bool := decide (p.1 < q.1) || (decide (p.1 = q.1) && decide (p.2 < q.2))
theorem pltB_iff {p q : Int × Int} : pltB p q = true ↔ plt p q := by
  unfold pltB plt
  simp only [Bool.or_eq_true, Bool.and_eq_true, decide_eq_true_eq]
theorem plt_trans {p q r : Int × Int} (h : plt p q) (h2 : plt q r) : plt p r := by
  unfold plt at *
  omega
theorem plt_irr {p : Int × Int} : ¬ plt p p := by
  unfold plt
  omega
theorem plt_tri {p q : Int × Int} (h : ¬ plt p q) (h2 : p ≠ q) : plt q p := by
  unfold plt at *
  have : ¬ (p.1 = q.1 ∧ p.2 = q.2) := fun z => h2 (Prod.ext z.1 z.2)
  omega
def incB : Cs → Bool
  | [] => true
  | p :: r => (match r with | [] => true | q :: _ => pltB p q) && incB r
theorem incB_iff : ∀ {ps : Cs}, incB ps = true ↔ ps.Pairwise plt
  | [] => ⟨fun _ => List.Pairwise.nil, fun _ => rfl⟩
  | [p] => ⟨fun _ => List.pairwise_singleton _ _, fun _ => rfl⟩
  | p :: q :: r => by
    show (pltB p q && incB (q :: r)) = true ↔ _
    rw [Bool.and_eq_true, incB_iff, pltB_iff, List.pairwise_cons (a := p)]
    constructor
    · rintro ⟨h1, h2⟩
      refine ⟨fun x hx => ?_, h2⟩
      rcases List.mem_cons.mp hx with rfl | hx
      · exact h1
      · exact plt_trans h1 ((List.pairwise_cons.mp h2).1 x hx)
    · rintro ⟨h1, h2⟩
      exact ⟨h1 q List.mem_cons_self, h2⟩
def insC (p : Int × Int) : Cs → Cs
  | [] => [p]
  | q :: qs => if pltB q p then q :: insC p qs else p :: q :: qs
def sortC : Cs → Cs
  | [] => []
  | p :: ps => insC p (sortC ps)
def dedC : Cs → Cs → Cs
  | _, [] => []
  | seen, p :: ps => if p ∈ seen then dedC seen ps else p :: dedC (p :: seen) ps
theorem mem_insC {p x : Int × Int} : ∀ {qs : Cs}, x ∈ insC p qs ↔ x = p ∨ x ∈ qs
  | [] => by simp [insC]
  | q :: qs => by
    unfold insC
    split
    · rw [List.mem_cons, mem_insC, List.mem_cons]
      constructor
      · rintro (h | h | h) <;> simp [h]
      · rintro (h | h | h) <;> simp [h]
    · simp
theorem mem_sortC {x : Int × Int} : ∀ {qs : Cs}, x ∈ sortC qs ↔ x ∈ qs
  | [] => by simp [sortC]
  | q :: qs => by
    show x ∈ insC q (sortC qs) ↔ _
    rw [mem_insC, mem_sortC, List.mem_cons]
theorem insC_ord {p : Int × Int} : ∀ {qs : Cs}, qs.Pairwise plt → p ∉ qs → (insC p qs).Pairwise plt
  | [], _, _ => List.pairwise_singleton _ _
  | q :: qs, h, hp => by
    unfold insC
    have ⟨h1, h2⟩ := List.pairwise_cons.mp h
    split
    · rename_i hq
      rw [List.pairwise_cons]
      refine ⟨fun x hx => ?_, insC_ord h2 fun z => hp (List.mem_cons_of_mem _ z)⟩
      rcases mem_insC.mp hx with rfl | hx
      · exact pltB_iff.mp hq
      · exact h1 x hx
    · rename_i hq
      have hq : ¬ plt q p := fun z => hq (pltB_iff.mpr z)
      have hpq : plt p q := plt_tri hq fun z => hp (by rw [z]; exact List.mem_cons_self)
      rw [List.pairwise_cons]
      refine ⟨fun x hx => ?_, h⟩
      rcases List.mem_cons.mp hx with rfl | hx
      · exact hpq
      · exact plt_trans hpq (h1 x hx)
theorem sortC_ord : ∀ {qs : Cs}, qs.Nodup → (sortC qs).Pairwise plt
  | [], _ => List.Pairwise.nil
  | q :: qs, h => by
    have ⟨h1, h2⟩ := List.nodup_cons.mp h
    exact insC_ord (sortC_ord h2) fun z => h1 (mem_sortC.mp z)
theorem dedC_mem {x : Int × Int} : ∀ {qs seen : Cs}, x ∈ dedC seen qs → x ∉ seen ∧ x ∈ qs
  | [], seen, h => by cases h
  | q :: qs, seen, h => by
    unfold dedC at h
    split at h
    · have := dedC_mem h
      exact ⟨this.1, List.mem_cons_of_mem _ this.2⟩
    · rename_i hq
      rcases List.mem_cons.mp h with rfl | h
      · exact ⟨hq, List.mem_cons_self⟩
      · have := dedC_mem h
        exact ⟨fun z => this.1 (List.mem_cons_of_mem _ z), List.mem_cons_of_mem _ this.2⟩
theorem dedC_nodup : ∀ {qs seen : Cs}, (dedC seen qs).Nodup
  | [], seen => List.nodup_nil
  | q :: qs, seen => by
    unfold dedC
    split
    · exact dedC_nodup
    · rw [List.nodup_cons]
      exact ⟨fun h => (dedC_mem h).1 List.mem_cons_self, dedC_nodup⟩
theorem dedC_id : ∀ {qs seen : Cs}, qs.Nodup → (∀ q ∈ qs, q ∉ seen) → dedC seen qs = qs
  | [], seen, _, _ => rfl
  | q :: qs, seen, h, hs => by
    have ⟨h1, h2⟩ := List.nodup_cons.mp h
    unfold dedC
    rw [if_neg (hs q List.mem_cons_self), dedC_id h2 fun x hx z => ?_]
    rcases List.mem_cons.mp z with rfl | z
    · exact h1 hx
    · exact hs x (List.mem_cons_of_mem _ hx) z
theorem sortC_id : ∀ {qs : Cs}, qs.Pairwise plt → sortC qs = qs
  | [], _ => rfl
  | [q], _ => rfl
  | q :: r :: qs, h => by
    have ⟨h1, h2⟩ := List.pairwise_cons.mp h
    show insC q (sortC (r :: qs)) = _
    rw [sortC_id h2]
    unfold insC
    rw [if_neg fun z => plt_irr (plt_trans (pltB_iff.mp z) (h1 r List.mem_cons_self))]
theorem ord_nodup {qs : Cs} (h : qs.Pairwise plt) : qs.Nodup := List.Pairwise.imp (fun {a b} h (z : a = b) => plt_irr (by rw [z] at h; exact h)) h
theorem incB_sort {ps : Cs} : incB ps = decide (ps = sortC (dedC [] ps)) := by
  rw [Bool.eq_iff_iff, incB_iff, decide_eq_true_eq]
  constructor
  · intro h
    rw [dedC_id (ord_nodup h) (fun _ _ z => by cases z), sortC_id h]
  · intro h
    rw [h]
    exact sortC_ord dedC_nodup
/-! ### .. and as data -/
theorem deq_c {p q : Int × Int} : deq (cD p) (cD q) = decide (p = q) := by
  rw [Bool.eq_iff_iff, decide_eq_true_eq]
  simp [cD, deq, deqs, Prod.ext_iff]
theorem dlt_c {p q : Int × Int} : dlt (cD p) (cD q) = pltB p q := by
  unfold pltB
  by_cases h : p.1 = q.1 <;> by_cases h2 : p.2 = q.2 <;> simp [cD, dlt, dlts, deq, h, h2]
theorem insB_c {p : Int × Int} : ∀ {qs : Cs}, insB (cD p) (qs.map cD) = (insC p qs).map cD
  | [] => rfl
  | q :: qs => by
    show (if dlt (cD q) (cD p) then cD q :: insB (cD p) (qs.map cD) else cD p :: cD q :: qs.map cD) = _
    unfold insC
    rw [dlt_c, insB_c]
    split <;> rfl
theorem isort_c : ∀ {qs : Cs}, isort (qs.map cD) = (sortC qs).map cD
  | [] => rfl
  | q :: qs => by
    show insB (cD q) (isort (qs.map cD)) = _
    rw [isort_c, insB_c]; rfl
theorem dmem_c {p : Int × Int} : ∀ {qs : Cs}, dmem (cD p) (qs.map cD) = decide (p ∈ qs)
  | [] => rfl
  | q :: qs => by
    show (deq (cD q) (cD p) || dmem (cD p) (qs.map cD)) = _
    rw [dmem_c, deq_c, Bool.eq_iff_iff]
    simp only [Bool.or_eq_true, decide_eq_true_eq, List.mem_cons]
    constructor
    · rintro (h | h)
      · exact .inl h.symm
      · exact .inr h
    · rintro (h | h)
      · exact .inl h.symm
      · exact .inr h
theorem dedup_c : ∀ {qs seen : Cs}, dedup (seen.map cD) (qs.map cD) = (dedC seen qs).map cD
  | [], _ => rfl
  | q :: qs, seen => by
    show (if dmem (cD q) (seen.map cD) then dedup (seen.map cD) (qs.map cD) else cD q :: dedup (cD q :: seen.map cD) (qs.map cD)) = _
    unfold dedC
    have e2 := dedup_c (qs := qs) (seen := q :: seen)
    rw [List.map_cons] at e2
    rw [dmem_c, dedup_c, e2]
    by_cases h : q ∈ seen <;> simp [h]
theorem deqs_c : ∀ {ps qs : Cs}, deqs (ps.map cD) (qs.map cD) = decide (ps = qs)
  | [], [] => rfl
  | [], _ :: _ => rfl
  | _ :: _, [] => rfl
  | p :: ps, q :: qs => by
    show (deq (cD p) (cD q) && deqs (ps.map cD) (qs.map cD)) = _
    rw [deq_c, deqs_c, Bool.eq_iff_iff]
    simp
theorem pls_c : ∀ {qs : Cs}, D.pls (qs.map cD) = true
  | [] => rfl
  | q :: qs => pls_c (qs := qs)
theorem alk_c {p q : Int × Int} : alk (cD p) (cD q) = true := rfl
theorem deps_c {qs : Cs} : D.deps (qs.map cD) ≤ 1 := deps_le fun x hx => by
  obtain ⟨p, _, rfl⟩ := List.mem_map.mp hx
  exact Nat.le_refl _
/-- a cell within -/
def cellB (rows len : Int) : D → Bool
  | .tup [a, b] => within a 0 (rows - 1) && within b 0 (len - 1)
  | _ => false
def toC : D → Int × Int
  | .tup [.int i, .int j] => (i, j)
  | _ => (0, 0)
theorem cellB_inv {rows len : Int} {x : D} (h : cellB rows len x = true) : x = cD (toC x) ∧ 0 ≤ (toC x).1 ∧ (toC x).1 < rows ∧ 0 ≤ (toC x).2 ∧ (toC x).2 < len := by
  unfold cellB at h
  split at h
  · rename_i a b
    rw [Bool.and_eq_true] at h
    obtain ⟨h1, h2⟩ := h
    unfold within at h1 h2
    split at h1
    · split at h2
      · simp at h1 h2
        exact ⟨rfl, h1.1, by show _ < _; simp [toC]; omega, h2.1, by simp [toC]; omega⟩
      · cases h2
    · cases h1
  · cases h
theorem cells_inv {rows len : Int} : ∀ {xs : List D}, xs.all (cellB rows len) = true → xs = (xs.map toC).map cD ∧ ∀ p ∈ xs.map toC, 0 ≤ p.1 ∧ p.1 < rows ∧ 0 ≤ p.2 ∧ p.2 < len
  | [], _ => ⟨rfl, fun _ h => by cases h⟩
  | x :: xs, h => by
    rw [List.all_cons, Bool.and_eq_true] at h
    have h1 := cellB_inv h.1
    have h2 := cells_inv h.2
    refine ⟨?_, fun p hp => ?_⟩
    · rw [List.map_cons, List.map_cons, ← h2.1, ← h1.1]
    · rcases List.mem_cons.mp hp with rfl | hp
      · exact h1.2
      · exact h2.2 p hp
/-- a lot -/
def goodLot (rows len : Int) : D → Bool
  | .tup xs => xs.all (cellB rows len) && incB (xs.map toC)
  | _ => false
theorem goodLot_inv {rows len : Int} {d : D} (h : goodLot rows len d = true) : ∃ ps, d = lotD ps ∧ Lot rows len ps := by
  cases d with
  | tup xs =>
    have h : (xs.all (cellB rows len) && incB (xs.map toC)) = true := h
    rw [Bool.and_eq_true] at h
    have h1 := cells_inv h.1
    exact ⟨xs.map toC, by unfold lotD; rw [← h1.1], incB_iff.mp h.2, h1.2⟩
  | _ => cases h
theorem goodLot_of {rows len : Int} {ps : Cs} (h : Lot rows len ps) : goodLot rows len (lotD ps) = true := by
  show ((ps.map cD).all (cellB rows len) && incB ((ps.map cD).map toC)) = true
  have e : (ps.map cD).map toC = ps := by
    rw [List.map_map]
    have : (toC ∘ cD) = id := by funext p; rfl
    rw [this, List.map_id]
  rw [e, incB_iff.mpr h.ord, Bool.and_true, List.all_eq_true]
  intro x hx
  obtain ⟨p, hp, rfl⟩ := List.mem_map.mp hx
  obtain ⟨a, b, c, d⟩ := h.rng p hp
  simp [cD, cellB, within]
  omega
theorem allD'_map {f : D → Bool} : ∀ {xs : List D}, allD' (xs.map fun x => .bl (f x)) = some (xs.all f)
  | [] => rfl
  | x :: xs => by
    show (allD' (xs.map fun x => .bl (f x))).map (fun q => f x && q) = _
    rw [allD'_map]; rfl
theorem filterMap_some' {f : D → D} : ∀ {xs : List D}, xs.filterMap (fun x => some (f x)) = xs.map f
  | [] => rfl
  | x :: xs => by simp
theorem pairB_of {x : D} (h : pairB x = true) : ∃ a b, x = .tup [a, b] := by
  cases x with
  | tup xs =>
    have h : (xs.length == 2) = true := h
    rw [beq_iff_eq] at h
    match xs, h with
    | [a, b], _ => exact ⟨a, b, rfl⟩
  | _ => cases h
theorem cellB_pair {rows len : Int} {x : D} (h : pairB x = false) : cellB rows len x = false := by
  cases x with
  | tup xs =>
    match xs with
    | [] => rfl
    | [_] => rfl
    | [a, b] => cases h
    | _ :: _ :: _ :: _ => rfl
  | _ => rfl
theorem pls_mem {x : D} : ∀ {xs : List D}, D.pls xs = true → x ∈ xs → x.pl = true
  | [], _, h => by cases h
  | y :: ys, h, hx => by
    have h : (D.pl y && D.pls ys) = true := h
    rw [Bool.and_eq_true] at h
    rcases List.mem_cons.mp hx with rfl | hx
    · exact h.1
    · exact pls_mem h.2 hx
abbrev A (d : D) : Slot := some (d, false)
theorem e_isT {cl : Nat → List D → Pi.Sto → RC} {bw : Bool} {i : Nat} {env : Pi.Env} {st : Pi.Sto} {v : D} (hg : getS env i = some (v, false)) (hv : v.pl = true) : ev cd.G cl bw (.bi .isinst [.v i, .g (.ty "tuple")]) env st = .ok (.bl (isTup v), false) env st := by
  refine e_bi (ds := [v, .ty "tuple"]) (env1 := env) (st1 := st) ?_ ?_
  · simp [evs, ev, hg, R.bind]
  · show (isInst cd.G v (.ty "tuple")).map _ = _
    rw [isTup_ok hv]; rfl
theorem f2 {n : Nat} {v : D} {rows len : Int} {st : Pi.Sto} (hv : v.pl = true) (hd : v.dep ≤ 50) (hw : wid v < 64) (hr : rows ≤ 63) (hln : len ≤ 63) : call (n + 2) 2 [v, .int rows, .int len] st = .ok (.bl (goodLot rows len v)) false st := by
  rw [call_at (fn := c_is_lot) rfl rfl]
  cases v with
  | tup xs =>
    have plx : D.pls xs = true := hv
    have wx : xs.length < 64 := by
      have : max xs.length (wids xs) < 64 := hw
      omega
    have szx : szOk xs.length = true := by simp [szOk]; omega
    let env : Pi.Env := [some (.tup xs, false), some (.int rows, false), some (.int len, false), none, none, none]
    have l1 : ev cd.G (call (n + 1)) true (.lc (.call 1 [.v 3]) (.n 3) (.v 0) none) env st = .ok (.lst (xs.map fun x => .bl (pairB x)), true) env st := by
      refine (ev_lc (x := .tup xs) (o := false) (env1 := env) (st1 := st) (env2 := env) (st2 := st) (xs := xs) rfl rfl szx ?_).trans rfl
      rw [← filterMap_some']
      refine lcGo_pure fun x hx => ?_
      have e1 : callN cd.G cd.fns 0 (n + 1) 1 [x] st = _ := f1 (pls_mem plx hx)
      simp [lcStep, setT, env, ev, evs, R.bind, getS, lift, ofCall, e1, R.calm, clear, T.own]
    have b1 : truth (ev cd.G (call (n + 1)) true (.or (.not (.bi .isinst [.v 0, .g (.ty "tuple")])) (.not (.bi .all [.lc (.call 1 [.v 3]) (.n 3) (.v 0) none]))) env st) = .ok (!xs.all pairB) env st := by
      exact t_of (e_or (p := !true) (q := !xs.all pairB) (e_not (e_isT rfl hv)) fun _ => e_not (e_bi (es_cons l1 rfl) (by
        show (allD' _).map _ = _
        rw [allD'_map]; rfl)))
    show fin (exB cd.G (call (n + 1)) 0 c_is_lot.body env st) = _
    unfold c_is_lot
    dsimp only
    cases h1 : xs.all pairB with
    | false =>
      rw [xb_if_ret b1 (by rw [h1]; rfl) (d := .bl false) (o := false) (env2 := env) (st2 := st) rfl]
      have : xs.all (cellB rows len) = false := by
        rw [List.all_eq_false] at h1 ⊢
        obtain ⟨x, hx, hp⟩ := h1
        refine ⟨x, hx, ?_⟩
        rw [cellB_pair (by simpa using hp)]
        decide
      show RC.ok _ _ _ = RC.ok (.bl (xs.all (cellB rows len) && _)) _ _
      rw [this]; rfl
    | true =>
      rw [xb_if_no b1 (by rw [h1]; rfl)]
      have l2 : ev cd.G (call (n + 1)) true (.lc (.and (.call 0 [.v 4, .k (.int 0), .bin .sub (.v 1) (.k (.int 1))]) (.call 0 [.v 5, .k (.int 0), .bin .sub (.v 2) (.k (.int 1))])) (.t [4, 5]) (.v 0) none) env st = .ok (.lst (xs.map fun x => .bl (cellB rows len x)), true) env st := by
        refine (ev_lc (x := .tup xs) (o := false) (env1 := env) (st1 := st) (env2 := env) (st2 := st) (xs := xs) rfl rfl szx ?_).trans rfl
        rw [← filterMap_some']
        refine lcGo_pure fun x hx => ?_
        obtain ⟨a, b, rfl⟩ := pairB_of (List.all_eq_true.mp h1 x hx)
        have px := pls_mem plx hx
        have px : (a.pl && (b.pl && true)) = true := px
        simp only [Bool.and_eq_true, and_true] at px
        have e1 : callN cd.G cd.fns 0 (n + 1) 0 [a, .int 0, .int (rows - 1)] st = _ := f0 px.1
        have e2 : callN cd.G cd.fns 0 (n + 1) 0 [b, .int 0, .int (len - 1)] st = _ := f0 px.2
        have es : cellB rows len (.tup [a, b]) = (within a 0 (rows - 1) && within b 0 (len - 1)) := rfl
        cases hw : within a 0 (rows - 1) with
        | false =>
          rw [hw] at e1
          simp [lcStep, setT, env, ev, evs, R.bind, getS, lift, ofCall, e1, R.calm, clear, T.own, binop, es, hw]
        | true =>
          rw [hw] at e1
          simp [lcStep, setT, env, ev, evs, R.bind, getS, lift, ofCall, e1, e2, R.calm, clear, T.own, binop, es, hw]
      have b2 : truth (ev cd.G (call (n + 1)) true (.not (.bi .all [.lc (.and (.call 0 [.v 4, .k (.int 0), .bin .sub (.v 1) (.k (.int 1))]) (.call 0 [.v 5, .k (.int 0), .bin .sub (.v 2) (.k (.int 1))])) (.t [4, 5]) (.v 0) none])) env st) = .ok (!xs.all (cellB rows len)) env st := by
        exact t_of (e_not (e_bi (es_cons l2 rfl) (by
          show (allD' _).map _ = _
          rw [allD'_map]; rfl)))
      cases h2 : xs.all (cellB rows len) with
      | false =>
        rw [xb_if_ret b2 (by rw [h2]; rfl) (d := .bl false) (o := false) (env2 := env) (st2 := st) rfl]
        show RC.ok _ _ _ = RC.ok (.bl (xs.all (cellB rows len) && _)) _ _
        rw [h2]; rfl
      | true =>
        rw [xb_if_no b2 (by rw [h2]; rfl)]
        obtain ⟨h3, h4⟩ := cells_inv h2
        generalize hps : xs.map toC = ps at h3 h4
        have es : goodLot rows len (.tup xs) = incB ps := by
          show (xs.all (cellB rows len) && incB (xs.map toC)) = _
          rw [h2, hps]; rfl
        rw [es]
        have fl : xs.all flatInts = true := by
          rw [h3, List.all_eq_true]
          intro x hx
          obtain ⟨p, hp, rfl⟩ := List.mem_map.mp hx
          obtain ⟨a, b, c, d⟩ := h4 p hp
          simp [cD, flatInts]
          omega
        have ss : sortSetD xs = some (.lst ((sortC (dedC [] ps)).map cD), true) := by
          unfold sortSetD
          have e3 := dedup_c (qs := ps) (seen := [])
          rw [List.map_nil] at e3
          rw [fl, h3, e3, isort_c]
          have : decide ((ps.map cD).length < 64) = true := by rw [← h3]; simpa using wx
          rw [this]; rfl
        have eqq : cmpop .eq (.lst xs) (.lst ((sortC (dedC [] ps)).map cD)) = some (incB ps) := by
          have hdd : D.deps xs + 1 ≤ 50 := hd
          have := deps_c (qs := sortC (dedC [] ps))
          simp only [cmpop, D.pl, D.dep, plx, pls_c]
          rw [if_pos (by simp; omega)]
          show some (deqs xs _) = _
          rw [h3, deqs_c, ← incB_sort]
        simp [exB, exS, ev, evs, R.bind, getS, lift, bifn, ss, eqq, env, fin]
  | bl i => rfl
  | non => rfl
  | str => rfl
  | int => rfl
  | lst => rfl
  | _ => cases hv
end K1

set_option maxRecDepth 100000
set_option maxHeartbeats 0
/-! L10: lots recognized by the law. -/
namespace K1
open PySem Pi Pi.EvR
theorem at0 {a : D} {xs : List D} : atIx (a :: xs) 0 = some a :=
  (atIx_of (by omega) (by simp <;> omega)).trans rfl
theorem at1 {a b : D} {xs : List D} : atIx (a :: b :: xs) 1 = some b :=
  (atIx_of (by omega) (by simp <;> omega)).trans rfl
theorem at2 {a b c : D} {xs : List D} : atIx (a :: b :: c :: xs) 2 = some c :=
  (atIx_of (by omega) (by simp <;> omega)).trans rfl
theorem at3 {a b c d : D} {xs : List D} : atIx (a :: b :: c :: d :: xs) 3 = some d :=
  (atIx_of (by omega) (by simp <;> omega)).trans rfl
theorem at4 {a b c d e : D} {xs : List D} : atIx (a :: b :: c :: d :: e :: xs) 4 = some e :=
  (atIx_of (by omega) (by simp <;> omega)).trans rfl
theorem ixt {st : Pi.Sto} {xs : List D} {i : Int} {y : D} (h : atIx xs i = some y) : ixF st (.tup xs) (.int i) = some (y, false) := by
  show ((atIx xs i).map fun d => (d, false)) = _
  rw [h]; rfl
theorem ixl {st : Pi.Sto} {xs : List D} {i : Int} {y : D} (h : atIx xs i = some y) : ixF st (.lst xs) (.int i) = some (y, false) := by
  show ((atIx xs i).map fun d => (d, false)) = _
  rw [h]; rfl
theorem wide_pair {x : D} : wideB x 2 2 = pairB x := by
  cases x with
  | tup xs =>
    show (decide ((2 : Int) ≤ xs.length) && decide ((xs.length : Int) ≤ 2)) = (xs.length == 2)
    rw [Bool.eq_iff_iff, Bool.and_eq_true, decide_eq_true_eq, decide_eq_true_eq, beq_iff_eq]
    omega
  | _ => rfl
def adj : Cs → List ((Int × Int) × (Int × Int))
  | [] => []
  | p :: r => match r with
    | [] => []
    | q :: _ => (p, q) :: adj r
theorem zip_adj : ∀ {ps : Cs}, zipD (ps.map cD) ((ps.map cD).drop 1) = (adj ps).map fun pq => .tup [cD pq.1, cD pq.2]
  | [] => rfl
  | [p] => rfl
  | p :: q :: r => by
    show D.tup [cD p, cD q] :: zipD ((q :: r).map cD) (((q :: r).map cD).drop 1) = _
    rw [zip_adj]; rfl
theorem incB_adj : ∀ {ps : Cs}, incB ps = (adj ps).all fun pq => pltB pq.1 pq.2
  | [] => rfl
  | [p] => rfl
  | p :: q :: r => by
    show (pltB p q && incB (q :: r)) = _
    rw [incB_adj]; rfl
theorem adj_len : ∀ {ps : Cs}, (adj ps).length ≤ ps.length
  | [] => Nat.le_refl _
  | [p] => Nat.zero_le _
  | p :: q :: r => by
    show (adj (q :: r)).length + 1 ≤ _
    have := adj_len (ps := q :: r)
    simp at this ⊢
    omega
theorem pls_const {α : Type} {xs : List α} : D.pls (xs.map fun _ => D.int 1) = true := by
  induction xs with
  | nil => rfl
  | cons x xs ih => exact ih
theorem eq_nil {xs : List D} (h : D.pls xs = true) : cmpop .eq (.lst xs) (.lst []) = some xs.isEmpty := by
  show (if (D.pls xs && true && decide (min (D.deps xs + 1) 1 ≤ 60)) = true then some (deqs xs []) else none) = _
  rw [h, if_pos (by simp <;> omega)]
  cases xs <;> rfl
theorem f32 {n : Nat} {v : D} {rows len : Int} {st : Pi.Sto} (hv : v.pl = true) (hw : wid v < 64) : call (n + 2) 32 [v, .int rows, .int len] st = .ok (.bl (goodLot rows len v)) false st := by
  by_cases ht : isTup v = true
  case neg =>
    have ht : isTup v = false := by simpa using ht
    have : goodLot rows len v = false := by cases v <;> first | rfl | cases ht
    rw [this]
    exact call_ret (fn := c_law_good_lot) rfl rfl (b_ifR (e_not (e_isT rfl hv)) (by rw [ht]; rfl) (b_ret rfl rfl))
  case pos =>
  obtain ⟨xs, rfl⟩ : ∃ xs, v = .tup xs := by cases v <;> first | exact ⟨_, rfl⟩ | cases ht
  have plx : D.pls xs = true := hv
  have wx : xs.length < 64 := by
    have : max xs.length (wids xs) < 64 := hw
    omega
  have szx : szOk xs.length = true := by simp [szOk]; omega
  let E : Slot → Pi.Env := fun s => [A (.tup xs), A (.int rows), A (.int len), s, none, none]
  have key := for_all (body := fStep cd.G (call (n + 1)) 0 (.n 3) [
  .ifs (.or (.not (.call 22 [.v 3, .k (.int 2), .k (.int 2)])) (.not (.call 25 [.ix (.v 3) (.k (.int 0)), .k (.int 0), .bin .sub (.v 1) (.k (.int 1))]))) [
   .ret (.k (.bl false))] [],
  .ifs (.not (.call 25 [.ix (.v 3) (.k (.int 1)), .k (.int 0), .bin .sub (.v 2) (.k (.int 1))])) [
   .ret (.k (.bl false))] []]) (P := cellB rows len) (E := E) (st := st) (xs := xs) (s := none) (by
    intro x hx s
    have px := pls_mem plx hx
    cases hp : pairB x with
    | false =>
      rw [cellB_pair hp]
      refine ⟨(fun z => by cases z), fun _ => ⟨E (A x), ?_⟩⟩
      exact b_ifR (e_or (q := true) (e_not (e_call (ds := [x, .int 2, .int 2]) rfl (f22 px))) fun h => by
        rw [wide_pair, hp] at h; cases h) (by rw [wide_pair, hp]; rfl) (b_ret rfl rfl)
    | true =>
      obtain ⟨a, b, rfl⟩ := pairB_of hp
      have px : (a.pl && (b.pl && true)) = true := px
      simp only [Bool.and_eq_true, and_true] at px
      have c1 : ev cd.G (call (n + 1)) true (.or (.not (.call 22 [.v 3, .k (.int 2), .k (.int 2)])) (.not (.call 25 [.ix (.v 3) (.k (.int 0)), .k (.int 0), .bin .sub (.v 1) (.k (.int 1))]))) (E (A (.tup [a, b]))) st = .ok (.bl (!true || !within a 0 (rows - 1)), false) (E (A (.tup [a, b]))) st :=
        e_or (e_not (e_call (ds := [.tup [a, b], .int 2, .int 2]) rfl (f22 (n := n) (by simp [D.pl, D.pls, px])))) fun _ =>
          e_not (e_call (ds := [a, .int 0, .int (rows - 1)]) (es_cons (e_ix rfl rfl (ixt at0)) rfl) (f25 px.1))
      have c2 : ev cd.G (call (n + 1)) true (.not (.call 25 [.ix (.v 3) (.k (.int 1)), .k (.int 0), .bin .sub (.v 2) (.k (.int 1))])) (E (A (.tup [a, b]))) st = .ok (.bl (!within b 0 (len - 1)), false) (E (A (.tup [a, b]))) st :=
        e_not (e_call (ds := [b, .int 0, .int (len - 1)]) (es_cons (e_ix rfl rfl (ixt at1)) rfl) (f25 px.2))
      have es : cellB rows len (.tup [a, b]) = (within a 0 (rows - 1) && within b 0 (len - 1)) := rfl
      rw [es]
      cases h1 : within a 0 (rows - 1) with
      | false => exact ⟨(fun z => by cases z), fun _ => ⟨_, b_ifR c1 (by rw [h1]; rfl) (b_ret rfl rfl)⟩⟩
      | true =>
        cases h2 : within b 0 (len - 1) with
        | false => exact ⟨(fun z => by cases z), fun _ => ⟨_, (b_ifF c1 (by rw [h1]; rfl)).trans (b_ifR c2 (by rw [h2]; rfl) (b_ret rfl rfl))⟩⟩
        | true => exact ⟨fun _ => (b_ifF c1 (by rw [h1]; rfl)).trans ((b_ifF c2 (by rw [h2]; rfl)).trans rfl), fun z => by cases z⟩)
  cases hc : xs.all (cellB rows len) with
  | false =>
    obtain ⟨e, he⟩ := key.2 hc
    have : goodLot rows len (.tup xs) = false := by
      show (xs.all (cellB rows len) && _) = _
      rw [hc]; rfl
    rw [this]
    exact call_ret (fn := c_law_good_lot) rfl rfl ((b_ifF (e_not (e_isT rfl hv)) rfl).trans (b_rt ((s_for (x := .tup xs) (o := false) rfl rfl).trans he)))
  | true =>
    obtain ⟨s', he⟩ := key.1 hc
    obtain ⟨h3, h4⟩ := cells_inv hc
    generalize hps : xs.map toC = ps at h3 h4
    have es : goodLot rows len (.tup xs) = incB ps := by
      show (xs.all (cellB rows len) && incB (xs.map toC)) = _
      rw [hc, hps]; rfl
    rw [es]
    refine call_ret (fn := c_law_good_lot) rfl rfl (env1 := E s') (st1 := st) ((b_ifF (e_not (e_isT rfl hv)) rfl).trans ((b_nx ((s_for (x := .tup xs) (o := false) rfl rfl).trans he)).trans (b_ret rfl ?_)))
    have hz : zipD xs (xs.drop 1) = (adj ps).map fun pq => .tup [cD pq.1, cD pq.2] := by rw [h3, zip_adj]
    have lps : ps.length < 64 := by
      have : xs.length = ps.length := by rw [h3, List.length_map]
      omega
    have hsl : ev cd.G (call (n + 1)) false (.sl (.v 0) (some (.k (.int 1))) none) (E s') st = .ok (.tup (xs.drop 1), false) (E s') st :=
      e_sl (l := some 1) (u := none) rfl (eo_some rfl) rfl (by show some (D.tup (cutBy xs (some 1) none), false) = _; rw [cut_hi (by omega)]; rfl)
    have hit : ev cd.G (call (n + 1)) false (.zp (.v 0) (.sl (.v 0) (some (.k (.int 1))) none)) (E s') st = .ok (.lst ((adj ps).map fun pq => .tup [cD pq.1, cD pq.2]), false) (E s') st :=
      e_zp rfl hsl (by show some (D.lst (zipD xs (xs.drop 1))) = _; rw [hz])
    have hl := lc_filter (G := cd.G) (cl := call (n + 1)) (st := st) (elt := .k (.int 1)) (k := .not (.cmp .lt (.v 4) (.v 5))) (tg := .t [4, 5]) (env0 := E s') (f := fun _ => .int 1) (p := fun x => match x with
      | .tup [a, b] => !dlt a b
      | _ => false) (xs := (adj ps).map fun pq => .tup [cD pq.1, cD pq.2]) (by
        intro x hx
        obtain ⟨⟨p, q⟩, hpq, rfl⟩ := List.mem_map.mp hx
        refine ⟨[A (.tup xs), A (.int rows), A (.int len), s', A (cD p), A (cD q)], false, false, rfl, ?_, fun _ => rfl, rfl⟩
        exact e_not (e_cmp (x := cD p) (y := cD q) rfl rfl rfl))
    have hlc := e_lc (bw := true) (env1 := E s') (env3 := E s') hit rfl (by
      rw [List.length_map]
      have := adj_len (ps := ps)
      simp [szOk]
      omega) hl rfl
    have ep : ∀ {zs : List ((Int × Int) × (Int × Int))}, ((((zs.map fun pq => D.tup [cD pq.1, cD pq.2]).filter (fun x => match x with
      | .tup [a, b] => !dlt a b
      | _ => false)).map fun _ => D.int 1).isEmpty) = zs.all fun pq => pltB pq.1 pq.2 := by
      intro zs
      induction zs with
      | nil => rfl
      | cons z zs ih =>
        rw [List.map_cons, List.filter_cons, List.all_cons, ← ih]
        cases hp : pltB z.1 z.2 <;> simp [dlt_c, hp]
    refine e_cmp hlc (y := .lst []) rfl (q := incB ps) ?_
    rw [eq_nil pls_const, ep, incB_adj]
end K1

set_option maxRecDepth 100000
set_option maxHeartbeats 0
/-! L11: scripts recognized. -/
namespace K1
open PySem Pi Pi.EvR
abbrev VV (v : D) : Prop := Vk 63 50 v
theorem VV.mem {xs : List D} {x : D} (h : VV (.tup xs)) (hx : x ∈ xs) : VV x := by
  obtain ⟨j, hj, _, h2⟩ := h.inv
  exact (h2 x hx).mono (Nat.le_refl _) (by omega)
theorem VV.len {xs : List D} (h : VV (.tup xs)) : xs.length ≤ 63 := by
  obtain ⟨j, hj, h1, h2⟩ := h.inv
  exact h1
theorem f2v {n : Nat} {v : D} {rows len : Int} {st : Pi.Sto} (hv : VV v) (hr : rows ≤ 63) (hln : len ≤ 63) : call (n + 2) 2 [v, .int rows, .int len] st = .ok (.bl (goodLot rows len v)) false st := f2 hv.pl hv.dp (by have := hv.wd; omega) hr hln
theorem f32v {n : Nat} {v : D} {rows len : Int} {st : Pi.Sto} (hv : VV v) : call (n + 2) 32 [v, .int rows, .int len] st = .ok (.bl (goodLot rows len v)) false st := f32 hv.pl (by have := hv.wd; omega)
def goodRd (rows len : Int) : D → Bool
  | .tup [p, a, b] => within p 2 3 && (goodLot rows len a && goodLot rows len b)
  | _ => false
def goodPair (rows len : Int) : D → Bool
  | .tup [a, b] => goodLot rows len a && goodLot rows len b
  | _ => false
def lenB (n : Nat) (lo hi : Int) : Bool := !decide ((n : Int) < lo) && !decide (hi < (n : Int))
def goodRds (rows len : Int) : D → Bool
  | .tup rs => lenB rs.length 1 3 && rs.all (goodRd rows len)
  | _ => false
def numOf : D → Int
  | .int i => i
  | _ => 0
def goodS : D → Bool
  | .tup [r, l, b, rs, a] => (within r 1 3 && within l 1 3) && (goodPair (numOf r) (numOf l) b && (goodRds (numOf r) (numOf l) rs && goodLot (numOf r) (numOf l) a))
  | _ => false
theorem len_ne {xs : List D} {k : Nat} (h : xs.length ≠ k) : ((xs.length : Int) == (k : Int)) = false := by
  rw [beq_eq_false_iff_ne]
  omega
theorem within_inv {v : D} {lo hi : Int} (h : within v lo hi = true) : ∃ i, v = .int i ∧ lo ≤ i ∧ i ≤ hi := by
  cases v with
  | int i =>
    have h : (decide (lo ≤ i) && decide (i ≤ hi)) = true := h
    rw [Bool.and_eq_true, decide_eq_true_eq, decide_eq_true_eq] at h
    exact ⟨i, rfl, h.1, h.2⟩
  | _ => cases h
theorem len3 {xs : List D} (h : xs.length = 3) : ∃ a b c, xs = [a, b, c] := by
  match xs, h with
  | [a, b, c], _ => exact ⟨a, b, c, rfl⟩
theorem len5 {xs : List D} (h : xs.length = 5) : ∃ a b c d e, xs = [a, b, c, d, e] := by
  match xs, h with
  | [a, b, c, d, e], _ => exact ⟨a, b, c, d, e, rfl⟩
theorem goodRd_len {rows len : Int} {xs : List D} (h : xs.length ≠ 3) : goodRd rows len (.tup xs) = false := by
  match xs with
  | [] => rfl
  | [_] => rfl
  | [_, _] => rfl
  | [a, b, c] => exact absurd rfl h
  | _ :: _ :: _ :: _ :: _ => rfl
theorem goodS_len {xs : List D} (h : xs.length ≠ 5) : goodS (.tup xs) = false := by
  match xs with
  | [] => rfl
  | [_] => rfl
  | [_, _] => rfl
  | [_, _, _] => rfl
  | [_, _, _, _] => rfl
  | [a, b, c, _, _] => exact absurd rfl h
  | _ :: _ :: _ :: _ :: _ :: _ :: _ => rfl
theorem isTup_inv {v : D} (h : isTup v = true) : ∃ xs, v = .tup xs := by
  cases v <;> first | exact ⟨_, rfl⟩ | cases h
theorem f3 {n : Nat} {v : D} {rows len : Int} {st : Pi.Sto} (hv : VV v) (hr : rows ≤ 63) (hln : len ≤ 63) : call (n + 3) 3 [v, .int rows, .int len] st = .ok (.bl (goodRd rows len v)) false st := by
  cases ht : isTup v with
  | false =>
    have : goodRd rows len v = false := by cases v <;> first | rfl | cases ht
    rw [this]
    exact call_ret (fn := c_is_round) rfl rfl (b_ifR (e_or (q := true) (e_not (e_isT rfl hv.pl)) fun h => by rw [ht] at h; cases h) (by rw [ht]; rfl) (b_ret rfl rfl))
  | true =>
    obtain ⟨xs, rfl⟩ := isTup_inv ht
    by_cases h3 : xs.length = 3
    · obtain ⟨p, a, b, rfl⟩ := len3 h3
      have vp : VV p := hv.mem (by simp)
      have va : VV a := hv.mem (by simp)
      have vb : VV b := hv.mem (by simp)
      let env : Pi.Env := [A (.tup [p, a, b]), A (.int rows), A (.int len)]
      have c1 : ev cd.G (call (n + 2)) true (.or (.not (.bi .isinst [.v 0, .g (.ty "tuple")])) (.or (.cmp .ne (.bi .len [.v 0]) (.k (.int 3))) (.not (.call 0 [.ix (.v 0) (.k (.int 0)), .k (.int 2), .k (.int 3)])))) env st = .ok (.bl (!true || (!true || !within p 2 3)), false) env st :=
        e_or (e_not (e_isT rfl hv.pl)) fun _ => e_or (e_cmp rfl rfl rfl) fun _ => e_not (e_call (ds := [p, .int 2, .int 3]) (es_cons (e_ix rfl rfl (ixt at0)) rfl) (f0 vp.pl))
      cases h1 : within p 2 3 with
      | false =>
        have : goodRd rows len (.tup [p, a, b]) = false := by
          show (within p 2 3 && _) = _
          rw [h1]; rfl
        rw [this]
        exact call_ret (fn := c_is_round) rfl rfl (b_ifR c1 (by rw [h1]; rfl) (b_ret rfl rfl))
      | true =>
        have : goodRd rows len (.tup [p, a, b]) = (goodLot rows len a && goodLot rows len b) := by
          show (within p 2 3 && _) = _
          rw [h1]; rfl
        rw [this]
        exact call_ret (fn := c_is_round) rfl rfl (env1 := env) ((b_ifF c1 (by rw [h1]; rfl)).trans (b_ret rfl (e_and (e_call (ds := [a, .int rows, .int len]) (es_cons (e_ix rfl rfl (ixt at1)) rfl) (f2v va hr hln)) fun _ => (e_call (ds := [b, .int rows, .int len]) (es_cons (e_ix rfl rfl (ixt at2)) rfl) (f2v vb hr hln)))))
    · rw [goodRd_len h3]
      exact call_ret (fn := c_is_round) rfl rfl (b_ifR (e_or (q := true || true) (e_not (e_isT rfl hv.pl)) fun _ => e_or (e_cmp rfl rfl (by
        show some (!((xs.length : Int) == ((3 : Nat) : Int))) = _
        rw [len_ne h3]; rfl)) fun z => by cases z) rfl (b_ret rfl rfl))
theorem f4 {n : Nat} {v : D} {st : Pi.Sto} (hv : VV v) : call (n + 4) 4 [v] st = .ok (.bl (goodS v)) false st := by
  cases ht : isTup v with
  | false =>
    have : goodS v = false := by cases v <;> first | rfl | cases ht
    rw [this]
    exact call_ret (fn := c_is_right_script) rfl rfl (b_ifR (e_or (q := true) (e_not (e_isT rfl hv.pl)) fun h => by rw [ht] at h; cases h) (by rw [ht]; rfl) (b_ret rfl rfl))
  | true =>
  obtain ⟨xs, rfl⟩ := isTup_inv ht
  by_cases h5 : xs.length = 5
  case neg =>
    rw [goodS_len h5]
    exact call_ret (fn := c_is_right_script) rfl rfl (b_ifR (e_or (q := true) (e_not (e_isT rfl hv.pl)) fun _ => (e_cmp rfl rfl (by
        show some (!((xs.length : Int) == ((5 : Nat) : Int))) = _
        rw [len_ne h5]; rfl))) rfl (b_ret rfl rfl))
  case pos =>
  obtain ⟨r, l, b, rs, a, rfl⟩ := len5 h5
  have vr : VV r := hv.mem (by simp)
  have vl : VV l := hv.mem (by simp)
  have vb : VV b := hv.mem (by simp)
  have vs : VV rs := hv.mem (by simp)
  have va : VV a := hv.mem (by simp)
  let env : Pi.Env := [A (.tup [r, l, b, rs, a]), A r, A l, A b, A rs, A a, none]
  have c1 : ev cd.G (call (n + 3)) true (.or (.not (.bi .isinst [.v 0, .g (.ty "tuple")])) (.cmp .ne (.bi .len [.v 0]) (.k (.int 5)))) [A (.tup [r, l, b, rs, a]), none, none, none, none, none, none] st = .ok (.bl (!true || !true), false) [A (.tup [r, l, b, rs, a]), none, none, none, none, none, none] st :=
    e_or (e_not (e_isT rfl hv.pl)) fun _ => e_cmp rfl rfl rfl
  have c2 : ev cd.G (call (n + 3)) true (.or (.not (.call 0 [.v 1, .k (.int 1), .k (.int 3)])) (.not (.call 0 [.v 2, .k (.int 1), .k (.int 3)]))) env st = .ok (.bl (!within r 1 3 || !within l 1 3), false) env st :=
    e_or (e_not (e_call (ds := [r, .int 1, .int 3]) rfl (f0 vr.pl))) fun _ => e_not (e_call (ds := [l, .int 1, .int 3]) rfl (f0 vl.pl))
  have start : ∀ {res : R Pi.Flow}, exB cd.G (call (n + 3)) 0 (c_is_right_script.body.drop 2) env st = res → exB cd.G (call (n + 3)) 0 c_is_right_script.body [A (.tup [r, l, b, rs, a]), none, none, none, none, none, none] st = res := by
    rintro _ rfl
    exact (b_ifF c1 rfl).trans (b_asg (env1 := [A (.tup [r, l, b, rs, a]), none, none, none, none, none, none]) (p := (.tup [r, l, b, rs, a], false)) rfl rfl)
  have es : goodS (.tup [r, l, b, rs, a]) = ((within r 1 3 && within l 1 3) && (goodPair (numOf r) (numOf l) b && (goodRds (numOf r) (numOf l) rs && goodLot (numOf r) (numOf l) a))) := rfl
  cases h1 : within r 1 3 with
  | false =>
    rw [es, h1]
    exact call_ret (fn := c_is_right_script) rfl rfl (start (b_ifR c2 (by rw [h1]; rfl) (b_ret rfl rfl)))
  | true =>
  cases h2 : within l 1 3 with
  | false =>
    rw [es, h1, h2]
    exact call_ret (fn := c_is_right_script) rfl rfl (start (b_ifR c2 (by rw [h1, h2]; rfl) (b_ret rfl rfl)))
  | true =>
  rw [es, h1, h2]
  obtain ⟨ri, rfl, r1, r2⟩ := within_inv h1
  obtain ⟨li, rfl, l1, l2⟩ := within_inv h2
  show _ = RC.ok (.bl (goodPair ri li b && (goodRds ri li rs && goodLot ri li a))) false st
  have c3 : ev cd.G (call (n + 3)) true (.or (.not (.call 1 [.v 3])) (.or (.not (.call 2 [.ix (.v 3) (.k (.int 0)), .v 1, .v 2])) (.not (.call 2 [.ix (.v 3) (.k (.int 1)), .v 1, .v 2])))) env st = .ok (.bl (!pairB b || !goodPair ri li b), false) env st := by
    refine e_or (e_not (e_call (ds := [b]) rfl (f1 vb.pl))) fun h => ?_
    obtain ⟨x, y, rfl⟩ := pairB_of (x := b) (by simpa using h)
    have e : (!goodPair ri li (.tup [x, y])) = (!goodLot ri li x || !goodLot ri li y) := Bool.not_and _ _
    rw [e]
    exact e_or (e_not (e_call (ds := [x, .int ri, .int li]) (es_cons (e_ix rfl rfl (ixt at0)) rfl) (f2v (vb.mem (by simp)) (by omega) (by omega)))) fun _ => e_not (e_call (ds := [y, .int ri, .int li]) (es_cons (e_ix rfl rfl (ixt at1)) rfl) (f2v (vb.mem (by simp)) (by omega) (by omega)))
  cases h3 : goodPair ri li b with
  | false => exact call_ret (fn := c_is_right_script) rfl rfl (start ((b_ifF c2 (by rw [h1, h2]; rfl)).trans (b_ifR c3 (by rw [h3]; simp) (b_ret rfl rfl))))
  | true =>
  have pb : pairB b = true := by
    cases hp : pairB b with
    | true => rfl
    | false =>
      unfold goodPair at h3
      split at h3
      · cases hp
      · cases h3
  have start3 : ∀ {res : R Pi.Flow}, exB cd.G (call (n + 3)) 0 (c_is_right_script.body.drop 4) env st = res → exB cd.G (call (n + 3)) 0 c_is_right_script.body [A (.tup [.int ri, .int li, b, rs, a]), none, none, none, none, none, none] st = res := by
    rintro _ rfl
    exact start ((b_ifF c2 (by rw [h1, h2]; rfl)).trans (b_ifF c3 (by rw [pb, h3]; rfl)))
  cases hs : isTup rs with
  | false =>
    have : goodRds ri li rs = false := by cases rs <;> first | rfl | cases hs
    rw [this]
    exact call_ret (fn := c_is_right_script) rfl rfl (start3 (b_ifR (e_or (q := true) (e_not (e_isT rfl vs.pl)) fun h => by rw [hs] at h; cases h) (by rw [hs]; rfl) (b_ret rfl rfl)))
  | true =>
  obtain ⟨ys, rfl⟩ := isTup_inv hs
  have c4 : ev cd.G (call (n + 3)) true (.or (.not (.bi .isinst [.v 4, .g (.ty "tuple")])) (.not (.chn .le .le (.k (.int 1)) (.bi .len [.v 4]) (.k (.int 3))))) env st = .ok (.bl (!true || !lenB ys.length 1 3), false) env st :=
    e_or (e_not (e_isT rfl vs.pl)) fun _ => e_not (e_chn rfl rfl rfl (fun _ => rfl) fun _ => rfl)
  have er : goodRds ri li (.tup ys) = (lenB ys.length 1 3 && ys.all (goodRd ri li)) := rfl
  rw [er]
  cases h4 : lenB ys.length 1 3 with
  | false => exact call_ret (fn := c_is_right_script) rfl rfl (start3 (b_ifR c4 (by rw [h4]; rfl) (b_ret rfl rfl)))
  | true =>
  have szy : szOk ys.length = true := by
    have := vs.len
    simp [szOk]; omega
  have hl := lc_map (G := cd.G) (cl := call (n + 3)) (st := st) (elt := .call 3 [.v 6, .v 1, .v 2]) (tg := .n 6) (env0 := env) (f := fun x => .bl (goodRd ri li x)) (xs := ys) (fun x hx =>
    ⟨[A (.tup [.int ri, .int li, b, .tup ys, a]), A (.int ri), A (.int li), A b, A (.tup ys), A a, A x], false, rfl, e_call (ds := [x, .int ri, .int li]) rfl (f3 (vs.mem hx) (by omega) (by omega)), rfl⟩)
  have hlc := e_lc (bw := true) (it := .v 4) (env := env) (env1 := env) (env3 := env) (st := st) (x := .tup ys) (o := false) rfl rfl szy hl rfl
  refine call_ret (fn := c_is_right_script) rfl rfl (start3 ((b_ifF c4 (by rw [h4]; rfl)).trans (b_ret (env1 := env) rfl ?_)))
  exact e_and (p := ys.all (goodRd ri li)) (e_bi (es_cons hlc rfl) (by
    show (allD' _).map _ = _
    rw [allD'_map]; rfl)) fun _ => e_call (ds := [a, .int ri, .int li]) rfl (f2v va (by omega) (by omega))
end K1

set_option maxRecDepth 100000
set_option maxHeartbeats 0
/-! L12: scripts recognized by the law. -/
namespace K1
open PySem Pi Pi.EvR
theorem wide_len {xs : List D} {lo hi : Int} : wideB (.tup xs) lo hi = lenB xs.length lo hi := by
  show (decide (lo ≤ (xs.length : Int)) && decide ((xs.length : Int) ≤ hi)) = (!decide ((xs.length : Int) < lo) && !decide (hi < (xs.length : Int)))
  rw [Bool.eq_iff_iff]
  simp
theorem wide5 {v : D} : wideB v 5 5 = true ↔ ∃ a b c d e, v = .tup [a, b, c, d, e] := by
  cases v with
  | tup xs =>
    show (decide ((5 : Int) ≤ (xs.length : Int)) && decide ((xs.length : Int) ≤ 5)) = true ↔ _
    rw [Bool.and_eq_true, decide_eq_true_eq, decide_eq_true_eq]
    constructor
    · intro h
      obtain ⟨a, b, c, d, e, rfl⟩ := len5 (xs := xs) (by omega)
      exact ⟨a, b, c, d, e, rfl⟩
    · rintro ⟨a, b, c, d, e, h⟩
      cases h
      simp
  | _ =>
    refine ⟨fun h => (by cases h), fun ⟨a, b, c, d, e, h⟩ => by cases h⟩
theorem wide3 {v : D} : wideB v 3 3 = true ↔ ∃ a b c, v = .tup [a, b, c] := by
  cases v with
  | tup xs =>
    show (decide ((3 : Int) ≤ (xs.length : Int)) && decide ((xs.length : Int) ≤ 3)) = true ↔ _
    rw [Bool.and_eq_true, decide_eq_true_eq, decide_eq_true_eq]
    constructor
    · intro h
      obtain ⟨a, b, c, rfl⟩ := len3 (xs := xs) (by omega)
      exact ⟨a, b, c, rfl⟩
    · rintro ⟨a, b, c, h⟩
      cases h
      simp
  | _ =>
    refine ⟨fun h => (by cases h), fun ⟨a, b, c, h⟩ => by cases h⟩
def rdHead : D → Bool
  | .tup [p, _, _] => within p 2 3
  | _ => false
def rdLots : D → List D
  | .tup [_, a, b] => [a, b]
  | _ => []
theorem rdHead_inv {x : D} (h : rdHead x = true) : ∃ p a b, x = .tup [p, a, b] ∧ within p 2 3 = true := by
  unfold rdHead at h
  split at h
  · exact ⟨_, _, _, rfl, h⟩
  · cases h
theorem rdHead_wide {x : D} (h : wideB x 3 3 = false) : rdHead x = false := by
  cases hp : rdHead x with
  | false => rfl
  | true =>
    obtain ⟨p, a, b, rfl, _⟩ := rdHead_inv hp
    exact absurd (wide3.mpr ⟨p, a, b, rfl⟩) (by rw [h]; decide)
theorem goodRd_split {rows len : Int} {x : D} : goodRd rows len x = (rdHead x && (rdLots x).all (goodLot rows len)) := by
  cases x with
  | tup xs =>
    match xs with
    | [] => rfl
    | [_] => rfl
    | [_, _] => rfl
    | [p, a, b] =>
      show (within p 2 3 && (goodLot rows len a && goodLot rows len b)) = (within p 2 3 && [a, b].all (goodLot rows len))
      simp
    | _ :: _ :: _ :: _ :: _ => rfl
  | _ => rfl
theorem goodRd_all {rows len : Int} : ∀ {xs : List D}, xs.all (goodRd rows len) = (xs.all rdHead && (xs.flatMap rdLots).all (goodLot rows len))
  | [] => rfl
  | x :: xs => by
    rw [List.all_cons, List.all_cons, List.flatMap_cons, List.all_append, goodRd_all, goodRd_split]
    cases rdHead x <;> cases xs.all rdHead <;> simp
theorem filter_nil {P : D → Bool} : ∀ {xs : List D}, (xs.filter fun x => !P x).isEmpty = xs.all P
  | [] => rfl
  | x :: xs => by
    rw [List.filter_cons, List.all_cons, ← filter_nil]
    cases hp : P x <;> simp
theorem pls_of {xs : List D} (h : ∀ x ∈ xs, x.pl = true) : D.pls xs = true := pls_all h
theorem foldl_lots : ∀ {xs acc : List D} {s : Slot}, xs.foldl (fun (q : Slot × List D) x => (A x, q.2 ++ rdLots x)) (s, acc) = ((xs.foldl (fun (q : Slot × List D) x => (A x, q.2 ++ rdLots x)) (s, acc)).1, acc ++ xs.flatMap rdLots)
  | [], acc, s => by simp
  | x :: xs, acc, s => by
    rw [List.foldl_cons, foldl_lots, List.flatMap_cons]
    simp
theorem f33 {n : Nat} {v : D} {st : Pi.Sto} (hv : VV v) : call (n + 4) 33 [v] st = .ok (.bl (goodS v)) false st := by
  have cw : ∀ bw, ev cd.G (call (n + 3)) bw (.call 22 [.v 0, .k (.int 5), .k (.int 5)]) [A v, none, none, none, none, none, none, none, none] st = .ok (.bl (wideB v 5 5), false) [A v, none, none, none, none, none, none, none, none] st := fun bw =>
    e_call (ds := [v, .int 5, .int 5]) rfl (f22 hv.pl)
  cases hw : wideB v 5 5 with
  | false =>
    have : goodS v = false := by
      cases hg : goodS v with
      | false => rfl
      | true =>
        refine absurd (wide5.mpr ?_) (by rw [hw]; decide)
        unfold goodS at hg
        split at hg
        · exact ⟨_, _, _, _, _, rfl⟩
        · cases hg
    rw [this]
    exact call_ret (fn := c_law_good_script) rfl rfl (b_ifR (e_or (q := true) (e_not (cw true)) fun h => by rw [hw] at h; cases h) (by rw [hw]; rfl) (b_ret rfl rfl))
  | true =>
  obtain ⟨r, l, b, rs, a, rfl⟩ := wide5.mp hw
  have vr : VV r := hv.mem (by simp)
  have vl : VV l := hv.mem (by simp)
  have vb : VV b := hv.mem (by simp)
  have vs : VV rs := hv.mem (by simp)
  have va : VV a := hv.mem (by simp)
  let env0 : Pi.Env := [A (.tup [r, l, b, rs, a]), none, none, none, none, none, none, none, none]
  let env : Pi.Env := [A (.tup [r, l, b, rs, a]), none, none, A r, A l, A b, A rs, A a, none]
  have c1 : ev cd.G (call (n + 3)) true (.or (.not (.call 22 [.v 0, .k (.int 5), .k (.int 5)])) (.or (.not (.call 25 [.ix (.v 0) (.k (.int 0)), .k (.int 1), .k (.int 3)])) (.not (.call 25 [.ix (.v 0) (.k (.int 1)), .k (.int 1), .k (.int 3)])))) env0 st = .ok (.bl (!true || (!within r 1 3 || !within l 1 3)), false) env0 st := by
    rw [← hw]
    exact e_or (e_not (cw true)) fun _ => e_or (e_not (e_call (ds := [r, .int 1, .int 3]) (es_cons (e_ix rfl rfl (ixt at0)) rfl) (f25 vr.pl))) fun _ => e_not (e_call (ds := [l, .int 1, .int 3]) (es_cons (e_ix rfl rfl (ixt at1)) rfl) (f25 vl.pl))
  have es : goodS (.tup [r, l, b, rs, a]) = ((within r 1 3 && within l 1 3) && (goodPair (numOf r) (numOf l) b && (goodRds (numOf r) (numOf l) rs && goodLot (numOf r) (numOf l) a))) := rfl
  cases h1 : within r 1 3 with
  | false =>
    rw [es, h1]
    exact call_ret (fn := c_law_good_script) rfl rfl (b_ifR c1 (by rw [h1]; rfl) (b_ret rfl rfl))
  | true =>
  cases h2 : within l 1 3 with
  | false =>
    rw [es, h1, h2]
    exact call_ret (fn := c_law_good_script) rfl rfl (b_ifR c1 (by rw [h1, h2]; rfl) (b_ret rfl rfl))
  | true =>
  rw [es, h1, h2]
  obtain ⟨ri, rfl, r1, r2⟩ := within_inv h1
  obtain ⟨li, rfl, l1, l2⟩ := within_inv h2
  show _ = RC.ok (.bl (goodPair ri li b && (goodRds ri li rs && goodLot ri li a))) false st
  have start : ∀ {res : R Pi.Flow}, exB cd.G (call (n + 3)) 0 (c_law_good_script.body.drop 2) env st = res → exB cd.G (call (n + 3)) 0 c_law_good_script.body env0 st = res := by
    rintro _ rfl
    exact (b_ifF c1 (by rw [h1, h2]; rfl)).trans (b_asg (env1 := env0) (p := (.tup [.int ri, .int li, b, rs, a], false)) rfl rfl)
  have c2 : ev cd.G (call (n + 3)) true (.or (.not (.call 22 [.v 5, .k (.int 2), .k (.int 2)])) (.not (.call 22 [.v 6, .k (.int 1), .k (.int 3)]))) env st = .ok (.bl (!pairB b || !wideB rs 1 3), false) env st := by
    rw [← wide_pair]
    exact e_or (e_not (e_call (ds := [b, .int 2, .int 2]) rfl (f22 vb.pl))) fun _ => e_not (e_call (ds := [rs, .int 1, .int 3]) rfl (f22 vs.pl))
  cases hb : pairB b with
  | false =>
    have : goodPair ri li b = false := by
      cases hg : goodPair ri li b with
      | false => rfl
      | true =>
        unfold goodPair at hg
        split at hg
        · cases hb
        · cases hg
    rw [this]
    exact call_ret (fn := c_law_good_script) rfl rfl (start (b_ifR c2 (by rw [hb]; rfl) (b_ret rfl rfl)))
  | true =>
  obtain ⟨x, y, rfl⟩ := pairB_of hb
  cases hr : wideB rs 1 3 with
  | false =>
    have : goodRds ri li rs = false := by
      cases rs with
      | tup ys =>
        rw [wide_len] at hr
        show (lenB ys.length 1 3 && _) = _
        rw [hr]; rfl
      | _ => rfl
    rw [this]
    have : (goodPair ri li (.tup [x, y]) && (false && goodLot ri li a)) = false := by simp
    rw [this]
    exact call_ret (fn := c_law_good_script) rfl rfl (start (b_ifR c2 (by rw [hb, hr]; rfl) (b_ret rfl rfl)))
  | true =>
  obtain ⟨ys, rfl⟩ : ∃ ys, rs = .tup ys := by cases rs <;> first | exact ⟨_, rfl⟩ | cases hr
  have hr' : lenB ys.length 1 3 = true := by rw [← wide_len]; exact hr
  have er : goodRds ri li (.tup ys) = ys.all (goodRd ri li) := by
    show (lenB ys.length 1 3 && _) = _
    rw [hr']; rfl
  rw [er, goodRd_all]
  have c3 : ev cd.G (call (n + 3)) true (.not (.call 32 [.v 7, .v 3, .v 4])) env st = .ok (.bl (!goodLot ri li a), false) env st := e_not (e_call (ds := [a, .int ri, .int li]) rfl (f32v va))
  have start2 : ∀ {res : R Pi.Flow}, exB cd.G (call (n + 3)) 0 (c_law_good_script.body.drop 3) env st = res → exB cd.G (call (n + 3)) 0 c_law_good_script.body env0 st = res := by
    rintro _ rfl
    exact start (b_ifF c2 (by rw [hb, hr]; rfl))
  cases h3 : goodLot ri li a with
  | false =>
    rw [Bool.and_false, Bool.and_false]
    exact call_ret (fn := c_law_good_script) rfl rfl (start2 (b_ifR c3 (by rw [h3]; rfl) (b_ret rfl rfl)))
  | true =>
  let E : Slot → Pi.Env := fun s => [A (.tup [.int ri, .int li, .tup [x, y], .tup ys, a]), s, none, A (.int ri), A (.int li), A (.tup [x, y]), A (.tup ys), A a, none]
  have key := for_all (body := fStep cd.G (call (n + 3)) 0 (.n 1) [.ifs (.or (.not (.call 22 [.v 1, .k (.int 3), .k (.int 3)])) (.not (.call 25 [.ix (.v 1) (.k (.int 0)), .k (.int 2), .k (.int 3)]))) [
   .ret (.k (.bl false))] []]) (P := rdHead) (E := E) (st := st) (xs := ys) (s := none) (by
    intro z hz s
    have vz := vs.mem hz
    cases hw3 : wideB z 3 3 with
    | false =>
      rw [rdHead_wide hw3]
      exact ⟨(fun z => by cases z), fun _ => ⟨E (A z), b_ifR (e_or (q := true) (e_not (e_call (ds := [z, .int 3, .int 3]) rfl (f22 vz.pl))) fun h => by rw [hw3] at h; cases h) (by rw [hw3]; rfl) (b_ret rfl rfl)⟩⟩
    | true =>
      obtain ⟨p, u, w, rfl⟩ := wide3.mp hw3
      have cc : ev cd.G (call (n + 3)) true (.or (.not (.call 22 [.v 1, .k (.int 3), .k (.int 3)])) (.not (.call 25 [.ix (.v 1) (.k (.int 0)), .k (.int 2), .k (.int 3)]))) (E (A (.tup [p, u, w]))) st = .ok (.bl (!wideB (.tup [p, u, w]) 3 3 || !within p 2 3), false) (E (A (.tup [p, u, w]))) st :=
        e_or (e_not (e_call (ds := [.tup [p, u, w], .int 3, .int 3]) rfl (f22 vz.pl))) fun _ => e_not (e_call (ds := [p, .int 2, .int 3]) (es_cons (e_ix rfl rfl (ixt at0)) rfl) (f25 (vz.mem (by simp)).pl))
      show (within p 2 3 = true → _) ∧ (within p 2 3 = false → _)
      cases hp : within p 2 3 with
      | false => exact ⟨(fun z => by cases z), fun _ => ⟨_, b_ifR cc (by rw [hw3, hp]; rfl) (b_ret rfl rfl)⟩⟩
      | true => exact ⟨fun _ => (b_ifF cc (by rw [hw3, hp]; rfl)).trans rfl, fun z => by cases z⟩)
  cases h4 : ys.all rdHead with
  | false =>
    obtain ⟨e, he⟩ := key.2 h4
    have : (goodPair ri li (.tup [x, y]) && ((false && (ys.flatMap rdLots).all (goodLot ri li)) && true)) = false := by simp
    rw [this]
    exact call_ret (fn := c_law_good_script) rfl rfl (start2 ((b_ifF c3 (by rw [h3]; rfl)).trans (b_rt ((s_for (x := .tup ys) (o := false) rfl rfl).trans he))))
  | true =>
  obtain ⟨s', he⟩ := key.1 h4
  let E2 : Slot × List D → Pi.Env := fun q => [A (.tup [.int ri, .int li, .tup [x, y], .tup ys, a]), q.1, some (.lst q.2, true), A (.int ri), A (.int li), A (.tup [x, y]), A (.tup ys), A a, none]
  have leny := vs.len
  obtain ⟨acc, hacc, hfold⟩ : ∃ q : Slot × List D, q.2 = [x, y] ++ ys.flatMap rdLots ∧ forGo (fStep cd.G (call (n + 3)) 0 (.n 1) [.asg (.n 2) (.bin .add (.v 2) (.ls [.ix (.v 1) (.k (.int 1)), .ix (.v 1) (.k (.int 2))]))]) ys (E2 (s', [x, y])) st = .ok .nx (E2 q) st := by
    have key : ∀ (zs acc : List D) (s : Slot), (∀ z ∈ zs, rdHead z = true) → acc.length + 2 * zs.length ≤ 1000 → ∃ q : Slot × List D, q.2 = acc ++ zs.flatMap rdLots ∧ forGo (fStep cd.G (call (n + 3)) 0 (.n 1) [.asg (.n 2) (.bin .add (.v 2) (.ls [.ix (.v 1) (.k (.int 1)), .ix (.v 1) (.k (.int 2))]))]) zs (E2 (s, acc)) st = .ok .nx (E2 q) st := by
      intro zs
      induction zs with
      | nil => intro acc s _ _; exact ⟨(s, acc), by simp, rfl⟩
      | cons z zs ih =>
        intro acc s hz hlen
        simp only [List.length_cons] at hlen
        obtain ⟨p, u, w, rfl, _⟩ := rdHead_inv (hz z List.mem_cons_self)
        obtain ⟨q, hq, hf⟩ := ih (acc ++ [u, w]) (A (.tup [p, u, w])) (fun t ht => hz t (List.mem_cons_of_mem _ ht)) (by simp; omega)
        refine ⟨q, by rw [hq, List.flatMap_cons]; simp [rdLots], ?_⟩
        have step : fStep cd.G (call (n + 3)) 0 (.n 1) [.asg (.n 2) (.bin .add (.v 2) (.ls [.ix (.v 1) (.k (.int 1)), .ix (.v 1) (.k (.int 2))]))] (.tup [p, u, w]) (E2 (s, acc)) st = .ok .nx (E2 (A (.tup [p, u, w]), acc ++ [u, w])) st := by
          refine (b_asg (env1 := E2 (A (.tup [p, u, w]), acc)) (p := (.lst (acc ++ [u, w]), true)) (e_bin (x := .lst acc) (y := .lst [u, w]) (o := false) rfl (e_ls (ds := [u, w]) (env := E2 (A (.tup [p, u, w]), acc)) (env1 := E2 (A (.tup [p, u, w]), acc)) (es_cons (e_ix (x := .tup [p, u, w]) (y := .int 1) rfl rfl (ixt at1)) (es_cons (e_ix (x := .tup [p, u, w]) (y := .int 2) rfl rfl (ixt at2)) es_nil)) rfl) ?_) rfl).trans rfl
          show (if szOk (acc.length + 2) = true then _ else _) = _
          rw [if_pos (by simp [szOk]; omega)]
        show (fStep _ _ _ _ _ _ _ _).bind _ = _
        rw [step]
        exact hf
    exact key ys [x, y] s' (fun z hz => List.all_eq_true.mp h4 z hz) (by simp; omega)
  have hacl : acc.2.length ≤ 1000 := by
    rw [hacc]
    have : ∀ zs : List D, (zs.flatMap rdLots).length ≤ 2 * zs.length := by
      intro zs
      induction zs with
      | nil => simp
      | cons z zs ih =>
        rw [List.flatMap_cons, List.length_append, List.length_cons]
        have : (rdLots z).length ≤ 2 := by
          unfold rdLots
          split <;> simp
        omega
    have := this ys
    rw [List.length_append]
    show 2 + _ ≤ 1000
    omega
  have vacc : ∀ z ∈ acc.2, VV z := by
    intro z hz
    rw [hacc] at hz
    rcases List.mem_append.mp hz with hz | hz
    · exact vb.mem hz
    · obtain ⟨t, ht, hz⟩ := List.mem_flatMap.mp hz
      have vt := vs.mem ht
      unfold rdLots at hz
      split at hz
      · exact vt.mem (List.mem_cons_of_mem _ hz)
      · cases hz
  have hl := lc_filter (G := cd.G) (cl := call (n + 3)) (st := st) (elt := .v 8) (k := .not (.call 32 [.v 8, .v 3, .v 4])) (tg := .n 8) (env0 := [A (.tup [.int ri, .int li, .tup [x, y], .tup ys, a]), acc.1, A (.lst acc.2), A (.int ri), A (.int li), A (.tup [x, y]), A (.tup ys), A a, none]) (f := fun x => x) (p := fun x => !goodLot ri li x) (xs := acc.2) (fun z hz =>
    ⟨[A (.tup [.int ri, .int li, .tup [x, y], .tup ys, a]), acc.1, A (.lst acc.2), A (.int ri), A (.int li), A (.tup [x, y]), A (.tup ys), A a, A z], false, false, rfl, e_not (e_call (ds := [z, .int ri, .int li]) rfl (f32v (vacc z hz))), fun _ => rfl, rfl⟩)
  have hlc := e_lc (bw := true) (it := .v 2) (env := E2 acc) (env3 := [A (.tup [.int ri, .int li, .tup [x, y], .tup ys, a]), acc.1, A (.lst acc.2), A (.int ri), A (.int li), A (.tup [x, y]), A (.tup ys), A a, none]) (st := st) (x := .lst acc.2) (o := false) rfl rfl (by simp [szOk]; omega) hl rfl
  refine call_ret (fn := c_law_good_script) rfl rfl (start2 ((b_ifF c3 (by rw [h3]; rfl)).trans ((b_nx ((s_for (x := .tup ys) (o := false) rfl rfl).trans he)).trans ((b_asg (env1 := E s') (p := (.lst [x, y], true)) rfl rfl).trans ((b_nx ((s_for (x := .tup ys) (o := false) rfl rfl).trans hfold)).trans (b_ret rfl (e_cmp hlc (y := .lst []) rfl ?_)))))))
  rw [List.map_id', eq_nil (pls_of fun z hz => (vacc z ((List.mem_filter.mp hz).1)).pl), filter_nil, hacc, List.all_append]
  simp [goodPair]
end K1

set_option maxRecDepth 100000
set_option maxHeartbeats 0
/-! L13: all snips. -/
namespace K1
open PySem Pi Pi.EvR
def tL : D := .str "left"
def tR : D := .str "right"
def tA : D := .str "at"
def sD (w : Int) (s : D) (p : Int × Int) : D := .tup [.int w, s, .int p.1, .int p.2]
def rawGo (i : Int) : List (Cs × Cs) → List D
  | [] => []
  | (a, b) :: r => a.map (sD i tL) ++ (b.map (sD i tR) ++ rawGo (i + 1) r)
def Scp.pairs (s : Scp) : List (Cs × Cs) := (s.b1, s.b2) :: s.rds.map (·.2)
def Scp.raw (s : Scp) : List D := rawGo 0 s.pairs ++ s.aft.map (sD (s.rds.length + 1) tA)
/-- the later is not less -/
def Aft (x y : D) : Prop := dlt y x = false
theorem aft_w {w w' : Int} {s s' : D} {p p' : Int × Int} (h : w < w') : Aft (sD w s p) (sD w' s' p') := by
  have h1 : (w' == w) = false := by rw [beq_eq_false_iff_ne]; omega
  have h2 : ¬ w' < w := by omega
  simp [Aft, sD, dlt, dlts, deq, h1, h2]
theorem aft_s {w : Int} {p p' : Int × Int} : Aft (sD w tL p) (sD w tR p') := by
  have h1 : deq tR tL = false := by decide
  have h2 : dlt tR tL = false := by decide
  simp [Aft, sD, dlt, dlts, deq, h1, h2]
theorem deq_side {s : D} (hs : s = tL ∨ s = tR ∨ s = tA) : deq s s = true := by
  rcases hs with rfl | rfl | rfl <;> decide
theorem aft_p {w : Int} {s : D} {p p' : Int × Int} (hs : s = tL ∨ s = tR ∨ s = tA) (h : plt p p') : Aft (sD w s p) (sD w s p') := by
  have h1 := deq_side hs
  unfold plt at h
  by_cases h2 : p'.1 = p.1
  · have h3 : (p'.2 == p.2) = false := by rw [beq_eq_false_iff_ne]; omega
    have h4 : ¬ p'.2 < p.2 := by omega
    simp [Aft, sD, dlt, dlts, deq, h1, h2, h3]
    omega
  · have h3 : (p'.1 == p.1) = false := by rw [beq_eq_false_iff_ne]; exact h2
    simp [Aft, sD, dlt, dlts, deq, h1, h3]
    omega
theorem raw_mem {x : D} : ∀ {ps : List (Cs × Cs)} {i : Int}, x ∈ rawGo i ps → ∃ w s p, x = sD w s p ∧ i ≤ w ∧ w < i + ps.length ∧ (s = tL ∨ s = tR)
  | [], i, h => by cases h
  | (a, b) :: r, i, h => by
    unfold rawGo at h
    simp only [List.length_cons]
    rcases List.mem_append.mp h with h | h
    · obtain ⟨p, _, rfl⟩ := List.mem_map.mp h
      exact ⟨i, tL, p, rfl, by omega, by omega, .inl rfl⟩
    · rcases List.mem_append.mp h with h | h
      · obtain ⟨p, _, rfl⟩ := List.mem_map.mp h
        exact ⟨i, tR, p, rfl, by omega, by omega, .inr rfl⟩
      · obtain ⟨w, s, p, e, h1, h2, h3⟩ := raw_mem h
        exact ⟨w, s, p, e, by omega, by omega, h3⟩
theorem rawGo_ord : ∀ {ps : List (Cs × Cs)} {i : Int}, (∀ q ∈ ps, q.1.Pairwise plt ∧ q.2.Pairwise plt) → (rawGo i ps).Pairwise Aft
  | [], i, h => List.Pairwise.nil
  | (a, b) :: r, i, h => by
    have ⟨h1, h2⟩ := h (a, b) List.mem_cons_self
    unfold rawGo
    rw [List.pairwise_append, List.pairwise_append, List.pairwise_map, List.pairwise_map]
    refine ⟨h1.imp fun z => aft_p (.inl rfl) z, ⟨h2.imp fun z => aft_p (.inr (.inl rfl)) z, rawGo_ord fun q hq => h q (List.mem_cons_of_mem _ hq), ?_⟩, ?_⟩
    · intro x hx y hy
      obtain ⟨p, _, rfl⟩ := List.mem_map.mp hx
      obtain ⟨w, s, p', rfl, h3, _, _⟩ := raw_mem hy
      exact aft_w (by omega)
    · intro x hx y hy
      obtain ⟨p, _, rfl⟩ := List.mem_map.mp hx
      rcases List.mem_append.mp hy with hy | hy
      · obtain ⟨p', _, rfl⟩ := List.mem_map.mp hy
        exact aft_s
      · obtain ⟨w, s, p', rfl, h3, _, _⟩ := raw_mem hy
        exact aft_w (by omega)
theorem Scp.pairs_len {s : Scp} : s.pairs.length = s.rds.length + 1 := by simp [Scp.pairs]
theorem Scp.pairs_ok {s : Scp} (h : s.Ok) : ∀ q ∈ s.pairs, LotOk s.rows s.len q.1 ∧ LotOk s.rows s.len q.2 := by
  intro q hq
  rcases List.mem_cons.mp hq with rfl | hq
  · exact ⟨h.b1, h.b2⟩
  · obtain ⟨r, hr, rfl⟩ := List.mem_map.mp hq
    exact (h.rds r hr).2
theorem Scp.raw_ord {s : Scp} (h : s.Ok) : s.raw.Pairwise Aft := by
  unfold Scp.raw
  rw [List.pairwise_append, List.pairwise_map]
  refine ⟨rawGo_ord fun q hq => ⟨(s.pairs_ok h q hq).1.lot.ord, (s.pairs_ok h q hq).2.lot.ord⟩, h.aft.lot.ord.imp fun z => aft_p (.inr (.inr rfl)) z, fun x hx y hy => ?_⟩
  obtain ⟨w, sd, p, rfl, h1, h2, _⟩ := raw_mem hx
  obtain ⟨p', _, rfl⟩ := List.mem_map.mp hy
  rw [Scp.pairs_len] at h2
  exact aft_w (by omega)
theorem isort_id : ∀ {xs : List D}, xs.Pairwise Aft → isort xs = xs
  | [], _ => rfl
  | [x], _ => rfl
  | x :: y :: r, h => by
    have ⟨h1, h2⟩ := List.pairwise_cons.mp h
    show insB x (isort (y :: r)) = _
    rw [isort_id h2]
    have : dlt y x = false := h1 y List.mem_cons_self
    show (if dlt y x then _ else _) = _
    rw [this]; rfl
theorem raw_sD {s : Scp} {x : D} (hx : x ∈ s.raw) : ∃ w sd p, x = sD w sd p ∧ (sd = tL ∨ sd = tR ∨ sd = tA) := by
  rcases List.mem_append.mp hx with hx | hx
  · obtain ⟨w, sd, p, rfl, _, _, h⟩ := raw_mem hx
    exact ⟨w, sd, p, rfl, by rcases h with h | h <;> simp [h]⟩
  · obtain ⟨p, _, rfl⟩ := List.mem_map.mp hx
    exact ⟨_, _, p, rfl, .inr (.inr rfl)⟩
theorem rawGo_len : ∀ {ps : List (Cs × Cs)} {i : Int}, (∀ q ∈ ps, q.1.length ≤ 9 ∧ q.2.length ≤ 9) → (rawGo i ps).length ≤ 18 * ps.length
  | [], i, h => Nat.zero_le _
  | (a, b) :: r, i, h => by
    have ⟨h1, h2⟩ := h (a, b) List.mem_cons_self
    have h3 := rawGo_len (i := i + 1) fun q hq => h q (List.mem_cons_of_mem _ hq)
    unfold rawGo
    simp only [List.length_append, List.length_map, List.length_cons]
    simp only at h1 h2
    omega
theorem Scp.raw_len {s : Scp} (h : s.Ok) : s.raw.length ≤ 100 := by
  have h1 := rawGo_len (i := 0) (ps := s.pairs) fun q hq => ⟨(s.pairs_ok h q hq).1.few, (s.pairs_ok h q hq).2.few⟩
  have h2 := h.aft.few
  have h3 := h.few
  rw [Scp.pairs_len] at h1
  unfold Scp.raw
  rw [List.length_append, List.length_map]
  omega
theorem sD_facts {w : Int} {s : D} {p : Int × Int} (hs : s = tL ∨ s = tR ∨ s = tA) : (sD w s p).pl = true ∧ (sD w s p).dep = 1 ∧ nonEmptyTup (sD w s p) = true := by
  rcases hs with rfl | rfl | rfl <;> exact ⟨rfl, rfl, rfl⟩
theorem alk_sD {w w' : Int} {s s' : D} {p p' : Int × Int} (hs : s = tL ∨ s = tR ∨ s = tA) (hs' : s' = tL ∨ s' = tR ∨ s' = tA) : alk (sD w s p) (sD w' s' p') = true := by
  rcases hs with rfl | rfl | rfl <;> rcases hs' with rfl | rfl | rfl <;> rfl
theorem sort_raw {s : Scp} (h : s.Ok) : sortD s.raw = some (.lst s.raw, true) := by
  unfold sortD
  rw [isort_id (s.raw_ord h), if_pos]
  simp only [Bool.and_eq_true, Bool.or_eq_true]
  refine ⟨⟨?_, .inl ?_⟩, ?_⟩
  · unfold sortable
    rw [List.all_eq_true]
    intro x hx
    obtain ⟨w, sd, p, rfl, hs⟩ := raw_sD hx
    obtain ⟨a, b, c⟩ := sD_facts (w := w) (p := p) hs
    rw [a, b]
    simp only [Bool.true_and, Bool.and_eq_true, decide_eq_true_eq]
    refine ⟨by omega, ?_⟩
    rw [List.all_eq_true]
    intro y hy
    obtain ⟨w, sd, p, rfl, hs'⟩ := raw_sD hy
    exact alk_sD hs hs'
  · rw [List.all_eq_true]
    intro x hx
    obtain ⟨w, sd, p, rfl, hs⟩ := raw_sD hx
    exact (sD_facts hs).2.2
  · have := s.raw_len h
    simp [szOk]
    omega
def prD (q : Cs × Cs) : D := .tup [lotD q.1, lotD q.2]
/-! ### the program's -/
def env9 (s : Scp) (acc : List D) (s7 s8 s9 s10 : Slot) : Pi.Env := [A s.d, some (.lst acc, true), A (.int s.rows), A (.int s.len), A (.tup [lotD s.b1, lotD s.b2]), A (.tup (s.rds.map rdD)), A (lotD s.aft), s7, s8, s9, s10, none, none, none, none]
abbrev in9 : List S := [.asg (.n 1) (.bin .add (.v 1) (.lc (.tp [.v 7, .v 9, .v 12, .v 14]) (.t [12, 14]) (.v 10) none))]
abbrev out9 : List S := [.for (.t [9, 10]) (.tp [.tp [.k (.str "left"), .ix (.v 8) (.k (.int 0))], .tp [.k (.str "right"), .ix (.v 8) (.k (.int 1))]]) in9]
theorem add_lst {xs ys : List D} (h : xs.length + ys.length ≤ 1000000) : binop .add (.lst xs) (.lst ys) = some (.lst (xs ++ ys), true) := by
  show (if szOk (xs.length + ys.length) = true then _ else _) = _
  rw [if_pos (by simp [szOk]; exact h)]
theorem step9 {n : Nat} {s : Scp} {acc : List D} {w : Int} {sd : D} {cs : Cs} {s8 s9 s10 : Slot} {st : Pi.Sto} (h : acc.length + cs.length ≤ 1000) : fStep cd.G (call n) 0 (.t [9, 10]) in9 (.tup [sd, lotD cs]) (env9 s acc (A (.int w)) s8 s9 s10) st = .ok .nx (env9 s (acc ++ cs.map (sD w sd)) (A (.int w)) s8 (A sd) (A (lotD cs))) st := by
  have hl := lc_map (G := cd.G) (cl := call n) (st := st) (elt := .tp [.v 7, .v 9, .v 12, .v 14]) (tg := .t [12, 14]) (env0 := env9 s acc (A (.int w)) s8 (A sd) (A (lotD cs))) (f := fun x => .tup [.int w, sd, .int (toC x).1, .int (toC x).2]) (xs := cs.map cD) (fun x hx => by
    obtain ⟨p, _, rfl⟩ := List.mem_map.mp hx
    exact ⟨[A s.d, some (.lst acc, true), A (.int s.rows), A (.int s.len), A (.tup [lotD s.b1, lotD s.b2]), A (.tup (s.rds.map rdD)), A (lotD s.aft), A (.int w), s8, A sd, A (lotD cs), none, A (.int p.1), none, A (.int p.2)], false, rfl, e_tp (ds := [.int w, sd, .int p.1, .int p.2]) rfl rfl, rfl⟩)
  rw [List.map_map] at hl
  have hlc := e_lc (bw := true) (it := .v 10) (env := env9 s acc (A (.int w)) s8 (A sd) (A (lotD cs))) (env1 := env9 s acc (A (.int w)) s8 (A sd) (A (lotD cs))) (env3 := env9 s acc (A (.int w)) s8 (A sd) (A (lotD cs))) (st := st) (x := lotD cs) (o := false) rfl rfl (by rw [List.length_map]; simp [szOk]; omega) hl rfl
  exact (b_asg (env1 := env9 s acc (A (.int w)) s8 (A sd) (A (lotD cs))) (p := (.lst (acc ++ cs.map (sD w sd)), true)) (e_bin rfl hlc (add_lst (by rw [List.length_map]; omega))) rfl).trans rfl
theorem go9 {n : Nat} {s : Scp} {st : Pi.Sto} : ∀ (ps : List (Cs × Cs)) (i : Int) (acc : List D) (s7 s8 s9 s10 : Slot), (∀ q ∈ ps, q.1.length ≤ 9 ∧ q.2.length ≤ 9) → acc.length + 18 * ps.length ≤ 500 → ∃ t7 t8 t9 t10, forGo (fStep cd.G (call n) 0 (.t [7, 8]) out9) (enumD i (ps.map prD)) (env9 s acc s7 s8 s9 s10) st = .ok .nx (env9 s (acc ++ rawGo i ps) t7 t8 t9 t10) st
  | [], i, acc, s7, s8, s9, s10, h, hl => ⟨s7, s8, s9, s10, by simp [rawGo]; rfl⟩
  | (a, b) :: r, i, acc, s7, s8, s9, s10, h, hl => by
    have ⟨h1, h2⟩ := h (a, b) List.mem_cons_self
    simp only [List.length_cons] at hl h1 h2
    obtain ⟨t7, t8, t9, t10, hf⟩ := go9 (n := n) (s := s) (st := st) r (i + 1) (acc ++ a.map (sD i tL) ++ b.map (sD i tR)) (A (.int i)) (A (prD (a, b))) (A tR) (A (lotD b)) (fun q hq => h q (List.mem_cons_of_mem _ hq)) (by simp; omega)
    refine ⟨t7, t8, t9, t10, ?_⟩
    have step : fStep cd.G (call n) 0 (.t [7, 8]) out9 (.tup [.int i, prD (a, b)]) (env9 s acc s7 s8 s9 s10) st = .ok .nx (env9 s (acc ++ a.map (sD i tL) ++ b.map (sD i tR)) (A (.int i)) (A (prD (a, b))) (A tR) (A (lotD b))) st := by
      refine (b_nx ((s_for (x := .tup [.tup [tL, lotD a], .tup [tR, lotD b]]) (o := false) (env1 := env9 s acc (A (.int i)) (A (prD (a, b))) s9 s10) (st1 := st) ?_ rfl).trans ?_)).trans rfl
      · exact e_tp (es_cons (e_tp (es_cons rfl (es_cons (e_ix rfl rfl (ixt at0)) es_nil)) rfl) (es_cons (e_tp (es_cons rfl (es_cons (e_ix rfl rfl (ixt at1)) es_nil)) rfl) es_nil)) rfl
      · show (fStep _ _ _ _ _ _ _ _).bind _ = _
        rw [step9 (by omega)]
        show (fStep _ _ _ _ _ _ _ _).bind _ = _
        rw [step9 (by simp; omega)]
        rfl
    show (fStep _ _ _ _ _ _ _ _).bind _ = _
    rw [show D.tup [.int i, prD (a, b)] = D.tup [.int i, prD (a, b)] from rfl, step]
    show forGo _ _ _ _ = _
    rw [hf]
    simp [rawGo]
theorem sl1 {x y z : D} : slice (.tup [x, y, z]) (some 1) none = some (.tup [y, z], false) := by
  show some (D.tup (cutBy [x, y, z] (some 1) none), false) = _
  rw [cut_hi (by omega)]; rfl
theorem f9 {n : Nat} {s : Scp} {st : Pi.Sto} (h : s.Ok) : call (n + 1) 9 [s.d] st = .ok (.lst s.raw) true st := by
  have hfew := h.few
  have hl := lc_map (G := cd.G) (cl := call n) (st := st) (elt := .sl (.v 11) (some (.k (.int 1))) none) (tg := .n 11) (env0 := env9 s [] none none none none) (f := fun x => .tup (rdLots x)) (xs := s.rds.map rdD) (fun x hx => by
    obtain ⟨r, _, rfl⟩ := List.mem_map.mp hx
    exact ⟨[A s.d, some (.lst [], true), A (.int s.rows), A (.int s.len), A (.tup [lotD s.b1, lotD s.b2]), A (.tup (s.rds.map rdD)), A (lotD s.aft), none, none, none, none, A (rdD r), none, none, none], false, rfl, e_sl (l := some 1) (u := none) rfl rfl rfl sl1, rfl⟩)
  have hlc := e_lc (bw := true) (it := .v 5) (env := env9 s [] none none none none) (env1 := env9 s [] none none none none) (env3 := env9 s [] none none none none) (st := st) (x := .tup (s.rds.map rdD)) (o := false) rfl rfl (by rw [List.length_map]; simp [szOk]; omega) hl rfl
  have epairs : [D.tup [lotD s.b1, lotD s.b2]] ++ (s.rds.map rdD).map (fun x => D.tup (rdLots x)) = s.pairs.map prD := by
    simp [Scp.pairs, prD, rdD, rdLots]
  have henm : ev cd.G (call n) false (.enm (.bin .add (.tp [.v 4]) (.bi .tuple [.lc (.sl (.v 11) (some (.k (.int 1))) none) (.n 11) (.v 5) none]))) (env9 s [] none none none none) st = .ok (.lst (enumD 0 (s.pairs.map prD)), false) (env9 s [] none none none none) st := by
    refine e_enm (x := .tup (s.pairs.map prD)) (o := false) (e_bin (x := .tup [.tup [lotD s.b1, lotD s.b2]]) (y := .tup ((s.rds.map rdD).map fun x => .tup (rdLots x))) rfl (e_bi (es_cons hlc es_nil) rfl) ?_) rfl
    rw [← epairs]
    show (if szOk _ = true then _ else _) = _
    rw [if_pos]
    simp [szOk]; omega
  have pok := s.pairs_ok h
  obtain ⟨t7, t8, t9, t10, hf⟩ := go9 (n := n) (s := s) (st := st) s.pairs 0 [] none none none none (fun q hq => ⟨(pok q hq).1.few, (pok q hq).2.few⟩) (by rw [Scp.pairs_len]; simp; omega)
  have hl2 := lc_map (G := cd.G) (cl := call n) (st := st) (elt := .tp [.bin .add (.bi .len [.v 5]) (.k (.int 1)), .k (.str "at"), .v 12, .v 13]) (tg := .t [12, 13]) (env0 := env9 s ([] ++ rawGo 0 s.pairs) t7 t8 t9 t10) (f := fun x => .tup [.int (s.rds.length + 1), tA, .int (toC x).1, .int (toC x).2]) (xs := s.aft.map cD) (fun x hx => by
    obtain ⟨p, _, rfl⟩ := List.mem_map.mp hx
    refine ⟨[A s.d, some (.lst ([] ++ rawGo 0 s.pairs), true), A (.int s.rows), A (.int s.len), A (.tup [lotD s.b1, lotD s.b2]), A (.tup (s.rds.map rdD)), A (lotD s.aft), t7, t8, t9, t10, none, A (.int p.1), A (.int p.2), none], false, rfl, e_tp (ds := [.int (s.rds.length + 1), tA, .int p.1, .int p.2]) (es_cons (e_bin (e_bi (es_cons rfl es_nil) rfl) rfl (by
      show some (D.int (((s.rds.map rdD).length : Int) + 1), false) = _
      rw [List.length_map])) rfl) rfl, rfl⟩)
  rw [List.map_map] at hl2
  have hlc2 := e_lc (bw := true) (it := .v 6) (env := env9 s ([] ++ rawGo 0 s.pairs) t7 t8 t9 t10) (env1 := env9 s ([] ++ rawGo 0 s.pairs) t7 t8 t9 t10) (env3 := env9 s ([] ++ rawGo 0 s.pairs) t7 t8 t9 t10) (st := st) (x := lotD s.aft) (o := false) rfl rfl (by rw [List.length_map]; have := h.aft.few; simp [szOk]; omega) hl2 rfl
  refine call_ret (fn := c_all_snips) rfl rfl ((b_asg (env1 := [A s.d, none, none, none, none, none, none, none, none, none, none, none, none, none, none]) (p := (s.d, false)) rfl rfl).trans ((b_asg (p := (.lst [], true)) rfl rfl).trans ((b_nx ((s_for henm rfl).trans hf)).trans (b_ret rfl (e_bi (ds := [.lst s.raw]) (es_cons (e_bin rfl hlc2 (add_lst ?_)) es_nil) (sort_raw h))))))
  have := s.raw_len h
  unfold Scp.raw at this
  simp at this ⊢
  omega
end K1

set_option maxRecDepth 100000
set_option maxHeartbeats 0
/-! L14: all snips by the law; one left out. -/
namespace K1
open PySem Pi Pi.EvR
def env34 (s : Scp) (acc : List D) (s2 s3 : Slot) : Pi.Env := [A s.d, some (.lst acc, true), s2, s3, none, none]
abbrev in34 : List S := [
  .asg (.n 1) (.bin .add (.v 1) (.lc (.bin .add (.tp [.v 2, .k (.str "left")]) (.v 5)) (.n 5) (.ix (.v 3) (.k (.int 0))) none)),
  .asg (.n 1) (.bin .add (.v 1) (.lc (.bin .add (.tp [.v 2, .k (.str "right")]) (.v 5)) (.n 5) (.ix (.v 3) (.k (.int 1))) none))]
theorem lc34 {n : Nat} {bw : Bool} {s : Scp} {acc : List D} {w : Int} {cs : Cs} {sd : D} {it kc : C} {s2 s3 : Slot} {st : Pi.Sto} {t3 : D} (h : cs.length ≤ 1000)
    (hk : ∀ x, ev cd.G (call n) true kc [A s.d, some (.lst acc, true), s2, s3, none, A x] st = .ok (.tup [.int w, sd], false) [A s.d, some (.lst acc, true), s2, s3, none, A x] st)
    (hit : ev cd.G (call n) false it (env34 s acc s2 s3) st = .ok (lotD cs, false) (env34 s acc s2 s3) st) :
    ev cd.G (call n) bw (.lc (.bin .add kc (.v 5)) (.n 5) it none) (env34 s acc s2 s3) st = .ok (.lst (cs.map (sD w sd)), true) (env34 s acc s2 s3) st := by
  have hl := lc_map (G := cd.G) (cl := call n) (st := st) (elt := .bin .add kc (.v 5)) (tg := .n 5) (env0 := env34 s acc s2 s3) (f := fun x => .tup [.int w, sd, .int (toC x).1, .int (toC x).2]) (xs := cs.map cD) (fun x hx => by
    obtain ⟨p, _, rfl⟩ := List.mem_map.mp hx
    exact ⟨[A s.d, some (.lst acc, true), s2, s3, none, A (cD p)], false, rfl, e_bin (hk _) rfl rfl, rfl⟩)
  rw [List.map_map] at hl
  exact e_lc (bw := bw) (it := it) (env1 := env34 s acc s2 s3) (env3 := env34 s acc s2 s3) (st := st) (x := lotD cs) (o := false) hit rfl (by rw [List.length_map]; simp [szOk]; omega) hl rfl
theorem go34 {n : Nat} {s : Scp} {st : Pi.Sto} : ∀ (ps : List (Cs × Cs)) (i : Int) (acc : List D) (s2 s3 : Slot), (∀ q ∈ ps, q.1.length ≤ 9 ∧ q.2.length ≤ 9) → acc.length + 18 * ps.length ≤ 500 → ∃ t2 t3, forGo (fStep cd.G (call n) 0 (.t [2, 3]) in34) (enumD i (ps.map prD)) (env34 s acc s2 s3) st = .ok .nx (env34 s (acc ++ rawGo i ps) t2 t3) st
  | [], i, acc, s2, s3, h, hl => ⟨s2, s3, by simp [rawGo]; rfl⟩
  | (a, b) :: r, i, acc, s2, s3, h, hl => by
    have ⟨h1, h2⟩ := h (a, b) List.mem_cons_self
    simp only [List.length_cons] at hl h1 h2
    obtain ⟨t2, t3, hf⟩ := go34 (n := n) (s := s) (st := st) r (i + 1) (acc ++ a.map (sD i tL) ++ b.map (sD i tR)) (A (.int i)) (A (prD (a, b))) (fun q hq => h q (List.mem_cons_of_mem _ hq)) (by simp; omega)
    refine ⟨t2, t3, ?_⟩
    have step : fStep cd.G (call n) 0 (.t [2, 3]) in34 (.tup [.int i, prD (a, b)]) (env34 s acc s2 s3) st = .ok .nx (env34 s (acc ++ a.map (sD i tL) ++ b.map (sD i tR)) (A (.int i)) (A (prD (a, b)))) st := by
      refine (b_asg (env1 := env34 s acc (A (.int i)) (A (prD (a, b)))) (env2 := env34 s (acc ++ a.map (sD i tL)) (A (.int i)) (A (prD (a, b)))) (st1 := st) (p := (.lst (acc ++ a.map (sD i tL)), true)) (e_bin (x := .lst acc) (y := .lst (a.map (sD i tL))) (o := false) (o2 := true) (env1 := env34 s acc (A (.int i)) (A (prD (a, b)))) rfl (lc34 (t3 := .non) (by omega) (fun x => rfl) (e_ix rfl rfl (ixt at0))) (add_lst (by simp; omega))) rfl).trans ?_
      exact (b_asg (env1 := env34 s (acc ++ a.map (sD i tL)) (A (.int i)) (A (prD (a, b)))) (env2 := env34 s (acc ++ a.map (sD i tL) ++ b.map (sD i tR)) (A (.int i)) (A (prD (a, b)))) (st1 := st) (p := (.lst (acc ++ a.map (sD i tL) ++ b.map (sD i tR)), true)) (e_bin (x := .lst (acc ++ a.map (sD i tL))) (y := .lst (b.map (sD i tR))) (o := false) (o2 := true) (env1 := env34 s (acc ++ a.map (sD i tL)) (A (.int i)) (A (prD (a, b)))) rfl (lc34 (t3 := .non) (by omega) (fun x => rfl) (e_ix rfl rfl (ixt at1))) (add_lst (by simp; omega))) rfl).trans rfl
    show (fStep _ _ _ _ _ _ _ _).bind _ = _
    rw [step]
    show forGo _ _ _ _ = _
    rw [hf]
    simp [rawGo]
theorem f34 {n : Nat} {s : Scp} {st : Pi.Sto} (h : s.Ok) : call (n + 1) 34 [s.d] st = .ok (.lst s.raw) true st := by
  have hfew := h.few
  have hl := lc_map (G := cd.G) (cl := call n) (st := st) (elt := .sl (.v 4) (some (.k (.int 1))) none) (tg := .n 4) (env0 := env34 s [] none none) (f := fun x => .tup (rdLots x)) (xs := s.rds.map rdD) (fun x hx => by
    obtain ⟨r, _, rfl⟩ := List.mem_map.mp hx
    exact ⟨[A s.d, some (.lst [], true), none, none, A (rdD r), none], false, rfl, e_sl (l := some 1) (u := none) rfl rfl rfl sl1, rfl⟩)
  have hlc := e_lc (bw := true) (it := .ix (.v 0) (.k (.int 3))) (env := env34 s [] none none) (env1 := env34 s [] none none) (env3 := env34 s [] none none) (st := st) (x := .tup (s.rds.map rdD)) (o := false) (e_ix rfl rfl (ixt at3)) rfl (by rw [List.length_map]; simp [szOk]; omega) hl rfl
  have epairs : [D.tup [lotD s.b1, lotD s.b2]] ++ (s.rds.map rdD).map (fun x => D.tup (rdLots x)) = s.pairs.map prD := by
    simp [Scp.pairs, prD, rdD, rdLots]
  have henm : ev cd.G (call n) false (.enm (.bin .add (.ls [.ix (.v 0) (.k (.int 2))]) (.lc (.sl (.v 4) (some (.k (.int 1))) none) (.n 4) (.ix (.v 0) (.k (.int 3))) none))) (env34 s [] none none) st = .ok (.lst (enumD 0 (s.pairs.map prD)), false) (env34 s [] none none) st := by
    refine e_enm (x := .lst (s.pairs.map prD)) (o := true) (e_bin (x := .lst [.tup [lotD s.b1, lotD s.b2]]) (y := .lst ((s.rds.map rdD).map fun x => .tup (rdLots x))) (e_ls (es_cons (e_ix rfl rfl (ixt at2)) es_nil) rfl) hlc ?_) rfl
    rw [← epairs]
    exact add_lst (by simp; omega)
  have pok := s.pairs_ok h
  obtain ⟨t2, t3, hf⟩ := go34 (n := n) (s := s) (st := st) s.pairs 0 [] none none (fun q hq => ⟨(pok q hq).1.few, (pok q hq).2.few⟩) (by rw [Scp.pairs_len]; simp; omega)
  have hat : ∀ x, ev cd.G (call n) true (.tp [.bin .add (.bi .len [.ix (.v 0) (.k (.int 3))]) (.k (.int 1)), .k (.str "at")]) [A s.d, some (.lst ([] ++ rawGo 0 s.pairs), true), t2, t3, none, A x] st = .ok (.tup [.int (s.rds.length + 1), tA], false) [A s.d, some (.lst ([] ++ rawGo 0 s.pairs), true), t2, t3, none, A x] st := fun x =>
    e_tp (es_cons (e_bin (e_bi (es_cons (e_ix rfl rfl (ixt at3)) es_nil) rfl) rfl (by
      show some (D.int (((s.rds.map rdD).length : Int) + 1), false) = _
      rw [List.length_map])) (es_cons rfl es_nil)) rfl
  have hlc2 := lc34 (n := n) (bw := true) (s := s) (acc := [] ++ rawGo 0 s.pairs) (it := .ix (.v 0) (.k (.int 4))) (t3 := .non) (by have := h.aft.few; omega) hat (e_ix rfl rfl (ixt at4) : _ = R.ok (lotD s.aft, false) _ _)
  refine call_ret (fn := c_law_all_snips) rfl rfl ((b_asg (env1 := [A s.d, none, none, none, none, none]) (p := (.lst [], true)) rfl rfl).trans ((b_nx ((s_for henm rfl).trans hf)).trans (b_ret rfl (e_bi (ds := [.lst s.raw]) (es_cons (e_bin rfl hlc2 (add_lst ?_)) es_nil) (sort_raw h)))))
  have := s.raw_len h
  unfold Scp.raw at this
  simp at this ⊢
  omega
/-! ### one left out -/
def out (c : Int × Int) (cs : Cs) : Cs := cs.filter fun p => !decide (p = c)
theorem filt_c {c : Int × Int} : ∀ {cs : Cs}, (cs.map cD).filter (fun x => !deq x (cD c)) = (out c cs).map cD
  | [] => rfl
  | p :: cs => by
    unfold out
    rw [List.map_cons, List.filter_cons, List.filter_cons, filt_c, deq_c]
    unfold out
    split <;> rfl
theorem f10 {n : Nat} {c : Int × Int} {cs : Cs} {st : Pi.Sto} (h : cs.length ≤ 1000) : call (n + 1) 10 [lotD cs, cD c] st = .ok (lotD (out c cs)) false st := by
  have hl := lc_filter (G := cd.G) (cl := call n) (st := st) (elt := .v 2) (k := .cmp .ne (.v 2) (.v 1)) (tg := .n 2) (env0 := [A (lotD cs), A (cD c), none]) (f := fun x => x) (p := fun x => !deq x (cD c)) (xs := cs.map cD) (fun x hx => by
    obtain ⟨p, _, rfl⟩ := List.mem_map.mp hx
    exact ⟨[A (lotD cs), A (cD c), A (cD p)], false, false, rfl, e_cmp rfl rfl rfl, fun _ => rfl, rfl⟩)
  rw [List.map_id', filt_c] at hl
  have hlc := e_lc (bw := true) (it := .v 0) (env := [A (lotD cs), A (cD c), none]) (env3 := [A (lotD cs), A (cD c), none]) (st := st) (x := lotD cs) (o := false) rfl rfl (by rw [List.length_map]; simp [szOk]; omega) hl rfl
  exact call_ret (fn := c_left_out) rfl rfl (b_ret rfl (e_bi (es_cons hlc es_nil) rfl))
theorem sl2 {w : Int} {s : D} {c : Int × Int} : slice (sD w s c) (some 2) none = some (cD c, false) := by
  show some (D.tup (cutBy [.int w, s, .int c.1, .int c.2] (some 2) none), false) = _
  rw [cut_hi (by omega)]; rfl
def delP (sd : D) (c : Int × Int) (q : Cs × Cs) : Cs × Cs := if deq sd tL then (out c q.1, q.2) else (q.1, out c q.2)
theorem f11 {n : Nat} {c : Int × Int} {q : Cs × Cs} {w : Int} {sd : D} {st : Pi.Sto} (hs : sd = tL ∨ sd = tR) (h : q.1.length ≤ 9 ∧ q.2.length ≤ 9) : call (n + 2) 11 [prD q, sD w sd c] st = .ok (prD (delP sd c q)) false st := by
  have e0 : ev cd.G (call (n + 1)) false (.sl (.v 1) (some (.k (.int 2))) none) [A (prD q), A (sD w sd c), none] st = .ok (cD c, false) [A (prD q), A (sD w sd c), none] st := e_sl (l := some 2) (u := none) rfl rfl rfl sl2
  have e1 : ev cd.G (call (n + 1)) true (.cmp .eq (.ix (.v 1) (.k (.int 1))) (.k (.str "left"))) [A (prD q), A (sD w sd c), A (cD c)] st = .ok (.bl (deq sd tL), false) [A (prD q), A (sD w sd c), A (cD c)] st :=
    e_cmp (x := sd) (y := tL) (e_ix rfl rfl (ixt at1)) rfl (by rcases hs with rfl | rfl <;> rfl)
  rcases hs with rfl | rfl
  · exact call_ret (fn := c_lots_without) rfl rfl ((b_asg e0 rfl).trans (b_ifR e1 (by decide) (b_ret rfl (e_tp (ds := [lotD (out c q.1), lotD q.2]) (es_cons (e_call (ds := [lotD q.1, cD c]) (es_cons (e_ix rfl rfl (ixt at0)) rfl) (f10 (by omega))) (es_cons (e_ix rfl rfl (ixt at1)) es_nil)) rfl))))
  · exact call_ret (fn := c_lots_without) rfl rfl ((b_asg e0 rfl).trans ((b_ifF e1 (by decide)).trans (b_ret rfl (e_tp (ds := [lotD q.1, lotD (out c q.2)]) (es_cons (e_ix rfl rfl (ixt at0)) (es_cons (e_call (ds := [lotD q.2, cD c]) (es_cons (e_ix rfl rfl (ixt at1)) rfl) (f10 (by omega))) es_nil)) rfl))))
end K1

set_option maxRecDepth 100000
set_option maxHeartbeats 0
/-! L15: a script without a snip. -/
namespace K1
open PySem Pi Pi.EvR
theorem rawGo_app : ∀ {xs ys : List (Cs × Cs)} {i : Int}, rawGo i (xs ++ ys) = rawGo i xs ++ rawGo (i + xs.length) ys
  | [], ys, i => by simp [rawGo]
  | (a, b) :: r, ys, i => by
    show a.map (sD i tL) ++ (b.map (sD i tR) ++ rawGo (i + 1) (r ++ ys)) = (a.map (sD i tL) ++ (b.map (sD i tR) ++ rawGo (i + 1) r)) ++ _
    rw [rawGo_app (xs := r)]
    have e : i + 1 + (r.length : Int) = i + ((r.length + 1 : Nat) : Int) := by omega
    simp only [List.length_cons, List.append_assoc, e]
/-- not this snip -/
def nq (x : D) (y : D) : Bool := !deq y x
theorem deq_sD {w w' : Int} {s s' : D} {p p' : Int × Int} : deq (sD w s p) (sD w' s' p') = ((w == w') && (deq s s' && decide (p = p'))) := by
  rw [Bool.eq_iff_iff]
  simp [sD, deq, deqs, Prod.ext_iff]
theorem nq_w {w w' : Int} {s s' : D} {p p' : Int × Int} (h : w ≠ w') : nq (sD w s p) (sD w' s' p') = true := by
  unfold nq
  rw [deq_sD]
  have : (w' == w) = false := by rw [beq_eq_false_iff_ne]; omega
  rw [this]; rfl
theorem filt_w {w i : Int} {s : D} {p : Int × Int} {ps : List (Cs × Cs)} (h : w < i ∨ i + ps.length ≤ w) : (rawGo i ps).filter (nq (sD w s p)) = rawGo i ps := by
  rw [List.filter_eq_self]
  intro x hx
  obtain ⟨w', s', p', rfl, h1, h2, _⟩ := raw_mem hx
  exact nq_w (by omega)
theorem filt_s {w : Int} {s s' : D} {p : Int × Int} {cs : Cs} (h : deq s' s = false) : (cs.map (sD w s')).filter (nq (sD w s p)) = cs.map (sD w s') := by
  rw [List.filter_eq_self]
  intro x hx
  obtain ⟨q, _, rfl⟩ := List.mem_map.mp hx
  unfold nq
  rw [deq_sD, h]
  simp
theorem filt_w' {w w' : Int} {s s' : D} {p : Int × Int} {cs : Cs} (h : w ≠ w') : (cs.map (sD w' s')).filter (nq (sD w s p)) = cs.map (sD w' s') := by
  rw [List.filter_eq_self]
  intro x hx
  obtain ⟨q, _, rfl⟩ := List.mem_map.mp hx
  exact nq_w h
theorem filt_p {w : Int} {s : D} {p : Int × Int} (h : deq s s = true) : ∀ {cs : Cs}, (cs.map (sD w s)).filter (nq (sD w s p)) = (out p cs).map (sD w s)
  | [] => rfl
  | q :: cs => by
    unfold out
    rw [List.map_cons, List.filter_cons, List.filter_cons, filt_p h]
    have : nq (sD w s p) (sD w s q) = !decide (q = p) := by
      unfold nq
      rw [deq_sD, h]
      simp
    rw [this]
    unfold out
    split <;> rfl
theorem raw_mem' {x : D} : ∀ {ps : List (Cs × Cs)} {i : Int}, x ∈ rawGo i ps → ∃ l1 q l2 sd c, ps = l1 ++ q :: l2 ∧ x = sD (i + l1.length) sd c ∧ ((sd = tL ∧ c ∈ q.1) ∨ (sd = tR ∧ c ∈ q.2))
  | [], i, h => by cases h
  | (a, b) :: r, i, h => by
    unfold rawGo at h
    rcases List.mem_append.mp h with h | h
    · obtain ⟨p, hp, rfl⟩ := List.mem_map.mp h
      exact ⟨[], (a, b), r, tL, p, rfl, by simp, .inl ⟨rfl, hp⟩⟩
    · rcases List.mem_append.mp h with h | h
      · obtain ⟨p, hp, rfl⟩ := List.mem_map.mp h
        exact ⟨[], (a, b), r, tR, p, rfl, by simp, .inr ⟨rfl, hp⟩⟩
      · obtain ⟨l1, q, l2, sd, c, rfl, rfl, h3⟩ := raw_mem' h
        refine ⟨(a, b) :: l1, q, l2, sd, c, rfl, ?_, h3⟩
        have e : i + 1 + (l1.length : Int) = i + ((l1.length + 1 : Nat) : Int) := by omega
        rw [e]; rfl
theorem filt_pairs {l1 l2 : List (Cs × Cs)} {q : Cs × Cs} {sd : D} {c : Int × Int} {i : Int} (hs : sd = tL ∨ sd = tR) : (rawGo i (l1 ++ q :: l2)).filter (nq (sD (i + l1.length) sd c)) = rawGo i (l1 ++ delP sd c q :: l2) := by
  obtain ⟨a, b⟩ := q
  have d1 : deq tL tL = true := by decide
  have d2 : deq tR tR = true := by decide
  have d3 : deq tL tR = false := by decide
  have d4 : deq tR tL = false := by decide
  rw [rawGo_app, rawGo_app, List.filter_append, filt_w (ps := l1) (.inr (Int.le_refl _))]
  congr 1
  rcases hs with rfl | rfl
  · have e : delP tL c (a, b) = (out c a, b) := by unfold delP; rw [if_pos d1]
    rw [e]
    unfold rawGo
    rw [List.filter_append, List.filter_append, filt_p d1, filt_s d4, filt_w (.inl (by omega))]
  · have e : delP tR c (a, b) = (a, out c b) := by unfold delP; rw [if_neg (by rw [d4]; decide)]
    rw [e]
    unfold rawGo
    rw [List.filter_append, List.filter_append, filt_s d3, filt_p d2, filt_w (.inl (by omega))]
theorem out_ok {rows len : Int} {c : Int × Int} {cs : Cs} (h : LotOk rows len cs) : LotOk rows len (out c cs) := ⟨⟨h.lot.ord.filter _, fun p hp => h.lot.rng p (List.mem_filter.mp hp).1⟩, Nat.le_trans (List.length_filter_le _ _) h.few⟩
theorem delP_ok {rows len : Int} {c : Int × Int} {sd : D} {q : Cs × Cs} (h : LotOk rows len q.1 ∧ LotOk rows len q.2) : LotOk rows len (delP sd c q).1 ∧ LotOk rows len (delP sd c q).2 := by
  unfold delP
  split
  · exact ⟨out_ok h.1, h.2⟩
  · exact ⟨h.1, out_ok h.2⟩
theorem VV_lot {rows len : Int} {cs : Cs} (h : LotOk rows len cs) : Vk 9 2 (lotD cs) := Vk.tup (k := 1) (fun x hx => by
  obtain ⟨p, _, rfl⟩ := List.mem_map.mp hx
  exact ⟨rfl, Nat.le_trans (show wid (cD p) ≤ 2 from Nat.le_refl _) (by omega), Nat.le_refl 1⟩) (by rw [List.length_map]; exact h.few)
theorem vk_int {w k : Nat} {i : Int} : Vk w k (.int i) := ⟨rfl, Nat.zero_le _, Nat.zero_le _⟩
theorem Scp.vk {s : Scp} (h : s.Ok) : Vk 9 5 s.d := by
  have hm : ∀ {d : D} {w k : Nat}, Vk w k d → w ≤ 9 → k ≤ 4 → Vk 9 4 d := fun v a b => v.mono a b
  refine Vk.tup (k := 4) (fun x hx => ?_) (by simp)
  simp only [List.mem_cons, List.not_mem_nil, or_false] at hx
  rcases hx with rfl | rfl | rfl | rfl | rfl
  · exact vk_int
  · exact vk_int
  · refine hm (Vk.tup (k := 2) (w := 9) (fun x hx => ?_) (by simp)) (by omega) (by omega)
    simp only [List.mem_cons, List.not_mem_nil, or_false] at hx
    rcases hx with rfl | rfl
    · exact VV_lot h.b1
    · exact VV_lot h.b2
  · refine Vk.tup (k := 3) (w := 9) (fun x hx => ?_) (by rw [List.length_map]; have := h.few; omega)
    obtain ⟨r, hr, rfl⟩ := List.mem_map.mp hx
    have ⟨_, h1, h2⟩ := h.rds r hr
    refine Vk.tup (k := 2) (w := 9) (fun x hx => ?_) (by simp)
    simp only [List.mem_cons, List.not_mem_nil, or_false] at hx
    rcases hx with rfl | rfl | rfl
    · exact vk_int
    · exact VV_lot h1
    · exact VV_lot h2
  · exact hm (VV_lot h.aft) (by omega) (by omega)
theorem Scp.vv {s : Scp} (h : s.Ok) : VV s.d := (s.vk h).mono (by omega) (by omega)
theorem within_int {i lo hi : Int} (h : lo ≤ i ∧ i ≤ hi) : within (.int i) lo hi = true := by
  show (decide (lo ≤ i) && decide (i ≤ hi)) = true
  simp [h]
theorem Scp.good {s : Scp} (h : s.Ok) : goodS s.d = true := by
  show ((within (.int s.rows) 1 3 && within (.int s.len) 1 3) && (goodPair s.rows s.len (.tup [lotD s.b1, lotD s.b2]) && (goodRds s.rows s.len (.tup (s.rds.map rdD)) && goodLot s.rows s.len (lotD s.aft)))) = true
  rw [within_int h.rows, within_int h.len, goodLot_of h.aft.lot]
  have e1 : goodPair s.rows s.len (.tup [lotD s.b1, lotD s.b2]) = true := by
    show (goodLot _ _ _ && goodLot _ _ _) = true
    rw [goodLot_of h.b1.lot, goodLot_of h.b2.lot]; rfl
  have e2 : goodRds s.rows s.len (.tup (s.rds.map rdD)) = true := by
    show (lenB (s.rds.map rdD).length 1 3 && (s.rds.map rdD).all _) = true
    rw [Bool.and_eq_true]
    constructor
    · have := h.some
      have := h.few
      simp [lenB]
      omega
    · rw [List.all_eq_true]
      intro x hx
      obtain ⟨r, hr, rfl⟩ := List.mem_map.mp hx
      have ⟨h0, h1, h2⟩ := h.rds r hr
      show (within (.int r.1) 2 3 && (goodLot _ _ (lotD r.2.1) && goodLot _ _ (lotD r.2.2))) = true
      rw [within_int h0, goodLot_of h1.lot, goodLot_of h2.lot]; rfl
  rw [e1, e2]; rfl
/-- what stays of a script -/
structure Less (s s' : Scp) (x : D) : Prop where
  ok : s'.Ok
  rows : s'.rows = s.rows
  len : s'.len = s.len
  parts : s'.rds.map (·.1) = s.rds.map (·.1)
  raw : s'.raw = s.raw.filter (nq x)
abbrev env12 (s : Scp) (x : D) (s2 s3 s4 : Slot) : Pi.Env := [A s.d, A x, s2, s3, s4, A (.int s.rows), A (.int s.len), A (.tup [lotD s.b1, lotD s.b2]), A (.tup (s.rds.map rdD)), A (lotD s.aft)]
theorem gt_int {a b : Int} : cmpop .gt (.int a) (.int b) = some (decide (b < a)) := rfl
theorem eq_int {a b : Int} : cmpop .eq (.int a) (.int b) = some (a == b) := rfl
theorem start12 {n : Nat} {s : Scp} {w : Int} {sd : D} {c : Int × Int} {st : Pi.Sto} {res : R Pi.Flow} (h : exB cd.G (call n) 0 (c_script_without.body.drop 2) (env12 s (sD w sd c) (A (.int w)) none none) st = res) : exB cd.G (call n) 0 c_script_without.body [A s.d, A (sD w sd c), none, none, none, none, none, none, none, none] st = res := by
  subst h
  exact (b_asg (env1 := [A s.d, A (sD w sd c), none, none, none, none, none, none, none, none]) (p := (s.d, false)) rfl rfl).trans (b_asg (env1 := env12 s (sD w sd c) none none none) (p := (.int w, false)) (e_ix rfl rfl (ixt at0)) rfl)
theorem f12 {n : Nat} {s : Scp} {x : D} {st : Pi.Sto} (h : s.Ok) (hx : x ∈ s.raw) : ∃ s', Less s s' x ∧ call (n + 3) 12 [s.d, x] st = .ok s'.d false st := by
  rcases List.mem_append.mp hx with hx | hx
  · obtain ⟨l1, q, l2, sd, c, he, rfl, hsc⟩ := raw_mem' hx
    have hs : sd = tL ∨ sd = tR := by rcases hsc with ⟨h, _⟩ | ⟨h, _⟩ <;> simp [h]
    have hs3 : sd = tL ∨ sd = tR ∨ sd = tA := by rcases hs with h | h <;> simp [h]
    have hq : q ∈ s.pairs := by rw [he]; simp
    have hqo := s.pairs_ok h q hq
    have fp := filt_pairs (l1 := l1) (l2 := l2) (q := q) (c := c) (i := 0) hs
    have fa : (s.aft.map (sD (s.rds.length + 1) tA)).filter (nq (sD (0 + l1.length) sd c)) = s.aft.map (sD (s.rds.length + 1) tA) := filt_w' (by
      have : s.pairs.length = (l1 ++ q :: l2).length := by rw [he]
      rw [Scp.pairs_len] at this
      simp at this
      omega)
    match l1, he, fp, fa with
    | [], he, fp, fa =>
      have he : s.pairs = q :: l2 := he
      unfold Scp.pairs at he
      injection he with he1 he2
      subst he1
      refine ⟨⟨s.rows, s.len, (delP sd c (s.b1, s.b2)).1, (delP sd c (s.b1, s.b2)).2, s.rds, s.aft⟩, ⟨⟨h.rows, h.len, (delP_ok hqo).1, (delP_ok hqo).2, h.rds, h.some, h.few, h.aft⟩, rfl, rfl, rfl, ?_⟩, ?_⟩
      · have er : s.raw = rawGo 0 ([] ++ (s.b1, s.b2) :: l2) ++ s.aft.map (sD (s.rds.length + 1) tA) := by
          unfold Scp.raw Scp.pairs
          rw [he2]; rfl
        rw [er, List.filter_append, fp, fa]
        unfold Scp.raw Scp.pairs
        rw [← he2]; rfl
      · refine call_ret (fn := c_script_without) rfl rfl (start12 (b_ifR (e_cmp rfl rfl eq_int) (by simp) (b_ret rfl (e_tp (ds := [.int s.rows, .int s.len, prD (delP sd c (s.b1, s.b2)), .tup (s.rds.map rdD), lotD s.aft]) (es_cons rfl (es_cons rfl (es_cons (e_call (ds := [prD (s.b1, s.b2), sD (0 + (([] : List (Cs × Cs)).length : Int)) sd c]) rfl (f11 (n := n) hs ⟨hqo.1.few, hqo.2.few⟩)) rfl))) rfl))))
    | p0 :: l1, he, fp, fa =>
      have he : s.pairs = p0 :: (l1 ++ q :: l2) := he
      unfold Scp.pairs at he
      injection he with he1 he2
      obtain ⟨m1, m2, hm, hm1, hm2⟩ := List.map_eq_append_iff.mp he2
      obtain ⟨r, m2', rfl, hr, hm2'⟩ := List.map_eq_cons_iff.mp hm2
      have hl : m1.length = l1.length := by rw [← hm1, List.length_map]
      have hri : r ∈ s.rds := by rw [hm]; simp
      subst he1
      subst hr
      have hro := h.rds r hri
      refine ⟨⟨s.rows, s.len, s.b1, s.b2, m1 ++ (r.1, delP sd c r.2) :: m2', s.aft⟩, ⟨⟨h.rows, h.len, h.b1, h.b2, ?_, ?_, ?_, h.aft⟩, rfl, rfl, ?_, ?_⟩, ?_⟩
      · intro r' hr'
        have : r' ∈ m1 ++ (r.1, delP sd c r.2) :: m2' := hr'
        rcases List.mem_append.mp this with z | z
        · exact h.rds r' (by rw [hm]; exact List.mem_append_left _ z)
        · rcases List.mem_cons.mp z with rfl | z
          · exact ⟨hro.1, delP_ok hro.2⟩
          · exact h.rds r' (by rw [hm]; exact List.mem_append_right _ (List.mem_cons_of_mem _ z))
      · have := h.some
        rw [hm] at this
        simp at this ⊢
        exact this
      · have := h.few
        rw [hm] at this
        simp at this ⊢
        exact this
      · rw [hm]; simp
      · have er : s.raw = rawGo 0 (((s.b1, s.b2) :: l1) ++ r.2 :: l2) ++ s.aft.map (sD (s.rds.length + 1) tA) := by
          unfold Scp.raw Scp.pairs
          rw [he2]; rfl
        rw [er, List.filter_append, fp, fa]
        unfold Scp.raw Scp.pairs
        have e1 : (m1 ++ (r.1, delP sd c r.2) :: m2').length = s.rds.length := by rw [hm]; simp
        simp only [e1]
        congr 2
        rw [← hm1, ← hm2']
        simp
      · have ew : (0 + (((s.b1, s.b2) :: l1).length : Int)) = ((m1.length + 1 : Nat) : Int) := by simp [hl]
        rw [ew]
        have hlen : m1.length + 1 ≤ s.rds.length := by rw [hm]; simp
        have eold : atIx (s.rds.map rdD) (((m1.length + 1 : Nat) : Int) - 1) = some (rdD r) := by
          rw [atIx_of (by omega) (by rw [List.length_map]; omega), hm]
          have : (((m1.length + 1 : Nat) : Int) - 1).toNat = m1.length := by omega
          rw [this]
          simp
        have env : Pi.Env := []
        have n0 : ((((m1.length + 1 : Nat) : Int)) == 0) = false := by rw [beq_eq_false_iff_ne]; omega
        have ss1 : slice (rdD r) none (some 1) = some (.tup [.int r.1], false) := by
          show some (D.tup (cutBy [.int r.1, lotD r.2.1, lotD r.2.2] none (some 1)), false) = _
          rw [cut_lo (by omega)]; rfl
        have ss2 : slice (.tup (s.rds.map rdD)) none (some (((m1.length + 1 : Nat) : Int) - 1)) = some (.tup (m1.map rdD), false) := by
          show some (D.tup (cutBy (s.rds.map rdD) none _), false) = _
          rw [cut_lo (by omega), hm]
          have : (((m1.length + 1 : Nat) : Int) - 1).toNat = (m1.map rdD).length := by rw [List.length_map]; omega
          rw [this, List.map_append, List.take_left]
        have ss3 : slice (.tup (s.rds.map rdD)) (some ((m1.length + 1 : Nat) : Int)) none = some (.tup (m2'.map rdD), false) := by
          show some (D.tup (cutBy (s.rds.map rdD) _ none), false) = _
          rw [cut_hi (by omega), hm]
          have e1 : (((m1.length + 1 : Nat) : Int)).toNat = m1.length + 1 := by omega
          have e2 : (m1 ++ r :: m2') = (m1 ++ [r]) ++ m2' := by simp
          have e3 : ((m1 ++ [r]).map rdD).length = m1.length + 1 := by simp
          rw [e1, e2, List.map_append, ← e3, List.drop_left]
        have hfew := h.few
        have hm2l : m1.length + m2'.length + 1 = s.rds.length := by rw [hm]; simp; omega
        have fin : (m1.map rdD ++ [D.tup ([D.int r.1] ++ [lotD (delP sd c r.2).1, lotD (delP sd c r.2).2])]) ++ m2'.map rdD = (m1 ++ (r.1, delP sd c r.2) :: m2').map rdD := by
          simp [rdD]
        have z11 := f11 (n := n) (q := r.2) (w := ((m1.length + 1 : Nat) : Int)) (c := c) (st := st) hs ⟨hro.2.1.few, hro.2.2.few⟩
        refine call_ret (fn := c_script_without) rfl rfl (start12 ((b_ifF (e_cmp rfl rfl eq_int) n0).trans ((b_ifF (e_cmp rfl (e_bi (es_cons rfl es_nil) rfl) gt_int) (by rw [List.length_map]; simp; omega)).trans ((b_asg (e_ix rfl (e_bin rfl rfl rfl) (ixt eold)) rfl).trans ((b_asg (e_bin (x := .tup [.int r.1]) (y := prD (delP sd c r.2)) (e_sl (l := none) (u := some 1) rfl rfl (eo_some rfl) ss1) (e_call (ds := [prD r.2, sD ((m1.length + 1 : Nat) : Int) sd c]) (es_cons (e_sl (l := some 1) (u := none) rfl (eo_some rfl) rfl sl1) rfl) z11) rfl) rfl).trans (b_ret rfl (e_tp (ds := [.int s.rows, .int s.len, .tup [lotD s.b1, lotD s.b2], .tup ((m1 ++ (r.1, delP sd c r.2) :: m2').map rdD), lotD s.aft]) (es_cons rfl (es_cons rfl (es_cons rfl (es_cons (o := false) (env1 := env12 s (sD ((m1.length + 1 : Nat) : Int) sd c) (A (.int ((m1.length + 1 : Nat) : Int))) (A (rdD r)) (A (.tup ([D.int r.1] ++ [lotD (delP sd c r.2).1, lotD (delP sd c r.2).2])))) (st1 := st) ?_ rfl)))) rfl)))))))
        · rw [← fin]
          refine e_bin (o := false) (o2 := false) (x := .tup (m1.map rdD ++ [D.tup ([D.int r.1] ++ [lotD (delP sd c r.2).1, lotD (delP sd c r.2).2])])) (y := .tup (m2'.map rdD)) (e_bin (x := .tup (m1.map rdD)) (y := .tup [D.tup ([D.int r.1] ++ [lotD (delP sd c r.2).1, lotD (delP sd c r.2).2])]) (e_sl (l := none) rfl rfl (eo_some (e_bin rfl rfl rfl)) ss2) (e_tp (es_cons rfl es_nil) rfl) ?_) (e_sl (u := none) rfl (eo_some rfl) rfl ss3) ?_
          · show (if szOk _ = true then _ else _) = _
            rw [if_pos]
            simp [szOk]; omega
          · show (if szOk _ = true then _ else _) = _
            rw [if_pos]
            simp [szOk]; omega
  · obtain ⟨c, hc, rfl⟩ := List.mem_map.mp hx
    refine ⟨⟨s.rows, s.len, s.b1, s.b2, s.rds, out c s.aft⟩, ⟨⟨h.rows, h.len, h.b1, h.b2, h.rds, h.some, h.few, out_ok h.aft⟩, rfl, rfl, rfl, ?_⟩, ?_⟩
    · unfold Scp.raw
      rw [List.filter_append, filt_w (.inr (by rw [Scp.pairs_len]; simp)), filt_p (by decide)]
      rfl
    · have n0 : (((s.rds.length : Int) + 1) == 0) = false := by rw [beq_eq_false_iff_ne]; omega
      exact call_ret (fn := c_script_without) rfl rfl (start12 ((b_ifF (e_cmp rfl rfl eq_int) n0).trans (b_ifR (e_cmp rfl (e_bi (es_cons rfl es_nil) rfl) gt_int) (by rw [List.length_map]; simp <;> omega) (b_ret rfl (e_tp (ds := [.int s.rows, .int s.len, .tup [lotD s.b1, lotD s.b2], .tup (s.rds.map rdD), lotD (out c s.aft)]) (es_cons rfl (es_cons rfl (es_cons rfl (es_cons rfl (es_cons (e_call (ds := [lotD s.aft, cD c]) (es_cons rfl (es_cons (e_sl (l := some 2) (u := none) rfl (eo_some rfl) rfl sl2) es_nil)) (f10 (n := n + 1) (by have := h.aft.few; omega))) es_nil))))) rfl)))))
end K1

set_option maxRecDepth 100000
set_option maxHeartbeats 0
/-! L16: needs, refusals, columns. -/
namespace K1
open PySem Pi Pi.EvR
theorem f5 {n : Nat} {v : D} {st : Pi.Sto} (hv : VV v) (hg : goodS v = true) : call (n + 5) 5 [v] st = .ok .non false st :=
  call_nx (fn := c_need_script) rfl rfl ((b_ifF (e_not (e_call (ds := [v]) rfl (f4 hv))) (by rw [hg]; rfl)).trans rfl)
theorem f5x {n : Nat} {v : D} {st : Pi.Sto} (hv : VV v) (hg : goodS v = false) : call (n + 5) 5 [v] st = .ex 40 .non st :=
  call_exc (fn := c_need_script) rfl rfl (b_ifX (e_not (e_call (ds := [v]) rfl (f4 hv))) (by rw [hg]; rfl) rfl)
theorem f6 {n : Nat} {v : D} {m : Int} {st : Pi.Sto} (hv : v.pl = true) (hg : within v 0 m = true) : call (n + 2) 6 [v, .int m] st = .ok .non false st :=
  call_nx (fn := c_need_rounds) rfl rfl ((b_ifF (e_not (e_call (ds := [v, .int 0, .int m]) rfl (f0 hv))) (by rw [hg]; rfl)).trans rfl)
theorem f6x {n : Nat} {v : D} {m : Int} {st : Pi.Sto} (hv : v.pl = true) (hg : within v 0 m = false) : call (n + 2) 6 [v, .int m] st = .ex 41 .non st :=
  call_exc (fn := c_need_rounds) rfl rfl (b_ifX (e_not (e_call (ds := [v, .int 0, .int m]) rfl (f0 hv))) (by rw [hg]; rfl) rfl)
theorem f14 {n : Nat} {v : D} {st : Pi.Sto} (hv : VV v) : call (n + 5) 14 [v] st = .ok (.bl (goodS v)) false st :=
  call_ret (fn := c_is_script) rfl rfl (b_ret rfl (e_call (ds := [v]) rfl (f4 hv)))
theorem f16 {n : Nat} {s : Scp} {st : Pi.Sto} (h : s.Ok) : call (n + 6) 16 [s.d] st = .ok (.lst s.raw) true st :=
  call_ret (fn := c_snips) rfl rfl ((b_expr (e_call (ds := [s.d]) rfl (f5 (n := n) (s.vv h) (s.good h)))).trans (b_ret rfl (e_call (ds := [s.d]) rfl (f9 h))))
theorem f16x {n : Nat} {v : D} {st : Pi.Sto} (hv : VV v) (hg : goodS v = false) : call (n + 6) 16 [v] st = .ex 40 .non st :=
  call_exc (fn := c_snips) rfl rfl (b_exprx (e_callx (ds := [v]) rfl (f5x hv hg)))
/-! ### snips needed -/
def isStr : D → Bool
  | .str _ => true
  | _ => false
theorem isStr_ok {x : D} (h : x.pl = true) : isInst cd.G x (.ty "str") = some (isStr x) := by
  cases x <;> first | rfl | cases h
def snipB : D → Bool
  | .tup [w, sd, p, q] => within w 0 4 && (isStr sd && (within p 0 2 && within q 0 2))
  | _ => false
theorem len4 {xs : List D} (h : xs.length = 4) : ∃ a b c d, xs = [a, b, c, d] := by
  match xs, h with
  | [a, b, c, d], _ => exact ⟨a, b, c, d, rfl⟩
theorem snipB_len {xs : List D} (h : xs.length ≠ 4) : snipB (.tup xs) = false := by
  match xs with
  | [] => rfl
  | [_] => rfl
  | [_, _] => rfl
  | [_, _, _] => rfl
  | [a, b, c, _] => exact absurd rfl h
  | _ :: _ :: _ :: _ :: _ :: _ => rfl
theorem f13 {n : Nat} {s : Scp} {v : D} {st : Pi.Sto} (h : s.Ok) (hv : VV v) : call (n + 2) 13 [s.d, v] st = if snipB v && dmem v s.raw then .ok .non false st else .ex 45 .non st := by
  cases ht : isTup v with
  | false =>
    have : snipB v = false := by cases v <;> first | rfl | cases ht
    rw [this]
    exact call_exc (fn := c_need_snip) rfl rfl (b_ifX (e_or (q := true) (e_not (e_isT rfl hv.pl)) fun h => by rw [ht] at h; cases h) (by rw [ht]; rfl) rfl)
  | true =>
  obtain ⟨xs, rfl⟩ := isTup_inv ht
  by_cases h4 : xs.length = 4
  case neg =>
    rw [snipB_len h4]
    exact call_exc (fn := c_need_snip) rfl rfl (b_ifX (e_or (q := true || true) (e_not (e_isT rfl hv.pl)) fun _ => e_or (e_cmp rfl rfl (by
        show some (!((xs.length : Int) == ((4 : Nat) : Int))) = _
        rw [len_ne h4]; rfl)) fun z => by cases z) rfl rfl)
  case pos =>
  obtain ⟨w, sd, p, q, rfl⟩ := len4 h4
  have vw : VV w := hv.mem (by simp)
  have vs : VV sd := hv.mem (by simp)
  have vp : VV p := hv.mem (by simp)
  have vq : VV q := hv.mem (by simp)
  have c1 : ev cd.G (call (n + 1)) true (.or (.not (.bi .isinst [.v 1, .g (.ty "tuple")])) (.or (.cmp .ne (.bi .len [.v 1]) (.k (.int 4))) (.not (.call 0 [.ix (.v 1) (.k (.int 0)), .k (.int 0), .k (.int 4)])))) [A s.d, A (.tup [w, sd, p, q])] st = .ok (.bl (!true || (!true || !within w 0 4)), false) [A s.d, A (.tup [w, sd, p, q])] st :=
    e_or (e_not (e_isT rfl hv.pl)) fun _ => e_or (e_cmp rfl rfl rfl) fun _ => e_not (e_call (ds := [w, .int 0, .int 4]) (es_cons (e_ix rfl rfl (ixt at0)) rfl) (f0 vw.pl))
  have es : snipB (.tup [w, sd, p, q]) = (within w 0 4 && (isStr sd && (within p 0 2 && within q 0 2))) := rfl
  rw [es]
  cases h1 : within w 0 4 with
  | false => exact call_exc (fn := c_need_snip) rfl rfl (b_ifX c1 (by rw [h1]; rfl) rfl)
  | true =>
  have c2 : ev cd.G (call (n + 1)) true (.or (.not (.bi .isinst [.ix (.v 1) (.k (.int 1)), .g (.ty "str")])) (.or (.not (.call 0 [.ix (.v 1) (.k (.int 2)), .k (.int 0), .k (.int 2)])) (.not (.call 0 [.ix (.v 1) (.k (.int 3)), .k (.int 0), .k (.int 2)])))) [A s.d, A (.tup [w, sd, p, q])] st = .ok (.bl (!isStr sd || (!within p 0 2 || !within q 0 2)), false) [A s.d, A (.tup [w, sd, p, q])] st :=
    e_or (e_not (e_bi (ds := [sd, .ty "str"]) (es_cons (e_ix rfl rfl (ixt at1)) rfl) (by
      show (isInst cd.G sd (.ty "str")).map _ = _
      rw [isStr_ok vs.pl]; rfl))) fun _ => e_or (e_not (e_call (ds := [p, .int 0, .int 2]) (es_cons (e_ix rfl rfl (ixt at2)) rfl) (f0 vp.pl))) fun _ => e_not (e_call (ds := [q, .int 0, .int 2]) (es_cons (e_ix rfl rfl (ixt at3)) rfl) (f0 vq.pl))
  cases h2 : (isStr sd && (within p 0 2 && within q 0 2)) with
  | false => exact call_exc (fn := c_need_snip) rfl rfl ((b_ifF c1 (by rw [h1]; rfl)).trans (b_ifX c2 (by
      cases a : isStr sd <;> cases b : within p 0 2 <;> cases c : within q 0 2 <;> simp_all) rfl))
  | true =>
  have c3 : ev cd.G (call (n + 1)) true (.cmp .notin (.v 1) (.call 9 [.v 0])) [A s.d, A (.tup [w, sd, p, q])] st = .ok (.bl (!dmem (.tup [w, sd, p, q]) s.raw), false) [A s.d, A (.tup [w, sd, p, q])] st := by
    refine e_cmp (x := .tup [w, sd, p, q]) (y := .lst s.raw) rfl (e_call (ds := [s.d]) rfl (f9 h)) ?_
    have h1 : D.pl (.tup [w, sd, p, q]) = true := hv.pl
    have h2 : D.pls s.raw = true := pls_all fun x hx => by
      obtain ⟨w, sd, p, rfl, hs⟩ := raw_sD hx
      exact (sD_facts hs).1
    have h3 := hv.dp
    show (if _ then _ else _) = _
    rw [h1, h2, if_pos (by simp; omega)]
  cases h3 : dmem (.tup [w, sd, p, q]) s.raw with
  | false => exact call_exc (fn := c_need_snip) rfl rfl ((b_ifF c1 (by rw [h1]; rfl)).trans ((b_ifF c2 (by
      cases a : isStr sd <;> cases b : within p 0 2 <;> cases c : within q 0 2 <;> simp_all)).trans (b_ifX c3 (by rw [h3]; rfl) rfl)))
  | true => exact call_nx (fn := c_need_snip) rfl rfl ((b_ifF c1 (by rw [h1]; rfl)).trans ((b_ifF c2 (by
      cases a : isStr sd <;> cases b : within p 0 2 <;> cases c : within q 0 2 <;> simp_all)).trans ((b_ifF c3 (by rw [h3]; rfl)).trans rfl)))
theorem dmem_of {x : D} (hx : deq x x = true) : ∀ {xs : List D}, x ∈ xs → dmem x xs = true
  | [], h => by cases h
  | y :: ys, h => by
    show (deq y x || dmem x ys) = true
    rcases List.mem_cons.mp h with rfl | h
    · rw [hx]; rfl
    · rw [dmem_of hx h, Bool.or_true]
theorem dmem_no {x : D} : ∀ {xs : List D}, (∀ y ∈ xs, deq y x = false) → dmem x xs = false
  | [], h => rfl
  | y :: ys, h => by
    show (deq y x || dmem x ys) = false
    rw [h y List.mem_cons_self, dmem_no fun z hz => h z (List.mem_cons_of_mem _ hz)]; rfl
theorem raw_cell {s : Scp} (h : s.Ok) {x : D} (hx : x ∈ s.raw) : ∃ w sd p, x = sD w sd p ∧ (sd = tL ∨ sd = tR ∨ sd = tA) ∧ (0 ≤ w ∧ w ≤ 4) ∧ (0 ≤ p.1 ∧ p.1 ≤ 2) ∧ (0 ≤ p.2 ∧ p.2 ≤ 2) := by
  have hf := h.few
  have hr := h.rows
  have hl := h.len
  rcases List.mem_append.mp hx with hx | hx
  · obtain ⟨l1, q, l2, sd, c, he, rfl, hsc⟩ := raw_mem' hx
    have hl1 : l1.length ≤ s.rds.length := by
      have := congrArg List.length he
      rw [Scp.pairs_len] at this
      simp at this
      omega
    have hq := s.pairs_ok h q (by rw [he]; simp)
    have hc : 0 ≤ c.1 ∧ c.1 < s.rows ∧ 0 ≤ c.2 ∧ c.2 < s.len := by
      rcases hsc with ⟨_, hc⟩ | ⟨_, hc⟩
      · exact hq.1.lot.rng c hc
      · exact hq.2.lot.rng c hc
    exact ⟨_, sd, c, rfl, by rcases hsc with ⟨h, _⟩ | ⟨h, _⟩ <;> simp [h], by omega, by omega, by omega⟩
  · obtain ⟨c, hc, rfl⟩ := List.mem_map.mp hx
    have := h.aft.lot.rng c hc
    exact ⟨_, tA, c, rfl, by simp, by omega, by omega, by omega⟩
theorem snip_ok {s : Scp} (h : s.Ok) {x : D} (hx : x ∈ s.raw) : (snipB x && dmem x s.raw) = true ∧ VV x := by
  obtain ⟨w, sd, p, rfl, hs, h1, h2, h3⟩ := raw_cell h hx
  constructor
  · rw [dmem_of _ hx, Bool.and_true]
    · show (within (.int w) 0 4 && (isStr sd && (within (.int p.1) 0 2 && within (.int p.2) 0 2))) = true
      rw [within_int h1, within_int h2, within_int h3]
      rcases hs with rfl | rfl | rfl <;> rfl
    · rw [deq_sD, deq_side hs]
      simp
  · rcases hs with rfl | rfl | rfl <;> exact ⟨rfl, Nat.le_trans (show wid _ ≤ 4 from Nat.le_refl _) (by omega), Nat.le_trans (show D.dep _ ≤ 1 from Nat.le_refl _) (by omega)⟩
theorem f17 {n : Nat} {s : Scp} {x : D} {st : Pi.Sto} (h : s.Ok) (hx : x ∈ s.raw) : ∃ s', Less s s' x ∧ call (n + 6) 17 [s.d, x] st = .ok s'.d false st := by
  obtain ⟨s', hl, e⟩ := f12 (n := n + 2) (st := st) h hx
  obtain ⟨h1, h2⟩ := snip_ok h hx
  have e13 := f13 (n := n + 3) (st := st) h h2
  rw [h1] at e13
  exact ⟨s', hl, call_ret (fn := c_without) rfl rfl ((b_expr (e_call (ds := [s.d]) rfl (f5 (n := n) (s.vv h) (s.good h)))).trans ((b_expr (e_call (ds := [s.d, x]) rfl e13)).trans (b_ret rfl (e_call (ds := [s.d, x]) rfl e))))⟩
theorem f17x {n : Nat} {v w : D} {st : Pi.Sto} (hv : VV v) (hg : goodS v = false) : call (n + 6) 17 [v, w] st = .ex 40 .non st :=
  call_exc (fn := c_without) rfl rfl (b_exprx (e_callx (ds := [v]) rfl (f5x hv hg)))
theorem f17y {n : Nat} {s : Scp} {v : D} {st : Pi.Sto} (h : s.Ok) (hv : VV v) (hs : (snipB v && dmem v s.raw) = false) : call (n + 6) 17 [s.d, v] st = .ex 45 .non st := by
  have e13 := f13 (n := n + 3) (st := st) h hv
  rw [hs] at e13
  exact call_exc (fn := c_without) rfl rfl ((b_expr (e_call (ds := [s.d]) rfl (f5 (n := n) (s.vv h) (s.good h)))).trans (b_exprx (e_callx (ds := [s.d, v]) rfl e13)))
/-! ### columns -/
def Scp.part (s : Scp) (k : Nat) : Int := ((s.rds[k % s.rds.length]?).map (·.1)).getD 0
theorem Scp.part_ok {s : Scp} (h : s.Ok) (k : Nat) : (2 ≤ s.part k ∧ s.part k ≤ 3) ∧ ∃ r, s.rds[k % s.rds.length]? = some r ∧ r.1 = s.part k := by
  have hl : k % s.rds.length < s.rds.length := Nat.mod_lt _ h.some
  have e : s.rds[k % s.rds.length]? = some s.rds[k % s.rds.length] := List.getElem?_eq_getElem hl
  have : s.part k = (s.rds[k % s.rds.length]).1 := by
    unfold Scp.part
    rw [e]; rfl
  exact ⟨this ▸ (h.rds _ (List.getElem_mem hl)).1, _, e, this.symm⟩
theorem ix_part {s : Scp} (h : s.Ok) {k : Nat} : ∃ r, atIx (s.rds.map rdD) ((k : Int) % (s.rds.map rdD).length) = some (rdD r) ∧ r.1 = s.part k := by
  obtain ⟨_, r, e, hr⟩ := s.part_ok h k
  have hl : k % s.rds.length < s.rds.length := Nat.mod_lt _ h.some
  refine ⟨r, ?_, hr⟩
  rw [List.length_map, ← Int.natCast_emod, atIx_of (by omega) (by rw [List.length_map]; omega), List.getElem?_map]
  have : ((k % s.rds.length : Nat) : Int).toNat = k % s.rds.length := by omega
  rw [this, e]; rfl
theorem mod_op {s : Scp} (h : s.Ok) {i : Int} : binop .mod (.int i) (.int (s.rds.map rdD).length) = some (.int (i % (s.rds.map rdD).length), false) := by
  show (if decide (0 < _) = true then _ else _) = _
  rw [if_pos]
  have := h.some
  simp
  omega
theorem f7 {n k : Nat} {s : Scp} {st : Pi.Sto} (h : s.Ok) : call (n + 1) 7 [s.d, .int ((k : Int) + 1)] st = .ok (.int (s.part k)) false st := by
  obtain ⟨r, e, hr⟩ := ix_part h (k := k)
  rw [← hr]
  have e' : atIx (s.rds.map rdD) (((k : Int) + 1 - 1) % (s.rds.map rdD).length) = some (rdD r) := by
    rw [← e]
    congr 1
    rw [Int.add_sub_cancel]
  refine call_ret (fn := c_parts_at) rfl rfl ((b_asg (p := (.tup (s.rds.map rdD), false)) (e_ix rfl rfl (ixt at3)) rfl).trans (b_ret rfl (e_ix (e_ix rfl (e_bin (e_bin rfl rfl rfl) (e_bi (es_cons rfl es_nil) rfl) (mod_op h)) (ixt e')) rfl (ixt at0))))
theorem f30 {n k : Nat} {s : Scp} {st : Pi.Sto} (h : s.Ok) : call (n + 1) 30 [s.d, .int ((k : Int) + 1)] st = .ok (.int (s.part k)) false st := by
  obtain ⟨r, e, hr⟩ := ix_part h (k := k)
  rw [← hr]
  have e' : atIx (s.rds.map rdD) (((k : Int) + 1 - 1) % (s.rds.map rdD).length) = some (rdD r) := by
    rw [← e]
    congr 1
    rw [Int.add_sub_cancel]
  refine call_ret (fn := c_law_folds_into) rfl rfl (b_ret rfl (e_ix (e_ix (e_ix rfl rfl (ixt at3)) (e_bin (e_bin rfl rfl rfl) (e_bi (es_cons (e_ix rfl rfl (ixt at3)) es_nil) rfl) (mod_op h)) (ixt e')) rfl (ixt at0)))
def Scp.prod (s : Scp) : Nat → Nat → Int → Int
  | 0, _, a => a
  | m + 1, k, a => Scp.prod s m (k + 1) (a * s.part k)
theorem Scp.prod_mul {s : Scp} : ∀ {m k : Nat} {a b : Int}, s.prod m k (a * b) = a * s.prod m k b
  | 0, _, _, _ => rfl
  | m + 1, k, a, b => by
    show s.prod m (k + 1) (a * b * s.part k) = a * s.prod m (k + 1) (b * s.part k)
    rw [Int.mul_assoc, Scp.prod_mul]
theorem mul_part {s : Scp} (h : s.Ok) {a : Int} {k : Nat} : binop .mul (.int a) (.int (s.part k)) = some (.int (a * s.part k), false) := by
  obtain ⟨⟨h1, h2⟩, _⟩ := s.part_ok h k
  have : bigOk (s.part k) = true := by
    simp [bigOk]
    omega
  show (if (bigOk a || bigOk (s.part k)) = true then _ else _) = _
  rw [this, Bool.or_true, if_pos rfl]
theorem go8 {n : Nat} {s : Scp} {x : D} {st : Pi.Sto} (h : s.Ok) : ∀ (m k : Nat) (a : Int) (s3 : Slot), ∃ t3, forGo (fStep cd.G (call (n + 1)) 0 (.n 3) [.asg (.n 2) (.bin .mul (.v 2) (.call 7 [.v 0, .v 3]))]) (rangeD ((k : Int) + 1) m) [A s.d, A x, A (.int a), s3] st = .ok .nx [A s.d, A x, A (.int (s.prod m k a)), t3] st
  | 0, k, a, s3 => ⟨s3, rfl⟩
  | m + 1, k, a, s3 => by
    obtain ⟨t3, hf⟩ := go8 (n := n) (x := x) (st := st) h m (k + 1) (a * s.part k) (A (.int ((k : Int) + 1)))
    refine ⟨t3, ?_⟩
    show (fStep _ _ _ _ _ _ _ _).bind _ = _
    have step : fStep cd.G (call (n + 1)) 0 (.n 3) [.asg (.n 2) (.bin .mul (.v 2) (.call 7 [.v 0, .v 3]))] (.int ((k : Int) + 1)) [A s.d, A x, A (.int a), s3] st = .ok .nx [A s.d, A x, A (.int (a * s.part k)), A (.int ((k : Int) + 1))] st :=
      (b_asg (e_bin (x := .int a) (y := .int (s.part k)) rfl (e_call (ds := [s.d, .int ((k : Int) + 1)]) rfl (f7 h)) (mul_part h)) rfl).trans rfl
    rw [step]
    exact hf
theorem go31 {n : Nat} {s : Scp} {x : D} {st : Pi.Sto} (h : s.Ok) : ∀ (m k : Nat) (a : Int) (s3 : Slot), ∃ t3, forGo (fStep cd.G (call (n + 1)) 0 (.n 3) [.asg (.n 2) (.bin .mul (.v 2) (.call 30 [.v 0, .bin .add (.v 3) (.k (.int 1))]))]) (rangeD (k : Int) m) [A s.d, A x, A (.int a), s3] st = .ok .nx [A s.d, A x, A (.int (s.prod m k a)), t3] st
  | 0, k, a, s3 => ⟨s3, rfl⟩
  | m + 1, k, a, s3 => by
    obtain ⟨t3, hf⟩ := go31 (n := n) (x := x) (st := st) h m (k + 1) (a * s.part k) (A (.int (k : Int)))
    refine ⟨t3, ?_⟩
    show (fStep _ _ _ _ _ _ _ _).bind _ = _
    have step : fStep cd.G (call (n + 1)) 0 (.n 3) [.asg (.n 2) (.bin .mul (.v 2) (.call 30 [.v 0, .bin .add (.v 3) (.k (.int 1))]))] (.int (k : Int)) [A s.d, A x, A (.int a), s3] st = .ok .nx [A s.d, A x, A (.int (a * s.part k)), A (.int (k : Int))] st :=
      (b_asg (e_bin (x := .int a) (y := .int (s.part k)) rfl (e_call (ds := [s.d, .int ((k : Int) + 1)]) rfl (f30 h)) (mul_part h)) rfl).trans rfl
    rw [step]
    exact hf
theorem small_nat {m : Nat} (h : m ≤ 1000000) : small (m : Int) = true := by
  simp [small]
  omega
theorem f8 {n m : Nat} {s : Scp} {st : Pi.Sto} (h : s.Ok) (hm : m ≤ 1000) : call (n + 2) 8 [s.d, .int m] st = .ok (.int (s.prod m 0 1)) false st := by
  obtain ⟨t3, hf⟩ := go8 (n := n) (x := .int m) (st := st) h m 0 1 none
  refine call_ret (fn := c_folds_in) rfl rfl ((b_asg (p := (.int 1, false)) rfl rfl).trans ((b_nx ((s_for (x := .lst (rangeD 1 m)) (e_rng (ds := [.int 1, .int ((m : Int) + 1)]) (es_cons rfl (es_cons (e_bin rfl rfl rfl) es_nil)) ?_) rfl).trans hf)).trans (b_retv rfl)))
  show (if (small 1 && small ((m : Int) + 1)) = true then some (D.lst (rangeD 1 (((m : Int) + 1 - 1)).toNat)) else none) = _
  have : small ((m : Int) + 1) = true := small_nat (m := m + 1) (by omega)
  rw [this, if_pos (by decide)]
  have : ((m : Int) + 1 - 1).toNat = m := by omega
  rw [this]
theorem f31 {n m : Nat} {s : Scp} {st : Pi.Sto} (h : s.Ok) (hm : m ≤ 1000) : call (n + 2) 31 [s.d, .int m] st = .ok (.int (s.len * s.prod m 0 1)) false st := by
  obtain ⟨t3, hf⟩ := go31 (n := n) (x := .int m) (st := st) h m 0 s.len none
  have e : s.prod m 0 s.len = s.len * s.prod m 0 1 := by
    rw [← Scp.prod_mul, Int.mul_one]
  rw [← e]
  refine call_ret (fn := c_law_columns) rfl rfl ((b_asg (p := (.int s.len, false)) (e_ix rfl rfl (ixt at1)) rfl).trans ((b_nx ((s_for (x := .lst (rangeD 0 m)) (e_rng (ds := [.int m]) rfl ?_) rfl).trans hf)).trans (b_retv rfl)))
  show (if small (m : Int) = true then some (D.lst (rangeD 0 (m : Int).toNat)) else none) = _
  rw [small_nat (by omega), if_pos rfl]
  have : (m : Int).toNat = m := by omega
  rw [this]
theorem f15 {n m : Nat} {s : Scp} {st : Pi.Sto} (h : s.Ok) (hm : m ≤ 60) : call (n + 6) 15 [s.d, .int m] st = .ok (.int (s.len * s.prod m 0 1)) false st := by
  have hl := h.len
  refine call_ret (fn := c_count_columns) rfl rfl ((b_expr (e_call (ds := [s.d]) rfl (f5 (s.vv h) (s.good h)))).trans ((b_expr (e_call (ds := [.int m, .int 60]) rfl (f6 rfl (within_int (by omega))))).trans (b_ret rfl (e_bin (x := .int s.len) (y := .int (s.prod m 0 1)) (e_ix rfl rfl (ixt at1)) (e_call (ds := [s.d, .int m]) rfl (f8 h (by omega))) ?_))))
  have : bigOk s.len = true := by
    simp [bigOk]
    omega
  show (if (bigOk s.len || _) = true then _ else _) = _
  rw [this, if_pos (by simp)]
theorem f15x {n : Nat} {v w : D} {st : Pi.Sto} (hv : VV v) (hg : goodS v = false) : call (n + 6) 15 [v, w] st = .ex 40 .non st :=
  call_exc (fn := c_count_columns) rfl rfl (b_exprx (e_callx (ds := [v]) rfl (f5x hv hg)))
theorem f15y {n : Nat} {s : Scp} {w : D} {st : Pi.Sto} (h : s.Ok) (hw : w.pl = true) (hg : within w 0 60 = false) : call (n + 6) 15 [s.d, w] st = .ex 41 .non st :=
  call_exc (fn := c_count_columns) rfl rfl ((b_expr (e_call (ds := [s.d]) rfl (f5 (s.vv h) (s.good h)))).trans (b_exprx (e_callx (ds := [w, .int 60]) rfl (f6x hw hg))))
/-! ### refusals -/
theorem e_rfd {cl : Nat → List D → Pi.Sto → RC} {bw : Bool} {f c : Nat} {e : C} {env env1 : Pi.Env} {st st1 : Pi.Sto} {w : Str} (h : ev cd.G cl false e env st = .ex c .non env1 st1) (hw : cd.G.words c = some w) : ev cd.G cl bw (.rfd f e) env st = .ok (.str w, false) env1 st1 := by
  conv => lhs; unfold ev
  rw [h]
  show lift ((cd.G.words c).map _) env1 st1 = _
  rw [hw]; rfl
theorem e_cvx {cl : Nat → List D → Pi.Sto → RC} {bw o : Bool} {i f c : Nat} {es : List C} {ds : List D} {d : D} {env env1 : Pi.Env} {st st1 st2 : Pi.Sto} (hg : getS env i = some (.gl f, o)) (ha : (cd.G.ar f).isSome = true) (h : evs cd.G cl false es env st = .ok ds env1 st1) (h2 : cl f ds st1 = .ex c d st2) : ev cd.G cl bw (.cv i es) env st = .ex c d env1 st2 := by
  conv => lhs; unfold ev
  rw [hg]
  dsimp only
  rw [if_pos ha, h]
  show ofCall (cl f ds st1) env1 = _
  rw [h2]; rfl
theorem f26x {n f c : Nat} {a : D} {st : Pi.Sto} {w : Str} (ha : (cd.G.ar f).isSome = true) (h : call n f [a] st = .ex c .non st) (hw : cd.G.words c = some w) : call (n + 1) 26 [.gl f, a] st = .ok (.str w) false st :=
  call_ret (fn := c_law_by_one) rfl rfl (b_ret rfl (e_rfd (e_cvx rfl ha (ds := [a]) rfl h) hw))
theorem f27x {n f c : Nat} {a b : D} {st : Pi.Sto} {w : Str} (ha : (cd.G.ar f).isSome = true) (h : call n f [a, b] st = .ex c .non st) (hw : cd.G.words c = some w) : call (n + 1) 27 [.gl f, a, b] st = .ok (.str w) false st :=
  call_ret (fn := c_law_by_two) rfl rfl (b_ret rfl (e_rfd (e_cvx rfl ha (ds := [a, b]) rfl h) hw))
end K1

set_option maxRecDepth 100000
set_option maxHeartbeats 0
/-! L17: snips right. -/
namespace K1
open PySem Pi Pi.EvR
theorem for_inv {body : D → Pi.Env → Pi.Sto → R Pi.Flow} {I : Pi.Env → Pi.Sto → Prop} : ∀ {xs : List D} {env : Pi.Env} {st : Pi.Sto}, I env st → (∀ x ∈ xs, ∀ env st, I env st → ∃ env' st', body x env st = .ok .nx env' st' ∧ I env' st') → ∃ env' st', forGo body xs env st = .ok .nx env' st' ∧ I env' st'
  | [], env, st, h, _ => ⟨env, st, rfl, h⟩
  | x :: xs, env, st, h, hs => by
    obtain ⟨e1, s1, hb, i1⟩ := hs x List.mem_cons_self env st h
    obtain ⟨e2, s2, hf, i2⟩ := for_inv (xs := xs) i1 fun y hy => hs y (List.mem_cons_of_mem _ hy)
    refine ⟨e2, s2, ?_, i2⟩
    show (body x env st).bind _ = _
    rw [hb]
    exact hf
theorem deqs_self : ∀ {xs : List D}, (∀ x ∈ xs, deq x x = true) → deqs xs xs = true
  | [], _ => rfl
  | x :: xs, h => by
    show (deq x x && deqs xs xs) = true
    rw [h x List.mem_cons_self, deqs_self fun y hy => h y (List.mem_cons_of_mem _ hy)]; rfl
theorem raw_self {s : Scp} {x : D} (hx : x ∈ s.raw) : deq x x = true := by
  obtain ⟨w, sd, p, rfl, hs⟩ := raw_sD hx
  rw [deq_sD, deq_side hs]
  simp
theorem ne_self {xs : List D} (h : ∀ x ∈ xs, deq x x = true) (h2 : ∀ x ∈ xs, x.pl = true ∧ x.dep ≤ 10) : cmpop .ne (.lst xs) (.lst xs) = some false := by
  have e1 := pls_all fun x hx => (h2 x hx).1
  have e2 := deps_le (w := 10) fun x hx => (h2 x hx).2
  show (if (D.pls xs && D.pls xs && decide (min (D.deps xs + 1) (D.deps xs + 1) ≤ 60)) = true then some (!deqs xs xs) else none) = _
  rw [e1, if_pos (by simp; omega), deqs_self h]; rfl
theorem raw_pl {s : Scp} {x : D} (hx : x ∈ s.raw) : x.pl = true ∧ x.dep ≤ 10 := by
  obtain ⟨w, sd, p, rfl, hs⟩ := raw_sD hx
  obtain ⟨a, b, _⟩ := sD_facts (w := w) (p := p) hs
  exact ⟨a, by omega⟩
theorem e_isLst {cl : Nat → List D → Pi.Sto → RC} {bw : Bool} {i : Nat} {env : Pi.Env} {st : Pi.Sto} {xs : List D} {o : Bool} (hg : getS env i = some (.lst xs, o)) : ev cd.G cl bw (.bi .isinst [.v i, .g (.ty "list")]) env st = .ok (.bl true, false) env st := by
  refine e_bi (ds := [.lst xs, .ty "list"]) (env1 := env) (st1 := st) ?_ rfl
  simp [evs, ev, hg, R.bind]
def env35 (l : Nat) (s : Scp) (due : Slot) (s3 s4 s5 s6 s7 s8 s9 s10 : Slot) : Pi.Env := [A (.ref l), A s.d, due, s3, s4, s5, s6, s7, s8, s9, s10, none]
abbrev b3 : List S := [
  .asg (.n 8) (.call 16 [.v 1]),
  .ifs (.or (.not (.bi .isinst [.v 8, .g (.ty "list")])) (.cmp .ne (.v 8) (.v 2))) [
   .ret (.k (.bl false))] [],
  .app 8 (.k (.str "odd"))]
theorem step3 {n l : Nat} {s : Scp} {i : Int} {s3 s8 : Slot} {st : Pi.Sto} (h : s.Ok) : ∃ t8, fStep cd.G (call (n + 6)) 0 (.n 3) b3 (.int i) (env35 l s (some (.lst s.raw, true)) s3 none none none none s8 none none) st = .ok .nx (env35 l s (some (.lst s.raw, true)) (A (.int i)) none none none none t8 none none) st := by
  have hl := s.raw_len h
  refine ⟨some (.lst (s.raw ++ [.str "odd"]), true), ?_⟩
  refine (b_asg (p := (.lst s.raw, true)) (env1 := env35 l s (some (.lst s.raw, true)) (A (.int i)) none none none none s8 none none) (e_call (ds := [s.d]) rfl (f16 h)) rfl).trans ?_
  refine (b_ifF (q := !true || false) (env1 := env35 l s (some (.lst s.raw, true)) (A (.int i)) none none none none (some (.lst s.raw, true)) none none) (e_or (e_not (e_isLst rfl)) fun _ => e_cmp (x := .lst s.raw) (y := .lst s.raw) rfl rfl (ne_self (fun x hx => raw_self hx) fun x hx => raw_pl hx)) rfl).trans ?_
  have ha : exS cd.G (call (n + 6)) 0 (.app 8 (.k (.str "odd"))) (env35 l s (some (.lst s.raw, true)) (A (.int i)) none none none none (some (.lst s.raw, true)) none none) st = .ok .nx (env35 l s (some (.lst s.raw, true)) (A (.int i)) none none none none (some (.lst (s.raw ++ [.str "odd"]), true)) none none) st := by
    show (if szOk (s.raw.length + 1) = true then _ else _) = _
    rw [if_pos (by simp [szOk]; omega)]
    rfl
  exact (b_nx ha).trans rfl
abbrev b4 : List S := [
  .asg (.n 9) (.call 17 [.v 1, .v 4]),
  .ifs (.or (.not (.call 33 [.v 9])) (.cmp .ne (.call 34 [.v 9]) (.lc (.v 11) (.n 11) (.v 2) (some (.cmp .ne (.v 11) (.v 4)))))) [
   .ret (.k (.bl false))] [],
  .asg (.n 10) (.lc (.ix (.v 11) (.k (.int 0))) (.n 11) (.ix (.v 9) (.k (.int 3))) none),
  .ifs (.or (.cmp .ne (.sl (.v 9) none (some (.k (.int 2)))) (.sl (.v 1) none (some (.k (.int 2))))) (.cmp .ne (.v 10) (.lc (.ix (.v 11) (.k (.int 0))) (.n 11) (.ix (.v 1) (.k (.int 3))) none))) [
   .ret (.k (.bl false))] []]
theorem sl02 {a b c d e : D} : slice (.tup [a, b, c, d, e]) none (some 2) = some (.tup [a, b], false) := by
  show some (D.tup (cutBy [a, b, c, d, e] none (some 2)), false) = _
  rw [cut_lo (by omega)]; rfl
theorem parts_lc {n : Nat} {bw : Bool} {s' : Scp} (h : s'.Ok) {env : Pi.Env} {i : Nat} {st : Pi.Sto} (hl : env.length = 12) (h11 : env[11]? = some none) (hi : i ≠ 11) (hg : getS env i = some (s'.d, false)) : ev cd.G (call n) bw (.lc (.ix (.v 11) (.k (.int 0))) (.n 11) (.ix (.v i) (.k (.int 3))) none) env st = .ok (.lst (s'.rds.map fun r => .int r.1), true) env st := by
  have hset : ∀ s, (env.set 11 s).set 11 none = env := fun s => by
    rw [List.set_set]
    apply List.ext_getElem?
    intro j
    rw [List.getElem?_set]
    split
    · rename_i hj
      subst hj
      rw [h11]
      simp [hl]
    · rfl
  have hnone : env.set 11 none = env := by
    apply List.ext_getElem?
    intro j
    rw [List.getElem?_set]
    split
    · rename_i hj
      subst hj
      rw [h11]
      simp [hl]
    · rfl
  have hm := lc_map (G := cd.G) (cl := call n) (st := st) (elt := .ix (.v 11) (.k (.int 0))) (tg := .n 11) (env0 := env) (f := fun x => .int (numOf ((match x with | .tup [p, _, _] => p | _ => .non)))) (xs := s'.rds.map rdD) (fun x hx => by
    obtain ⟨r, _, rfl⟩ := List.mem_map.mp hx
    refine ⟨env.set 11 (A (rdD r)), false, ?_, ?_, ?_⟩
    · show (if 11 < env.length then _ else _) = _
      rw [if_pos (by omega)]
    · have hg : getS (env.set 11 (A (rdD r))) 11 = some (rdD r, false) := by
        unfold getS
        rw [List.getElem?_set_self (by omega)]
      refine e_ix (x := rdD r) (y := .int 0) (o := false) ?_ rfl (ixt at0)
      unfold ev
      rw [hg]; rfl
    · exact hset _)
  rw [List.map_map] at hm
  have hf := h.few
  have hv : ev cd.G (call n) true (.v i) env st = .ok (s'.d, false) env st := by
    unfold ev
    rw [hg]; rfl
  have hit : ev cd.G (call n) false (.ix (.v i) (.k (.int 3))) env st = .ok (.tup (s'.rds.map rdD), false) env st := e_ix hv rfl (ixt at3)
  refine e_lc (bw := bw) (env1 := env) (x := .tup (s'.rds.map rdD)) (o := false) hit rfl (by rw [List.length_map]; simp [szOk]; omega) ?_ ?_ (env2 := env) (ys := s'.rds.map fun r => .int r.1)
  · show lcGo _ _ (env.set 11 none) st = _
    rw [hnone]
    exact hm
  · show env.set 11 (match env[11]? with | some s => s | none => none) = env
    rw [h11]
    exact hnone
theorem deq_int {i : Int} : deq (.int i) (.int i) = true := by
  show (i == i) = true
  simp
theorem tup2_ne {i j : Int} : cmpop .ne (.tup [.int i, .int j]) (.tup [.int i, .int j]) = some false := by
  show some (!((i == i) && ((j == j) && true))) = _
  simp
theorem f35_loop {n l : Nat} {s : Scp} {st : Pi.Sto} (h : s.Ok) {x : D} (hx : x ∈ s.raw) {s3 s4 s8 s9 s10 : Slot} : ∃ t9 t10, fStep cd.G (call (n + 6)) 0 (.n 4) b4 x (env35 l s (A (.lst s.raw)) s3 s4 none none none s8 s9 s10) st = .ok .nx (env35 l s (A (.lst s.raw)) s3 (A x) none none none s8 t9 t10) st := by
  obtain ⟨s', hL, e17⟩ := f17 (n := n) (st := st) h hx
  have hl := s.raw_len h
  have hlc : ev cd.G (call (n + 6)) true (.lc (.v 11) (.n 11) (.v 2) (some (.cmp .ne (.v 11) (.v 4)))) (env35 l s (A (.lst s.raw)) s3 (A x) none none none s8 (A s'.d) s10) st = .ok (.lst (s.raw.filter (nq x)), true) (env35 l s (A (.lst s.raw)) s3 (A x) none none none s8 (A s'.d) s10) st := by
    have hm := lc_filter (G := cd.G) (cl := call (n + 6)) (st := st) (elt := .v 11) (k := .cmp .ne (.v 11) (.v 4)) (tg := .n 11) (env0 := env35 l s (A (.lst s.raw)) s3 (A x) none none none s8 (A s'.d) s10) (f := fun x => x) (p := nq x) (xs := s.raw) (fun y hy => ⟨[A (.ref l), A s.d, A (.lst s.raw), s3, A x, none, none, none, s8, A s'.d, s10, A y], false, false, rfl, by
      refine e_cmp (x := y) (y := x) rfl rfl ?_
      have h1 := raw_pl hx
      have h2 := raw_pl hy
      show (if _ then _ else _) = _
      rw [h1.1, h2.1, if_pos (by simp; omega)]; rfl, fun _ => rfl, rfl⟩)
    rw [List.map_id'] at hm
    exact e_lc (bw := true) (it := .v 2) (env3 := env35 l s (A (.lst s.raw)) s3 (A x) none none none s8 (A s'.d) s10) (x := .lst s.raw) (o := false) rfl rfl (by simp [szOk]; omega) hm rfl
  refine ⟨A s'.d, some (.lst (s.rds.map fun r => .int r.1), true), ?_⟩
  have ep : (s'.rds.map fun r => D.int r.1) = s.rds.map fun r => D.int r.1 := by
    have := congrArg (List.map D.int) hL.parts
    simpa [Function.comp_def] using this
  refine (b_asg (p := (s'.d, false)) (env1 := env35 l s (A (.lst s.raw)) s3 (A x) none none none s8 s9 s10) (env2 := env35 l s (A (.lst s.raw)) s3 (A x) none none none s8 (A s'.d) s10) (st1 := st) (e_call (ds := [s.d, x]) rfl e17) rfl).trans ?_
  refine (b_ifF (q := !true || false) (env1 := env35 l s (A (.lst s.raw)) s3 (A x) none none none s8 (A s'.d) s10) (st1 := st) (e_or (e_not (e_call (ds := [s'.d]) rfl (by
    have := f33 (n := n + 2) (st := st) (s'.vv hL.ok)
    rw [s'.good hL.ok] at this
    exact this))) fun _ => e_cmp (x := .lst s'.raw) (y := .lst (s.raw.filter (nq x))) (e_call (ds := [s'.d]) rfl (f34 hL.ok)) hlc (by
      rw [hL.raw]
      exact ne_self (fun y hy => raw_self (List.mem_filter.mp hy).1) fun y hy => raw_pl (List.mem_filter.mp hy).1)) rfl).trans ?_
  refine (b_asg (p := (.lst (s'.rds.map fun r => .int r.1), true)) (env1 := env35 l s (A (.lst s.raw)) s3 (A x) none none none s8 (A s'.d) s10) (env2 := env35 l s (A (.lst s.raw)) s3 (A x) none none none s8 (A s'.d) (some (.lst (s'.rds.map fun r => .int r.1), true))) (st1 := st) (parts_lc hL.ok rfl rfl (by omega) rfl) rfl).trans ?_
  rw [ep]
  exact (b_ifF (q := false || false) (env1 := env35 l s (A (.lst s.raw)) s3 (A x) none none none s8 (A s'.d) (some (.lst (s.rds.map fun r => .int r.1), true))) (st1 := st) (e_or (e_cmp (x := .tup [.int s'.rows, .int s'.len]) (y := .tup [.int s.rows, .int s.len]) (e_sl (l := none) (u := some 2) rfl rfl rfl sl02) (e_sl (l := none) (u := some 2) rfl rfl rfl sl02) (by
    rw [hL.rows, hL.len]; exact tup2_ne)) fun _ => e_cmp (x := .lst (s.rds.map fun r => .int r.1)) (y := .lst (s.rds.map fun r => .int r.1)) rfl (parts_lc h rfl rfl (by omega) rfl) (ne_self (fun y hy => by
      obtain ⟨r, _, rfl⟩ := List.mem_map.mp hy
      exact deq_int) fun y hy => by
      obtain ⟨r, _, rfl⟩ := List.mem_map.mp hy
      exact ⟨rfl, Nat.zero_le _⟩)) rfl).trans rfl
def odds1 (m : Int) : List D := [.non, .tup [], .tup [.int 0, tL, .int 0, .int 3], .tup [.int (m + 1), tL, .int 0, .int 0], .tup [.int 0, tA, .int 0, .int 0], .tup [.int 9, tA, .int 0, .int 0]]
def odds2 : List D := [.lst [.int 0, tL, .int 0, .int 0], .tup [.bl false, tL, .int 0, .int 0], .tup [.int 1, tL, .int 0], .tup [.int 0, .int 0, .int 0, .int 0], .tup [.int (-1), tL, .int 0, .int 0]]
theorem odds_bad {s : Scp} (h : s.Ok) {x : D} (hx : x ∈ odds1 s.rds.length ++ odds2) : VV x ∧ (snipB x && dmem x s.raw) = false := by
  have hA : ∀ y ∈ s.raw, ∀ w : Int, w = 0 → deq y (.tup [.int w, tA, .int 0, .int 0]) = false := by
    rintro y hy w rfl
    rcases List.mem_append.mp hy with hy | hy
    · obtain ⟨w, sd, p, rfl, _, _, hs⟩ := raw_mem hy
      have : deq sd tA = false := by rcases hs with rfl | rfl <;> decide
      show deq (sD w sd p) (sD 0 tA (0, 0)) = false
      rw [deq_sD, this]; simp
    · obtain ⟨p, _, rfl⟩ := List.mem_map.mp hy
      show deq (sD _ tA p) (sD 0 tA (0, 0)) = false
      rw [deq_sD]
      have : (((s.rds.length : Int) + 1) == 0) = false := by rw [beq_eq_false_iff_ne]; omega
      rw [this]; rfl
  have hB : ∀ y ∈ s.raw, deq y (.tup [.int (s.rds.length + 1), tL, .int 0, .int 0]) = false := by
    intro y hy
    show deq y (sD (s.rds.length + 1) tL (0, 0)) = false
    rcases List.mem_append.mp hy with hy | hy
    · obtain ⟨w, sd, p, rfl, h1, h2, hs⟩ := raw_mem hy
      rw [deq_sD]
      rw [Scp.pairs_len] at h2
      have : (w == ((s.rds.length : Int) + 1)) = false := by rw [beq_eq_false_iff_ne]; omega
      rw [this]; rfl
    · obtain ⟨p, _, rfl⟩ := List.mem_map.mp hy
      rw [deq_sD]
      have : deq tA tL = false := by decide
      rw [this]; simp
  have v4 : ∀ {a b c d : D}, Vk 4 0 a → Vk 4 0 b → Vk 4 0 c → Vk 4 0 d → VV (.tup [a, b, c, d]) := fun ha hb hc hd => (Vk.tup (w := 4) (k := 0) (fun x hx => by
    simp only [List.mem_cons, List.not_mem_nil, or_false] at hx
    rcases hx with rfl | rfl | rfl | rfl <;> assumption) (by simp)).mono (by omega) (by omega)
  have vi : ∀ {i : Int}, Vk 4 0 (.int i) := vk_int
  have vL : Vk 4 0 tL := ⟨rfl, Nat.zero_le _, Nat.le_refl _⟩
  have vA : Vk 4 0 tA := ⟨rfl, Nat.zero_le _, Nat.le_refl _⟩
  simp only [odds1, odds2, List.mem_append, List.mem_cons, List.not_mem_nil, or_false] at hx
  rcases hx with (rfl | rfl | rfl | rfl | rfl | rfl) | (rfl | rfl | rfl | rfl | rfl)
  · exact ⟨⟨rfl, Nat.zero_le _, Nat.zero_le _⟩, rfl⟩
  · exact ⟨⟨rfl, Nat.zero_le _, by show 1 ≤ 50; omega⟩, rfl⟩
  · exact ⟨v4 vi vL vi vi, rfl⟩
  · exact ⟨v4 vi vL vi vi, by rw [dmem_no hB, Bool.and_false]⟩
  · exact ⟨v4 vi vA vi vi, by rw [dmem_no fun y hy => hA y hy 0 rfl, Bool.and_false]⟩
  · exact ⟨v4 vi vA vi vi, rfl⟩
  · exact ⟨(Vk.lst (w := 4) (k := 0) (fun x hx => by
      simp only [List.mem_cons, List.not_mem_nil, or_false] at hx
      rcases hx with rfl | rfl | rfl | rfl <;> first | exact vi | exact vL) (by simp)).mono (by omega) (by omega), rfl⟩
  · exact ⟨v4 ⟨rfl, Nat.zero_le _, Nat.zero_le _⟩ vL vi vi, rfl⟩
  · exact ⟨(Vk.tup (w := 4) (k := 0) (fun x hx => by
      simp only [List.mem_cons, List.not_mem_nil, or_false] at hx
      rcases hx with rfl | rfl | rfl <;> first | exact vi | exact vL) (by simp)).mono (by omega) (by omega), rfl⟩
  · exact ⟨v4 vi vi vi vi, rfl⟩
  · exact ⟨v4 vi vL vi vi, rfl⟩
theorem ne_str {w : Str} (h : (w == w) = true) : cmpop .ne (.str w) (.str w) = some false := by
  show some (!(w == w)) = _
  rw [h]; rfl
theorem f35 {n l : Nat} {s : Scp} {st : Pi.Sto} (h : s.Ok) : call (n + 8) 35 [.ref l, s.d] st = .ok (.bl true) false st := by
  have hrl := s.raw_len h
  obtain ⟨t8, e3⟩ := step3 (n := n + 1) (l := l) (i := 0) (s3 := none) (s8 := none) (st := st) h
  obtain ⟨t8', e3'⟩ := step3 (n := n + 1) (l := l) (i := 1) (s3 := A (.int 0)) (s8 := t8) (st := st) h
  obtain ⟨envf, stf, e4, s4, s9, s10, rfl, rfl⟩ := for_inv (body := fStep cd.G (call (n + 7)) 0 (.n 4) b4) (I := fun e s' => ∃ s4 s9 s10, e = env35 l s (A (.lst s.raw)) (A (.int 1)) s4 none none none t8' s9 s10 ∧ st = s') (xs := s.raw) (env := env35 l s (A (.lst s.raw)) (A (.int 1)) none none none none t8' none none) (st := st) ⟨none, none, none, rfl, rfl⟩ (by
    rintro x hx _ _ ⟨s4, s9, s10, rfl, rfl⟩
    obtain ⟨t9, t10, e⟩ := f35_loop (n := n + 1) (l := l) (st := _) h hx (s3 := A (.int 1)) (s4 := s4) (s8 := t8') (s9 := s9) (s10 := s10)
    exact ⟨_, _, e, _, _, _, rfl, rfl⟩)
  let E : Slot → Pi.Env := fun s7 => env35 l s (A (.lst s.raw)) (A (.int 1)) s4 (A (.int s.rds.length)) (A (.lst (odds1 s.rds.length ++ odds2))) s7 t8' s9 s10
  obtain ⟨envf, stf, e7, s7, rfl, rfl⟩ := for_inv (body := fStep cd.G (call (n + 7)) 0 (.n 7) [.ifs (.cmp .ne (.call 27 [.g (.gl 17), .v 1, .v 7]) (.k (.str "snip"))) [.ret (.k (.bl false))] []]) (I := fun e s' => ∃ s7, e = E s7 ∧ st = s') (xs := odds1 s.rds.length ++ odds2) (env := E none) (st := st) ⟨none, rfl, rfl⟩ (by
    rintro x hx _ _ ⟨s7, rfl, rfl⟩
    obtain ⟨hv, hb⟩ := odds_bad h hx
    refine ⟨E (A x), _, (b_ifF (q := false) (env1 := E (A x)) (e_cmp (x := .str "snip") (y := .str "snip") (e_call (ds := [.gl 17, s.d, x]) rfl (f27x (n := n + 6) rfl (f17y h hv hb) rfl)) rfl (ne_str (by decide))) rfl).trans rfl, _, rfl, rfl⟩)
  have hlist : VV (.lst [.int s.rows, .int s.len, .tup [lotD s.b1, lotD s.b2], .tup (s.rds.map rdD), lotD s.aft]) := ⟨(s.vv h).pl, (s.vv h).wd, (s.vv h).dp⟩
  refine call_ret (fn := c_law_snips_right) (env1 := E s7) rfl rfl ((b_asg (p := (.lst s.raw, true)) (env1 := env35 l s none none none none none none none none none) (env2 := env35 l s (some (.lst s.raw, true)) none none none none none none none none) (st1 := st) (e_call (ds := [s.d]) rfl (f34 h)) rfl).trans ?_)
  refine (b_nx (env1 := env35 l s (some (.lst s.raw, true)) (A (.int 1)) none none none none t8' none none) (st1 := st) ((s_for (x := .lst [.int 0, .int 1]) (o := false) (env1 := env35 l s (some (.lst s.raw, true)) none none none none none none none none) (st1 := st) (e_rng (ds := [.int 2]) rfl rfl) rfl).trans ?_)).trans ?_
  · show (fStep _ _ _ _ _ _ _ _).bind _ = _
    rw [e3]
    show (fStep _ _ _ _ _ _ _ _).bind _ = _
    rw [e3']
    rfl
  refine (b_nx ((s_for (x := .lst s.raw) (o := false) (env1 := env35 l s (A (.lst s.raw)) (A (.int 1)) none none none none t8' none none) (st1 := st) rfl rfl).trans e4)).trans ?_
  refine (b_asg (p := (.int s.rds.length, false)) (env1 := env35 l s (A (.lst s.raw)) (A (.int 1)) s4 none none none t8' s9 s10) (env2 := env35 l s (A (.lst s.raw)) (A (.int 1)) s4 (A (.int s.rds.length)) none none t8' s9 s10) (st1 := st) (e_bi (ds := [.tup (s.rds.map rdD)]) (es_cons (e_ix rfl rfl (ixt at3)) es_nil) (by
    show some (D.int ((s.rds.map rdD).length : Int), false) = _
    rw [List.length_map])) rfl).trans ?_
  refine (b_asg (p := (.lst (odds1 s.rds.length), true)) (env1 := env35 l s (A (.lst s.raw)) (A (.int 1)) s4 (A (.int s.rds.length)) none none t8' s9 s10) (env2 := env35 l s (A (.lst s.raw)) (A (.int 1)) s4 (A (.int s.rds.length)) (some (.lst (odds1 s.rds.length), true)) none t8' s9 s10) (st1 := st) rfl rfl).trans ?_
  refine (b_asg (p := (.lst (odds1 s.rds.length ++ odds2), true)) (env1 := env35 l s (A (.lst s.raw)) (A (.int 1)) s4 (A (.int s.rds.length)) (some (.lst (odds1 s.rds.length), true)) none t8' s9 s10) (env2 := env35 l s (A (.lst s.raw)) (A (.int 1)) s4 (A (.int s.rds.length)) (some (.lst (odds1 s.rds.length ++ odds2), true)) none t8' s9 s10) (st1 := st) (e_bin (x := .lst (odds1 s.rds.length)) (y := .lst odds2) rfl rfl rfl) rfl).trans ?_
  refine (b_nx ((s_for (x := .lst (odds1 s.rds.length ++ odds2)) (o := false) (env1 := E none) (st1 := st) rfl rfl).trans e7)).trans ?_
  exact b_ret rfl (e_and (p := true) (q := true) (e_cmp (x := .str "script") (y := .str "script") (e_call (ds := [.gl 17, .non, .non]) rfl (f27x (n := n + 6) rfl (f17x ⟨rfl, Nat.zero_le _, Nat.zero_le _⟩ rfl) rfl)) rfl (by decide)) fun _ => e_cmp (x := .str "script") (y := .str "script") (e_call (ds := [.gl 16, .lst [.int s.rows, .int s.len, .tup [lotD s.b1, lotD s.b2], .tup (s.rds.map rdD), lotD s.aft]]) rfl (f26x (n := n + 6) rfl (f16x hlist rfl) rfl)) rfl (by decide))
end K1

set_option maxRecDepth 100000
set_option maxHeartbeats 0
/-! L18: the source; a cell's turn. -/
namespace K1
open PySem Pi Pi.EvR
section
variable {cl : Nat → List D → Pi.Sto → RC} {W : Nat} {bw : Bool} {env env1 env2 : Pi.Env} {st st1 st2 : Pi.Sto} {a b c : C} {d : D} {o : Bool} {ss : List S}
theorem e_andF (h : ev cd.G cl true a env st = .ok (.bl false, o) env1 st1) : ev cd.G cl bw (.and a b) env st = .ok (.bl false, false) env1 st1 := by
  conv => lhs; unfold ev
  rw [h]; rfl
theorem e_andT (h : ev cd.G cl true a env st = .ok (.bl true, o) env1 st1) : ev cd.G cl bw (.and a b) env st = ev cd.G cl bw b env1 st1 := by
  conv => lhs; unfold ev
  rw [h]; rfl
theorem e_mk {xs : List D} (h : ev cd.G cl false a env st = .ok (.lst xs, true) env1 st1) : ev cd.G cl bw (.mk a) env st = .ok (.ref st1.length, false) env1 (st1 ++ [.lst xs]) := by
  conv => lhs; unfold ev
  rw [h]; rfl
theorem b_app {i : Nat} {xs ys : List D} {y : D × Bool} (hg : getS env i = some (.lst xs, true)) (h : ev cd.G cl false c env st = .ok y env1 st1) (hg1 : getS env1 i = some (.lst ys, true)) (hz : ys.length + 1 ≤ 1000000) : exB cd.G cl W (.app i c :: ss) env st = exB cd.G cl W ss (env1.set i (some (.lst (ys ++ [y.1]), true))) st1 := b_nx (by
  conv => lhs; unfold exS
  rw [hg]
  rw [if_pos (show isL st (some (.lst xs, true)) = true from rfl), h]
  show (match getS env1 i with
    | some (.lst xs, true) => if szOk (xs.length + 1) then R.ok Pi.Flow.nx (env1.set i (some (.lst (xs ++ [y.1]), true))) st1 else .no
    | some (.ref l, _) => _
    | _ => _) = _
  rw [hg1]
  dsimp only
  rw [if_pos (by simp [szOk]; omega)])
end
theorem range_mem {x : D} : ∀ {m : Nat} {lo : Int}, x ∈ rangeD lo m → ∃ i : Int, x = .int i ∧ lo ≤ i ∧ i < lo + m
  | 0, lo, h => by cases h
  | m + 1, lo, h => by
    rcases List.mem_cons.mp (show x ∈ D.int lo :: rangeD (lo + 1) m from h) with rfl | h
    · exact ⟨lo, rfl, by omega, by omega⟩
    · obtain ⟨i, e, h1, h2⟩ := range_mem h
      exact ⟨i, e, by omega, by omega⟩
def numAt (ns : List Int) (k : Int) : Int := if k < ns.length then ns.getD k.toNat 0 else 0
theorem scr_len {ns : List Int} {d : D} (hd : Scr ns d) : bifn cd.G .len [d] = some (.int ns.length, false) := by
  cases hd with
  | lst => show some (D.int ((ns.map D.int).length : Int), false) = _; rw [List.length_map]
  | scr => show some (D.int ((ns.map D.int).length : Int), false) = _; rw [List.length_map]
theorem scr_ix {ns : List Int} {d : D} {k : Int} {st : Pi.Sto} (hd : Scr ns d) (h0 : 0 ≤ k) (h1 : k < ns.length) : ixF st d (.int k) = some (.int (numAt ns k), false) := by
  have e : atIx (ns.map D.int) k = some (.int (numAt ns k)) := by
    have h2 : k.toNat < ns.length := by omega
    rw [atIx_of h0 (by rw [List.length_map]; exact h1), List.getElem?_map, List.getElem?_eq_getElem h2]
    unfold numAt
    rw [if_pos h1]
    simp [List.getElem?_eq_getElem h2]
  cases hd with
  | lst => exact ixl e
  | scr => show ((atIx (ns.map D.int) k).map fun d => (d, false)) = _; rw [e]; rfl
theorem f18 {n : Nat} {ns : List Int} {d : D} {k : Int} {st : Pi.Sto} (hd : Scr ns d) (h0 : 0 ≤ k) (h1 : k < 100) : ∃ st', call (n + 1) 18 [d, .int k] st = .ok (.ref st.length) false st' ∧ Src st' st.length := by
  let num := numAt ns k
  let s1 : Int := (num * 16807 + 60919 * k + 31) % 2147481173
  have s1a : 0 ≤ s1 := Int.emod_nonneg _ (by omega)
  have s1b : s1 < 2147481173 := Int.emod_lt_of_pos _ (by omega)
  let s2 : Int := s1 * s1 % 2147481151 + 2 * k + 5
  have s2a : 0 ≤ s1 * s1 % 2147481151 := Int.emod_nonneg _ (by omega)
  have s2b : s1 * s1 % 2147481151 < 2147481151 := Int.emod_lt_of_pos _ (by omega)
  have start : exB cd.G (call n) 0 c_law_source.body [A d, A (.int k), none, none] st = exB cd.G (call n) 0 (c_law_source.body.drop 2) [A d, A (.int k), A (.int num), none] st := by
    by_cases h : k < ns.length
    · refine (b_asg (p := (.int 0, false)) rfl rfl).trans (b_ifT (q := decide (k < ns.length)) (env1 := [A d, A (.int k), A (.int 0), none]) (e_cmp (x := .int ns.length) (y := .int k) (e_bi (ds := [d]) rfl (scr_len hd)) rfl gt_int) (by simpa using h) ?_)
      exact (b_asg (env1 := [A d, A (.int k), A (.int 0), none]) (p := (.int num, false)) (e_bi (ds := [.int num]) (es_cons (e_ix rfl rfl (scr_ix hd h0 h)) es_nil) rfl) rfl).trans rfl
    · have hz : num = 0 := by
        show numAt ns k = 0
        unfold numAt
        rw [if_neg h]
      rw [hz]
      exact (b_asg (p := (.int 0, false)) rfl rfl).trans (b_ifF (q := decide (k < ns.length)) (env1 := [A d, A (.int k), A (.int 0), none]) (e_cmp (x := .int ns.length) (y := .int k) (e_bi (ds := [d]) rfl (scr_len hd)) rfl gt_int) (by simpa using h))
  have big : ∀ {i : Int}, 0 ≤ i → i < 4294967296 → bigOk i = true := fun a b => by
    simp [bigOk]; omega
  have m1 : binop .mul (.int num) (.int 16807) = some (.int (num * 16807), false) := by
    show (if (bigOk num || bigOk 16807) = true then _ else _) = _
    rw [big (i := 16807) (by omega) (by omega), Bool.or_true, if_pos rfl]
  have m2 : binop .mul (.int 60919) (.int k) = some (.int (60919 * k), false) := rfl
  have m3 : binop .mul (.int s1) (.int s1) = some (.int (s1 * s1), false) := by
    show (if (bigOk s1 || bigOk s1) = true then _ else _) = _
    rw [big s1a (by omega), Bool.or_true, if_pos rfl]
  let env3 : Pi.Env := [A d, A (.int k), A (.int num), A (.int s1)]
  let env4 : Pi.Env := [A d, A (.int k), A (.int num), A (.int s2)]
  have e1 : exB cd.G (call n) 0 c_law_source.body [A d, A (.int k), none, none] st = exB cd.G (call n) 0 (c_law_source.body.drop 4) env4 st := by
    refine start.trans ((b_asg (env1 := [A d, A (.int k), A (.int num), none]) (env2 := env3) (p := (.int s1, false)) (e_bin (x := .int (num * 16807 + 60919 * k + 31)) (y := .int 2147481173) (e_bin (x := .int (num * 16807 + 60919 * k)) (e_bin (e_bin rfl rfl m1) (e_bin rfl rfl m2) rfl) rfl rfl) rfl rfl) rfl).trans (b_asg (env1 := env3) (env2 := env4) (p := (.int s2, false)) (e_bin (x := .int (s1 * s1 % 2147481151 + 2 * k)) (e_bin (x := .int (s1 * s1 % 2147481151)) (y := .int (2 * k)) (e_bin (e_bin rfl rfl m3) rfl rfl) (e_bin rfl rfl rfl) rfl) rfl rfl) rfl))
  have hite : ∃ a : Int, 0 ≤ a ∧ ev cd.G (call n) false (.ite (.cmp .ge (.v 2) (.bin .pow (.k (.int 10)) (.k (.int 18)))) (.v 2) (.k (.int 0))) env4 st = .ok (.int a, false) env4 st := by
    have hc : ev cd.G (call n) true (.cmp .ge (.v 2) (.bin .pow (.k (.int 10)) (.k (.int 18)))) env4 st = .ok (.bl (!decide (num < 10 ^ 18)), false) env4 st := e_cmp (x := .int num) (y := .int (10 ^ 18)) rfl (e_bin rfl rfl rfl) rfl
    by_cases h : num < 10 ^ 18
    · refine ⟨0, Int.le_refl _, ?_⟩
      rw [show (!decide (num < 10 ^ 18)) = false by simpa using h] at hc
      exact (e_iteF hc).trans rfl
    · refine ⟨num, by omega, ?_⟩
      rw [show (!decide (num < 10 ^ 18)) = true by simpa using h] at hc
      exact (e_iteT hc).trans rfl
  obtain ⟨a, ha, hite⟩ := hite
  refine ⟨st ++ [.lst [.int a, .int s2]], call_ret (fn := c_law_source) rfl rfl (e1.trans (b_ret rfl (e_mk (e_ls (es_cons hite (es_cons rfl es_nil)) rfl)))), a, s2, ?_, ha, ?_, ?_⟩
  · simp
  · show 0 ≤ s1 * s1 % 2147481151 + 2 * k + 5
    omega
  · show s1 * s1 % 2147481151 + 2 * k + 5 < _
    omega
/-! ### the turn of a cell -/
def envT (d : D) (k : Int) (l : Nat) (s : Scp) (s5 s6 s7 s8 s9 : Slot) : Pi.Env := [A d, A (.int k), none, A (.ref l), A s.d, s5, s6, s7, s8, s9, none, none]
abbrev bV : List S := [
   .asg (.n 9) (.call 24 [.v 3, .v 4, .k (.int 6)]),
   .app 5 (.v 9),
   .ifs (.and (.bi .isinst [.v 9, .g (.ty "tuple")]) (.cmp .eq (.call 19 [.v 3, .k (.int 3)]) (.k (.int 0)))) [
    .app 5 (.call 24 [.v 3, .v 9, .k (.int 6)])] []]
def Vals (vals : List D) : Prop := ∀ v ∈ vals, VV v
theorem Vals.add {vals : List D} {v : D} (h : Vals vals) (hv : VV v) : Vals (vals ++ [v]) := fun x hx => by
  rcases List.mem_append.mp hx with hx | hx
  · exact h x hx
  · rw [List.mem_singleton.mp hx]; exact hv
theorem var_own {cl : Nat → List D → Pi.Sto → RC} {env : Pi.Env} {i : Nat} {d : D} {o : Bool} {st : Pi.Sto} (h : getS env i = some (d, o)) : ev cd.G cl false (.v i) env st = .ok (d, false) (if o then freeze env i d else env) st := by
  conv => lhs; unfold ev
  rw [h]
  cases o <;> rfl
theorem turnV {n l : Nat} {d : D} {k i : Int} {s : Scp} {vals : List D} {s6 s7 s8 s9 : Slot} {st : Pi.Sto} (h : s.Ok) (hs : Src st l) (hv : Vals vals) (hl : vals.length ≤ 1000) : ∃ vals' s9' st', fStep cd.G (call (n + 20)) 0 (.n 6) bV (.int i) (envT d k l s (some (.lst vals, true)) s6 s7 s8 s9) st = .ok .nx (envT d k l s (some (.lst vals', true)) (A (.int i)) s7 s8 s9') st' ∧ Src st' l ∧ Vals vals' ∧ vals'.length ≤ vals.length + 2 := by
  obtain ⟨v, o, st1, e1, v1, t1, r1, q1⟩ := f24 (l := l) (w := 9) (by omega) (by omega) 6 (n + 20) 5 [.int s.rows, .int s.len, .tup [lotD s.b1, lotD s.b2], .tup (s.rds.map rdD), lotD s.aft] st (by omega) (s.vk h) (by omega) hs
  have e1 : callN cd.G cd.fns 0 (n + 20) 24 [.ref l, s.d, .int 6] st = .ok v o st1 := e1
  have vv : VV v := v1.mono (by omega) (by omega)
  have hfr : ∀ o : Bool, (if o then freeze (envT d k l s (some (.lst vals, true)) (A (.int i)) s7 s8 (some (v, o))) 9 v else envT d k l s (some (.lst vals, true)) (A (.int i)) s7 s8 (some (v, o))) = envT d k l s (some (.lst vals, true)) (A (.int i)) s7 s8 (A v) := by
    intro o; cases o <;> rfl
  have hap : ∀ ss, exB cd.G (call (n + 20)) 0 (.app 5 (.v 9) :: ss) (envT d k l s (some (.lst vals, true)) (A (.int i)) s7 s8 (some (v, o))) st1 = exB cd.G (call (n + 20)) 0 ss (envT d k l s (some (.lst (vals ++ [v]), true)) (A (.int i)) s7 s8 (A v)) st1 := fun ss => by
    have hvar := var_own (cl := call (n + 20)) (env := envT d k l s (some (.lst vals, true)) (A (.int i)) s7 s8 (some (v, o))) (i := 9) (d := v) (o := o) (st := st1) rfl
    rw [hfr] at hvar
    exact (b_app (xs := vals) (ys := vals) rfl hvar rfl (by omega)).trans rfl
  have start : ∀ {res : R Pi.Flow}, exB cd.G (call (n + 20)) 0 (bV.drop 2) (envT d k l s (some (.lst (vals ++ [v]), true)) (A (.int i)) s7 s8 (A v)) st1 = res → fStep cd.G (call (n + 20)) 0 (.n 6) bV (.int i) (envT d k l s (some (.lst vals, true)) s6 s7 s8 s9) st = res := by
    rintro _ rfl
    exact (b_asg (env1 := envT d k l s (some (.lst vals, true)) (A (.int i)) s7 s8 s9) (env2 := envT d k l s (some (.lst vals, true)) (A (.int i)) s7 s8 (some (v, o))) (p := (v, o)) (e_call (ds := [.ref l, s.d, .int 6]) rfl e1) rfl).trans (hap _)
  cases ht : isTup v with
  | false =>
    refine ⟨vals ++ [v], A v, st1, start ?_, r1, hv.add vv, by simp⟩
    have hi := e_isT (cl := call (n + 20)) (bw := true) (i := 9) (env := envT d k l s (some (.lst (vals ++ [v]), true)) (A (.int i)) s7 s8 (A v)) (st := st1) rfl vv.pl
    rw [ht] at hi
    exact (b_ifF (e_andF hi) rfl).trans rfl
  | true =>
    obtain ⟨ys, rfl⟩ := isTup_inv ht
    obtain ⟨r, st2, e2, _, _, r2, q2⟩ := f19 (n := n + 19) r1 (many := 3) (by omega) (by omega)
    have e2 : callN cd.G cd.fns 0 (n + 20) 19 [.ref l, .int 3] st1 = .ok (.int r) false st2 := e2
    have hc : ev cd.G (call (n + 20)) true (.and (.bi .isinst [.v 9, .g (.ty "tuple")]) (.cmp .eq (.call 19 [.v 3, .k (.int 3)]) (.k (.int 0)))) (envT d k l s (some (.lst (vals ++ [.tup ys]), true)) (A (.int i)) s7 s8 (A (.tup ys))) st1 = .ok (.bl (r == 0), false) (envT d k l s (some (.lst (vals ++ [.tup ys]), true)) (A (.int i)) s7 s8 (A (.tup ys))) st2 :=
      (e_andT (e_isT rfl vv.pl)).trans (e_cmp (x := .int r) (y := .int 0) (e_call (ds := [.ref l, .int 3]) rfl e2) rfl rfl)
    cases hr : r == 0 with
    | false => exact ⟨vals ++ [.tup ys], A (.tup ys), st2, start ((b_ifF hc hr).trans rfl), r2, hv.add vv, by simp⟩
    | true =>
      obtain ⟨v3, o3, st3, e3, w3, t3, r3, q3⟩ := f24 (l := l) (w := 10) (by omega) (by omega) 6 (n + 20) 10 ys st2 (by omega) v1 (by omega) r2
      have e3 : callN cd.G cd.fns 0 (n + 20) 24 [.ref l, .tup ys, .int 6] st2 = .ok v3 o3 st3 := e3
      refine ⟨vals ++ [.tup ys] ++ [v3], A (.tup ys), st3, start ((b_ifT hc hr (env2 := envT d k l s (some (.lst (vals ++ [.tup ys] ++ [v3]), true)) (A (.int i)) s7 s8 (A (.tup ys))) (st2 := st3) ?_).trans rfl), r3, (hv.add vv).add (w3.mono (by omega) (by omega)), by simp⟩
      exact (b_app (xs := vals ++ [.tup ys]) (ys := vals ++ [.tup ys]) (y := (v3, o3)) (env1 := envT d k l s (some (.lst (vals ++ [.tup ys]), true)) (A (.int i)) s7 s8 (A (.tup ys))) rfl (e_call (ds := [.ref l, .tup ys, .int 6]) rfl e3) rfl (by simp; omega)).trans rfl
end K1

set_option maxRecDepth 100000
set_option maxHeartbeats 0
/-! L19: the law. -/
namespace K1
open PySem Pi Pi.EvR
theorem check21 {n : Nat} {env : Pi.Env} {st : Pi.Sto} {v : D} (hg : getS env 7 = some (v, false)) (hv : VV v) : ev cd.G (call (n + 20)) true (.not (.call 21 [.call 14 [.v 7], .call 33 [.v 7]])) env st = .ok (.bl false, false) env st := by
  have h7 : evs cd.G (call (n + 20)) false [.v 7] env st = .ok [v] env st := es_cons (x := v) (o := false) (by
    unfold ev
    rw [hg]; rfl) es_nil
  have := e_not (bw := true) (e_call (bw := true) (f := 21) (es_cons (e_call h7 (f14 (n := n + 15) (st := st) hv)) (es_cons (e_call h7 (f33 (n := n + 16) (st := st) hv)) es_nil)) (f21 (n := n + 19) (b := goodS v) (c := goodS v)))
  rw [this]
  cases goodS v <;> rfl
abbrev bC : List S := [.ifs (.not (.call 21 [.call 14 [.v 7], .call 33 [.v 7]])) [.ret (.k (.bl false))] []]
abbrev bN : List S := [.ifs (.cmp .ne (.call 15 [.v 4, .v 8]) (.call 31 [.v 4, .v 8])) [.ret (.k (.bl false))] []]
abbrev bO : List S := [.ifs (.cmp .ne (.call 27 [.g (.gl 15), .v 4, .v 9]) (.k (.str "number"))) [.ret (.k (.bl false))] [],
   .ifs (.cmp .ne (.call 27 [.g (.gl 15), .v 9, .v 9]) (.k (.str "script"))) [.ret (.k (.bl false))] []]
abbrev bK : List S := [
  .asg (.n 3) (.call 18 [.v 0, .v 1]),
  .asg (.n 4) (.call 29 [.v 3, .k (.int 3)]),
  .asg (.n 5) (.ls [.v 4, .bi .list [.v 4], .sl (.v 4) none (some (.k (.int 4))), .bin .add (.v 4) (.tp [.tp []]), .ix (.v 4) (.k (.int 3))]),
  .for (.n 6) (.rng [.k (.int 40)]) bV,
  .for (.n 7) (.bin .add (.v 5) (.ls [.call 23 [.v 3, .k (.int 3)]])) bC,
  .ifs (.not (.call 35 [.v 3, .v 4])) [.ret (.k (.bl false))] [],
  .for (.n 8) (.ls [.k (.int 0), .k (.int 1), .k (.int 2), .k (.int 5), .k (.int 60)]) bN,
  .for (.n 9) (.ls [.neg (.k (.int 1)), .k (.int 61), .k (.bl true), .k .non, .k (.str "1")]) bO]
def IK (d : D) (e : Pi.Env) : Prop := ∃ s1 s3 s4 s5 s6 s7 s8 s9, e = [A d, s1, none, s3, s4, s5, s6, s7, s8, s9, none, none]
def oddN : List D := [.int (-1), .int 61, .bl true, .non, .str "1"]
theorem oddN_bad {v : D} (hv : v ∈ oddN) : VV v ∧ goodS v = false ∧ within v 0 60 = false := by
  simp only [oddN, List.mem_cons, List.not_mem_nil, or_false] at hv
  rcases hv with rfl | rfl | rfl | rfl | rfl <;> exact ⟨⟨rfl, Nat.zero_le _, Nat.zero_le _⟩, rfl, rfl⟩
theorem turnK {n : Nat} {ns : List Int} {d : D} {k : Int} {env : Pi.Env} {st : Pi.Sto} (hd : Scr ns d) (h0 : 0 ≤ k) (h1 : k < 100) (hI : IK d env) : ∃ env' st', fStep cd.G (call (n + 20)) 0 (.n 1) bK (.int k) env st = .ok .nx env' st' ∧ IK d env' := by
  obtain ⟨s1, s3, s4, s5, s6, s7, s8, s9, rfl⟩ := hI
  obtain ⟨st1, e18, r1⟩ := f18 (n := n + 19) (st := st) hd h0 h1
  obtain ⟨s, st2, e29, hok, r2, _⟩ := f29 (n := n + 16) (most := 3) (by omega) r1
  generalize st.length = l at e18 r1 e29 r2
  have e18 : callN cd.G cd.fns 0 (n + 20) 18 [d, .int k] st = _ := e18
  have e29 : callN cd.G cd.fns 0 (n + 20) 29 [.ref l, .int 3] st1 = _ := e29
  have hfew := hok.few
  let v0 : List D := [s.d, .lst [.int s.rows, .int s.len, .tup [lotD s.b1, lotD s.b2], .tup (s.rds.map rdD), lotD s.aft], .tup [.int s.rows, .int s.len, .tup [lotD s.b1, lotD s.b2], .tup (s.rds.map rdD)], .tup [.int s.rows, .int s.len, .tup [lotD s.b1, lotD s.b2], .tup (s.rds.map rdD), lotD s.aft, .tup []], .tup (s.rds.map rdD)]
  have hvk := s.vk hok
  obtain ⟨j, hj, _, hmem⟩ := hvk.inv
  have hmem' : ∀ x ∈ [D.int s.rows, .int s.len, .tup [lotD s.b1, lotD s.b2], .tup (s.rds.map rdD), lotD s.aft], Vk 9 4 x := fun x hx => (hmem x hx).mono (by omega) (by omega)
  have hv0 : Vals v0 := by
    intro x hx
    simp only [v0, List.mem_cons, List.not_mem_nil, or_false] at hx
    rcases hx with rfl | rfl | rfl | rfl | rfl
    · exact s.vv hok
    · exact ⟨(s.vv hok).pl, (s.vv hok).wd, (s.vv hok).dp⟩
    · exact (Vk.tup (w := 9) (k := 4) (fun x hx => hmem' x (by
        simp only [List.mem_cons, List.not_mem_nil, or_false] at hx ⊢
        rcases hx with h | h | h | h <;> simp [h])) (by simp)).mono (by omega) (by omega)
    · refine (Vk.tup (w := 9) (k := 4) (fun x hx => ?_) (by simp)).mono (by omega) (by omega)
      simp only [List.mem_cons, List.not_mem_nil, or_false] at hx
      rcases hx with h | h | h | h | h | rfl
      · exact hmem' x (by simp [h])
      · exact hmem' x (by simp [h])
      · exact hmem' x (by simp [h])
      · exact hmem' x (by simp [h])
      · exact hmem' x (by simp [h])
      · exact ⟨rfl, Nat.zero_le _, by show 1 ≤ 4; omega⟩
    · exact (hmem' _ (by simp)).mono (by omega) (by omega)
  -- the values
  obtain ⟨envf, st3, eV, ⟨⟨vals, t6, t9, rfl, r3, hv3, hl3⟩, _⟩⟩ := forGo_inv (body := fStep cd.G (call (n + 20)) 0 (.n 6) bV) (I := fun rest e st => (∃ vals s6 s9, e = envT d k l s (some (.lst vals, true)) s6 s7 s8 s9 ∧ Src st l ∧ Vals vals ∧ vals.length + 2 * rest.length ≤ 85) ∧ ∀ x ∈ rest, ∃ i : Int, x = .int i) (xs := rangeD 0 40) (env := envT d k l s (some (.lst v0, true)) s6 s7 s8 s9) (st := st2) ⟨⟨v0, s6, s9, rfl, r2, hv0, by rw [rangeD_len]; simp [v0]⟩, fun x hx => by
      obtain ⟨i, e, _⟩ := range_mem hx
      exact ⟨i, e⟩⟩ (by
    rintro x xs e st ⟨⟨vals, s6, s9, rfl, r, hv, hl⟩, hx⟩
    obtain ⟨i, rfl⟩ := hx x List.mem_cons_self
    simp only [List.length_cons] at hl
    obtain ⟨vals', s9', st', e, r', hv', hl'⟩ := turnV (n := n) (d := d) (k := k) (i := i) (s6 := s6) (s7 := s7) (s8 := s8) (s9 := s9) hok r hv (by omega)
    exact ⟨_, st', .inl e, ⟨vals', _, s9', rfl, r', hv', by omega⟩, fun y hy => hx y (List.mem_cons_of_mem _ hy)⟩)
  simp only [List.length_nil] at hl3
  obtain ⟨va, oa, st4, eA, vA, r4, _⟩ := f23 (l := l) 3 (n + 20) st3 (by omega) (by omega) r3
  have eA : callN cd.G cd.fns 0 (n + 20) 23 [.ref l, .int 3] st3 = .ok va oa st4 := eA
  let E0 : Pi.Env := envT d k l s (some (.lst vals, true)) t6 s7 s8 t9
  -- all values
  obtain ⟨envf, stf, eC, t7, rfl, rfl⟩ := for_inv (body := fStep cd.G (call (n + 20)) 0 (.n 7) bC) (I := fun e s' => ∃ s7, e = envT d k l s (some (.lst vals, true)) t6 s7 s8 t9 ∧ st4 = s') (xs := vals ++ [va]) (env := E0) (st := st4) ⟨s7, rfl, rfl⟩ (by
    rintro x hx _ _ ⟨s7, rfl, rfl⟩
    have hvx : VV x := by
      rcases List.mem_append.mp hx with hx | hx
      · exact hv3 x hx
      · rw [List.mem_singleton.mp hx]; exact vA.mono (by omega) (by omega)
    exact ⟨envT d k l s (some (.lst vals, true)) t6 (A x) s8 t9, _, (b_ifF (env1 := envT d k l s (some (.lst vals, true)) t6 (A x) s8 t9) (check21 rfl hvx) rfl).trans rfl, _, rfl, rfl⟩)
  -- columns
  obtain ⟨envf, stf, eN, t8, rfl, rfl⟩ := for_inv (body := fStep cd.G (call (n + 20)) 0 (.n 8) bN) (I := fun e s' => ∃ s8, e = envT d k l s (some (.lst vals, true)) t6 t7 s8 t9 ∧ st4 = s') (xs := [.int 0, .int 1, .int 2, .int 5, .int 60]) (env := envT d k l s (some (.lst vals, true)) t6 t7 s8 t9) (st := st4) ⟨s8, rfl, rfl⟩ (by
    rintro x hx _ _ ⟨s8, rfl, rfl⟩
    obtain ⟨m, rfl, hm⟩ : ∃ m : Nat, x = .int m ∧ m ≤ 60 := by
      simp only [List.mem_cons, List.not_mem_nil, or_false] at hx
      rcases hx with rfl | rfl | rfl | rfl | rfl
      · exact ⟨0, rfl, by omega⟩
      · exact ⟨1, rfl, by omega⟩
      · exact ⟨2, rfl, by omega⟩
      · exact ⟨5, rfl, by omega⟩
      · exact ⟨60, rfl, by omega⟩
    refine ⟨envT d k l s (some (.lst vals, true)) t6 t7 (A (.int m)) t9, _, (b_ifF (q := false) (env1 := envT d k l s (some (.lst vals, true)) t6 t7 (A (.int m)) t9) (e_cmp (e_call (ds := [s.d, .int m]) rfl (f15 (n := n + 14) hok hm)) (e_call (ds := [s.d, .int m]) rfl (f31 (n := n + 18) hok (by omega))) ?_) rfl).trans rfl, _, rfl, rfl⟩
    show some (!((s.len * s.prod m 0 1) == (s.len * s.prod m 0 1))) = _
    simp)
  -- refusals
  obtain ⟨envf, stf, eO, u9, rfl, rfl⟩ := for_inv (body := fStep cd.G (call (n + 20)) 0 (.n 9) bO) (I := fun e s' => ∃ s9, e = envT d k l s (some (.lst vals, true)) t6 t7 t8 s9 ∧ st4 = s') (xs := oddN) (env := envT d k l s (some (.lst vals, true)) t6 t7 t8 t9) (st := st4) ⟨t9, rfl, rfl⟩ (by
    rintro x hx _ _ ⟨s9, rfl, rfl⟩
    obtain ⟨h1, h2, h3⟩ := oddN_bad hx
    exact ⟨envT d k l s (some (.lst vals, true)) t6 t7 t8 (A x), _, (b_ifF (q := false) (env1 := envT d k l s (some (.lst vals, true)) t6 t7 t8 (A x)) (e_cmp (x := .str "number") (y := .str "number") (e_call (ds := [.gl 15, s.d, x]) rfl (f27x (n := n + 19) rfl (f15y (n := n + 13) hok h1.pl h3) rfl)) rfl (ne_str (by decide))) rfl).trans ((b_ifF (q := false) (env1 := envT d k l s (some (.lst vals, true)) t6 t7 t8 (A x)) (e_cmp (x := .str "script") (y := .str "script") (e_call (ds := [.gl 15, x, x]) rfl (f27x (n := n + 19) rfl (f15x (n := n + 13) h1 h2) rfl)) rfl (ne_str (by decide))) rfl).trans rfl), _, rfl, rfl⟩)
  refine ⟨envT d k l s (some (.lst vals, true)) t6 t7 t8 u9, st4, ?_, _, _, _, _, _, _, _, _, rfl⟩
  refine (b_asg (p := (.ref l, false)) (env1 := [A d, A (.int k), none, s3, s4, s5, s6, s7, s8, s9, none, none]) (env2 := [A d, A (.int k), none, A (.ref l), s4, s5, s6, s7, s8, s9, none, none]) (st1 := st1) (e_call (ds := [d, .int k]) rfl e18) rfl).trans ?_
  refine (b_asg (p := (s.d, false)) (env1 := [A d, A (.int k), none, A (.ref l), s4, s5, s6, s7, s8, s9, none, none]) (env2 := envT d k l s s5 s6 s7 s8 s9) (st1 := st2) (e_call (ds := [.ref l, .int 3]) rfl e29) rfl).trans ?_
  have sl4 : slice s.d none (some 4) = some (.tup [.int s.rows, .int s.len, .tup [lotD s.b1, lotD s.b2], .tup (s.rds.map rdD)], false) := by
    show some (D.tup (cutBy [.int s.rows, .int s.len, .tup [lotD s.b1, lotD s.b2], .tup (s.rds.map rdD), lotD s.aft] none (some 4)), false) = _
    rw [cut_lo (by omega)]; rfl
  refine (b_asg (p := (.lst v0, true)) (env1 := envT d k l s s5 s6 s7 s8 s9) (env2 := envT d k l s (some (.lst v0, true)) s6 s7 s8 s9) (st1 := st2) (e_ls (ds := v0) (es_cons (o := false) rfl (es_cons (o := true) rfl (es_cons (e_sl (l := none) (u := some 4) rfl rfl rfl sl4) (es_cons (o := false) rfl (es_cons (e_ix rfl rfl (ixt at3)) es_nil))))) rfl) rfl).trans ?_
  refine (b_nx ((s_for (x := .lst (rangeD 0 40)) (o := false) (env1 := envT d k l s (some (.lst v0, true)) s6 s7 s8 s9) (st1 := st2) (e_rng (ds := [.int 40]) rfl rfl) rfl).trans eV)).trans ?_
  refine (b_nx ((s_for (x := .lst (vals ++ [va])) (o := true) (env1 := E0) (st1 := st4) (e_bin (x := .lst vals) (y := .lst [va]) rfl (e_ls (es_cons (e_call (ds := [.ref l, .int 3]) rfl eA) es_nil) rfl) (add_lst (by simp; omega))) rfl).trans eC)).trans ?_
  refine (b_ifF (q := !true) (env1 := envT d k l s (some (.lst vals, true)) t6 t7 s8 t9) (st1 := st4) (e_not (e_call (ds := [.ref l, s.d]) rfl (f35 (n := n + 12) hok))) rfl).trans ?_
  refine (b_nx ((s_for (x := .lst [.int 0, .int 1, .int 2, .int 5, .int 60]) (o := true) (env1 := envT d k l s (some (.lst vals, true)) t6 t7 s8 t9) (st1 := st4) rfl rfl).trans eN)).trans ?_
  exact (b_nx ((s_for (x := .lst oddN) (o := true) (env1 := envT d k l s (some (.lst vals, true)) t6 t7 t8 t9) (st1 := st4) rfl rfl).trans eO)).trans rfl
def none_ : D := .tup [.tup [], .tup []]
def one_ : D := .tup [.int 2, .tup [], .tup []]
def rows_ : List D := [
  .tup [.int 1, .int 1, none_, .tup [one_], .tup []], .tup [.int 0, .int 1, none_, .tup [one_], .tup []], .tup [.int 3, .int 3, none_, .tup [one_, one_, one_], .tup [.tup [.int 2, .int 2]]],
  .tup [.int 3, .int 4, none_, .tup [one_], .tup []], .tup [.int 1, .int 1, none_, .tup [], .tup []], .tup [.int 1, .int 1, none_, .tup [one_, one_, one_, one_], .tup []],
  .tup [.int 2, .int 2, none_, .tup [.tup [.int 4, .tup [], .tup []]], .tup []], .tup [.int 2, .int 2, none_, .tup [.tup [.int 3, .tup [.tup [.int 0, .int 0], .tup [.int 0, .int 0]], .tup []]], .tup []],
  .tup [.int 2, .int 2, none_, .tup [.tup [.int 3, .tup [.tup [.int 1, .int 0], .tup [.int 0, .int 0]], .tup []]], .tup []], .tup [.int 2, .int 2, none_, .tup [one_], .tup [.tup [.int 0, .bl true]]],
  .tup [.bl true, .int 1, none_, .tup [one_], .tup []], .tup [.int 1, .int 1, .tup [], .tup [one_], .tup []]]
theorem rows_vv : ∀ v ∈ rows_, VV v := by
  have h : (rows_.all fun d => d.pl && decide (wid d ≤ 63) && decide (d.dep ≤ 50)) = true := by decide +kernel
  intro d hd
  have := List.all_eq_true.mp h d hd
  simp only [Bool.and_eq_true, decide_eq_true_eq] at this
  exact ⟨this.1.1, this.1.2, this.2⟩
theorem max_min {m : Nat} : ∃ r : Int, bifn cd.G .max2 [.int 6, .int (if (m : Int) < 20 then (m : Int) else 20)] = some (.int r, false) ∧ 0 ≤ r ∧ r ≤ 20 := by
  refine ⟨if (if (m : Int) < 20 then (m : Int) else 20) > 6 then (if (m : Int) < 20 then (m : Int) else 20) else 6, rfl, ?_, ?_⟩
  · split <;> split <;> omega
  · split <;> split <;> omega
theorem f36 {n : Nat} {ns : List Int} {d : D} (hd : Scr ns d) : ∃ o st, call (n + 21) 36 [d] [] = .ok (.bl true) o st := by
  obtain ⟨r, er, r0, r1⟩ := max_min (m := ns.length)
  obtain ⟨envf, st, eK, ⟨s1, s3, s4, s5, s6, s7, s8, s9, rfl⟩⟩ := for_inv (body := fStep cd.G (call (n + 20)) 0 (.n 1) bK) (I := fun e _ => IK d e) (xs := rangeD 0 r.toNat) (env := [A d, none, none, none, none, none, none, none, none, none, none, none]) (st := []) ⟨_, _, _, _, _, _, _, _, rfl⟩ (by
    intro x hx e st hI
    obtain ⟨k, rfl, h0, h1⟩ := range_mem hx
    exact turnK hd h0 (by omega) hI)
  have sm : small r = true := by
    simp [small]; omega
  have tail : ∃ env', exB cd.G (call (n + 20)) 0 (c_law.body.drop 1) [A d, s1, none, s3, s4, s5, s6, s7, s8, s9, none, none] st = .ok (.ret (.bl true) false) env' st := by
    let F : Slot → Slot → Pi.Env := fun s2 s7 => [A d, s1, s2, s3, s4, s5, s6, s7, s8, s9, A none_, A one_]
    have hm := lc_filter (G := cd.G) (cl := call (n + 20)) (st := st) (elt := .v 7) (k := .not (.call 21 [.call 14 [.v 7], .call 33 [.v 7]])) (tg := .n 7) (env0 := F (A (.lst rows_)) none) (f := fun x => x) (p := fun _ => false) (xs := rows_) (fun v hv => ⟨F (A (.lst rows_)) (A v), false, false, rfl, check21 rfl (rows_vv v hv), (fun z => by cases z), rfl⟩)
    refine ⟨F (A (.lst rows_)) s7, ?_⟩
    refine (b_asg (p := (.tup [none_, one_], false)) (env1 := [A d, s1, none, s3, s4, s5, s6, s7, s8, s9, none, none]) (env2 := F none s7) (st1 := st) rfl rfl).trans ?_
    refine (b_asg (p := (.lst (rows_.take 3), true)) (env1 := F none s7) (env2 := F (some (.lst (rows_.take 3), true)) s7) (st1 := st) rfl rfl).trans ?_
    refine (b_asg (p := (.lst (rows_.take 6), true)) (env1 := F (some (.lst (rows_.take 3), true)) s7) (env2 := F (some (.lst (rows_.take 6), true)) s7) (st1 := st) rfl rfl).trans ?_
    refine (b_asg (p := (.lst (rows_.take 8), true)) (env1 := F (some (.lst (rows_.take 6), true)) s7) (env2 := F (some (.lst (rows_.take 8), true)) s7) (st1 := st) rfl rfl).trans ?_
    refine (b_asg (p := (.lst (rows_.take 10), true)) (env1 := F (some (.lst (rows_.take 8), true)) s7) (env2 := F (some (.lst (rows_.take 10), true)) s7) (st1 := st) rfl rfl).trans ?_
    refine (b_asg (p := (.lst rows_, true)) (env1 := F (some (.lst (rows_.take 10), true)) s7) (env2 := F (some (.lst rows_, true)) s7) (st1 := st) rfl rfl).trans ?_
    exact b_ret rfl (e_cmp (y := .lst []) (e_lc (env1 := F (A (.lst rows_)) s7) (env3 := F (A (.lst rows_)) s7) (x := .lst rows_) (o := false) rfl rfl rfl hm rfl) rfl rfl)
  obtain ⟨env', tail⟩ := tail
  refine ⟨false, st, call_ret (fn := c_law) rfl rfl ((b_nx ((s_for (x := .lst (rangeD 0 r.toNat)) (o := false) (env1 := [A d, none, none, none, none, none, none, none, none, none, none, none]) (st1 := []) (e_rng (ds := [.int r]) (es_cons (e_bi (es_cons (x := .int 6) (o := false) rfl (es_cons (e_bi (es_cons rfl (es_cons (e_bi (ds := [d]) rfl (scr_len hd)) es_nil)) rfl) es_nil)) er) es_nil) ?_) rfl).trans eK)).trans tail)⟩
  show (if small r = true then some (D.lst (rangeD 0 r.toNat)) else none) = _
  rw [sm, if_pos rfl]
end K1

set_option maxRecDepth 100000
set_option maxHeartbeats 0
/-! K1h: the head. -/
namespace K1
open PySem PySem.Spec PyProof.Rows L2 Pi
abbrev R : PySem.W.OpenRow := PySem.W.OpenLaw.row PySem.Challenge.rw_cutpleats_k01_scripts_and_snips_recogniz
abbrev hk : PySem.W.Hook := He.hookX 4 cd.fa cd.fn [] cd.tf cd.ex
def ob (s : PySem.W.SharedT) : He.AlX := He.obsX 4 cd.fa cd.fn [] cd.tf cd.ex (HandSHeadRun.getT s)
theorem ob_eq (s : PySem.W.SharedT) : ob s = hk.obs s.abs := He.obsX_eq (HandSHeadRun.getT_eq s)
def nameOfS : Stmt → Option Str
  | .FunctionDef n .. => some n
  | .ClassDef n .. => some n
  | _ => none
def loose : List Str := ("MOST_ROUNDS" : Str) :: (body.filterMap nameOfS).filter (fun n => n != ("law" : Str))
theorem run (w : World) : HandSHeadRun.RunEq R (PySem.W.view R.prog [55]) hk ob 30000 loose w := by
  intro os
  kernel_rfl
end K1

set_option maxRecDepth 100000
set_option maxHeartbeats 0
/-! K1f: the end. -/
namespace K1
open PySem PySem.Spec Pi
/-- the plain law -/
def Plain (lev Wl : Nat) : Prop := ∀ (ns : List Int) (d : D), ns.length ≤ 63 → (∀ z ∈ ns, Builtin.Int.intBits z ≤ 1048576) → Scr ns d → ∃ o st, callN cd.G cd.fns Wl (lev + 1) cd.law [d] [] = .ok (.bl true) o st
theorem mL_ok : cd.ms[cd.law]? = some (cd.ms.getD 36 m_law_error) := by rfl
theorem fL_ok : cd.fns[cd.law]? = some c_law := by rfl
end K1
open PySem PySem.W PySem.Calls PyProof.Rows
theorem K1.holds_of (lev Wl : Nat) (hl : lev ≤ 60) (plain : K1.Plain lev Wl) : PySem.Challenge.rw_cutpleats_k01_scripts_and_snips_recogniz.Holds := by
  w_on; o_law
  refine HandSHeadRun.head_any (r := OpenLaw.row PySem.Challenge.rw_cutpleats_k01_scripts_and_snips_recogniz) (q := view (OpenLaw.row PySem.Challenge.rw_cutpleats_k01_scripts_and_snips_recogniz).prog [55]) (H := K1.hk) (ob := K1.ob) (M := 30000) (loose := K1.loose) (d := HandSHeadRun.topDef (OpenLaw.row PySem.Challenge.rw_cutpleats_k01_scripts_and_snips_recogniz).prog 55) (kwd := []) K1.ob_eq
    (by kernel_rfl) (fun s => by kernel_rfl) K1.run (by kernel_rfl) (by kernel_rfl) (by kernel_rfl) (by rfl) (by first | assumption | decide +kernel) (by decide +kernel) ⟨rfl, rfl, rfl, rfl, rfl, by decide +kernel⟩ ?hw ?hc
  case hw => w_witness2
  case hc =>
    refine LamX.walk_ofTsE (l := PySem.Challenge.rw_cutpleats_k01_scripts_and_snips_recogniz) (n := 63) (k := 3 * (lev + 1) + 0) (x := "script") (CX := fun w => L2N.CX (PySem.Challenge.rw_cutpleats_k01_scripts_and_snips_recogniz).prog w) rfl (by decide) (by kernel_rfl) ?hr ?F ?hCX
    case hr =>
      have r : L2.Room 190 callerA := ⟨rfl, by decide +kernel, by decide +kernel⟩
      exact r.mono (by omega)
    case hCX => 
      rintro w H s e s' ⟨_, _, _, _, _, _, _, _, _, _, _, _, z⟩
      exact z
    case F =>
      intro w mg fa h Y G hmg0
      obtain ⟨K, KX, c⟩ := Y
      have hmg : mg (K1.cd.ms.getD 36 K1.m_law_error).name = some (.ref fa) := by
        have e : (HandSHeadRun.topDef (OpenLaw.row PySem.Challenge.rw_cutpleats_k01_scripts_and_snips_recogniz).prog 55).name = (K1.cd.ms.getD 36 K1.m_law_error).name := by kernel_rfl
        rw [← e]
        exact hmg0
      refine ⟨K, KX, ?_⟩
      exact Pi.law_at (c := K1.cd) KX G c K1.okT K1.okM K1.okE (Pi.okW_says K1.okW) K1.fL_ok rfl K1.mL_ok (by kernel_rfl) hmg (by kernel_rfl) plain

set_option maxRecDepth 100000 in
set_option maxHeartbeats 0 in
theorem PySem.Challenge.cw_cutpleats_k01_scripts_and_snips_recogniz_holds : PySem.Challenge.rw_cutpleats_k01_scripts_and_snips_recogniz.Holds := by
  exact K1.holds_of 20 0 (by decide) fun ns d _ _ hd => K1.f36 (n := 0) hd

