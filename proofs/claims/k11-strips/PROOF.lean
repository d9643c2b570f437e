import PyProof.Rows.All
import Wide.All
import OpenK.AllK
import Wide.FinOn
import KE.SortData
import KE.DataEq
import HandS.ForMost
import HandS.Lambda
import HandS.ExcOwn
import HandS.CallSlots
import KE.KDictKeyed
import KE.DataCmp
import HandS.TupAny
import HandS.TupMul
import HandS.Wide
import HandS.Style
import HandS.IsInst
import KE.KDictCopyH
import KE.KEqDict
import KE.KDictSum
import PyProof.DictMoreH
import HandS.TupLen
import HandS.List
import HandS.CallLocal
import HandS.TupSets
import PyProof.WalksMore
import HandS.Iter
import HandS.Zip
import KE.GoesEnum
import KE.GoesMore
import HandS.Text
import HandS.Conv
import HandS.ExcCtx
import HandS.Comp
import HandS.HotCalls
import HandS.ExcIs
import HandS.Defaults
import HandS.Codes
import HandS.HeadHook2
import HandS.ExcInitHot
import HandS.HeadHook4
import HandS.HeadWalk
import HandS.NestedK
import KE.KStateDown
import HandS.Head0
import HandS.Head1
import HandS.Head2
import HandS.HeadEnd
import PySem.Challenge.RW_cutpleats_k11_strips_folded_cut_and_open
set_option Elab.async false
set_option linter.all false
/-! PiA: a small interpreter over pure data. -/
namespace Pi
open PySem

/-- data: values as trees -/
inductive D where
  | non | bl (b : Bool) | int (i : Int) | str (s : Str) | tup (xs : List D) | lst (xs : List D) | dct (ks vs : List D)
  | ref (l : Nat) | gl (i : Nat) | ty (n : String) | exc (c : Nat) (x : D) | scr (xs : List D)
  deriving Inhabited

mutual
def D.py : D → PyData
  | .non => .none
  | .bl b => .bool b
  | .int i => .int i
  | .str s => .str s
  | .tup xs => .tuple (D.pys xs)
  | .lst xs => .list (D.pys xs)
  | _ => .none
def D.pys : List D → List PyData
  | [] => []
  | x :: xs => D.py x :: D.pys xs
end
mutual
/-- plain data: no objects within -/
def D.pl : D → Bool
  | .non | .bl _ | .int _ | .str _ => true
  | .tup xs | .lst xs => D.pls xs
  | _ => false
def D.pls : List D → Bool
  | [] => true
  | x :: xs => D.pl x && D.pls xs
end
mutual
def D.dep : D → Nat
  | .tup xs | .lst xs => D.deps xs + 1
  | _ => 0
def D.deps : List D → Nat
  | [] => 0
  | x :: xs => max (D.dep x) (D.deps xs)
end
mutual
/-- == of plain data -/
def deq : D → D → Bool
  | .non, .non => true
  | .bl a, .bl b => a == b
  | .bl a, .int j => (if a then 1 else 0) == j
  | .int i, .bl b => i == (if b then 1 else 0)
  | .int i, .int j => i == j
  | .str x, .str y => x == y
  | .tup xs, .tup ys => deqs xs ys
  | .lst xs, .lst ys => deqs xs ys
  | _, _ => false
def deqs : List D → List D → Bool
  | [], [] => true
  | x :: xs, y :: ys => deq x y && deqs xs ys
  | _, _ => false
end
mutual
/-- < of plain data that are alike -/
def dlt : D → D → Bool
  | .bl a, .bl b => !a && b
  | .int i, .int j => decide (i < j)
  | .str x, .str y => decide (x.cps.toList < y.cps.toList)
  | .tup xs, .tup ys => dlts xs ys
  | .lst xs, .lst ys => dlts xs ys
  | _, _ => false
def dlts : List D → List D → Bool
  | [], [] => false
  | [], _ :: _ => true
  | _ :: _, [] => false
  | x :: xs, y :: ys => if deq x y then dlts xs ys else dlt x y
end
mutual
def alk : D → D → Bool
  | .bl _, .bl _ => true
  | .int _, .int _ => true
  | .str _, .str _ => true
  | .tup xs, .tup ys => alks xs ys
  | .lst xs, .lst ys => alks xs ys
  | _, _ => false
def alks : List D → List D → Bool
  | [], _ => true
  | _ :: _, [] => true
  | x :: xs, y :: ys => alk x y && alks xs ys
end
/-- a stable sort -/
def insB (x : D) : List D → List D
  | [] => [x]
  | y :: ys => if dlt y x then y :: insB x ys else x :: y :: ys
def isort : List D → List D
  | [] => []
  | x :: xs => insB x (isort xs)
def dmem (x : D) : List D → Bool
  | [] => false
  | y :: ys => deq y x || dmem x ys
/-- each once, the first ones kept -/
def dedup : List D → List D → List D
  | _, [] => []
  | seen, x :: xs => if dmem x seen then dedup seen xs else x :: dedup (x :: seen) xs

/-! ### dicts: entries in order -/
mutual
def D.ky : D → Bool
  | .non | .bl _ | .int _ | .str _ => true
  | .tup xs => D.kys xs
  | _ => false
def D.kys : List D → Bool
  | [] => true
  | x :: xs => D.ky x && D.kys xs
end
/-- a tuple that may be a key -/
def keyOk : D → Bool
  | .tup xs => D.kys xs && decide ((D.tup xs).dep ≤ 8)
  | _ => false
def dkHas (kvs : List (D × D)) (k : D) : Bool := kvs.any fun p => deq p.1 k
def dkAt (kvs : List (D × D)) (k : D) : Option D := (kvs.find? fun p => deq p.1 k).map (·.2)
def dkPut (kvs : List (D × D)) (k v : D) : List (D × D) := if dkHas kvs k then kvs.map (fun p => if deq p.1 k then (p.1, v) else p) else kvs ++ [(k, v)]
def dkDel (kvs : List (D × D)) (k : D) : List (D × D) := kvs.filter fun p => !deq p.1 k
def dkAll (kvs : List (D × D)) (ps : List (D × D)) : List (D × D) := ps.foldl (fun acc p => dkPut acc p.1 p.2) kvs
/-- the pairs of a list -/
def pairsD : List D → Option (List (D × D))
  | [] => some []
  | .tup [k, v] :: xs => if keyOk k then (pairsD xs).map fun r => (k, v) :: r else none
  | _ => none

/-! ### the code -/
inductive BOp where | add | sub | mul | fdiv | mod | pow deriving DecidableEq
inductive COp where | eq | ne | lt | le | gt | ge | is | isnot | isin | notin deriving DecidableEq
inductive Bi where | len | int | str | bool | list | tuple | sorted | sortset | all | max1 | max2 | min2 | sum | isinst  | dict deriving DecidableEq
inductive Me where | join | split | upper | index | get2 | items deriving DecidableEq
inductive T where | n (i : Nat) | t (is : List Nat) deriving DecidableEq

inductive C where
  | k (d : D)
  | v (i : Nat)
  | g (d : D)
  | tp (es : List C)
  | ls (es : List C)
  | bin (o : BOp) (a b : C)
  | neg (a : C)
  | not (a : C)
  | and (a b : C)
  | or (a b : C)
  | ite (t a b : C)
  | cmp (o : COp) (a b : C)
  | chn (o p : COp) (a b c : C)
  | ix (a i : C)
  | sl (a : C) (lo hi : Option C)
  | rev (a : C)
  | call (f : Nat) (es : List C)
  | cv (i : Nat) (es : List C)
  | bi (b : Bi) (es : List C)
  | me (m : Me) (a : C) (es : List C)
  | rng (es : List C)
  | enm (e : C)
  | zp (a b : C)
  | lc (elt : C) (tg : T) (it : C) (cond : Option C)
  | mk (e : C)
  | rfd (f : Nat) (e : C)
  | asl (a : C)
  | lrg (a : C)
  | rep (a k : C)
  | dnw
  | dof (e : C)
  | dne (a : C)
  | dpp (i : Nat) (k : C)
  | dgt (i : Nat) (k x : C)
  deriving Inhabited

inductive S where
  | ex (e : C)
  | asg (t : T) (e : C)
  | par (is : List Nat) (es : List C)
  | pro (is : List Nat) (es : List C)
  | pop (t : T) (i : Nat)
  | app (i : Nat) (e : C)
  | set (i : Nat) (k e : C)
  | ret (e : C)
  | retn
  | ifs (t : C) (a b : List S)
  | for (t : T) (it : C) (b : List S)
  | while (t : C) (b : List S)
  | raise (c : Nat) (e : Option C)
  | pass | brk | cont
  deriving Inhabited

/-! ### states and outcomes -/
abbrev Slot := Option (D × Bool)
abbrev Env := List Slot
inductive Ob where
  | lst (xs : List D)
  | dct (kvs : List (D × D))
  deriving Inhabited
abbrev Sto := List Ob
inductive R (α : Type) where
  | no
  | ok (a : α) (env : Env) (st : Sto)
  | ex (c : Nat) (x : D) (env : Env) (st : Sto)
inductive RC where
  | no
  | ok (d : D) (own : Bool) (st : Sto)
  | ex (c : Nat) (x : D) (st : Sto)
inductive Flow where | nx | brk | ct | ret (d : D) (own : Bool)
def R.bind {α β : Type} (r : R α) (f : α → Env → Sto → R β) : R β := match r with
  | .no => .no
  | .ok a env st => f a env st
  | .ex c x env st => .ex c x env st
def lift {α : Type} (o : Option α) (env : Env) (st : Sto) : R α := match o with
  | some a => .ok a env st
  | none => .no

/-! ### pure operations -/
def strOf (x : List Nat) : Str := ⟨x.toArray⟩
/-- what is divided by is less -/
def bigD : Int := 2 ^ 200
def bigOk (i : Int) : Bool := decide (-(2 ^ 64) < i) && decide (i < 2 ^ 64)
def szOk (n : Nat) : Bool := decide (n ≤ 1000000)
/-- (value, a new object that nobody else has) -/
def binop : BOp → D → D → Option (D × Bool)
  | .add, .int i, .int j => some (.int (i + j), false)
  | .sub, .int i, .int j => some (.int (i - j), false)
  | .mul, .int i, .int j => if bigOk i || bigOk j then some (.int (i * j), false) else none
  | .mul, .tup xs, .int k => if !xs.isEmpty && decide (xs.length ≤ 1000) && (decide (2 ≤ k) && decide (k ≤ 1000)) then some (.tup (List.replicate k.toNat xs).flatten, false) else none
  | .mul, .str x, .int k => if decide (1 ≤ x.length) && decide (x.length ≤ 1000) && (decide (2 ≤ k) && decide (k ≤ 1000)) then some (.str ⟨(List.replicate k.toNat x.cps).foldl (· ++ ·) #[]⟩, false) else none
  | .fdiv, .int i, .int j => if decide (0 < j) && decide (j < bigD) then some (.int (i / j), false) else none
  | .mod, .int i, .int j => if decide (0 < j) then some (.int (i % j), false) else none
  | .pow, .int i, .int j => if decide (0 ≤ j) && decide (j ≤ 1000) && bigOk i then some (.int (i ^ j.toNat), false) else none
  | .add, .str x, .str y => if szOk (x.length + y.length) then some (.str (x ++ y), false) else none
  | .add, .tup xs, .tup ys => if szOk (xs.length + ys.length) then some (.tup (xs ++ ys), false) else none
  | .add, .lst xs, .lst ys => if szOk (xs.length + ys.length) then some (.lst (xs ++ ys), true) else none
  | _, _, _ => none
def dnum : D → Option Int
  | .int i => some i
  | _ => none
def dbl : D → Option Bool
  | .bl b => some b
  | _ => none
def cmpop : COp → D → D → Option Bool
  | .eq, a, b => if a.pl && b.pl && decide (min a.dep b.dep ≤ 60) then some (deq a b) else none
  | .ne, a, b => if a.pl && b.pl && decide (min a.dep b.dep ≤ 60) then some (!deq a b) else none
  | .lt, a, b => if a.pl && b.pl && alk a b && decide (min a.dep b.dep ≤ 60) then some (dlt a b) else none
  | .le, a, b => if a.pl && b.pl && alk a b && decide (min a.dep b.dep ≤ 60) then some (!dlt b a) else none
  | .gt, a, b => if a.pl && b.pl && alk a b && decide (min a.dep b.dep ≤ 60) then some (dlt b a) else none
  | .ge, a, b => if a.pl && b.pl && alk a b && decide (min a.dep b.dep ≤ 60) then some (!dlt a b) else none
  | .isin, a, .lst xs => if a.pl && D.pls xs && decide (min (D.deps xs) a.dep ≤ 60) then some (dmem a xs) else none
  | .isin, a, .tup xs => if a.pl && D.pls xs && decide (min (D.deps xs) a.dep ≤ 60) then some (dmem a xs) else none
  | .notin, a, .lst xs => if a.pl && D.pls xs && decide (min (D.deps xs) a.dep ≤ 60) then some (!dmem a xs) else none
  | .notin, a, .tup xs => if a.pl && D.pls xs && decide (min (D.deps xs) a.dep ≤ 60) then some (!dmem a xs) else none
  | .is, .non, .non => some true
  | .is, _, .non => some false
  | .isnot, .non, .non => some false
  | .isnot, _, .non => some true
  | _, _, _ => none
/-- the item at a place (negative ones from the end) -/
def atIx (xs : List D) (i : Int) : Option D := L2.atI xs i
def index : D → D → Option D
  | .tup xs, .int i => atIx xs i
  | .lst xs, .int i => atIx xs i
  | .scr xs, .int i => atIx xs i
  | .str s, .int i => if szOk s.length then (L2.atI s.cps.toList i).map fun c => .str ⟨#[c]⟩ else none
  | _, _ => none
/-- .. of a list or a dict of the store, too -/
def ixF (st : Sto) : D → D → Option (D × Bool)
  | .ref l, j => match st[l]? with
    | some (.lst xs) => (index (.lst xs) j).map fun d => (d, false)
    | some (.dct kvs) => if keyOk j then (dkAt kvs j).map fun d => (d, false) else none
    | _ => none
  | x, j => (index x j).map fun d => (d, false)
def cutBy {α : Type} (xs : List α) (lo hi : Option Int) : List α :=
  let a := HT.sIx xs.length 0 lo
  let b := HT.sIx xs.length xs.length hi
  (xs.drop a).take (b - a)
def slice : D → Option Int → Option Int → Option (D × Bool)
  | .tup xs, lo, hi => some (.tup (cutBy xs lo hi), false)
  | .lst xs, lo, hi => some (.lst (cutBy xs lo hi), true)
  | .str s, lo, hi => if szOk s.length then some (.str (L2.cutS s lo hi), false) else none
  | _, _, _ => none
def revD : D → Option (D × Bool)
  | .lst xs => some (.lst xs.reverse, true)
  | .tup xs => some (.tup xs.reverse, false)
  | _ => none
/-- what is walked -/
def items : D → Option (List D)
  | .tup xs => some xs
  | .lst xs => some xs
  | _ => none
def rangeD (lo : Int) : Nat → List D
  | 0 => []
  | n + 1 => .int lo :: rangeD (lo + 1) n
def enumD (i : Int) : List D → List D
  | [] => []
  | x :: xs => .tup [.int i, x] :: enumD (i + 1) xs
def zipD : List D → List D → List D
  | x :: xs, y :: ys => .tup [x, y] :: zipD xs ys
  | _, _ => []
def allD' : List D → Option Bool
  | [] => some true
  | .bl b :: xs => (allD' xs).map fun q => b && q
  | _ => none
def flatInts : D → Bool
  | .tup [.int i, .int j] => decide (0 ≤ i) && decide (i < 64) && (decide (0 ≤ j) && decide (j < 64))
  | _ => false
def small (i : Int) : Bool := decide (-(2 ^ 62) ≤ i) && decide (i < 2 ^ 62)
def sortable (xs : List D) : Bool := xs.all fun x => x.pl && decide (x.dep ≤ 60) && xs.all fun y => alk x y
def nonEmptyTup : D → Bool
  | .tup (_ :: _) => true
  | _ => false
def noTup : D → Bool
  | .tup _ => false
  | _ => true
def sortD (xs : List D) : Option (D × Bool) := if sortable xs && (xs.all nonEmptyTup || xs.all noTup) && szOk xs.length then some (.lst (isort xs), true) else none
def sortSetD (xs : List D) : Option (D × Bool) := if xs.all flatInts && decide (xs.length < 64) then some (.lst (isort (dedup [] xs)), true) else none
/-- the classes of the program among the global things: (is c a class, its bases ..) -/
structure Gl where
  sub : Nat → Nat → Bool
  ar : Nat → Option Nat
  xi : Nat → Nat → Option Bool
  words : Nat → Option Str
def isInst (G : Gl) : D → D → Option Bool
  | .int _, .ty "int" => some true
  | .bl _, .ty "int" => some true
  | .bl _, .ty "bool" => some true
  | .str _, .ty "str" => some true
  | .tup _, .ty "tuple" => some true
  | .lst _, .ty "list" => some true
  | .non, .ty n => if n = "int" ∨ n = "bool" ∨ n = "str" ∨ n = "tuple" ∨ n = "list" then some false else none
  | .int _, .ty n => if n = "bool" ∨ n = "str" ∨ n = "tuple" ∨ n = "list" then some false else none
  | .bl _, .ty n => if n = "str" ∨ n = "tuple" ∨ n = "list" then some false else none
  | .str _, .ty n => if n = "int" ∨ n = "bool" ∨ n = "tuple" ∨ n = "list" then some false else none
  | .tup _, .ty n => if n = "int" ∨ n = "bool" ∨ n = "str" ∨ n = "list" then some false else none
  | .lst _, .ty n => if n = "int" ∨ n = "bool" ∨ n = "str" ∨ n = "tuple" then some false else none
  | .exc c _, .gl d => some (G.sub c d)
  | .gl i, .gl d => G.xi i d
  | _, _ => none
def numText (i : Int) : Option Str := if decide (0 ≤ i) && decide (i < 10 ^ 10) then some (Str.ofString (toString i)) else none
def strsOf : List D → Option (List Str)
  | [] => some []
  | .str s :: xs => (strsOf xs).map fun r => s :: r
  | _ => none
def bifn (G : Gl) : Bi → List D → Option (D × Bool)
  | .len, [.tup xs] => some (.int xs.length, false)
  | .len, [.lst xs] => some (.int xs.length, false)
  | .len, [.str s] => if szOk s.length then some (.int s.length, false) else none
  | .len, [.dct ks _] => some (.int ks.length, false)
  | .len, [.scr xs] => some (.int xs.length, false)
  | .int, [.int i] => some (.int i, false)
  | .int, [.bl b] => some (.int (if b then 1 else 0), false)
  | .str, [.int i] => (numText i).map fun s => (.str s, false)
  | .bool, [.bl b] => some (.bl b, false)
  | .list, [.tup xs] => some (.lst xs, true)
  | .list, [.lst xs] => some (.lst xs, true)
  | .tuple, [.tup xs] => some (.tup xs, false)
  | .tuple, [.lst xs] => some (.tup xs, false)
  | .sorted, [.lst xs] => sortD xs
  | .sortset, [.lst xs] => sortSetD xs
  | .sortset, [.tup xs] => sortSetD xs
  | .all, [.lst xs] => (allD' xs).map fun b => (.bl b, false)
  | .max2, [.int i, .int j] => some (.int (if j > i then j else i), false)
  | .min2, [.int i, .int j] => some (.int (if j < i then j else i), false)
  | .isinst, [a, t] => (isInst G a t).map fun b => (.bl b, false)
  | _, _ => none
/-- .. of dicts of the store -/
def bifD (st : Sto) : Bi → List D → Option (D × Bool)
  | .len, [.ref l] => match st[l]? with
    | some (.dct kvs) => some (.int kvs.length, false)
    | _ => none
  | .list, [.ref l] => match st[l]? with
    | some (.dct kvs) => some (.lst (kvs.map (·.1)), true)
    | _ => none
  | .sorted, [.ref l] => match st[l]? with
    | some (.dct kvs) => sortD (kvs.map (·.1))
    | _ => none
  | _, _ => none
def bifF (G : Gl) (st : Sto) (b : Bi) (ds : List D) : Option (D × Bool) := match bifn G b ds with
  | some r => some r
  | none => bifD st b ds
def cmpS (st : Sto) : COp → D → D → Option Bool
  | .isin, a, .ref l => match st[l]? with
    | some (.dct kvs) => if keyOk a then some (dkHas kvs a) else none
    | _ => none
  | .notin, a, .ref l => match st[l]? with
    | some (.dct kvs) => if keyOk a then some (!dkHas kvs a) else none
    | _ => none
  | _, _, _ => none
def cmpF (st : Sto) (o : COp) (a b : D) : Option Bool := match cmpop o a b with
  | some r => some r
  | none => cmpS st o a b
/-- things that are walked only -/
def rangeOf : List D → Option D
  | [.int i] => if small i then some (.lst (rangeD 0 i.toNat)) else none
  | [.int i, .int j] => if small i && small j then some (.lst (rangeD i (j - i).toNat)) else none
  | _ => none
def enumOf : D → Option D
  | .lst xs => some (.lst (enumD 0 xs))
  | .tup xs => some (.lst (enumD 0 xs))
  | .str s => some (.lst (enumD 0 (s.cps.toList.map fun c => D.str ⟨#[c]⟩)))
  | _ => none
/-- list(range(n)) -/
def lrgOf : D → Option (D × Bool)
  | .int i => if decide (0 ≤ i) && decide (i ≤ 1000000) then some (.lst (rangeD 0 i.toNat), true) else none
  | _ => none
/-- a new list times an int -/
def repOf : D × Bool → D → Option (D × Bool)
  | (.lst xs, true), .int k => if decide (xs.length ≤ 1000) && (decide (0 ≤ k) && decide (k ≤ 1000)) then some (.lst (List.replicate k.toNat xs).flatten, true) else none
  | _, _ => none
def zipOf : D → D → Option D
  | .tup xs, .tup ys => some (.lst (zipD xs ys))
  | .lst xs, .lst ys => some (.lst (zipD xs ys))
  | _, _ => none
def mef : Me → D → List D → Option (D × Bool)
  | .join, .str sep, [.lst xs] => match strsOf xs with
    | some l => if szOk ((l.map (·.length)).sum + l.length * sep.length) then some (.str (Txt.join sep l), false) else none
    | none => none
  | _, _, _ => none

def recvOk : Me → D → Bool
  | .join, .str _ => true
  | .join, _ => false
  | _, _ => true

/-! ### slots -/
def getS (env : Env) (i : Nat) : Option (D × Bool) := match env[i]? with
  | some (some p) => some p
  | _ => none
def freeze (env : Env) (i : Nat) (d : D) : Env := env.set i (some (d, false))
def setT : T → D × Bool → Env → Option Env
  | .n i, p, env => if i < env.length then some (env.set i (some p)) else none
  | .t is, (.tup xs, _), env => if is.length = xs.length ∧ ∀ i ∈ is, i < env.length then some ((is.zip xs).foldl (fun e q => e.set q.1 (some (q.2, false))) env) else none
  | .t _, _, _ => none
def T.own : T → List Nat
  | .n i => [i]
  | .t is => is
/-- the slots is as they were -/
def restore (old env : Env) : List Nat → Env
  | [] => env
  | i :: is => (restore old env is).set i (match old[i]? with | some s => s | none => none)
def clear (env : Env) : List Nat → Env
  | [] => env
  | i :: is => (clear env is).set i none

/-- a dict of the store -/
def isDk (st : Sto) : Option (D × Bool) → Bool
  | some (.ref l, false) => match st[l]? with
    | some (.dct _) => true
    | _ => false
  | _ => false
/-- a comprehension's turns -/
def R.calm {α : Type} : R α → R α
  | .ex _ _ _ _ => .no
  | r => r
def lcGo (step : D → Env → Sto → R (Option D)) : List D → Env → Sto → R (List D)
  | [], env, st => .ok [] env st
  | x :: xs, env, st => (step x env st).bind fun y env st => (lcGo step xs env st).bind fun ys env st => .ok (match y with | some y => y :: ys | none => ys) env st
def forGo (body : D → Env → Sto → R Flow) : List D → Env → Sto → R Flow
  | [], env, st => .ok .nx env st
  | x :: xs, env, st => (body x env st).bind fun f env st => match f with
    | .nx | .ct => forGo body xs env st
    | .brk => .ok .nx env st
    | .ret d o => .ok (.ret d o) env st
def whileGo (test : Env → Sto → R Bool) (body : Env → Sto → R Flow) : Nat → Env → Sto → R Flow
  | 0, _, _ => .no
  | n + 1, env, st => (test env st).bind fun b env st => if b then (body env st).bind fun f env st => match f with
      | .nx | .ct => whileGo test body n env st
      | .brk => .ok .nx env st
      | .ret d o => .ok (.ret d o) env st
    else .ok .nx env st
def truth (r : R (D × Bool)) : R Bool := r.bind fun p env st => lift (dbl p.1) env st
def ofCall (r : RC) (env : Env) : R (D × Bool) := match r with
  | .no => .no
  | .ok d o st => .ok (d, o) env st
  | .ex c x st => .ex c x env st

section
variable (G : Gl) (call : Nat → List D → Sto → RC)
mutual
/-- bw: the value is looked at only, and not kept -/
def ev (bw : Bool) : C → Env → Sto → R (D × Bool)
  | .k d, env, st => .ok (d, false) env st
  | .g d, env, st => .ok (d, false) env st
  | .v i, env, st => match getS env i with
    | some (d, o) => if o && !bw then .ok (d, false) (freeze env i d) st else .ok (d, false) env st
    | none => .no
  | .tp es, env, st => (evs false es env st).bind fun ds env st => if szOk ds.length then .ok (.tup ds, false) env st else .no
  | .ls es, env, st => (evs false es env st).bind fun ds env st => if szOk ds.length then .ok (.lst ds, true) env st else .no
  | .bin o a b, env, st => (ev true a env st).bind fun x env st => (ev true b env st).bind fun y env st => lift (binop o x.1 y.1) env st
  | .neg a, env, st => (ev true a env st).bind fun x env st => lift ((dnum x.1).map fun i => (.int (-i), false)) env st
  | .not a, env, st => (ev true a env st).bind fun x env st => lift ((dbl x.1).map fun b => (.bl (!b), false)) env st
  | .and a b, env, st => (ev true a env st).bind fun x env st => match x.1 with
    | .bl true => ev bw b env st
    | .bl false => .ok (.bl false, false) env st
    | _ => .no
  | .or a b, env, st => (ev true a env st).bind fun x env st => match x.1 with
    | .bl true => .ok (.bl true, false) env st
    | .bl false => ev bw b env st
    | _ => .no
  | .ite t a b, env, st => (ev true t env st).bind fun x env st => match x.1 with
    | .bl true => ev bw a env st
    | .bl false => ev bw b env st
    | _ => .no
  | .cmp o a b, env, st => (ev true a env st).bind fun x env st => (ev true b env st).bind fun y env st => lift ((cmpF st o x.1 y.1).map fun b => (.bl b, false)) env st
  | .chn o p a b c, env, st => (ev true a env st).bind fun x env st => (ev true b env st).bind fun y env st => match cmpop o x.1 y.1 with
    | some true => (ev true c env st).bind fun z env st => lift ((cmpop p y.1 z.1).map fun b => (.bl b, false)) env st
    | some false => .ok (.bl false, false) env st
    | none => .no
  | .ix a i, env, st => (ev true a env st).bind fun x env st => (ev true i env st).bind fun j env st => lift (ixF st x.1 j.1) env st
  | .sl a lo hi, env, st => (ev true a env st).bind fun x env st => (evo lo env st).bind fun l env st => (evo hi env st).bind fun h env st => lift (slice x.1 l h) env st
  | .rev a, env, st => (ev true a env st).bind fun x env st => lift (revD x.1) env st
  | .call f es, env, st => (evs false es env st).bind fun ds env st => ofCall (call f ds st) env
  | .cv i es, env, st => match getS env i with
    | some (.gl f, _) => if (G.ar f).isSome then (evs false es env st).bind fun ds env st => ofCall (call f ds st) env else .no
    | _ => .no
  | .bi b es, env, st => (evs true es env st).bind fun ds env st => lift (bifF G st b ds) env st
  | .me m a es, env, st => (ev true a env st).bind fun x env st => if recvOk m x.1 then (evs true es env st).bind fun ds env st => lift (mef m x.1 ds) env st else .no
  | .rng es, env, st => (evs true es env st).bind fun ds env st => lift ((rangeOf ds).map fun d => (d, false)) env st
  | .enm e, env, st => (ev false e env st).bind fun x env st => lift ((enumOf x.1).map fun d => (d, false)) env st
  | .zp a b, env, st => (ev false a env st).bind fun x env st => (ev false b env st).bind fun y env st => lift ((zipOf x.1 y.1).map fun d => (d, false)) env st
  | .lc elt tg it cond, env0, st => (ev false it env0 st).bind fun x env st => match items x.1 with
    | none => .no
    | some xs => (lcGo (fun x env st => match setT tg (x, false) env with
        | none => .no
        | some env => match cond with
          | none => (ev false elt env st).calm.bind fun y env st => .ok (some y.1) (clear env tg.own) st
          | some c => (truth (ev true c env st)).calm.bind fun b env st => if b then (ev false elt env st).calm.bind fun y env st => .ok (some y.1) (clear env tg.own) st
            else .ok none (clear env tg.own) st) xs (clear env tg.own) st).bind fun ys env1 st => if szOk xs.length then .ok (.lst ys, true) (restore env env1 tg.own) st else .no
  | .mk e, env, st => (ev false e env st).bind fun x env st => match x with
    | (.lst xs, true) => .ok (.ref st.length, false) env (st ++ [.lst xs])
    | _ => .no
  | .rfd f e, env, st => match ev false e env st with
    | .no => .no
    | .ok _ env st => .ok (.str (Str.ofString ""), false) env st
    | .ex c .non env st => lift ((G.words c).map fun w => (.str w, false)) env st
    | .ex _ _ _ _ => .no
  | .lrg a, env, st => (ev true a env st).bind fun x env st => lift (lrgOf x.1) env st
  | .rep a k, env, st => (ev false a env st).bind fun x env st => (ev true k env st).bind fun y env st => lift (repOf x y.1) env st
  | .dnw, env, st => .ok (.ref st.length, false) env (st ++ [.dct []])
  | .dof e, env, st => (ev true e env st).bind fun x env st => match x.1 with
    | .lst xs => match pairsD xs with
      | some ps => if szOk ps.length then .ok (.ref st.length, false) env (st ++ [.dct (dkAll [] ps)]) else .no
      | none => .no
    | _ => .no
  | .dne a, env, st => (ev true a env st).bind fun x env st => match x.1 with
    | .ref l => match st[l]? with
      | some (.dct kvs) => .ok (.bl (!kvs.isEmpty), false) env st
      | _ => .no
    | _ => .no
  | .dpp i k, env, st => if isDk st (getS env i) then (ev true k env st).bind fun x env st => match getS env i with
    | some (.ref l, _) => match st[l]? with
      | some (.dct kvs) => if keyOk x.1 then match dkAt kvs x.1 with
          | some v => .ok (v, false) env (st.set l (.dct (dkDel kvs x.1)))
          | none => .no
        else .no
      | _ => .no
    | _ => .no
    else .no
  | .dgt i k y, env, st => if isDk st (getS env i) then (ev true k env st).bind fun x env st => (ev false y env st).bind fun y env st => match getS env i with
    | some (.ref l, _) => match st[l]? with
      | some (.dct kvs) => if keyOk x.1 then .ok ((dkAt kvs x.1).getD y.1, false) env st else .no
      | _ => .no
    | _ => .no
    else .no
  | .asl a, env, st => (ev bw a env st).bind fun x env st => match x.1 with
    | .lst _ => .ok x env st
    | _ => .no
def evs (bw : Bool) : List C → Env → Sto → R (List D)
  | [], env, st => .ok [] env st
  | e :: es, env, st => (ev bw e env st).bind fun x env st => (evs bw es env st).bind fun xs env st => .ok (x.1 :: xs) env st
/-- .. lists of one's own stay so -/
def evsO : List C → Env → Sto → R (List (D × Bool))
  | [], env, st => .ok [] env st
  | e :: es, env, st => (ev false e env st).bind fun x env st => (evsO es env st).bind fun xs env st => .ok (x :: xs) env st
def evo : Option C → Env → Sto → R (Option Int)
  | none, env, st => .ok none env st
  | some e, env, st => (ev true e env st).bind fun x env st => match x.1 with
    | .int i => .ok (some i) env st
    | _ => .no
end
def putO (is : List Nat) (ps : List (D × Bool)) (env : Env) : Option Env := if is.length = ps.length ∧ ∀ i ∈ is, i < env.length then some ((is.zip ps).foldl (fun e q => e.set q.1 (some q.2)) env) else none
/-- a list that may be changed -/
def isL (st : Sto) : Option (D × Bool) → Bool
  | some (.lst _, true) => true
  | some (.ref l, _) => match st[l]? with
    | some (.lst _) => true
    | _ => false
  | _ => false
/-- a store into a list at a place -/
def setAt (xs : List D) (i : Int) (y : D) : Option (List D) := if 0 ≤ i ∧ i < xs.length then some (xs.set i.toNat y) else none
mutual
def exS (W : Nat) : S → Env → Sto → R Flow
  | .ex e, env, st => (ev G call false e env st).bind fun _ env st => .ok .nx env st
  | .asg t e, env, st => (ev G call false e env st).bind fun x env st => match setT t x env with
    | some env => .ok .nx env st
    | none => .no
  | .par is es, env, st => (evs G call false es env st).bind fun xs env st => match setT (.t is) (.tup xs, false) env with
    | some env => .ok .nx env st
    | none => .no
  | .pro is es, env, st => (evsO G call es env st).bind fun ps env st => match putO is ps env with
    | some env => .ok .nx env st
    | none => .no
  | .pop t i, env, st => match getS env i with
    | some (.lst xs, true) => match xs.getLast? with
      | some y => match setT t (y, false) (env.set i (some (.lst xs.dropLast, true))) with
        | some env => .ok .nx env st
        | none => .no
      | none => .no
    | _ => .no
  | .app i e, env, st => if isL st (getS env i) then (ev G call false e env st).bind fun y env st => match getS env i with
    | some (.lst xs, true) => if szOk (xs.length + 1) then .ok .nx (env.set i (some (.lst (xs ++ [y.1]), true))) st else .no
    | some (.ref l, _) => match st[l]? with
      | some (.lst xs) => if szOk (xs.length + 1) then .ok .nx env (st.set l (.lst (xs ++ [y.1]))) else .no
      | _ => .no
    | _ => .no
    else .no
  | .set i k e, env, st => if isL st (getS env i) then (ev G call false e env st).bind fun y env st => (ev G call true k env st).bind fun j env st => match getS env i, j.1 with
    | some (.lst xs, true), .int j => match setAt xs j y.1 with
      | some ys => .ok .nx (env.set i (some (.lst ys, true))) st
      | none => .no
    | some (.ref l, _), .int j => match st[l]? with
      | some (.lst xs) => match setAt xs j y.1 with
        | some ys => .ok .nx env (st.set l (.lst ys))
        | none => .no
      | _ => .no
    | _, _ => .no
    else if isDk st (getS env i) then (ev G call false e env st).bind fun y env st => (ev G call false k env st).bind fun j env st => match getS env i with
    | some (.ref l, _) => match st[l]? with
      | some (.dct kvs) => if keyOk j.1 && szOk kvs.length then .ok .nx env (st.set l (.dct (dkPut kvs j.1 y.1))) else .no
      | _ => .no
    | _ => .no
    else .no
  | .ret (.v i), env, st => match getS env i with
    | some (d, o) => .ok (.ret d o) (env.set i none) st
    | none => .no
  | .ret e, env, st => (ev G call false e env st).bind fun x env st => .ok (.ret x.1 x.2) env st
  | .retn, env, st => .ok (.ret .non false) env st
  | .ifs t a b, env, st => (truth (ev G call true t env st)).bind fun c env st => if c then exB W a env st else exB W b env st
  | .for t it b, env, st => (ev G call false it env st).bind fun x env st => match items x.1 with
    | some xs => forGo (fun x env st => match setT t (x, false) env with
      | some env => exB W b env st
      | none => .no) xs env st
    | none => .no
  | .while t b, env, st => whileGo (fun env st => truth (ev G call true t env st)) (fun env st => exB W b env st) W env st
  | .raise c none, env, st => .ex c .non env st
  | .raise c (some e), env, st => (ev G call false e env st).bind fun x env st => .ex c x.1 env st
  | .pass, env, st => .ok .nx env st
  | .brk, env, st => .ok .brk env st
  | .cont, env, st => .ok .ct env st
def exB (W : Nat) : List S → Env → Sto → R Flow
  | [], env, st => .ok .nx env st
  | s :: ss, env, st => (exS W s env st).bind fun f env st => match f with
    | .nx => exB W ss env st
    | f => .ok f env st
end
end

structure Fn where
  np : Nat
  ns : Nat
  body : List S
  deriving Inhabited
def callN (G : Gl) (fns : List Fn) (W : Nat) : Nat → Nat → List D → Sto → RC
  | 0, _, _, _ => .no
  | n + 1, f, ds, st => match fns[f]? with
    | none => .no
    | some fn => if ds.length = fn.np then
        match exB G (callN G fns W n) W fn.body (ds.map (fun d => some (d, false)) ++ List.replicate (fn.ns - fn.np) none) st with
        | .no => .no
        | .ok (.ret d o) _ st => .ok d o st
        | .ok .nx _ st => .ok .non false st
        | .ok _ _ _ => .no
        | .ex c x _ st => .ex c x st
      else .no
end Pi

set_option maxRecDepth 100000
/-! PiB: how data stand in the heap; steps; what an outcome promises. -/
namespace Pi
open PySem PySem.Spec L2
abbrev SL := L2.St

/-- what is fixed through a law: the written part, the global things' addresses, the tables of code objects -/
structure Fx where
  K : PySem.W.Frag
  ga : Nat → Addr
  fld : Nat → Str
  T : List (Addr × Str)
  P : Program
  w : World

mutual
/-- data as a key -/
def nk : D → NestedKey
  | .bl b => .num (if b = true then 1 else 0)
  | .int i => .num i
  | .str s => .text s
  | .tup xs => .tup (nks xs)
  | _ => .none
def nks : List D → List NestedKey
  | [] => []
  | x :: xs => nk x :: nks xs
end
/-- an entry of a dict: the key, where it stands, the value -/
abbrev Ent := NestedKey × Addr × V
abbrev EntR : List Ent → List (NestedKey × Addr × Value) → Prop := Paired fun p q => p.1 = q.1 ∧ p.2.1 = q.2.1 ∧ RelV p.2.2 q.2.2
/-- the dict at a has these entries -/
def dPhi (P : Program) (w : World) (a : Addr) (es : List Ent) (h : Heap) : Prop := es.length ≤ sizeLine ∧ (a == sysModules) = false ∧ ∃ xs : List (NestedKey × Addr × Value), EntR es xs ∧
  ∃ o ar ep, h.get? a = some o ∧ o.ExactDict ∧ o.data = .dict ar ep ∧ ar.toList = xs.map (entryOfKey (nestedKind P w)) ∧ (xs.map (·.1)).Nodup
def dO (P : Program) (w : World) (a : Addr) (es : List Ent) : HO := .ext (dPhi P w a es)

def imm : HO → Prop
  | .tup _ => True
  | .frz _ _ => True
  | _ => False
/-- a list of the written part -/
def KL (K : PySem.W.Frag) (a : Addr) (vs : List V) : Prop := ∃ (o : Obj) (its : Array Value) (n : Nat), K.lookup a = some o ∧ o.cls = .type "list" ∧ o.dict = none ∧ o.data = .seq its n ∧ its.size ≤ sizeLine ∧ Vals vs its.toList
def isTbl : HO → Prop
  | .tbl _ => True
  | _ => False

def OwnAt (env : Env) (σ : SL) (b : Addr) : Prop := ∃ (i : Nat) (d : D), env[i]? = some (some (d, true)) ∧ σ[i]? = some (some (V.ref b))
def StoAt (m : Nat → Addr) (n : Nat) (b : Addr) : Prop := ∃ l, l < n ∧ m l = b
def MuOf (Uo : Addr → Prop) (env : Env) (σ : SL) (m : Nat → Addr) (n : Nat) (b : Addr) : Prop := Uo b ∨ OwnAt env σ b ∨ StoAt m n b

section
variable (F : Fx) (Mu : Addr → Prop) (m : Nat → Addr) (n : Nat) (H : Hp)
mutual
/-- v stands for d: lists within are nobody's to change (not in Mu) -/
def Rep : V → D → Prop
  | v, .non => v = .non
  | v, .bl b => v = .bl b
  | v, .int i => v = .int i
  | v, .str s => v = .str s
  | v, .tup xs => ∃ a vs, v = .ref a ∧ SqT F.K H a vs ∧ Reps vs xs
  | v, .lst xs => ∃ a vs, v = .ref a ∧ Rd H a (.lst vs) ∧ ¬ Mu a ∧ Reps vs xs
  | _, .dct _ _ => False
  | v, .ref l => l < n ∧ v = .ref (m l)
  | v, .gl i => v = .ref (F.ga i)
  | v, .ty t => v = .ty t
  | _, .exc _ _ => False
  | v, .scr xs => ∃ a vs, v = .ref a ∧ KL F.K a vs ∧ Reps vs xs
def Reps : List V → List D → Prop
  | [], [] => True
  | v :: vs, d :: ds => Rep v d ∧ Reps vs ds
  | _, _ => False
end
/-- the entries of a dict stand for data -/
def DRel : List Ent → List (D × D) → Prop
  | [], [] => True
  | e :: es, p :: ps => (keyOk p.1 = true ∧ nk p.1 = e.1 ∧ Rep F Mu m n H (.ref e.2.1) p.1 ∧ Rep F Mu m n H e.2.2 p.2) ∧ DRel es ps
  | _, _ => False
/-- .. a list that is looked at: anybody's but the store's -/
def RepB : V → D → Prop
  | v, .lst xs => ∃ a vs, v = .ref a ∧ Rd H a (.lst vs) ∧ ¬ StoAt m n a ∧ Reps F Mu m n H vs xs
  | v, d => Rep F Mu m n H v d
def RepBs : List V → List D → Prop
  | [], [] => True
  | v :: vs, d :: ds => RepB F Mu m n H v d ∧ RepBs vs ds
  | _, _ => False
end

/-- heaps and forbidden places on the way -/
structure Mov (Mu Mu' : Addr → Prop) (m m' : Nat → Addr) (n n' : Nat) (H H' : Hp) : Prop where
  hn : n ≤ n'
  hm : ∀ l, l < n → m' l = m l
  kp : ∀ a o, H a = some o → imm o ∨ ((∃ xs, o = .lst xs) ∧ ¬ Mu a) → H' a = some o
  mu : ∀ a, Mu' a → Mu a ∨ H a = none

section
variable {F : Fx} {Mu Mu' : Addr → Prop} {m m' : Nat → Addr} {n n' : Nat} {H H' : Hp}
theorem SqT.mov {K : PySem.W.Frag} {a : Addr} {vs : List V} (kp : ∀ a o, H a = some o → imm o → H' a = some o) (h : SqT K H a vs) : SqT K H' a vs := by
  rcases h with h | h
  · rcases h with h | ⟨o, h⟩
    · exact .inl (.inl (kp _ _ h trivial))
    · exact .inl (.inr ⟨o, kp _ _ h trivial⟩)
  · exact .inr h
theorem Rd.mov {a : Addr} {vs : List V} (kp : ∀ a o, H a = some o → imm o ∨ ((∃ xs, o = HO.lst xs) ∧ ¬ Mu a) → H' a = some o) (hm : ¬ Mu a) (h : Rd H a (.lst vs)) : Rd H' a (.lst vs) := by
  rcases h with h | ⟨o, h⟩
  · exact .inl (kp _ _ h (.inr ⟨⟨_, rfl⟩, hm⟩))
  · exact .inr ⟨o, kp _ _ h (.inl trivial)⟩
theorem Rd.some {a : Addr} {u : HO} (h : Rd H a u) : H a ≠ none := by
  rcases h with h | ⟨o, h⟩ <;> rw [h] <;> simp
mutual
theorem Rep.mov (M : Mov Mu Mu' m m' n n' H H') : ∀ {v : V} {d : D}, Rep F Mu m n H v d → Rep F Mu' m' n' H' v d
  | _, .non, h => h
  | _, .bl _, h => h
  | _, .int _, h => h
  | _, .str _, h => h
  | _, .tup xs, h => by
    obtain ⟨a, vs, e, hq, hr⟩ := h
    exact ⟨a, vs, e, SqT.mov (fun a o h1 h2 => M.kp a o h1 (.inl h2)) hq, Reps.mov M hr⟩
  | _, .lst xs, h => by
    obtain ⟨a, vs, e, hq, hm, hr⟩ := h
    exact ⟨a, vs, e, Rd.mov M.kp hm hq, fun z => (M.mu a z).elim hm (Rd.some hq), Reps.mov M hr⟩
  | _, .dct _ _, h => h.elim
  | _, .ref l, h => ⟨Nat.lt_of_lt_of_le h.1 M.hn, by rw [M.hm l h.1]; exact h.2⟩
  | _, .gl _, h => h
  | _, .ty _, h => h
  | _, .exc _ _, h => h.elim
  | _, .scr xs, h => let ⟨a, vs, e, k, hr⟩ := h; ⟨a, vs, e, k, Reps.mov M hr⟩
theorem Reps.mov (M : Mov Mu Mu' m m' n n' H H') : ∀ {vs : List V} {ds : List D}, Reps F Mu m n H vs ds → Reps F Mu' m' n' H' vs ds
  | [], [], _ => trivial
  | _ :: _, _ :: _, h => ⟨Rep.mov M h.1, Reps.mov M h.2⟩
  | [], _ :: _, h => h.elim
  | _ :: _, [], h => h.elim
end
theorem DRel.mov (M : Mov Mu Mu' m m' n n' H H') : ∀ {es : List Ent} {ps : List (D × D)}, DRel F Mu m n H es ps → DRel F Mu' m' n' H' es ps
  | [], [], _ => trivial
  | _ :: _, _ :: _, h => ⟨⟨h.1.1, h.1.2.1, Rep.mov M h.1.2.2.1, Rep.mov M h.1.2.2.2⟩, DRel.mov M h.2⟩
  | [], _ :: _, h => h.elim
  | _ :: _, [], h => h.elim
theorem DRel.length : ∀ {es : List Ent} {ps : List (D × D)}, DRel F Mu m n H es ps → es.length = ps.length
  | [], [], _ => rfl
  | _ :: _, _ :: _, h => congrArg (· + 1) (DRel.length h.2)
  | [], _ :: _, h => h.elim
  | _ :: _, [], h => h.elim
/-- fewer places forbidden -/
theorem Mov.less (h : ∀ a, Mu' a → Mu a) : Mov Mu Mu' m m n n H H := ⟨Nat.le_refl _, fun _ _ => rfl, fun _ _ e _ => e, fun a z => .inl (h a z)⟩
theorem Reps.length : ∀ {vs : List V} {ds : List D}, Reps F Mu m n H vs ds → vs.length = ds.length
  | [], [], _ => rfl
  | _ :: _, _ :: _, h => congrArg (· + 1) (Reps.length h.2)
  | [], _ :: _, h => h.elim
  | _ :: _, [], h => h.elim
theorem Reps.append : ∀ {vs ws : List V} {ds es : List D}, Reps F Mu m n H vs ds → Reps F Mu m n H ws es → Reps F Mu m n H (vs ++ ws) (ds ++ es)
  | [], _, [], _, _, h => h
  | _ :: _, _, _ :: _, _, h, k => ⟨h.1, Reps.append h.2 k⟩
  | [], _, _ :: _, _, h, _ => h.elim
  | _ :: _, _, [], _, h, _ => h.elim
theorem Reps.get : ∀ {vs : List V} {ds : List D} {i : Nat} {d : D}, Reps F Mu m n H vs ds → ds[i]? = some d → ∃ v, vs[i]? = some v ∧ Rep F Mu m n H v d
  | [], [], _, _, _, e => by simp at e
  | v :: _, _ :: _, 0, _, h, e => by simp at e; subst e; exact ⟨v, rfl, h.1⟩
  | _ :: _, _ :: _, i + 1, _, h, e => by
    obtain ⟨v, h1, h2⟩ := Reps.get (i := i) h.2 (by simpa using e)
    exact ⟨v, by simpa using h1, h2⟩
  | [], _ :: _, _, _, h, _ => h.elim
  | _ :: _, [], _, _, h, _ => h.elim
theorem Reps.getV : ∀ {vs : List V} {ds : List D} {i : Nat} {v : V}, Reps F Mu m n H vs ds → vs[i]? = some v → ∃ d, ds[i]? = some d ∧ Rep F Mu m n H v d
  | [], [], _, _, _, e => by simp at e
  | _ :: _, d :: _, 0, _, h, e => by simp at e; subst e; exact ⟨d, rfl, h.1⟩
  | _ :: _, _ :: _, i + 1, _, h, e => by
    obtain ⟨v, h1, h2⟩ := Reps.getV (i := i) h.2 (by simpa using e)
    exact ⟨v, by simpa using h1, h2⟩
  | [], _ :: _, _, _, h, _ => h.elim
  | _ :: _, [], _, _, h, _ => h.elim
theorem Reps.set {v : V} {d : D} (r : Rep F Mu m n H v d) : ∀ {vs : List V} {ds : List D} (i : Nat), Reps F Mu m n H vs ds → Reps F Mu m n H (vs.set i v) (ds.set i d)
  | [], [], _, _ => trivial
  | _ :: _, _ :: _, 0, h => ⟨r, h.2⟩
  | _ :: _, _ :: _, i + 1, h => ⟨h.1, Reps.set r i h.2⟩
  | [], _ :: _, _, h => h.elim
  | _ :: _, [], _, h => h.elim
theorem Reps.drop : ∀ {vs : List V} {ds : List D} (i : Nat), Reps F Mu m n H vs ds → Reps F Mu m n H (vs.drop i) (ds.drop i)
  | _, _, 0, h => h
  | [], [], _ + 1, h => h
  | _ :: _, _ :: _, i + 1, h => Reps.drop i h.2
  | [], _ :: _, _, h => h.elim
  | _ :: _, [], _, h => h.elim
theorem Reps.take : ∀ {vs : List V} {ds : List D} (i : Nat), Reps F Mu m n H vs ds → Reps F Mu m n H (vs.take i) (ds.take i)
  | _, _, 0, _ => trivial
  | [], [], _ + 1, h => h
  | _ :: _, _ :: _, i + 1, h => ⟨h.1, Reps.take i h.2⟩
  | [], _ :: _, _ + 1, h => h.elim
  | _ :: _, [], _ + 1, h => h.elim
theorem Reps.reverse : ∀ {vs : List V} {ds : List D}, Reps F Mu m n H vs ds → Reps F Mu m n H vs.reverse ds.reverse
  | [], [], h => h
  | _ :: _, _ :: _, h => by
    rw [List.reverse_cons, List.reverse_cons]
    exact Reps.append (Reps.reverse h.2) ⟨h.1, trivial⟩
  | [], _ :: _, h => h.elim
  | _ :: _, [], h => h.elim
theorem Rep.toB {v : V} {d : D} (hs : ∀ a, StoAt m n a → Mu a) (h : Rep F Mu m n H v d) : RepB F Mu m n H v d := by
  cases d with
  | lst xs =>
    obtain ⟨a, vs, e, hq, hm, hr⟩ := h
    exact ⟨a, vs, e, hq, fun z => hm (hs a z), hr⟩
  | _ => exact h
end

/-- from one state to a later one; Ch: what of the heap may have changed besides the store -/
structure Step (Ch : Addr → Prop) (env : Env) (σ : SL) (m : Nat → Addr) (n : Nat) (H : Hp) (env' : Env) (σ' : SL) (m' : Nat → Addr) (n' : Nat) (H' : Hp) : Prop where
  hn : n ≤ n'
  hm : ∀ l, l < n → m' l = m l
  new : ∀ l, n ≤ l → l < n' → H (m' l) = none
  fr : ∀ a o, H a = some o → ¬ isTbl o → imm o ∨ (¬ Ch a ∧ ¬ StoAt m n a) → H' a = some o
  th : ∀ a, H a ≠ none → H' a ≠ none
  own : ∀ b, OwnAt env' σ' b → OwnAt env σ b ∨ H b = none
abbrev noCh : Addr → Prop := fun _ => False

section
variable {F : Fx} {Ch : Addr → Prop} {env env1 env2 : Env} {σ σ1 σ2 : SL} {m m1 m2 : Nat → Addr} {n n1 n2 : Nat} {H H1 H2 : Hp}
theorem Step.refl : Step Ch env σ m n H env σ m n H := ⟨Nat.le_refl _, fun _ _ => rfl, fun l h1 h2 => absurd (Nat.lt_of_le_of_lt h1 h2) (Nat.lt_irrefl _), fun _ _ e _ _ => e, fun _ e => e, fun _ e => .inl e⟩
theorem StoAt.grow (hn : n ≤ n1) (hm : ∀ l, l < n → m1 l = m l) {a : Addr} (h : StoAt m n a) : StoAt m1 n1 a := by
  obtain ⟨l, hl, e⟩ := h
  exact ⟨l, Nat.lt_of_lt_of_le hl hn, by rw [hm l hl]; exact e⟩
theorem StoAt.back (hm : ∀ l, l < n → m1 l = m l) (new : ∀ l, n ≤ l → l < n1 → H (m1 l) = none) {a : Addr} (h : StoAt m1 n1 a) : StoAt m n a ∨ H a = none := by
  obtain ⟨l, hl, e⟩ := h
  by_cases h1 : l < n
  · exact .inl ⟨l, h1, by rw [← hm l h1]; exact e⟩
  · exact .inr (by rw [← e]; exact new l (Nat.le_of_not_lt h1) hl)
theorem Step.trans (hc : ∀ a, Ch a → OwnAt env σ a) {Ch1 : Addr → Prop} (hc1 : ∀ a, Ch1 a → Ch a ∨ H a = none) (a : Step Ch env σ m n H env1 σ1 m1 n1 H1) (b : Step Ch1 env1 σ1 m1 n1 H1 env2 σ2 m2 n2 H2) : Step Ch env σ m n H env2 σ2 m2 n2 H2 where
  hn := Nat.le_trans a.hn b.hn
  hm := fun l hl => (b.hm l (Nat.lt_of_lt_of_le hl a.hn)).trans (a.hm l hl)
  new := fun l h1 h2 => by
    by_cases h3 : l < n1
    · rw [b.hm l h3]; exact a.new l h1 h3
    · have z := b.new l (Nat.le_of_not_lt h3) h2
      cases e : H (m2 l) with
      | none => rfl
      | some o => exact absurd z (a.th _ (by rw [e]; simp))
  fr := fun c o e ht h => by
    have e1 := a.fr c o e ht h
    refine b.fr c o e1 ht ?_
    rcases h with h | ⟨h1, h2⟩
    · exact .inl h
    · refine .inr ⟨fun z => ?_, fun z => ?_⟩
      · rcases hc1 c z with z | z
        · exact h1 z
        · rw [e] at z; cases z
      · rcases StoAt.back a.hm a.new z with z | z
        · exact h2 z
        · rw [e] at z; cases z
  th := fun c e => b.th c (a.th c e)
  own := fun c h => by
    rcases b.own c h with h | h
    · exact a.own c h
    · refine .inr ?_
      cases e : H c with
      | none => rfl
      | some o => exact absurd h (a.th c (by rw [e]; simp))
theorem Step.transE (a : Step noCh env σ m n H env1 σ1 m1 n1 H1) (b : Step noCh env1 σ1 m1 n1 H1 env2 σ2 m2 n2 H2) : Step noCh env σ m n H env2 σ2 m2 n2 H2 := a.trans (fun _ h => h.elim) (fun _ h => h.elim) b
theorem Step.transS (a : Step (OwnAt env σ) env σ m n H env1 σ1 m1 n1 H1) (b : Step (OwnAt env1 σ1) env1 σ1 m1 n1 H1 env2 σ2 m2 n2 H2) : Step (OwnAt env σ) env σ m n H env2 σ2 m2 n2 H2 := a.trans (fun _ h => h) (fun c h => a.own c h) b
theorem Step.wide (a : Step noCh env σ m n H env1 σ1 m1 n1 H1) : Step Ch env σ m n H env1 σ1 m1 n1 H1 :=
  ⟨a.hn, a.hm, a.new, fun c o e ht h => a.fr c o e ht (h.imp (fun z => z) fun z => ⟨fun z => z, z.2⟩), a.th, a.own⟩
end

/-- a state of the interpreter and the abstract heap -/
structure Sim (F : Fx) (Uo : Addr → Prop) (m : Nat → Addr) (env : Env) (σ : SL) (st : Sto) (H : Hp) : Prop where
  len : env.length = σ.length
  inj : ∀ (i j : Nat), i < st.length → j < st.length → m i = m j → i = j
  obj : ∀ (l : Nat) (xs : List D), st[l]? = some (Ob.lst xs) → ∃ vs, H (m l) = some (.lst vs) ∧ Reps F (MuOf Uo env σ m st.length) m st.length H vs xs
  objD : ∀ (l : Nat) (kvs : List (D × D)), st[l]? = some (Ob.dct kvs) → ∃ es, H (m l) = some (dO F.P F.w (m l) es) ∧ DRel F (MuOf Uo env σ m st.length) m st.length H es kvs
  val : ∀ (i : Nat) (d : D), env[i]? = some (some (d, false)) → ∃ v, σ[i]? = some (some v) ∧ Rep F (MuOf Uo env σ m st.length) m st.length H v d
  own : ∀ (i : Nat) (d : D), env[i]? = some (some (d, true)) → ∃ a xs vs, d = D.lst xs ∧ σ[i]? = some (some (V.ref a)) ∧ H a = some (.lst vs) ∧ Reps F (MuOf Uo env σ m st.length) m st.length H vs xs
  sep : ∀ (i j : Nat) (a : Addr) (d e : D), env[i]? = some (some (d, true)) → env[j]? = some (some (e, true)) → σ[i]? = some (some (V.ref a)) → σ[j]? = some (some (V.ref a)) → i = j
  osto : ∀ b, OwnAt env σ b → ¬ Uo b ∧ ¬ StoAt m st.length b
  usto : ∀ b, StoAt m st.length b → ¬ Uo b
  uH : ∀ a, Uo a → H a ≠ none
  tab : LamX.Tabs F.T H

def Tmp (o : Bool) (v : V) (b : Addr) : Prop := o = true ∧ v = .ref b
def Plus (U W : Addr → Prop) (b : Addr) : Prop := U b ∨ W b
/-- a value that has come; H0: the heap ahead -/
def ValR (F : Fx) (bw o : Bool) (Mu : Addr → Prop) (m : Nat → Addr) (n : Nat) (H0 H : Hp) (v : V) (d : D) : Prop :=
  (o = true → ∃ a xs vs, v = .ref a ∧ d = .lst xs ∧ H a = some (.lst vs) ∧ Reps F Mu m n H vs xs ∧ H0 a = none) ∧
  (o = false → bw = false → Rep F Mu m n H v d) ∧ (o = false → bw = true → RepB F Mu m n H v d)
/-- an exception's class and data -/
def ExcV (F : Fx) (c : Nat) (x : D) (cls : Value) (dd : Option Addr) (H : Hp) : Prop :=
  cls = .ref (F.ga c) ∧ match x with
    | .int i => ∃ a, dd = some a ∧ H a = some (.xd [(F.fld c, .int i)])
    | _ => dd = none

section
variable (F : Fx) (Uo : Addr → Prop) (env : Env) (σ : SL) (m : Nat → Addr) (n : Nat) (H : Hp) (W : WX)
/-- what an outcome promises: of an expression -/
def PostE (bw : Bool) (Q : VK) : R (D × Bool) → Prop
  | .no => False
  | .ok p env' st' => ∀ v m' H', Step noCh env σ m n H env' σ m' st'.length H' → Sim F (Plus Uo (Tmp p.2 v)) m' env' σ st' H' →
      ValR F bw p.2 (MuOf (Plus Uo (Tmp p.2 v)) env' σ m' st'.length) m' st'.length H H' v p.1 → Q v H'
  | .ex c x env' st' => ∀ cls dd m' H', Step noCh env σ m n H env' σ m' st'.length H' → Sim F Uo m' env' σ st' H' → ExcV F c x cls dd H' → W cls dd σ H'
/-- of a list of expressions -/
def PostL (bw : Bool) (Q : List V → Hp → Prop) : R (List D) → Prop
  | .no => False
  | .ok ds env' st' => ∀ vs m' H', Step noCh env σ m n H env' σ m' st'.length H' → Sim F Uo m' env' σ st' H' →
      (bw = false → Reps F (MuOf Uo env' σ m' st'.length) m' st'.length H' vs ds) → RepBs F (MuOf Uo env' σ m' st'.length) m' st'.length H' vs ds → Q vs H'
  | .ex c x env' st' => ∀ cls dd m' H', Step noCh env σ m n H env' σ m' st'.length H' → Sim F Uo m' env' σ st' H' → ExcV F c x cls dd H' → W cls dd σ H'
/-- of anything whose value is told (a slice's part, a test) -/
def PostG {α β : Type} (rel : β → α → Prop) (Q : β → Hp → Prop) : R α → Prop
  | .no => False
  | .ok a env' st' => ∀ b m' H', Step noCh env σ m n H env' σ m' st'.length H' → Sim F Uo m' env' σ st' H' → rel b a → Q b H'
  | .ex c x env' st' => ∀ cls dd m' H', Step noCh env σ m n H env' σ m' st'.length H' → Sim F Uo m' env' σ st' H' → ExcV F c x cls dd H' → W cls dd σ H'
/-- of a statement -/
def PostS (D0 : Ends) : R Flow → Prop
  | .no => False
  | .ok f env' st' => match f with
    | .nx => ∀ σ' m' H', Step (OwnAt env σ) env σ m n H env' σ' m' st'.length H' → Sim F Uo m' env' σ' st' H' → D0.nx σ' H'
    | .brk => ∀ σ' m' H', Step (OwnAt env σ) env σ m n H env' σ' m' st'.length H' → Sim F Uo m' env' σ' st' H' → D0.bk σ' H'
    | .ct => ∀ σ' m' H', Step (OwnAt env σ) env σ m n H env' σ' m' st'.length H' → Sim F Uo m' env' σ' st' H' → D0.ct σ' H'
    | .ret d o => ∀ v σ' m' H', Step (OwnAt env σ) env σ m n H env' σ' m' st'.length H' → Sim F (Plus Uo (Tmp o v)) m' env' σ' st' H' →
        (o = true → ∃ a xs vs, v = .ref a ∧ d = .lst xs ∧ H' a = some (.lst vs) ∧ Reps F (MuOf (Plus Uo (Tmp o v)) env' σ' m' st'.length) m' st'.length H' vs xs ∧ (H a = none ∨ OwnAt env σ a)) →
        (o = false → Rep F (MuOf (Plus Uo (Tmp o v)) env' σ' m' st'.length) m' st'.length H' v d) → D0.rt v H'
  | .ex c x env' st' => ∀ cls dd σ' m' H', Step (OwnAt env σ) env σ m n H env' σ' m' st'.length H' → Sim F Uo m' env' σ' st' H' → ExcV F c x cls dd H' → W cls dd σ' H'
end

section
variable {F : Fx} {Uo Uo' : Addr → Prop} {env env1 : Env} {σ σ1 : SL} {m m1 : Nat → Addr} {n n1 : Nat} {H H1 : Hp} {W : WX} {st st1 : Sto}
theorem MuOf.sub (h : ∀ a, Uo' a → Uo a) : ∀ a, MuOf Uo' env σ m n a → MuOf Uo env σ m n a := fun a z => z.imp (h a) fun z => z
theorem Sim.less (S : Sim F Uo m env σ st H) (h : ∀ a, Uo' a → Uo a) : Sim F Uo' m env σ st H where
  len := S.len
  inj := S.inj
  obj := fun l xs e => let ⟨vs, h1, h2⟩ := S.obj l xs e; ⟨vs, h1, Reps.mov (Mov.less (MuOf.sub h)) h2⟩
  objD := fun l kvs e => let ⟨es, h1, h2⟩ := S.objD l kvs e; ⟨es, h1, DRel.mov (Mov.less (MuOf.sub h)) h2⟩
  val := fun i d e => let ⟨v, h1, h2⟩ := S.val i d e; ⟨v, h1, Rep.mov (Mov.less (MuOf.sub h)) h2⟩
  own := fun i d e => let ⟨a, xs, vs, h1, h2, h3, h4⟩ := S.own i d e; ⟨a, xs, vs, h1, h2, h3, Reps.mov (Mov.less (MuOf.sub h)) h4⟩
  sep := S.sep
  osto := fun b hb => ⟨fun z => (S.osto b hb).1 (h b z), (S.osto b hb).2⟩
  usto := fun b hb z => S.usto b hb (h b z)
  uH := fun a z => S.uH a (h a z)
  tab := S.tab
theorem Sim.base {U : Addr → Prop} (S : Sim F (Plus Uo U) m env σ st H) : Sim F Uo m env σ st H := S.less fun _ z => .inl z
/-- what stood for data stands for it behind a step -/
theorem Step.mov {Ch : Addr → Prop} (S : Sim F Uo m env σ st H) (p : Step Ch env σ m st.length H env1 σ1 m1 st1.length H1) (hc : ∀ a, Ch a → OwnAt env σ a) : Mov (MuOf Uo env σ m st.length) (MuOf Uo env1 σ1 m1 st1.length) m m1 st.length st1.length H H1 where
  hn := p.hn
  hm := p.hm
  kp := fun a o e h => by
    refine p.fr a o e ?_ ?_
    · rcases h with h | ⟨⟨xs, rfl⟩, _⟩
      · cases o <;> first | exact fun z => z | exact h.elim
      · exact fun z => z
    · rcases h with h | ⟨_, h⟩
      · exact .inl h
      · exact .inr ⟨fun z => h (.inr (.inl (hc a z))), fun z => h (.inr (.inr z))⟩
  mu := fun a z => by
    rcases z with z | z | z
    · exact .inl (.inl z)
    · exact (p.own a z).imp (fun z => .inr (.inl z)) fun z => z
    · exact (StoAt.back p.hm p.new z).imp (fun z => .inr (.inr z)) fun z => z
theorem Step.movE (S : Sim F Uo m env σ st H) (p : Step noCh env σ m st.length H env1 σ1 m1 st1.length H1) : Mov (MuOf Uo env σ m st.length) (MuOf Uo env1 σ1 m1 st1.length) m m1 st.length st1.length H H1 := p.mov S fun _ z => z.elim
theorem StoAt.mu {a : Addr} (h : StoAt m n a) : MuOf Uo env σ m n a := .inr (.inr h)
theorem RepB.movE {v : V} {d : D} (S : Sim F Uo m env σ st H) (p : Step noCh env σ m st.length H env1 σ1 m1 st1.length H1) (r : RepB F (MuOf Uo env σ m st.length) m st.length H v d) : RepB F (MuOf Uo env1 σ1 m1 st1.length) m1 st1.length H1 v d := by
  have M := p.movE S
  cases d with
  | lst xs =>
    obtain ⟨a, vs, e, hq, hs, hr⟩ := r
    refine ⟨a, vs, e, ?_, fun z => (StoAt.back p.hm p.new z).elim hs (Rd.some hq), Reps.mov M hr⟩
    rcases hq with hq | ⟨o, hq⟩
    · exact .inl (p.fr a _ hq (fun z => z) (.inr ⟨fun z => z, hs⟩))
    · exact .inr ⟨o, p.fr a _ hq (fun z => z) (.inl trivial)⟩
  | _ => exact Rep.mov M r
theorem RepBs.movE : ∀ {vs : List V} {ds : List D} (S : Sim F Uo m env σ st H) (p : Step noCh env σ m st.length H env1 σ1 m1 st1.length H1) (r : RepBs F (MuOf Uo env σ m st.length) m st.length H vs ds), RepBs F (MuOf Uo env1 σ1 m1 st1.length) m1 st1.length H1 vs ds
  | [], [], _, _, _ => trivial
  | _ :: _, _ :: _, S, p, h => ⟨RepB.movE S p h.1, RepBs.movE S p h.2⟩
  | [], _ :: _, _, _, h => h.elim
  | _ :: _, [], _, _, h => h.elim
theorem Reps.toB : ∀ {vs : List V} {ds : List D}, Reps F (MuOf Uo env σ m n) m n H vs ds → RepBs F (MuOf Uo env σ m n) m n H vs ds
  | [], [], _ => trivial
  | _ :: _, _ :: _, h => ⟨Rep.toB (fun _ => StoAt.mu) h.1, Reps.toB h.2⟩
  | [], _ :: _, h => h.elim
  | _ :: _, [], h => h.elim
/-- a value that has come, as one that is looked at; as one that is kept -/
theorem ValR.toB {bw o : Bool} {v : V} {d : D} {H0 : Hp} (S : Sim F (Plus Uo (Tmp o v)) m env σ st H) (r : ValR F bw o (MuOf (Plus Uo (Tmp o v)) env σ m st.length) m st.length H0 H v d) : RepB F (MuOf Uo env σ m st.length) m st.length H v d := by
  have L : Mov (MuOf (Plus Uo (Tmp o v)) env σ m st.length) (MuOf Uo env σ m st.length) m m st.length st.length H H := Mov.less (MuOf.sub fun _ z => .inl z)
  cases o with
  | true =>
    obtain ⟨a, xs, vs, rfl, rfl, h1, h2, h3⟩ := r.1 rfl
    exact ⟨a, vs, rfl, .inl h1, fun z => S.usto a z (.inr ⟨rfl, rfl⟩), Reps.mov L h2⟩
  | false =>
    cases bw with
    | false => exact Rep.toB (fun _ => StoAt.mu) (Rep.mov L (r.2.1 rfl rfl))
    | true =>
      have q := r.2.2 rfl rfl
      cases d with
      | lst xs =>
        obtain ⟨a, vs, e, hq, hs, hr⟩ := q
        exact ⟨a, vs, e, hq, hs, Reps.mov L hr⟩
      | _ => exact Rep.mov L q
theorem ValR.toRep {o : Bool} {v : V} {d : D} {H0 : Hp} (hu : ∀ a, Uo a → H0 a ≠ none) (S : Sim F (Plus Uo (Tmp o v)) m env σ st H) (r : ValR F false o (MuOf (Plus Uo (Tmp o v)) env σ m st.length) m st.length H0 H v d) : Rep F (MuOf Uo env σ m st.length) m st.length H v d := by
  have L : Mov (MuOf (Plus Uo (Tmp o v)) env σ m st.length) (MuOf Uo env σ m st.length) m m st.length st.length H H := Mov.less (MuOf.sub fun _ z => .inl z)
  cases o with
  | true =>
    obtain ⟨a, xs, vs, rfl, rfl, h1, h2, h3⟩ := r.1 rfl
    refine ⟨a, vs, rfl, .inl h1, fun z => ?_, Reps.mov L h2⟩
    -- a is nobody else's
    rcases z with z | z | z
    · exact hu a z h3
    · exact (S.osto a z).1 (.inr ⟨rfl, rfl⟩)
    · exact S.usto a z (.inr ⟨rfl, rfl⟩)
  | false => exact Rep.mov L (r.2.1 rfl rfl)
end
end Pi

set_option maxRecDepth 100000
/-! PiC: outcomes composed; new objects. -/
namespace Pi
open PySem PySem.Spec L2

/-- what an exception promises -/
def PostX (F : Fx) (Uo : Addr → Prop) (env : Env) (σ : SL) (m : Nat → Addr) (n : Nat) (H : Hp) (W : WX) (c : Nat) (x : D) (env' : Env) (st' : Sto) : Prop :=
  ∀ cls dd m' H', Step noCh env σ m n H env' σ m' st'.length H' → Sim F Uo m' env' σ st' H' → ExcV F c x cls dd H' → W cls dd σ H'

/-- promises that go on from state to state within an expression -/
structure Closed {β : Type} (F : Fx) (Uo : Addr → Prop) (σ : SL) (W : WX) (P : Env → (Nat → Addr) → Nat → Hp → R β → Prop) : Prop where
  no : ∀ env m n H, ¬ P env m n H .no
  ex : ∀ env m n H c x env' st', P env m n H (.ex c x env' st') → PostX F Uo env σ m n H W c x env' st'
  step : ∀ env m n H env1 m1 n1 H1 r, Step noCh env σ m n H env1 σ m1 n1 H1 → P env m n H r → P env1 m1 n1 H1 r

section
variable {F : Fx} {Uo : Addr → Prop} {env env1 : Env} {σ : SL} {m m1 : Nat → Addr} {n n1 : Nat} {H H1 : Hp} {W : WX} {st st1 : Sto} {bw : Bool}
theorem PostX.step {c x env' st'} (p : Step noCh env σ m n H env1 σ m1 n1 H1) (h : PostX F Uo env σ m n H W c x env' st') : PostX F Uo env1 σ m1 n1 H1 W c x env' st' :=
  fun cls dd m' H' q S e => h cls dd m' H' (p.transE q) S e
theorem ValR.from {o : Bool} {Mu : Addr → Prop} {v : V} {d : D} {Ha Hb H : Hp} (th : ∀ a, Ha a ≠ none → Hb a ≠ none) (r : ValR F bw o Mu m n Hb H v d) : ValR F bw o Mu m n Ha H v d :=
  ⟨fun e => let ⟨a, xs, vs, h1, h2, h3, h4, h5⟩ := r.1 e; ⟨a, xs, vs, h1, h2, h3, h4, by
    cases q : Ha a with
    | none => rfl
    | some o => exact absurd h5 (th a (by rw [q]; simp))⟩, r.2.1, r.2.2⟩
theorem closedE {Q : VK} : Closed F Uo σ W fun env m n H r => PostE F Uo env σ m n H W bw Q r where
  no := fun _ _ _ _ h => h
  ex := fun _ _ _ _ _ _ _ _ h => h
  step := fun env m n H env1 m1 n1 H1 r p h => by
    cases r with
    | no => exact h
    | ex c x env' st' => exact PostX.step p h
    | ok a env' st' => exact fun v m' H' q S r => h v m' H' (p.transE q) S (r.from p.th)
theorem closedL {Q : List V → Hp → Prop} : Closed F Uo σ W fun env m n H r => PostL F Uo env σ m n H W bw Q r where
  no := fun _ _ _ _ h => h
  ex := fun _ _ _ _ _ _ _ _ h => h
  step := fun env m n H env1 m1 n1 H1 r p h => by
    cases r with
    | no => exact h
    | ex c x env' st' => exact PostX.step p h
    | ok a env' st' => exact fun v m' H' q S r => h v m' H' (p.transE q) S r
theorem closedG {α β : Type} {rel : β → α → Prop} {Q : β → Hp → Prop} : Closed F Uo σ W fun env m n H r => PostG F Uo env σ m n H W rel Q r where
  no := fun _ _ _ _ h => h
  ex := fun _ _ _ _ _ _ _ _ h => h
  step := fun env m n H env1 m1 n1 H1 r p h => by
    cases r with
    | no => exact h
    | ex c x env' st' => exact PostX.step p h
    | ok a env' st' => exact fun v m' H' q S r => h v m' H' (p.transE q) S r
theorem stepES {env2 : Env} {σ2 : SL} {m2 : Nat → Addr} {n2 : Nat} {H2 : Hp} (p : Step noCh env σ m n H env1 σ m1 n1 H1) (q : Step (OwnAt env1 σ) env1 σ m1 n1 H1 env2 σ2 m2 n2 H2) : Step (OwnAt env σ) env σ m n H env2 σ2 m2 n2 H2 := Step.transS p.wide q
theorem closedS {D0 : Ends} : Closed F Uo σ W fun env m n H r => PostS F Uo env σ m n H W D0 r where
  no := fun _ _ _ _ h => h
  ex := fun _ _ _ _ _ _ _ _ h => fun cls dd m' H' p S e => h cls dd σ m' H' p.wide S e
  step := fun env m n H env1 m1 n1 H1 r p h => by
    cases r with
    | no => exact h
    | ex c x env' st' => exact fun cls dd σ' m' H' q S e => h cls dd σ' m' H' (stepES p q) S e
    | ok f env' st' =>
      cases f with
      | nx => exact fun σ' m' H' q S => h σ' m' H' (stepES p q) S
      | brk => exact fun σ' m' H' q S => h σ' m' H' (stepES p q) S
      | ct => exact fun σ' m' H' q S => h σ' m' H' (stepES p q) S
      | ret d o =>
        refine fun v σ' m' H' q S r1 r2 => h v σ' m' H' (stepES p q) S (fun e => ?_) r2
        obtain ⟨a, xs, vs, h1, h2, h3, h4, h5⟩ := r1 e
        refine ⟨a, xs, vs, h1, h2, h3, h4, ?_⟩
        rcases h5 with h5 | h5
        · refine .inl ?_
          cases q : H a with
          | none => rfl
          | some o => exact absurd h5 (p.th a (by rw [q]; simp))
        · exact (p.own a h5).symm

/-- an expression, then what follows -/
theorem bindE {β : Type} {P : Env → (Nat → Addr) → Nat → Hp → R β → Prop} (hP : Closed F Uo σ W P) {r : R (D × Bool)} {f : D × Bool → Env → Sto → R β} {bw' : Bool} {Q1 : VK} (h : P env m n H (r.bind f))
    (k : ∀ v d o m1 env1 st1 H1, Step noCh env σ m n H env1 σ m1 st1.length H1 → Sim F (Plus Uo (Tmp o v)) m1 env1 σ st1 H1 → ValR F bw' o (MuOf (Plus Uo (Tmp o v)) env1 σ m1 st1.length) m1 st1.length H H1 v d →
      P env1 m1 st1.length H1 (f (d, o) env1 st1) → Q1 v H1) : PostE F Uo env σ m n H W bw' Q1 r := by
  cases r with
  | no => exact hP.no _ _ _ _ h
  | ex c x env' st' => exact hP.ex _ _ _ _ _ _ _ _ h
  | ok p env' st' => exact fun v m' H' q S r => k v p.1 p.2 m' env' st' H' q S r (hP.step _ _ _ _ _ _ _ _ _ q h)
theorem bindL {β : Type} {P : Env → (Nat → Addr) → Nat → Hp → R β → Prop} (hP : Closed F Uo σ W P) {r : R (List D)} {f : List D → Env → Sto → R β} {bw' : Bool} {Q1 : List V → Hp → Prop} (h : P env m n H (r.bind f))
    (k : ∀ vs ds m1 env1 st1 H1, Step noCh env σ m n H env1 σ m1 st1.length H1 → Sim F Uo m1 env1 σ st1 H1 → (bw' = false → Reps F (MuOf Uo env1 σ m1 st1.length) m1 st1.length H1 vs ds) → RepBs F (MuOf Uo env1 σ m1 st1.length) m1 st1.length H1 vs ds →
      P env1 m1 st1.length H1 (f ds env1 st1) → Q1 vs H1) : PostL F Uo env σ m n H W bw' Q1 r := by
  cases r with
  | no => exact hP.no _ _ _ _ h
  | ex c x env' st' => exact hP.ex _ _ _ _ _ _ _ _ h
  | ok p env' st' => exact fun vs m' H' q S r1 r2 => k vs p m' env' st' H' q S r1 r2 (hP.step _ _ _ _ _ _ _ _ _ q h)
theorem bindG {α γ β : Type} {P : Env → (Nat → Addr) → Nat → Hp → R β → Prop} (hP : Closed F Uo σ W P) {r : R α} {f : α → Env → Sto → R β} {rel : γ → α → Prop} {Q1 : γ → Hp → Prop} (h : P env m n H (r.bind f))
    (k : ∀ b a m1 env1 st1 H1, Step noCh env σ m n H env1 σ m1 st1.length H1 → Sim F Uo m1 env1 σ st1 H1 → rel b a → P env1 m1 st1.length H1 (f a env1 st1) → Q1 b H1) : PostG F Uo env σ m n H W rel Q1 r := by
  cases r with
  | no => exact hP.no _ _ _ _ h
  | ex c x env' st' => exact hP.ex _ _ _ _ _ _ _ _ h
  | ok p env' st' => exact fun b m' H' q S r1 => k b p m' env' st' H' q S r1 (hP.step _ _ _ _ _ _ _ _ _ q h)

/-! ### ends -/
theorem Sim.plusF {v : V} (S : Sim F Uo m env σ st H) : Sim F (Plus Uo (Tmp false v)) m env σ st H := S.less fun a z => z.elim (fun z => z) fun z => absurd z.1 (by simp)
theorem muF {v : V} {a : Addr} : MuOf (Plus Uo (Tmp false v)) env σ m n a → MuOf Uo env σ m n a := fun z => z.imp (fun z => z.elim (fun z => z) fun z => absurd z.1 (by simp)) fun z => z
theorem Rep.plusF {v w : V} {d : D} (r : Rep F (MuOf Uo env σ m n) m n H v d) : Rep F (MuOf (Plus Uo (Tmp false w)) env σ m n) m n H v d := Rep.mov (Mov.less fun _ z => muF z) r
theorem RepB.plusF {v w : V} {d : D} (r : RepB F (MuOf Uo env σ m n) m n H v d) : RepB F (MuOf (Plus Uo (Tmp false w)) env σ m n) m n H v d := by
  cases d with
  | lst xs =>
    obtain ⟨a, vs, e, h1, h2, h3⟩ := r
    exact ⟨a, vs, e, h1, h2, Reps.mov (Mov.less fun _ z => muF z) h3⟩
  | _ => exact Rep.plusF r
/-- a value that is kept, as it is -/
theorem PostE.here {d : D} {v : V} {Q : VK} (S : Sim F Uo m env σ st H) (h : PostE F Uo env σ m st.length H W bw Q (.ok (d, false) env st)) (r : Rep F (MuOf Uo env σ m st.length) m st.length H v d) : Q v H :=
  h v m H Step.refl S.plusF ⟨fun e => absurd e (by simp), fun _ _ => Rep.plusF r, fun _ _ => Rep.toB (fun _ => StoAt.mu) (Rep.plusF r)⟩
theorem PostE.hereB {d : D} {v : V} {Q : VK} (S : Sim F Uo m env σ st H) (h : PostE F Uo env σ m st.length H W true Q (.ok (d, false) env st)) (r : RepB F (MuOf Uo env σ m st.length) m st.length H v d) : Q v H :=
  h v m H Step.refl S.plusF ⟨fun e => absurd e (by simp), fun _ e => absurd e (by simp), fun _ _ => RepB.plusF r⟩
theorem upd_keep {H : Hp} {p : Addr} {u : HO} (hp : H p = none) : ∀ a o, H a = some o → upd H p u a = some o := fun a o e => by rw [upd_ne (ne_of_none e hp)]; exact e
theorem upd_th {H : Hp} {p : Addr} {u : HO} : ∀ a, H a ≠ none → upd H p u a ≠ none := fun a e => by
  unfold upd
  split
  · simp
  · exact e
/-- a new object stands somewhere -/
theorem Mov.fresh {Mu : Addr → Prop} {p : Addr} {u : HO} (hp : H p = none) : Mov Mu Mu m m n n H (upd H p u) := ⟨Nat.le_refl _, fun _ _ => rfl, fun a o e _ => upd_keep hp a o e, fun _ z => .inl z⟩
theorem Step.fresh {Ch : Addr → Prop} {p : Addr} {u : HO} (hp : H p = none) : Step Ch env σ m n H env σ m n (upd H p u) := ⟨Nat.le_refl _, fun _ _ => rfl, fun l h1 h2 => absurd (Nat.lt_of_le_of_lt h1 h2) (Nat.lt_irrefl _), fun a o e _ _ => upd_keep hp a o e, fun _ e => upd_th _ e, fun _ e => .inl e⟩
theorem Sim.fresh {p : Addr} {u : HO} (S : Sim F Uo m env σ st H) (hp : H p = none) : Sim F Uo m env σ st (upd H p u) where
  len := S.len
  inj := S.inj
  obj := fun l xs e => let ⟨vs, h1, h2⟩ := S.obj l xs e; ⟨vs, upd_keep hp _ _ h1, Reps.mov (Mov.fresh hp) h2⟩
  objD := fun l kvs e => let ⟨es, h1, h2⟩ := S.objD l kvs e; ⟨es, upd_keep hp _ _ h1, DRel.mov (Mov.fresh hp) h2⟩
  val := fun i d e => let ⟨v, h1, h2⟩ := S.val i d e; ⟨v, h1, Rep.mov (Mov.fresh hp) h2⟩
  own := fun i d e => let ⟨a, xs, vs, h1, h2, h3, h4⟩ := S.own i d e; ⟨a, xs, vs, h1, h2, upd_keep hp _ _ h3, Reps.mov (Mov.fresh hp) h4⟩
  sep := S.sep
  osto := S.osto
  usto := S.usto
  uH := fun a z => upd_th _ (S.uH a z)
  tab := LamX.Tabs.ext S.tab (upd_keep hp)
/-- who holds the fresh place: nobody -/
theorem Sim.stoH (S : Sim F Uo m env σ st H) {a : Addr} (h : StoAt m st.length a) : H a ≠ none := by
  obtain ⟨l, hl, e⟩ := h
  cases o : st[l] with
  | lst xs =>
    obtain ⟨vs, h1, _⟩ := S.obj l xs (by rw [List.getElem?_eq_getElem hl, o])
    rw [← e, h1]; simp
  | dct kvs =>
    obtain ⟨es, h1, _⟩ := S.objD l kvs (by rw [List.getElem?_eq_getElem hl, o])
    rw [← e, h1]; simp
theorem Sim.ownH (S : Sim F Uo m env σ st H) {a : Addr} (h : OwnAt env σ a) : H a ≠ none := by
  obtain ⟨i, d, h1, h2⟩ := h
  obtain ⟨b, xs, vs, _, h3, h4, _⟩ := S.own i d h1
  rw [h2] at h3
  have e : a = b := by injection h3 with h3; injection h3 with h3; injection h3
  rw [e, h4]; simp
theorem Sim.plusT {p : Addr} {vs : List V} (S : Sim F Uo m env σ st H) (hp : H p = none) : Sim F (Plus Uo (Tmp true (.ref p))) m env σ st (upd H p (.lst vs)) := by
  have T := S.fresh (u := .lst vs) hp
  have mv : Mov (MuOf Uo env σ m st.length) (MuOf (Plus Uo (Tmp true (.ref p))) env σ m st.length) m m st.length st.length H (upd H p (.lst vs)) :=
    ⟨Nat.le_refl _, fun _ _ => rfl, fun a o e _ => upd_keep hp a o e, fun a z => by
      rcases z with (z | ⟨_, z⟩) | z
      · exact .inl (.inl z)
      · cases z; exact .inr hp
      · exact .inl (.inr z)⟩
  exact {
    len := S.len
    inj := S.inj
    obj := fun l xs e => let ⟨vs, h1, h2⟩ := S.obj l xs e; ⟨vs, upd_keep hp _ _ h1, Reps.mov mv h2⟩
    objD := fun l kvs e => let ⟨es, h1, h2⟩ := S.objD l kvs e; ⟨es, upd_keep hp _ _ h1, DRel.mov mv h2⟩
    val := fun i d e => let ⟨v, h1, h2⟩ := S.val i d e; ⟨v, h1, Rep.mov mv h2⟩
    own := fun i d e => let ⟨a, xs, vs, h1, h2, h3, h4⟩ := S.own i d e; ⟨a, xs, vs, h1, h2, upd_keep hp _ _ h3, Reps.mov mv h4⟩
    sep := S.sep
    osto := fun b hb => ⟨fun z => by
      rcases z with z | ⟨_, z⟩
      · exact (S.osto b hb).1 z
      · cases z; exact S.ownH hb hp, (S.osto b hb).2⟩
    usto := fun b hb z => by
      rcases z with z | ⟨_, z⟩
      · exact S.usto b hb z
      · cases z; exact S.stoH hb hp
    uH := fun a z => by
      rcases z with z | ⟨_, z⟩
      · exact upd_th _ (S.uH a z)
      · cases z; rw [upd_same]; simp
    tab := T.tab }
/-- a new list -/
theorem PostE.newL {xs : List D} {vs : List V} {p : Addr} {Q : VK} (S : Sim F Uo m env σ st H) (h : PostE F Uo env σ m st.length H W bw Q (.ok (.lst xs, true) env st)) (hp : H p = none) (r : Reps F (MuOf Uo env σ m st.length) m st.length H vs xs) : Q (.ref p) (upd H p (.lst vs)) := by
  have mv : Mov (MuOf Uo env σ m st.length) (MuOf (Plus Uo (Tmp true (.ref p))) env σ m st.length) m m st.length st.length H (upd H p (.lst vs)) :=
    ⟨Nat.le_refl _, fun _ _ => rfl, fun a o e _ => upd_keep hp a o e, fun a z => by
      rcases z with (z | ⟨_, z⟩) | z
      · exact .inl (.inl z)
      · cases z; exact .inr hp
      · exact .inl (.inr z)⟩
  exact h (.ref p) m _ (Step.fresh hp) (S.plusT hp) ⟨fun _ => ⟨p, xs, vs, rfl, rfl, upd_same, Reps.mov mv r, hp⟩, fun e => absurd e (by simp), fun e => absurd e (by simp)⟩
/-- a new tuple -/
theorem PostE.newT {xs : List D} {vs : List V} {p : Addr} {Q : VK} (S : Sim F Uo m env σ st H) (h : PostE F Uo env σ m st.length H W bw Q (.ok (.tup xs, false) env st)) (hp : H p = none) (r : Reps F (MuOf Uo env σ m st.length) m st.length H vs xs) : Q (.ref p) (upd H p (.tup vs)) :=
  PostE.here (S.fresh hp) (closedE.step _ _ _ _ _ _ _ _ _ (Step.fresh hp) h) ⟨p, vs, rfl, .inl (.inl upd_same), Reps.mov (Mov.fresh hp) r⟩
end
end Pi

set_option maxRecDepth 100000
/-! PiD: the data's own laws: ==, <, in, sorted, as the library has them. -/
namespace Pi
open PySem PySem.Spec L2 PySem.W

mutual
theorem py_plain : ∀ d : D, (D.py d).plain = true
  | .non => rfl | .bl _ => rfl | .int _ => rfl | .str _ => rfl
  | .tup xs => by simp only [D.py, PyData.plain]; exact pys_plain xs
  | .lst xs => by simp only [D.py, PyData.plain]; exact pys_plain xs
  | .dct _ _ => rfl | .ref _ => rfl | .gl _ => rfl | .ty _ => rfl | .exc _ _ => rfl | .scr _ => rfl
theorem pys_plain : ∀ ds : List D, PyData.plainAll (D.pys ds) = true
  | [] => rfl
  | d :: ds => by simp only [D.pys, PyData.plainAll, py_plain d, pys_plain ds, Bool.and_self]
end
theorem pys_map : ∀ xs : List D, D.pys xs = xs.map D.py
  | [] => rfl
  | x :: xs => congrArg (D.py x :: ·) (pys_map xs)
mutual
theorem py_depth : ∀ d : D, (D.py d).depth = D.dep d
  | .non => rfl | .bl _ => rfl | .int _ => rfl | .str _ => rfl
  | .tup xs => by simp only [D.py, PyData.depth, D.dep, pys_depth xs]
  | .lst xs => by simp only [D.py, PyData.depth, D.dep, pys_depth xs]
  | .dct _ _ => rfl | .ref _ => rfl | .gl _ => rfl | .ty _ => rfl | .exc _ _ => rfl | .scr _ => rfl
theorem pys_depth : ∀ ds : List D, PyData.depthAll (D.pys ds) = D.deps ds
  | [] => rfl
  | d :: ds => by simp only [D.pys, PyData.depthAll, D.deps, py_depth d, pys_depth ds]
end
mutual
theorem deq_py : ∀ a b : D, D.pl a = true → D.pl b = true → deq a b = PyData.eqv (D.py a) (D.py b)
  | .non, b, _, hb => by cases b <;> first | rfl | exact absurd hb Bool.false_ne_true
  | .bl x, b, _, hb => by cases b <;> first | rfl | exact absurd hb Bool.false_ne_true
  | .int x, b, _, hb => by cases b <;> first | rfl | exact absurd hb Bool.false_ne_true
  | .str x, b, _, hb => by cases b <;> first | rfl | exact absurd hb Bool.false_ne_true
  | .tup xs, b, ha, hb => by
    cases b with
    | tup ys => simp only [deq, D.py, PyData.eqv]; exact deqs_py xs ys ha hb
    | _ => first | rfl | exact absurd hb Bool.false_ne_true
  | .lst xs, b, ha, hb => by
    cases b with
    | lst ys => simp only [deq, D.py, PyData.eqv]; exact deqs_py xs ys ha hb
    | _ => first | rfl | exact absurd hb Bool.false_ne_true
  | .dct _ _, _, ha, _ => absurd ha Bool.false_ne_true
  | .ref _, _, ha, _ => absurd ha Bool.false_ne_true
  | .gl _, _, ha, _ => absurd ha Bool.false_ne_true
  | .ty _, _, ha, _ => absurd ha Bool.false_ne_true
  | .exc _ _, _, ha, _ => absurd ha Bool.false_ne_true
  | .scr _, _, ha, _ => absurd ha Bool.false_ne_true
theorem deqs_py : ∀ xs ys : List D, D.pls xs = true → D.pls ys = true → deqs xs ys = PyData.eqvAll (D.pys xs) (D.pys ys)
  | [], [], _, _ => rfl
  | [], _ :: _, _, _ => rfl
  | _ :: _, [], _, _ => rfl
  | x :: xs, y :: ys, ha, hb => by
    obtain ⟨h1, h2⟩ := Bool.and_eq_true_iff.mp (show (D.pl x && D.pls xs) = true from ha)
    obtain ⟨h3, h4⟩ := Bool.and_eq_true_iff.mp (show (D.pl y && D.pls ys) = true from hb)
    simp only [deqs, D.pys, PyData.eqvAll, deq_py x y h1 h3, deqs_py xs ys h2 h4]
end
mutual
theorem alk_py : ∀ a b : D, alk a b = true → alike (D.py a) (D.py b) = true
  | .non, b, h => by cases b <;> exact absurd h Bool.false_ne_true
  | .bl x, b, h => by cases b <;> first | (simp only [D.py, alike]; done) | exact absurd h Bool.false_ne_true
  | .int x, b, h => by cases b <;> first | (simp only [D.py, alike]; done) | exact absurd h Bool.false_ne_true
  | .str x, b, h => by cases b <;> first | (simp only [D.py, alike]; done) | exact absurd h Bool.false_ne_true
  | .tup xs, b, h => by
    cases b with
    | tup ys => simp only [D.py, alike]; exact alks_py xs ys h
    | _ => exact absurd h Bool.false_ne_true
  | .lst xs, b, h => by
    cases b with
    | lst ys => simp only [D.py, alike]; exact alks_py xs ys h
    | _ => exact absurd h Bool.false_ne_true
  | .dct _ _, b, h => by cases b <;> exact absurd h Bool.false_ne_true
  | .ref _, b, h => by cases b <;> exact absurd h Bool.false_ne_true
  | .gl _, b, h => by cases b <;> exact absurd h Bool.false_ne_true
  | .ty _, b, h => by cases b <;> exact absurd h Bool.false_ne_true
  | .exc _ _, b, h => by cases b <;> exact absurd h Bool.false_ne_true
  | .scr _, b, h => by cases b <;> exact absurd h Bool.false_ne_true
theorem alks_py : ∀ xs ys : List D, alks xs ys = true → alikeAll (D.pys xs) (D.pys ys) = true
  | [], ys, _ => by cases ys <;> simp only [D.pys, alikeAll]
  | _ :: _, [], _ => by simp only [D.pys, alikeAll]
  | x :: xs, y :: ys, h => by
    obtain ⟨h1, h2⟩ := Bool.and_eq_true_iff.mp (show (alk x y && alks xs ys) = true from h)
    simp only [D.pys, alikeAll, alk_py x y h1, alks_py xs ys h2, Bool.and_self]
end
theorem alk_some {a b : D} (h : alk a b = true) : D.py a ≠ .none := by
  cases a <;> first | (intro z; cases z; done) | (cases b <;> exact absurd h Bool.false_ne_true)
mutual
theorem dlt_py : ∀ a b : D, D.pl a = true → D.pl b = true → alk a b = true → dlt a b = dataLt (D.py a) (D.py b)
  | .non, b, _, _, h => by cases b <;> exact absurd h Bool.false_ne_true
  | .bl x, b, _, _, h => by
    cases b with
    | bl y =>
      simp only [D.py, dlt, dataLt_bool]
      cases x <;> cases y <;> rfl
    | _ => exact absurd h Bool.false_ne_true
  | .int x, b, _, _, h => by
    cases b with
    | int y => simp only [D.py, dlt, dataLt_int]
    | _ => exact absurd h Bool.false_ne_true
  | .str x, b, _, _, h => by
    cases b with
    | str y => simp only [D.py, dlt, dataLt_str]
    | _ => exact absurd h Bool.false_ne_true
  | .tup xs, b, ha, hb, h => by
    cases b with
    | tup ys => simp only [D.py, dlt, dataLt_tuple]; exact dlts_py xs ys ha hb h
    | _ => exact absurd h Bool.false_ne_true
  | .lst xs, b, ha, hb, h => by
    cases b with
    | lst ys => simp only [D.py, dlt, dataLt_list]; exact dlts_py xs ys ha hb h
    | _ => exact absurd h Bool.false_ne_true
  | .dct _ _, _, ha, _, _ => absurd ha Bool.false_ne_true
  | .ref _, _, ha, _, _ => absurd ha Bool.false_ne_true
  | .gl _, _, ha, _, _ => absurd ha Bool.false_ne_true
  | .ty _, _, ha, _, _ => absurd ha Bool.false_ne_true
  | .exc _ _, _, ha, _, _ => absurd ha Bool.false_ne_true
  | .scr _, _, ha, _, _ => absurd ha Bool.false_ne_true
theorem dlts_py : ∀ xs ys : List D, D.pls xs = true → D.pls ys = true → alks xs ys = true → dlts xs ys = PyProof.Rows.lexLt PyProof.Rows.itemOrd (keyToksAll (D.pys xs)) (keyToksAll (D.pys ys))
  | [], [], _, _, _ => by simp only [D.pys, dlts]; exact (PyProof.Rows.lex_irrefl _).symm
  | [], y :: ys, _, _, _ => by
    simp only [D.pys, dlts, keyToksAll]
    rw [lex_atom (by simp)]
    rfl
  | x :: xs, [], _, _, _ => by
    simp only [D.pys, dlts, keyToksAll]
    rw [lex_atom (by simp)]
    rfl
  | x :: xs, y :: ys, ha, hb, h => by
    obtain ⟨h1, h2⟩ := Bool.and_eq_true_iff.mp (show (D.pl x && D.pls xs) = true from ha)
    obtain ⟨h3, h4⟩ := Bool.and_eq_true_iff.mp (show (D.pl y && D.pls ys) = true from hb)
    obtain ⟨h5, h6⟩ := Bool.and_eq_true_iff.mp (show (alk x y && alks xs ys) = true from h)
    simp only [D.pys]
    rw [dataLt_cons (alk_py x y h5)]
    simp only [dlts, deq_py x y h1 h3, dlt_py x y h1 h3 h5, dlts_py xs ys h2 h4 h6]
end
theorem dmem_py (x : D) (hx : x.pl = true) : ∀ xs : List D, D.pls xs = true → dmem x xs = (D.pys xs).any fun y => PyData.eqv y (D.py x)
  | [], _ => rfl
  | y :: ys, h => by
    obtain ⟨h1, h2⟩ := Bool.and_eq_true_iff.mp (show (D.pl y && D.pls ys) = true from h)
    simp only [dmem, D.pys, List.any_cons, deq_py y x h1 hx, dmem_py x hx ys h2]

/-! ### sorting -/
section
variable {α : Type} (le : α → α → Bool)
def insL (x : α) : List α → List α
  | [] => [x]
  | y :: ys => if le x y then x :: y :: ys else y :: insL x ys
def isoL : List α → List α
  | [] => []
  | x :: xs => insL le x (isoL xs)
variable {le}
theorem insL_mem {x y : α} : ∀ {l : List α}, y ∈ insL le x l → y = x ∨ y ∈ l
  | [], h => by simpa [insL] using h
  | z :: l, h => by
    unfold insL at h
    split at h
    · simpa using h
    · rcases List.mem_cons.mp h with h | h
      · exact .inr (by simp [h])
      · exact (insL_mem h).imp id fun h => by simp [h]
theorem insL_sorted (T : TotalLe le) (x : α) : ∀ {l : List α}, l.Pairwise (fun a b => le a b = true) → (insL le x l).Pairwise (fun a b => le a b = true)
  | [], _ => by simp [insL]
  | z :: l, h => by
    obtain ⟨h1, h2⟩ := List.pairwise_cons.mp h
    unfold insL
    split
    · rename_i hx
      refine List.pairwise_cons.mpr ⟨fun b hb => ?_, h⟩
      rcases List.mem_cons.mp hb with e | hb
      · rw [e]; exact hx
      · exact T.trans _ _ _ hx (h1 b hb)
    · rename_i hx
      refine List.pairwise_cons.mpr ⟨fun b hb => ?_, insL_sorted T x h2⟩
      rcases insL_mem hb with e | hb
      · rw [e]; exact (T.total x z).resolve_left hx
      · exact h1 b hb
theorem insL_filter (T : TotalLe le) (c x : α) : ∀ {l : List α}, (insL le x l).filter (sameRank le c) = (x :: l).filter (sameRank le c)
  | [] => by simp [insL]
  | z :: l => by
    unfold insL
    split
    · rfl
    · rename_i hx
      have ih := insL_filter T c x (l := l)
      have hz : le z x = true := (T.total x z).resolve_left hx
      by_cases px : sameRank le c x = true
      · have pz : ¬ sameRank le c z = true := fun pz => by
          unfold sameRank at px pz
          rw [Bool.and_eq_true] at px pz
          exact hx (T.trans _ _ _ px.2 pz.1)
        rw [List.filter_cons_of_neg pz, ih, List.filter_cons_of_pos px, List.filter_cons_of_pos px, List.filter_cons_of_neg pz]
      · rw [List.filter_cons_of_neg px]
        rw [List.filter_cons_of_neg px] at ih
        by_cases pz : sameRank le c z = true
        · rw [List.filter_cons_of_pos pz, List.filter_cons_of_pos pz, ih]
        · rw [List.filter_cons_of_neg pz, List.filter_cons_of_neg pz, ih]
theorem isoL_sorted (T : TotalLe le) : ∀ l : List α, (isoL le l).Pairwise (fun a b => le a b = true)
  | [] => List.Pairwise.nil
  | x :: l => insL_sorted T x (isoL_sorted T l)
theorem isoL_filter (T : TotalLe le) (c : α) : ∀ l : List α, (isoL le l).filter (sameRank le c) = l.filter (sameRank le c)
  | [] => rfl
  | x :: l => by
    unfold isoL
    rw [insL_filter T c x]
    by_cases px : sameRank le c x = true
    · rw [List.filter_cons_of_pos px, List.filter_cons_of_pos px, isoL_filter T c l]
    · rw [List.filter_cons_of_neg px, List.filter_cons_of_neg px, isoL_filter T c l]
theorem isoL_eq (T : TotalLe le) (l : List α) : isoL le l = l.mergeSort le := sort_unique T (isoL_sorted T l) fun c => isoL_filter T c l
theorem isoL_mem {y : α} : ∀ {l : List α}, y ∈ isoL le l → y ∈ l
  | [], h => h
  | x :: l, h => by
    rcases insL_mem h with e | h
    · simp [e]
    · exact List.mem_cons_of_mem _ (isoL_mem h)
end
theorem insB_eq {x : D} : ∀ {l : List D}, (∀ y ∈ l, dlt y x = dataLt (D.py y) (D.py x)) → insB x l = insL (dataLe false D.py) x l
  | [], _ => rfl
  | y :: l, h => by
    have e : dlt y x = dataLt (D.py y) (D.py x) := h y List.mem_cons_self
    have e2 : dataLe false D.py x y = !dataLt (D.py y) (D.py x) := rfl
    unfold insB insL
    rw [e, e2, insB_eq fun z hz => h z (List.mem_cons_of_mem _ hz)]
    cases dataLt (D.py y) (D.py x) <;> rfl
theorem dataLe_total : TotalLe (dataLe false D.py) := sortLe_total _ _ _
theorem isort_eq : ∀ {l : List D}, (∀ x ∈ l, ∀ y ∈ l, dlt y x = dataLt (D.py y) (D.py x)) → isort l = isoL (dataLe false D.py) l
  | [], _ => rfl
  | x :: l, h => by
    unfold isort isoL
    have ih := isort_eq (l := l) fun a ha b hb => h a (List.mem_cons_of_mem _ ha) b (List.mem_cons_of_mem _ hb)
    rw [ih, insB_eq fun y hy => h x List.mem_cons_self y (List.mem_cons_of_mem _ (isoL_mem hy))]
theorem sortable_iff {xs : List D} (h : sortable xs = true) : (∀ x ∈ xs, x.pl = true ∧ x.dep ≤ 60) ∧ ∀ x ∈ xs, ∀ y ∈ xs, alk x y = true := by
  unfold sortable at h
  rw [List.all_eq_true] at h
  have h' : ∀ x ∈ xs, (x.pl = true ∧ x.dep ≤ 60) ∧ ∀ y ∈ xs, alk x y = true := fun x hx => by
    have q := h x hx
    simp only [Bool.and_eq_true, decide_eq_true_eq, List.all_eq_true] at q
    exact q
  exact ⟨fun x hx => (h' x hx).1, fun x hx => (h' x hx).2⟩
theorem isort_merge {xs : List D} (h : sortable xs = true) : isort xs = xs.mergeSort (dataLe false D.py) := by
  obtain ⟨h1, h2⟩ := sortable_iff h
  rw [isort_eq fun x hx y hy => dlt_py y x (h1 y hy).1 (h1 x hx).1 (h2 y hy x hx)]
  exact isoL_eq dataLe_total xs
end Pi

set_option maxRecDepth 100000
set_option maxHeartbeats 1000000
/-! PiE: the operations on values. -/
namespace Pi
open PySem PySem.Spec L2

theorem szOk_le {n : Nat} (h : szOk n = true) : n ≤ sizeLine := by
  have := of_decide_eq_true h
  rw [sizeLine_eq]; omega
section
variable {F : Fx} {Mu : Addr → Prop} {m : Nat → Addr} {n : Nat} {H : Hp}
mutual
theorem rep_dp : ∀ {v : V} (d : D), Rep F Mu m n H v d → d.pl = true → Dp F.K H v (D.py d)
  | _, .non, h, _ => by rw [show _ = V.non from h]; exact .non
  | _, .bl b, h, _ => by rw [show _ = V.bl b from h]; exact .bl b
  | _, .int i, h, _ => by rw [show _ = V.int i from h]; exact .int i
  | _, .str s, h, _ => by rw [show _ = V.str s from h]; exact .str s
  | _, .tup xs, h, hp => by
    obtain ⟨a, vs, rfl, hq, hr⟩ := h
    exact .tup hq (reps_dp xs hr hp)
  | _, .lst xs, h, hp => by
    obtain ⟨a, vs, rfl, hq, _, hr⟩ := h
    exact .lst (.inl hq) (reps_dp xs hr hp)
  | _, .dct _ _, h, _ => h.elim
  | _, .ref _, _, hp => absurd hp Bool.false_ne_true
  | _, .gl _, _, hp => absurd hp Bool.false_ne_true
  | _, .ty _, _, hp => absurd hp Bool.false_ne_true
  | _, .exc _ _, _, hp => absurd hp Bool.false_ne_true
  | _, .scr _, _, hp => absurd hp Bool.false_ne_true
theorem reps_dp : ∀ {vs : List V} (ds : List D), Reps F Mu m n H vs ds → D.pls ds = true → DpAll F.K H vs (D.pys ds)
  | [], [], _, _ => .nil
  | _ :: _, d :: ds, h, hp => by
    obtain ⟨h1, h2⟩ := Bool.and_eq_true_iff.mp (show (D.pl d && D.pls ds) = true from hp)
    exact .cons (rep_dp d h.1 h1) (reps_dp ds h.2 h2)
  | [], _ :: _, h, _ => h.elim
  | _ :: _, [], h, _ => h.elim
end
theorem repB_dp {v : V} {d : D} (h : RepB F Mu m n H v d) (hp : d.pl = true) : Dp F.K H v (D.py d) := by
  cases d with
  | lst xs =>
    obtain ⟨a, vs, rfl, hq, _, hr⟩ := h
    exact .lst (.inl hq) (reps_dp xs hr hp)
  | _ => exact rep_dp (Mu := Mu) (m := m) (n := n) _ h hp
end

/-- the outcome of an operation on two values that are looked at -/
def rTwo (F : Fx) (bw : Bool) (W : WX) (f : D → D → Option (D × Bool)) : R2 := fun x y H Q => ∃ σ Uo m env st dx dy, Sim F Uo m env σ st H ∧ RepB F (MuOf Uo env σ m st.length) m st.length H x dx ∧ RepB F (MuOf Uo env σ m st.length) m st.length H y dy ∧
  PostE F Uo env σ m st.length H W bw Q (lift (f dx dy) env st)
def rOne (F : Fx) (bw : Bool) (W : WX) (f : D → Option (D × Bool)) : V → Hp → VK → Prop := fun x H Q => ∃ σ Uo m env st dx, Sim F Uo m env σ st H ∧ RepB F (MuOf Uo env σ m st.length) m st.length H x dx ∧
  PostE F Uo env σ m st.length H W bw Q (lift (f dx) env st)
def rMany (F : Fx) (bw : Bool) (W : WX) (f : List D → Option (D × Bool)) : List V → Hp → VK → Prop := fun xs H Q => ∃ σ Uo m env st ds, Sim F Uo m env σ st H ∧ RepBs F (MuOf Uo env σ m st.length) m st.length H xs ds ∧
  PostE F Uo env σ m st.length H W bw Q (lift (f ds) env st)

def BOp.op : BOp → Operator
  | .add => .Add | .sub => .Sub | .mul => .Mult | .fdiv => .FloorDiv | .mod => .Mod | .pow => .Pow
def COp.op : COp → CmpOp
  | .eq => .Eq | .ne => .NotEq | .lt => .Lt | .le => .LtE | .gt => .Gt | .ge => .GtE | .is => .Is | .isnot => .IsNot | .isin => .In | .notin => .NotIn

section
variable {X : Cx} {F : Fx} {bw : Bool} {W : WX}
theorem op_catL : OpR X (binaryOp .Add) (fun x y H Q => ∃ l b xs zs, x = .ref l ∧ y = .ref b ∧ Rd H l (.lst xs) ∧ Rd H b (.lst zs) ∧ xs.length + zs.length ≤ sizeLine ∧ ∀ p, H p = none → Q (.ref p) (upd H p (.lst (xs ++ zs)))) := by
  intro pins s σ H x y v u Q I rx ry h
  obtain ⟨l, b, xs, zs, rfl, rfl, hH, hB, hz, q⟩ := h
  cases rx
  cases ry
  obtain ⟨_, its, n, r, e⟩ := hH.ok I.hok
  obtain ⟨_, its2, n2, r2, e2⟩ := hB.ok I.hok
  have z1 := r.length
  have z2 := r2.length
  refine PySem.P.add_list e e2 ?_ (by rw [List.size_toArray, List.size_toArray]; omega)
  have ea : its.toArray ++ its2.toArray = (its ++ its2).toArray := by simp
  rw [ea]
  exact ⟨.ref _, _, I.lnew (t' := s.toks) (r.append r2) (by rw [List.length_append]; omega), rfl, q _ I.fresh⟩
theorem reps_rep {Mu : Addr → Prop} {m : Nat → Addr} {n : Nat} {H : Hp} {vs : List V} {xs : List D} (h : Reps F Mu m n H vs xs) : ∀ k, Reps F Mu m n H (List.replicate k vs).flatten (List.replicate k xs).flatten
  | 0 => trivial
  | k + 1 => by
    rw [List.replicate_succ, List.replicate_succ, List.flatten_cons, List.flatten_cons]
    exact Reps.append h (reps_rep h k)
theorem bigOk_iff {i : Int} (h : bigOk i = true) : -(2 ^ 64) < i ∧ i < 2 ^ 64 := by
  unfold bigOk at h
  rw [Bool.and_eq_true, decide_eq_true_eq, decide_eq_true_eq] at h
  exact h
theorem op_bin (hK : X.K = F.K) (o : BOp) : OpR X (binaryOp o.op) (rTwo F bw W (binop o)) := by
  intro pins s σ H x y v u Q I rx ry h
  obtain ⟨σ0, Uo, m, env, st, dx, dy, S, r1, r2, hp⟩ := h
  generalize e : binop o dx dy = r at hp
  unfold binop at e
  split at e
  · subst e
    obtain rfl : x = _ := r1
    obtain rfl : y = _ := r2
    exact op_add pins s σ H _ _ v u Q I rx ry ⟨_, _, rfl, rfl, hp.here S rfl⟩
  · subst e
    obtain rfl : x = _ := r1
    obtain rfl : y = _ := r2
    exact op_sub pins s σ H _ _ v u Q I rx ry ⟨_, _, rfl, rfl, hp.here S rfl⟩
  · split at e
    · rename_i hb
      subst e
      obtain rfl : x = _ := r1
      obtain rfl : y = _ := r2
      refine op_mul pins s σ H _ _ v u Q I rx ry ⟨_, _, rfl, rfl, ?_, hp.here S rfl⟩
      rcases Bool.or_eq_true_iff.mp hb with hb | hb
      · exact .inl (bigOk_iff hb)
      · exact .inr (bigOk_iff hb)
    · subst e; exact hp.elim
  · split at e
    · rename_i hb
      subst e
      simp only [Bool.and_eq_true, decide_eq_true_eq, Bool.not_eq_true'] at hb
      obtain ⟨⟨h1, h2⟩, h3, h4⟩ := hb
      obtain ⟨a, vs, rfl, ha, hr⟩ := r1
      obtain rfl : y = _ := r2
      have z1 := Reps.length hr
      refine op_repT pins s σ H _ _ v u Q I rx ry ⟨a, _, vs, rfl, rfl, by rw [hK]; exact ha, fun z => ?_, h3, h4, by omega, fun p hp0 => hp.newT S hp0 (reps_rep hr _)⟩
      subst z
      rename_i xs _
      cases xs with
      | nil => cases h1
      | cons _ _ => cases z1
    · subst e; exact hp.elim
  · split at e
    · rename_i hb
      subst e
      simp only [Bool.and_eq_true, decide_eq_true_eq] at hb
      obtain ⟨⟨h1, h2⟩, h3, h4⟩ := hb
      obtain rfl : x = _ := r1
      obtain rfl : y = _ := r2
      obtain ⟨t, rfl⟩ := rx
      obtain ⟨t2, rfl⟩ := ry
      rename_i z k
      have hm : z.length * k.toNat ≤ 1000 * 1000 := Nat.mul_le_mul h2 (by omega)
      have h5 : (k == 1 || z.length == 0) = false := by
        rw [Bool.or_eq_false_iff]
        exact ⟨beq_eq_false_iff_ne.mpr (by omega), beq_eq_false_iff_ne.mpr (by omega)⟩
      refine PySem.P.mul_str (by rw [decide_eq_false (by omega), decide_eq_false (by omega)]; rfl) (fun _ _ => ?_) (fun _ _ => ?_) ?_
      · have : ((2 ^ 63 - 1) / k : Int) ≥ (2 ^ 63 - 1) / 1000 := by
          refine Int.le_ediv_of_mul_le (by omega) ?_
          have : ((2 ^ 63 - 1) / 1000 : Int) * k ≤ (2 ^ 63 - 1) / 1000 * 1000 := Int.mul_le_mul_of_nonneg_left h4 (by decide)
          omega
        omega
      · unfold Builtin.Str.tooLong
        rw [sizeLine_eq]
        exact decide_eq_false (by omega)
      · rw [if_neg (by omega), h5]
        refine ⟨?_, ⟨.str _, H, I.tok _, ⟨_, rfl⟩, hp.here S rfl⟩⟩
        show (List.foldl (fun x1 x2 => x1 ++ x2) #[] (List.replicate k.toNat z.cps)).size ≤ sizeLine
        have e : z.cps = z.cps.toList.toArray := by simp
        have sr : ∀ (its : List Nat) (m : Nat) (acc : List Nat), (List.foldl (fun x1 x2 => x1 ++ x2) acc.toArray (List.replicate m its.toArray)).size = acc.length + m * its.length := by
          intro its m
          induction m with
          | zero => intro acc; simp
          | succ m ih =>
            intro acc
            rw [List.replicate_succ, List.foldl_cons]
            have : acc.toArray ++ its.toArray = (acc ++ its).toArray := by simp
            rw [this, ih, List.length_append, Nat.succ_mul]
            omega
        rw [e]
        have := sr z.cps.toList k.toNat []
        rw [show (#[] : Array Nat) = ([] : List Nat).toArray from rfl, this]
        have hl : z.cps.toList.length = z.length := by simp [Str.length]
        rw [hl, sizeLine_eq, Nat.mul_comm]
        simp only [List.length_nil]
        omega
    · subst e; exact hp.elim
  · split at e
    · rename_i hb
      subst e
      obtain rfl : x = _ := r1
      obtain rfl : y = _ := r2
      rw [Bool.and_eq_true, decide_eq_true_eq, decide_eq_true_eq] at hb
      have hb2 := hb.2
      unfold bigD at hb2
      exact op_fdivW pins s σ H _ _ v u Q I rx ry ⟨_, _, rfl, rfl, wide_div (b := 200) hb.1 (by omega) (by omega) (by omega), hp.here S rfl⟩
    · subst e; exact hp.elim
  · split at e
    · rename_i hb
      subst e
      obtain rfl : x = _ := r1
      obtain rfl : y = _ := r2
      exact op_mod pins s σ H _ _ v u Q I rx ry ⟨_, _, rfl, rfl, of_decide_eq_true hb, hp.here S rfl⟩
    · subst e; exact hp.elim
  · split at e
    · rename_i hb
      subst e
      obtain rfl : x = _ := r1
      obtain rfl : y = _ := r2
      rw [Bool.and_eq_true, Bool.and_eq_true, decide_eq_true_eq, decide_eq_true_eq] at hb
      have hb2 := bigOk_iff hb.2
      exact op_pow pins s σ H _ _ v u Q I rx ry ⟨_, _, rfl, rfl, ⟨hb.1.1, by omega, by omega⟩, hp.here S rfl⟩
    · subst e; exact hp.elim
  · split at e
    · rename_i hb
      subst e
      obtain rfl : x = _ := r1
      obtain rfl : y = _ := r2
      exact op_add_str pins s σ H _ _ v u Q I rx ry ⟨_, _, rfl, rfl, szOk_le hb, hp.here S rfl⟩
    · subst e; exact hp.elim
  · split at e
    · rename_i hb
      subst e
      obtain ⟨a, vs, rfl, ha, hr⟩ := r1
      obtain ⟨b, ws, rfl, hb', hr'⟩ := r2
      have z1 := Reps.length hr
      have z2 := Reps.length hr'
      rw [← hK] at ha hb'
      refine op_catA pins s σ H _ _ v u Q I rx ry ⟨a, b, vs, ws, rfl, rfl, ha, hb', by have := szOk_le hb; omega, fun e0 => ?_, fun _ e0 => ?_, fun _ _ p hp0 => hp.newT S hp0 (Reps.append hr hr')⟩
      · subst e0
        refine hp.here S ⟨b, ws, rfl, by rw [← hK]; exact hb', ?_⟩
        have := Reps.append hr hr'
        simpa using this
      · subst e0
        refine hp.here S ⟨a, vs, rfl, by rw [← hK]; exact ha, ?_⟩
        have := Reps.append hr hr'
        simpa using this
    · subst e; exact hp.elim
  · split at e
    · rename_i hb
      subst e
      obtain ⟨a, vs, rfl, ha, _, hr⟩ := r1
      obtain ⟨b, ws, rfl, hb', _, hr'⟩ := r2
      have z1 := Reps.length hr
      have z2 := Reps.length hr'
      exact op_catL pins s σ H _ _ v u Q I rx ry ⟨a, b, vs, ws, rfl, rfl, ha, hb', by have := szOk_le hb; omega, fun p hp0 => hp.newL S hp0 (Reps.append hr hr')⟩
    · subst e; exact hp.elim
  · subst e; exact hp.elim
theorem unT (f : D → Option (D × Bool)) (g : Value → Sem Value) (hf : ∀ d r, f d = some r → ∃ i : Int, d = .int i ∧ r = (.int (-i), false)) (hg : g = unaryOp .USub) : UnR X g (rOne F bw W f) := by
  subst hg
  intro pins s σ H x v Q I rx h
  obtain ⟨σ0, Uo, m, env, st, dx, S, r1, hp⟩ := h
  cases e : f dx with
  | none => rw [e] at hp; exact hp.elim
  | some r =>
    obtain ⟨i, rfl, rfl⟩ := hf dx r e
    rw [e] at hp
    obtain rfl : x = _ := r1
    exact un_neg pins s σ H _ v Q I rx ⟨i, rfl, hp.here S rfl⟩

/-! ### comparisons -/
mutual
theorem alk_comm : ∀ a b : D, alk a b = alk b a
  | .non, b => by cases b <;> rfl
  | .bl _, b => by cases b <;> rfl
  | .int _, b => by cases b <;> rfl
  | .str _, b => by cases b <;> rfl
  | .tup xs, b => by
    cases b with
    | tup ys => exact alks_comm xs ys
    | _ => rfl
  | .lst xs, b => by
    cases b with
    | lst ys => exact alks_comm xs ys
    | _ => rfl
  | .dct _ _, b => by cases b <;> rfl
  | .ref _, b => by cases b <;> rfl
  | .gl _, b => by cases b <;> rfl
  | .ty _, b => by cases b <;> rfl
  | .exc _ _, b => by cases b <;> rfl
  | .scr _, b => by cases b <;> rfl
theorem alks_comm : ∀ xs ys : List D, alks xs ys = alks ys xs
  | [], [] => rfl
  | [], _ :: _ => rfl
  | _ :: _, [] => rfl
  | x :: xs, y :: ys => by
    show (alk x y && alks xs ys) = (alk y x && alks ys xs)
    rw [alk_comm x y, alks_comm xs ys]
end
def cmpD (o : COp) (a b : D) : Option (D × Bool) := (cmpop o a b).map fun k => (.bl k, false)
theorem reads2 (hK : X.K = F.K) {pins : List (Addr × Obj)} {s : Shared} {σ : SL} {H : Hp} {Mu : Addr → Prop} {m : Nat → Addr} {n : Nat} {x : V} {d : D} {v : Value} (I : Inv X pins σ H s) (r : RepB F Mu m n H x d) (hp : d.pl = true) (rv : RelV x v) : ∃ as, Reads s.heap v (D.py d) as :=
  Dp.reads I _ _ _ (by rw [hK]; exact repB_dp r hp) rv
theorem unitsOk {k : Nat} (hu : X.A.units + 64 < cLine) (h : k ≤ 60) : X.A.units + k < cLine := by omega
theorem repB_non {F : Fx} {Mu : Addr → Prop} {m : Nat → Addr} {n : Nat} {H : Hp} {x : V} {d : D} (r : RepB F Mu m n H x d) (e : x = .non) : d = .non := by
  subst e
  cases d with
  | non => rfl
  | lst xs => obtain ⟨a, vs, e, _⟩ := r; cases e
  | tup xs => obtain ⟨a, vs, e, _⟩ := r; cases e
  | scr xs => obtain ⟨a, vs, e, _⟩ := r; cases e
  | dct _ _ => exact r.elim
  | exc _ _ => exact r.elim
  | ref l => have := r.2; cases this
  | bl b => exact absurd (show V.non = V.bl b from r) (by simp)
  | int b => exact absurd (show V.non = V.int b from r) (by simp)
  | str b => exact absurd (show V.non = V.str b from r) (by simp)
  | gl b => exact absurd (show V.non = V.ref (F.ga b) from r) (by simp)
  | ty b => exact absurd (show V.non = V.ty b from r) (by simp)
theorem op_cmp (hK : X.K = F.K) (hu : X.A.units + 64 < cLine) (o : COp) : OpR X (compareOp o.op) (rTwo F bw W (cmpD o)) := by
  intro pins s σ H x y v u Q I rx ry h
  obtain ⟨σ0, Uo, m, env, st, dx, dy, S, r1, r2, hp⟩ := h
  have fin : ∀ k : Bool, cmpop o dx dy = some k → EP X pins σ Q (.bool k) s := fun k e => by
    have e2 : cmpD o dx dy = some (.bl k, false) := by unfold cmpD; rw [e]; rfl
    rw [e2] at hp
    exact ⟨.bl k, H, I, rfl, hp.here S rfl⟩
  have fin2 : ∀ k : Bool, cmpop o dx dy = some k → Q (.bl k) H := fun k e => by
    have e2 : cmpD o dx dy = some (.bl k, false) := by unfold cmpD; rw [e]; rfl
    rw [e2] at hp
    exact hp.here S rfl
  cases e : cmpop o dx dy with
  | none =>
    have e2 : cmpD o dx dy = none := by unfold cmpD; rw [e]; rfl
    rw [e2] at hp
    exact hp.elim
  | some k =>
    have q := fin k e
    have q2' := fin2 k e
    clear hp fin fin2
    unfold cmpop at e
    split at e
    · split at e
      · rename_i hb
        simp only [Bool.and_eq_true, decide_eq_true_eq] at hb
        obtain ⟨⟨p1, p2⟩, p3⟩ := hb
        obtain ⟨as, q1⟩ := reads2 hK I r1 p1 rx
        obtain ⟨bs, q2⟩ := reads2 hK I r2 p2 ry
        have ek : deq dx dy = k := Option.some.inj e
        rw [← ek, deq_py _ _ p1 p2] at q
        exact SeqAt.eq_plain q1 q2 (py_plain _) (py_plain _) (by rw [py_depth, py_depth]; exact unitsOk hu p3) q
      · cases e
    · split at e
      · rename_i hb
        simp only [Bool.and_eq_true, decide_eq_true_eq] at hb
        obtain ⟨⟨p1, p2⟩, p3⟩ := hb
        obtain ⟨as, q1⟩ := reads2 hK I r1 p1 rx
        obtain ⟨bs, q2⟩ := reads2 hK I r2 p2 ry
        have ek : (!deq dx dy) = k := Option.some.inj e
        rw [← ek, deq_py _ _ p1 p2] at q
        exact SeqAt.ne_plain q1 q2 (py_plain _) (py_plain _) (by rw [py_depth, py_depth]; exact unitsOk hu p3) q
      · cases e
    · split at e
      · rename_i hb
        simp only [Bool.and_eq_true, decide_eq_true_eq] at hb
        obtain ⟨⟨⟨p1, p2⟩, p4⟩, p3⟩ := hb
        obtain ⟨as, q1⟩ := reads2 hK I r1 p1 rx
        obtain ⟨bs, q2⟩ := reads2 hK I r2 p2 ry
        have ek : dlt dx dy = k := Option.some.inj e
        rw [← ek, dlt_py _ _ p1 p2 p4] at q
        exact PySem.W.lt_data q1 q2 (alk_py _ _ p4) (alk_some p4) (by rw [py_depth, py_depth]; exact unitsOk hu p3) q
      · cases e
    · split at e
      · rename_i hb
        simp only [Bool.and_eq_true, decide_eq_true_eq] at hb
        obtain ⟨⟨⟨p1, p2⟩, p4⟩, p3⟩ := hb
        obtain ⟨as, q1⟩ := reads2 hK I r1 p1 rx
        obtain ⟨bs, q2⟩ := reads2 hK I r2 p2 ry
        have ek : (!dlt dy dx) = k := Option.some.inj e
        rw [← ek, dlt_py _ _ p2 p1 (by rw [alk_comm]; exact p4)] at q
        exact PySem.W.le_data q1 q2 (alk_py _ _ p4) (alk_some p4) (by rw [py_depth, py_depth]; exact unitsOk hu p3) q
      · cases e
    · split at e
      · rename_i hb
        simp only [Bool.and_eq_true, decide_eq_true_eq] at hb
        obtain ⟨⟨⟨p1, p2⟩, p4⟩, p3⟩ := hb
        obtain ⟨as, q1⟩ := reads2 hK I r1 p1 rx
        obtain ⟨bs, q2⟩ := reads2 hK I r2 p2 ry
        have ek : dlt dy dx = k := Option.some.inj e
        rw [← ek, dlt_py _ _ p2 p1 (by rw [alk_comm]; exact p4)] at q
        exact PySem.W.gt_data q1 q2 (alk_py _ _ p4) (alk_some p4) (by rw [py_depth, py_depth]; exact unitsOk hu p3) q
      · cases e
    · split at e
      · rename_i hb
        simp only [Bool.and_eq_true, decide_eq_true_eq] at hb
        obtain ⟨⟨⟨p1, p2⟩, p4⟩, p3⟩ := hb
        obtain ⟨as, q1⟩ := reads2 hK I r1 p1 rx
        obtain ⟨bs, q2⟩ := reads2 hK I r2 p2 ry
        have ek : (!dlt dx dy) = k := Option.some.inj e
        rw [← ek, dlt_py _ _ p1 p2 p4] at q
        exact PySem.W.ge_data q1 q2 (alk_py _ _ p4) (alk_some p4) (by rw [py_depth, py_depth]; exact unitsOk hu p3) q
      · cases e
    -- in, not in
    · split at e
      · rename_i xs hb
        simp only [Bool.and_eq_true, decide_eq_true_eq] at hb
        obtain ⟨⟨p1, p2⟩, p3⟩ := hb
        obtain ⟨as, q1⟩ := reads2 hK I r1 p1 rx
        obtain ⟨bs, q2⟩ := reads2 hK I r2 (d := .lst _) p2 ry
        have ek : dmem dx _ = k := Option.some.inj e
        rw [← ek, dmem_py _ p1 _ p2] at q
        exact SeqAt.in_list_data (by simpa only [D.py] using q2) q1 (pys_plain _) (py_plain _) (by rw [pys_depth, py_depth]; have := unitsOk (k := min (D.deps xs) dx.dep) hu p3; omega) q
      · cases e
    · split at e
      · rename_i xs hb
        simp only [Bool.and_eq_true, decide_eq_true_eq] at hb
        obtain ⟨⟨p1, p2⟩, p3⟩ := hb
        obtain ⟨as, q1⟩ := reads2 hK I r1 p1 rx
        obtain ⟨bs, q2⟩ := reads2 hK I r2 (d := .tup _) p2 ry
        have ek : dmem dx _ = k := Option.some.inj e
        rw [← ek, dmem_py _ p1 _ p2] at q
        exact SeqAt.in_tuple_data (by simpa only [D.py] using q2) q1 (pys_plain _) (py_plain _) (by rw [pys_depth, py_depth]; omega) q
      · cases e
    · split at e
      · rename_i xs hb
        simp only [Bool.and_eq_true, decide_eq_true_eq] at hb
        obtain ⟨⟨p1, p2⟩, p3⟩ := hb
        obtain ⟨as, q1⟩ := reads2 hK I r1 p1 rx
        obtain ⟨bs, q2⟩ := reads2 hK I r2 (d := .lst _) p2 ry
        have ek : (!dmem dx _) = k := Option.some.inj e
        rw [← ek, dmem_py _ p1 _ p2] at q
        exact SeqAt.notIn_list_data (by simpa only [D.py] using q2) q1 (pys_plain _) (py_plain _) (by rw [pys_depth, py_depth]; omega) q
      · cases e
    · split at e
      · rename_i xs hb
        simp only [Bool.and_eq_true, decide_eq_true_eq] at hb
        obtain ⟨⟨p1, p2⟩, p3⟩ := hb
        obtain ⟨as, q1⟩ := reads2 hK I r1 p1 rx
        obtain ⟨bs, q2⟩ := reads2 hK I r2 (d := .tup _) p2 ry
        have ek : (!dmem dx _) = k := Option.some.inj e
        rw [← ek, dmem_py _ p1 _ p2] at q
        exact SeqAt.notIn_tuple_data (by simpa only [D.py] using q2) q1 (pys_plain _) (py_plain _) (by rw [pys_depth, py_depth]; omega) q
      · cases e
    -- is, is not
    · obtain rfl : x = .non := r1
      obtain rfl : y = .non := r2
      cases e
      exact op_isN pins s σ H _ _ v u _ I rx ry ⟨rfl, by simpa using q2'⟩
    · obtain rfl : y = .non := r2
      cases e
      rename_i hne
      have hx : ¬ x = .non := fun z => hne (repB_non r1 z)
      exact op_isN pins s σ H _ _ v u _ I rx ry ⟨rfl, by simpa [hx] using q2'⟩
    · obtain rfl : x = .non := r1
      obtain rfl : y = .non := r2
      cases e
      exact op_notN pins s σ H _ _ v u _ I rx ry ⟨rfl, by simpa using q2'⟩
    · obtain rfl : y = .non := r2
      cases e
      rename_i hne
      have hx : ¬ x = .non := fun z => hne (repB_non r1 z)
      exact op_notN pins s σ H _ _ v u _ I rx ry ⟨rfl, by simpa [hx] using q2'⟩
    · cases e
end
end Pi

set_option maxRecDepth 100000
set_option maxHeartbeats 1000000
/-! PiDk: dicts of the store, at the level of the heap. -/
namespace Pi
open PySem PySem.Spec L2

/-! ### keys -/
mutual
theorem nk_depth : ∀ d : D, D.ky d = true → (nk d).depth = d.dep
  | .non, _ => rfl
  | .bl _, _ => rfl
  | .int _, _ => rfl
  | .str _, _ => rfl
  | .tup xs, h => by
    show NestedKey.depthAll (nks xs) + 1 = D.deps xs + 1
    rw [nks_depth xs h]
  | .lst _, h => absurd h Bool.false_ne_true
  | .dct _ _, h => absurd h Bool.false_ne_true
  | .ref _, h => absurd h Bool.false_ne_true
  | .gl _, h => absurd h Bool.false_ne_true
  | .ty _, h => absurd h Bool.false_ne_true
  | .exc _ _, h => absurd h Bool.false_ne_true
  | .scr _, h => absurd h Bool.false_ne_true
theorem nks_depth : ∀ ds : List D, D.kys ds = true → NestedKey.depthAll (nks ds) = D.deps ds
  | [], _ => rfl
  | d :: ds, h => by
    have h : (D.ky d && D.kys ds) = true := h
    rw [Bool.and_eq_true] at h
    show max _ _ = max _ _
    rw [nk_depth d h.1, nks_depth ds h.2]
end
mutual
theorem nk_beq : ∀ a b : D, D.ky a = true → D.ky b = true → NestedKey.beq (nk a) (nk b) = deq a b
  | .non, b, _, hb => by cases b <;> first | rfl | exact absurd hb Bool.false_ne_true
  | .bl x, b, _, hb => by
    cases b with
    | bl y => cases x <;> cases y <;> rfl
    | int j => show decide (_ = j) = (_ == j); cases x <;> rfl
    | non => rfl
    | str _ => rfl
    | tup _ => rfl
    | _ => exact absurd hb Bool.false_ne_true
  | .int i, b, _, hb => by
    cases b with
    | bl y => show decide (i = _) = (i == _); cases y <;> rfl
    | int j => rfl
    | non => rfl
    | str _ => rfl
    | tup _ => rfl
    | _ => exact absurd hb Bool.false_ne_true
  | .str x, b, _, hb => by
    cases b with
    | str y =>
      show decide (x = y) = (x == y)
      by_cases e : x = y
      · subst e; simp
      · rw [decide_eq_false e]; exact (beq_eq_false_iff_ne.mpr e).symm
    | non => rfl
    | bl _ => rfl
    | int _ => rfl
    | tup _ => rfl
    | _ => exact absurd hb Bool.false_ne_true
  | .tup xs, b, ha, hb => by
    cases b with
    | tup ys => exact nks_beq xs ys ha hb
    | non => rfl
    | bl _ => rfl
    | int _ => rfl
    | str _ => rfl
    | _ => exact absurd hb Bool.false_ne_true
  | .lst _, _, h, _ => absurd h Bool.false_ne_true
  | .dct _ _, _, h, _ => absurd h Bool.false_ne_true
  | .ref _, _, h, _ => absurd h Bool.false_ne_true
  | .gl _, _, h, _ => absurd h Bool.false_ne_true
  | .ty _, _, h, _ => absurd h Bool.false_ne_true
  | .exc _ _, _, h, _ => absurd h Bool.false_ne_true
  | .scr _, _, h, _ => absurd h Bool.false_ne_true
theorem nks_beq : ∀ xs ys : List D, D.kys xs = true → D.kys ys = true → NestedKey.beqAll (nks xs) (nks ys) = deqs xs ys
  | [], [], _, _ => rfl
  | [], _ :: _, _, _ => rfl
  | _ :: _, [], _, _ => rfl
  | x :: xs, y :: ys, h, k => by
    have h : (D.ky x && D.kys xs) = true := h
    have k : (D.ky y && D.kys ys) = true := k
    rw [Bool.and_eq_true] at h k
    show (NestedKey.beq (nk x) (nk y) && NestedKey.beqAll (nks xs) (nks ys)) = (deq x y && deqs xs ys)
    rw [nk_beq x y h.1 k.1, nks_beq xs ys h.2 k.2]
end
theorem keyOk_ky {d : D} (h : keyOk d = true) : D.ky d = true ∧ d.dep ≤ 8 := by
  cases d with
  | tup xs =>
    have h : (D.kys xs && decide ((D.tup xs).dep ≤ 8)) = true := h
    rw [Bool.and_eq_true, decide_eq_true_eq] at h
    exact h
  | _ => exact absurd h Bool.false_ne_true
theorem nk_eq {a b : D} (ha : keyOk a = true) (hb : keyOk b = true) : decide (nk a = nk b) = deq a b := by
  rw [NestedKey.decide_eq, nk_beq a b (keyOk_ky ha).1 (keyOk_ky hb).1]
section
variable {X : Cx} {F : Fx} {Mu : Addr → Prop} {m : Nat → Addr} {n : Nat} {H : Hp} {pins : List (Addr × Obj)} {σ : SL} {s : Shared}
mutual
theorem key_is (hK : X.K = F.K) (I : Inv X pins σ H s) : ∀ (d : D) {v : V} {u : Value}, Rep F Mu m n H v d → D.ky d = true → RelV v u → NestedIs s.heap (nk d) u
  | .non, _, _, r, _, e => by
    rw [show _ = V.non from r] at e
    cases e
    exact .none
  | .bl b, _, _, r, _, e => by
    rw [show _ = V.bl b from r] at e
    cases e
    exact .bool rfl
  | .int i, _, _, r, _, e => by
    rw [show _ = V.int i from r] at e
    obtain ⟨t, rfl⟩ := e
    exact .int _ _
  | .str x, _, _, r, _, e => by
    rw [show _ = V.str x from r] at e
    obtain ⟨t, rfl⟩ := e
    exact .text _ _
  | .tup xs, _, _, r, h, e => by
    obtain ⟨a, vs, rfl, hq, hr⟩ := r
    cases e
    obtain ⟨its, rv, p, hz⟩ := I.tuple (by rw [hK]; exact hq)
    obtain ⟨o, h1, h2, k, h3⟩ := (show s.heap.IsTuple a its.toArray from p)
    exact .tup h1 h2 h3 (by simpa using keys_are hK I xs hr h rv)
  | .lst _, _, _, _, h, _ => absurd h Bool.false_ne_true
  | .dct _ _, _, _, _, h, _ => absurd h Bool.false_ne_true
  | .ref _, _, _, _, h, _ => absurd h Bool.false_ne_true
  | .gl _, _, _, _, h, _ => absurd h Bool.false_ne_true
  | .ty _, _, _, _, h, _ => absurd h Bool.false_ne_true
  | .exc _ _, _, _, _, h, _ => absurd h Bool.false_ne_true
  | .scr _, _, _, _, h, _ => absurd h Bool.false_ne_true
theorem keys_are (hK : X.K = F.K) (I : Inv X pins σ H s) : ∀ (ds : List D) {vs : List V} {us : List Value}, Reps F Mu m n H vs ds → D.kys ds = true → Vals vs us → NestedAll s.heap (nks ds) us
  | [], [], _, _, _, e => by cases e; exact .nil
  | d :: ds, v :: vs, _, r, h, e => by
    have h : (D.ky d && D.kys ds) = true := h
    rw [Bool.and_eq_true] at h
    cases e with
    | cons e1 e2 => exact .cons (key_is hK I d r.1 h.1 e1) (keys_are hK I ds r.2 h.2 e2)
  | [], _ :: _, _, r, _, _ => r.elim
  | _ :: _, [], _, r, _, _ => r.elim
end
/-- data that may be a key stand as one -/
theorem keyAt (hK : X.K = F.K) (I : Inv X pins σ H s) {d : D} {v : V} {u : Value} (r : Rep F Mu m n H v d) (h : keyOk d = true) (e : RelV v u) : ∃ b, v = .ref b ∧ u = .ref b ∧ (nestedKind X.prog X.w).is s.heap (nk d) b := by
  have k := key_is hK I d r (keyOk_ky h).1 e
  cases d with
  | tup xs =>
    obtain ⟨a, vs, rfl, hq, hr⟩ := r
    cases e
    exact ⟨a, rfl, rfl, k, by show (nk (.tup xs)).depth ≤ 8; rw [nk_depth _ (keyOk_ky h).1]; exact (keyOk_ky h).2⟩
  | _ => exact absurd h Bool.false_ne_true
theorem roomK (hu : X.A.units + 64 < cLine) : (nestedKind X.prog X.w).room X.A.in1 := by show X.A.units + 1 + 8 < cLine; omega
end

/-! ### entries -/
def atE (es : List Ent) (k : NestedKey) : Option (Addr × V) := (es.find? fun x => decide (x.1 = k)).map (·.2)
def putE (es : List Ent) (k : NestedKey) (a : Addr) (v : V) : List Ent := if (atE es k).isSome then es.map (fun x => if x.1 = k then (x.1, x.2.1, v) else x) else es ++ [(k, a, v)]
def delE (es : List Ent) (k : NestedKey) : List Ent := es.filter fun x => decide (x.1 ≠ k)
/-- both there, or none -/
def Both {α β : Type} (R : α → β → Prop) : Option α → Option β → Prop
  | some a, some b => R a b
  | none, none => True
  | _, _ => False
theorem Both.isSome {α β : Type} {R : α → β → Prop} {x : Option α} {y : Option β} (h : Both R x y) : x.isSome = y.isSome := by
  cases x <;> cases y <;> first | rfl | exact h.elim
theorem EntR.length {es : List Ent} {xs : List (NestedKey × Addr × Value)} (r : EntR es xs) : es.length = xs.length := Paired.length r
theorem EntR.at {es : List Ent} {xs : List (NestedKey × Addr × Value)} (r : EntR es xs) (k : NestedKey) : Both (fun p q => p.1 = q.1 ∧ RelV p.2 q.2) (atE es k) (atKey xs k) := by
  induction r with
  | nil => exact trivial
  | @cons p q ps qs h _ ih =>
    obtain ⟨h1, h2, h3⟩ := h
    unfold atE atKey at ih ⊢
    rw [List.find?_cons, List.find?_cons, ← h1]
    by_cases e : p.1 = k
    · rw [decide_eq_true e]; exact ⟨h2, h3⟩
    · rw [decide_eq_false e]; exact ih
theorem EntR.append {es fs : List Ent} {xs ys : List (NestedKey × Addr × Value)} (r : EntR es xs) (q : EntR fs ys) : EntR (es ++ fs) (xs ++ ys) := by
  induction r with
  | nil => exact q
  | cons h _ ih => exact .cons h ih
theorem EntR.put {es : List Ent} {xs : List (NestedKey × Addr × Value)} (r : EntR es xs) (k : NestedKey) (a : Addr) {v : V} {u : Value} (e : RelV v u) : EntR (putE es k a v) (storedH xs k a u) := by
  unfold putE storedH
  rw [(r.at k).isSome]
  split
  · have key : ∀ {es : List Ent} {xs : List (NestedKey × Addr × Value)}, EntR es xs → EntR (es.map fun x => if x.1 = k then (x.1, x.2.1, v) else x) (xs.map (putAt k u)) := by
      intro es xs r
      induction r with
      | nil => exact .nil
      | @cons p q ps qs h _ ih =>
        obtain ⟨h1, h2, h3⟩ := h
        refine .cons ?_ ih
        unfold putAt
        dsimp only
        by_cases z : p.1 = k
        · rw [if_pos z, if_pos (h1 ▸ z)]
          exact ⟨h1, h2, e⟩
        · rw [if_neg z, if_neg (fun y => z (h1.trans y))]
          exact ⟨h1, h2, h3⟩
    exact key r
  · exact r.append (.cons ⟨rfl, rfl, e⟩ .nil)
theorem EntR.del {es : List Ent} {xs : List (NestedKey × Addr × Value)} (r : EntR es xs) (k : NestedKey) : EntR (delE es k) (withoutH xs k) := by
  unfold delE withoutH
  induction r with
  | nil => exact .nil
  | @cons p q ps qs h _ ih =>
    rw [List.filter_cons, List.filter_cons, ← h.1]
    split
    · exact .cons h ih
    · exact ih
section
variable {F : Fx} {Mu : Addr → Prop} {m : Nat → Addr} {n : Nat} {H : Hp}
theorem DRel.at : ∀ {es : List Ent} {kvs : List (D × D)} {k : D}, DRel F Mu m n H es kvs → keyOk k = true → Both (fun p d => Rep F Mu m n H p.2 d) (atE es (nk k)) (dkAt kvs k)
  | [], [], _, _, _ => trivial
  | e :: es, p :: ps, k, h, hk => by
    obtain ⟨⟨h1, h2, h3, h4⟩, h5⟩ := h
    have ih := DRel.at h5 hk
    unfold atE dkAt at ih ⊢
    rw [List.find?_cons, List.find?_cons, ← h2, nk_eq h1 hk]
    cases deq p.1 k with
    | true => exact h4
    | false => exact ih
  | [], _ :: _, _, h, _ => h.elim
  | _ :: _, [], _, h, _ => h.elim
theorem dkHas_at {k : D} : ∀ kvs : List (D × D), dkHas kvs k = (dkAt kvs k).isSome
  | [] => rfl
  | p :: ps => by
    have ih := dkHas_at (k := k) ps
    unfold dkHas dkAt at ih ⊢
    rw [List.any_cons, List.find?_cons]
    cases deq p.1 k with
    | true => rfl
    | false => exact ih
theorem DRel.append : ∀ {es fs : List Ent} {kvs lvs : List (D × D)}, DRel F Mu m n H es kvs → DRel F Mu m n H fs lvs → DRel F Mu m n H (es ++ fs) (kvs ++ lvs)
  | [], _, [], _, _, h => h
  | _ :: _, _, _ :: _, _, h, k => ⟨h.1, DRel.append h.2 k⟩
  | [], _, _ :: _, _, h, _ => h.elim
  | _ :: _, _, [], _, h, _ => h.elim
theorem DRel.put {es : List Ent} {kvs : List (D × D)} {k y : D} {b : Addr} {v : V} (r : DRel F Mu m n H es kvs) (hk : keyOk k = true) (rk : Rep F Mu m n H (.ref b) k) (ry : Rep F Mu m n H v y) : DRel F Mu m n H (putE es (nk k) b v) (dkPut kvs k y) := by
  unfold putE dkPut
  rw [dkHas_at, (r.at hk).isSome]
  split
  · have key : ∀ {es : List Ent} {kvs : List (D × D)}, DRel F Mu m n H es kvs → DRel F Mu m n H (es.map fun x => if x.1 = nk k then (x.1, x.2.1, v) else x) (kvs.map fun p => if deq p.1 k = true then (p.1, y) else p) := by
      intro es
      induction es with
      | nil => intro kvs r; cases kvs with
        | nil => exact trivial
        | cons _ _ => exact r.elim
      | cons e es ih =>
        intro kvs r
        cases kvs with
        | nil => exact r.elim
        | cons p ps =>
          obtain ⟨⟨h1, h2, h3, h4⟩, h5⟩ := r
          refine ⟨?_, ih h5⟩
          have q := nk_eq h1 hk
          rw [h2] at q
          by_cases z : e.1 = nk k
          · rw [decide_eq_true z] at q
            dsimp only
            rw [if_pos z, if_pos q.symm]
            exact ⟨h1, h2, h3, ry⟩
          · rw [decide_eq_false z] at q
            dsimp only
            rw [if_neg z, if_neg (by rw [← q]; exact Bool.false_ne_true)]
            exact ⟨h1, h2, h3, h4⟩
    exact key r
  · exact r.append ⟨⟨hk, rfl, rk, ry⟩, trivial⟩
theorem DRel.del {k : D} (hk : keyOk k = true) : ∀ {es : List Ent} {kvs : List (D × D)}, DRel F Mu m n H es kvs → DRel F Mu m n H (delE es (nk k)) (dkDel kvs k)
  | [], [], _ => trivial
  | e :: es, p :: ps, h => by
    obtain ⟨⟨h1, h2, h3, h4⟩, h5⟩ := h
    have ih := DRel.del hk h5
    unfold delE dkDel at ih ⊢
    have q := nk_eq h1 hk
    rw [h2] at q
    rw [List.filter_cons, List.filter_cons]
    by_cases z : e.1 = nk k
    · rw [decide_eq_true z] at q
      rw [if_neg (by simp [z]), if_neg (by rw [← q]; decide)]
      exact ih
    · rw [decide_eq_false z] at q
      rw [if_pos (by simp [z]), if_pos (by rw [← q]; rfl)]
      exact ⟨⟨h1, h2, h3, h4⟩, ih⟩
  | [], _ :: _, h => h.elim
  | _ :: _, [], h => h.elim
theorem DRel.keys : ∀ {es : List Ent} {kvs : List (D × D)}, DRel F Mu m n H es kvs → Reps F Mu m n H (es.map fun e => V.ref e.2.1) (kvs.map (·.1))
  | [], [], _ => trivial
  | _ :: _, _ :: _, h => ⟨h.1.2.2.1, DRel.keys h.2⟩
  | [], _ :: _, h => h.elim
  | _ :: _, [], h => h.elim
theorem putE_len (es : List Ent) (k : NestedKey) (a : Addr) (v : V) : (putE es k a v).length ≤ es.length + 1 := by
  unfold putE
  split
  · rw [List.length_map]; omega
  · rw [List.length_append]; exact Nat.le_refl _
theorem delE_len (es : List Ent) (k : NestedKey) : (delE es k).length ≤ es.length := List.length_filter_le _ _
end

/-! ### the dict at an address -/
section
variable {X : Cx} {F : Fx} {Mu : Addr → Prop} {m : Nat → Addr} {n : Nat} {H : Hp} {pins : List (Addr × Obj)} {σ : SL} {s : Shared} {a : Addr} {es : List Ent} {kvs : List (D × D)}
theorem dO_ok {P : Program} {w : World} {h : Heap} (x : dPhi P w a es h) : ObjOk P w H h a (dO P w a es) := by
  obtain ⟨z, hs, xs, r, o, ar, ep, h1, h2, h3, h4, h5⟩ := x
  exact ⟨⟨z, hs, xs, r, o, ar, ep, h1, h2, h3, h4, h5⟩, ⟨o, h1⟩, fun g1 g2 ⟨z, hs, xs, r, o, ar, ep, h1, h2, h3, h4, h5⟩ k => ⟨z, hs, xs, r, o, ar, ep, k _ h1, h2, h3, h4, h5⟩⟩
theorem dO_of {P : Program} {w : World} {h : Heap} (x : ObjOk P w H h a (dO P w a es)) : dPhi P w a es h := x.1
theorem dict_of (hK : X.K = F.K) (I : Inv X pins σ H s) (e : H a = some (dO X.prog X.w a es)) (r : DRel F Mu m n H es kvs) : es.length ≤ sizeLine ∧ (a == sysModules) = false ∧ ∃ xs, EntR es xs ∧ s.heap.DictOfH (nestedKind X.prog X.w) a xs := by
  obtain ⟨z, hs, xs, er, o, ar, ep, h1, h2, h3, h4, h5⟩ := dO_of (I.hok a _ e)
  refine ⟨z, hs, xs, er, o, ar, ep, h1, h2, h3, h4, ?_, h5⟩
  have all : ∀ {es : List Ent} {kvs : List (D × D)} {xs : List (NestedKey × Addr × Value)}, EntR es xs → DRel F Mu m n H es kvs → ∀ x ∈ xs, (nestedKind X.prog X.w).is s.heap x.1 x.2.1 := by
    intro es kvs xs er
    induction er generalizing kvs with
    | nil => intro _ x hx; exact nomatch hx
    | @cons p q ps qs hq t ih =>
      intro r x hx
      cases kvs with
      | nil => exact r.elim
      | cons y ys =>
        rcases List.mem_cons.mp hx with rfl | hx
        · obtain ⟨⟨h1, h2, h3, _⟩, _⟩ := r
          obtain ⟨b, e1, _, k⟩ := keyAt hK I (u := .ref p.2.1) h3 h1 rfl
          cases e1
          rw [← hq.1, ← hq.2.1, ← h2]
          exact k
        · exact ih r.2 x hx
  exact all er r
/-- a dict's object is changed -/
theorem dict_write {h' : Heap} {t' : Nat} {fs : List Ent} {xs : List (NestedKey × Addr × Value)} (I : Inv X pins σ H s) (e : H a = some (dO X.prog X.w a es)) (hs : Heap.SameBut a s.heap h') (z : fs.length ≤ sizeLine) (lo : (a == sysModules) = false) (r : EntR fs xs) (d : h'.DictOfH (nestedKind X.prog X.w) a xs) :
    Inv X pins σ (upd H a (dO X.prog X.w a fs)) { s with heap := h', toks := t' } := by
  obtain ⟨o, ar, ep, h1, h2, h3, h4, _, h5⟩ := d
  exact I.write (x := a) (e := a) (by rw [e]; exact True.intro) (.inl rfl) (fun b q hb z => (hs.2 b hb).trans z) ⟨o, h1⟩ (dO_ok ⟨z, lo, xs, r, o, ar, ep, h1, h2, h3, h4, h5⟩)
variable {k : D} {v : V} {u : Value}
theorem dk_in (hK : X.K = F.K) (hu : X.A.units + 64 < cLine) (I : Inv X pins σ H s) (e : H a = some (dO X.prog X.w a es)) (r : DRel F Mu m n H es kvs) (hk : keyOk k = true) (rk : Rep F Mu m n H v k) (ru : RelV v u) {Q : Value → Shared → Prop} {E : Value → Shared → Prop}
    (h : ∀ s', Inv X pins σ H s' → Q (.bool (dkHas kvs k)) s') : wpAny (model X.prog X.w) X.A (compareOp .In u (.ref a)) Q E s := by
  obtain ⟨z, lo, xs, er, d⟩ := dict_of hK I e r
  obtain ⟨b, rfl, rfl, kk⟩ := keyAt hK I rk hk ru
  refine wpAny_in_heap (roomK hu) kk lo d ?_
  rw [← (er.at _).isSome, (r.at hk).isSome, ← dkHas_at]
  exact h _ (I.tok _)
theorem dk_notIn (hK : X.K = F.K) (hu : X.A.units + 64 < cLine) (I : Inv X pins σ H s) (e : H a = some (dO X.prog X.w a es)) (r : DRel F Mu m n H es kvs) (hk : keyOk k = true) (rk : Rep F Mu m n H v k) (ru : RelV v u) {Q : Value → Shared → Prop} {E : Value → Shared → Prop}
    (h : ∀ s', Inv X pins σ H s' → Q (.bool (!dkHas kvs k)) s') : wpAny (model X.prog X.w) X.A (compareOp .NotIn u (.ref a)) Q E s := by
  obtain ⟨z, lo, xs, er, d⟩ := dict_of hK I e r
  obtain ⟨b, rfl, rfl, kk⟩ := keyAt hK I rk hk ru
  show wpAny _ _ (do return .bool (!(← contains (.ref a) (.ref b)))) Q E s
  refine wpAny_bind (wpAny_contains_heap (roomK hu) kk lo d (wpAny_pure ?_))
  rw [← (er.at _).isSome, (r.at hk).isSome, ← dkHas_at]
  exact h _ (I.tok _)
theorem dk_get (hK : X.K = F.K) (hu : X.A.units + 64 < cLine) (I : Inv X pins σ H s) (e : H a = some (dO X.prog X.w a es)) (r : DRel F Mu m n H es kvs) (hk : keyOk k = true) (rk : Rep F Mu m n H v k) (ru : RelV v u) {y : D} (hy : dkAt kvs k = some y) {Q : Value → Shared → Prop} {E : Value → Shared → Prop}
    (h : ∀ x x' s', Inv X pins σ H s' → Rep F Mu m n H x y → RelV x x' → Q x' s') : wpAny (model X.prog X.w) X.A (getItem (.ref a) u) Q E s := by
  obtain ⟨z, lo, xs, er, d⟩ := dict_of hK I e r
  obtain ⟨b, rfl, rfl, kk⟩ := keyAt hK I rk hk ru
  have q1 := r.at hk
  have q2 := er.at (nk k)
  rw [hy] at q1
  cases h1 : atE es (nk k) with
  | none => rw [h1] at q1; exact q1.elim
  | some p =>
    rw [h1] at q1 q2
    cases h2 : atKey xs (nk k) with
    | none => rw [h2] at q2; exact q2.elim
    | some q =>
      rw [h2] at q2
      exact wpAny_getItem_heap (roomK hu) kk d h2 (h p.2 q.2 _ (I.tok _) q1 q2.2)
theorem dk_getD (hK : X.K = F.K) (hu : X.A.units + 64 < cLine) (I : Inv X pins σ H s) (e : H a = some (dO X.prog X.w a es)) (r : DRel F Mu m n H es kvs) (hk : keyOk k = true) (rk : Rep F Mu m n H v k) (ru : RelV v u) {y : D} {z : V} {z' : Value} (rz : Rep F Mu m n H z y) (rz' : RelV z z') {Q : Value → Shared → Prop} {E : Value → Shared → Prop}
    (h : ∀ x x' s', Inv X pins σ H s' → Rep F Mu m n H x ((dkAt kvs k).getD y) → RelV x x' → Q x' s') : wpAny (model X.prog X.w) X.A (call (.builtin "dict.get") [.ref a, u, z']) Q E s := by
  obtain ⟨_, lo, xs, er, d⟩ := dict_of hK I e r
  obtain ⟨b, rfl, rfl, kk⟩ := keyAt hK I rk hk ru
  have q1 := r.at hk
  have q2 := er.at (nk k)
  refine call_meetsIn PySem.F.slot_dict_get d.typeIs PySem.F.entry_dict_get (PySem.F.args_dict_get_3 _ _ _) (meetsH_dict_get_default (nestedKind X.prog X.w) a b lo z') ⟨roomK hu, nk k, xs, kk, d, ?_⟩
  cases h1 : atE es (nk k) with
  | none =>
    rw [h1] at q1 q2
    cases h2 : atKey xs (nk k) with
    | some q => rw [h2] at q2; exact q2.elim
    | none =>
      cases h3 : dkAt kvs k with
      | some d => rw [h3] at q1; exact q1.elim
      | none => exact h z z' _ (I.tok _) (by rw [h3]; exact rz) rz'
  | some p =>
    rw [h1] at q1 q2
    cases h2 : atKey xs (nk k) with
    | none => rw [h2] at q2; exact q2.elim
    | some q =>
      rw [h2] at q2
      cases h3 : dkAt kvs k with
      | none => rw [h3] at q1; exact q1.elim
      | some d => rw [h3] at q1; exact h p.2 q.2 _ (I.tok _) (by rw [h3]; exact q1) q2.2
theorem dk_set (hK : X.K = F.K) (hu : X.A.units + 64 < cLine) (I : Inv X pins σ H s) (e : H a = some (dO X.prog X.w a es)) (r : DRel F Mu m n H es kvs) (hk : keyOk k = true) (rk : Rep F Mu m n H v k) (ru : RelV v u) {y : V} {y' : Value} (ry : RelV y y') (hz : es.length < sizeLine) {Q : Unit → Shared → Prop} {E : Value → Shared → Prop}
    (h : ∀ b s', v = .ref b → Inv X pins σ (upd H a (dO X.prog X.w a (putE es (nk k) b y))) s' → Q () s') : wpAny (model X.prog X.w) X.A (setItem (.ref a) u y') Q E s := by
  obtain ⟨z, lo, xs, er, d⟩ := dict_of hK I e r
  obtain ⟨b, rfl, rfl, kk⟩ := keyAt hK I rk hk ru
  refine wpAny_setItem_heap (hsz := by rw [← er.length]; exact z) (roomK hu) kk d fun h' d' hs => h b _ rfl (dict_write I e hs ?_ lo (er.put _ b ry) d')
  have := putE_len es (nk k) b y
  omega
theorem dk_pop (hK : X.K = F.K) (hu : X.A.units + 64 < cLine) (I : Inv X pins σ H s) (e : H a = some (dO X.prog X.w a es)) (r : DRel F Mu m n H es kvs) (hk : keyOk k = true) (rk : Rep F Mu m n H v k) (ru : RelV v u) {y : D} (hy : dkAt kvs k = some y) {Q : Value → Shared → Prop} {E : Value → Shared → Prop}
    (h : ∀ x x' s', Inv X pins σ (upd H a (dO X.prog X.w a (delE es (nk k)))) s' → Rep F Mu m n H x y → RelV x x' → Q x' s') : wpAny (model X.prog X.w) X.A (call (.builtin "dict.pop") [.ref a, u]) Q E s := by
  obtain ⟨z, lo, xs, er, d⟩ := dict_of hK I e r
  obtain ⟨b, rfl, rfl, kk⟩ := keyAt hK I rk hk ru
  have q1 := r.at hk
  have q2 := er.at (nk k)
  rw [hy] at q1
  cases h1 : atE es (nk k) with
  | none => rw [h1] at q1; exact q1.elim
  | some p =>
    rw [h1] at q1 q2
    cases h2 : atKey xs (nk k) with
    | none => rw [h2] at q2; exact q2.elim
    | some q =>
      rw [h2] at q2
      refine call_pop_heap (more := []) (hsz := by rw [← er.length]; exact z) (.inl rfl) (PySem.F.args_dict_pop_2 _ _) (roomK hu) kk lo d h2 fun h' d' hs => h p.2 q.2 _ (dict_write I e hs ?_ lo (er.del _) d') q1 q2.2
      have := delE_len es (nk k)
      omega
end
end Pi

set_option maxRecDepth 100000
set_option maxHeartbeats 1000000
/-! PiF: items, slices, calls of what is built in. -/
namespace Pi
open PySem PySem.Spec L2
open PyProof.Rows (subscriptTail)

section
variable {X : Cx} {F : Fx} {bw : Bool} {W : WX}
/-- a[i] -/
def rIxD (F : Fx) (bw : Bool) (W : WX) : R2 := fun x y H Q => ∃ σ Uo m env st dx dy, Sim F Uo m env σ st H ∧ RepB F (MuOf Uo env σ m st.length) m st.length H x dx ∧ RepB F (MuOf Uo env σ m st.length) m st.length H y dy ∧
  PostE F Uo env σ m st.length H W bw Q (lift (ixF st dx dy) env st)
theorem ix_dict (hK : X.K = F.K) (hP : X.prog = F.P ∧ X.w = F.w) (hu : X.A.units + 64 < cLine) : IxR X (fun x y H Q => ∃ a es kvs k d Mu m n, x = V.ref a ∧ H a = some (dO X.prog X.w a es) ∧ DRel F Mu m n H es kvs ∧ keyOk k = true ∧ Rep F Mu m n H y k ∧ dkAt kvs k = some d ∧ ∀ z, Rep F Mu m n H z d → Q z H) := by
  intro value slice pins s σ H x y v u Q I rx ry h hs
  obtain ⟨a, es, kvs, k, d, Mu, m, n, rfl, e, r, hk, rk, hd, q⟩ := h
  obtain rfl : v = .ref a := rx
  obtain ⟨_, lo, xs, er, dd⟩ := dict_of hK I e r
  have hT := dd.typeIs
  unfold subscriptTail
  refine wpAny_bind ?_
  rw [getitemInPython_of_ne hT.not_modules]
  refine wpAny_bind (wpAny_specialOf hT PySem.F.slot_dict_getitem.lookup ?_)
  have fin : wpAny (model X.prog X.w) X.A (subscripted slice false (.ref a) u) (fun r s₃ => wpAny (model X.prog X.w) X.A (letTemporaryGo value (.ref a) r >>= fun _ => pure r) (EP X pins σ Q) X.xe s₃) X.xe s := by
    rw [hs]
    refine wpAny_operating (dk_get hK hu I e r hk rk ry hd fun x x' s' I' rx rr => wpAny_bind (wpAny_letTemporaryGo (wpAny_pure ⟨x, H, I', rr, q x rx⟩)))
  first
    | exact wpAny_pure (wpAny_bind fin)
    | exact wpAny_bind (wpAny_pure (wpAny_bind fin))
    | exact wpAny_bind fin
theorem ix_dat (hK : X.K = F.K) (hP : X.prog = F.P ∧ X.w = F.w) (hu : X.A.units + 64 < cLine) : IxR X (rIxD F bw W) := by
  intro value slice pins s σ H x y v u Q I rx ry h hs
  obtain ⟨σ0, Uo, m, env, st, dx, dy, S, r1, r2, hp⟩ := h
  have lst : ∀ (a : Addr) (vs : List V) (xs : List D) (i : Int) (d : D), x = .ref a → y = .int i → SqL X.K H a vs → Reps F (MuOf Uo env σ0 m st.length) m st.length H vs xs → L2.atI xs i = some d → PostE F Uo env σ0 m st.length H W bw Q (.ok (d, false) env st) →
      wpAny (model X.prog X.w) X.A (subscriptTail value slice v u) (EP X pins σ Q) X.xe s := by
    intro a vs xs i d ex ey hq hr he hp
    subst ex ey
    obtain ⟨j, h1, h2, h3, h4, h5⟩ := atI_get he
    obtain ⟨w, e1, e2⟩ := Reps.get hr h2
    refine ix_list value slice pins s σ H _ _ v u Q I rx ry ⟨a, vs, i, w, rfl, rfl, hq, ?_, hp.here S e2⟩ hs
    unfold L2.atI at he ⊢
    rw [Reps.length hr]
    cases q : ixN xs.length i with
    | none => rw [q] at he; cases he
    | some j' =>
      rw [q] at he
      have hj : xs[j']? = some d := he
      obtain ⟨q1, _, _, _⟩ := ixN_seq q
      rw [q1] at h1
      cases h1
      exact e1
  cases dx with
  | ref l =>
    obtain ⟨hl, rfl⟩ := r1
    unfold ixF at hp
    dsimp only at hp
    cases e : st[l]? with
    | none => rw [e] at hp; exact hp.elim
    | some o =>
      rw [e] at hp
      cases o with
      | dct kvs =>
        obtain ⟨es, h1, h2⟩ := S.objD l kvs e
        rw [← hP.1, ← hP.2] at h1
        dsimp only at hp
        by_cases hk : keyOk dy = true
        · rw [if_pos hk] at hp
          cases q : dkAt kvs dy with
          | none => rw [q] at hp; exact hp.elim
          | some d =>
            rw [q] at hp
            have rk : Rep F (MuOf Uo env σ0 m st.length) m st.length H y dy := by
              cases dy with
              | tup _ => exact r2
              | _ => exact absurd hk Bool.false_ne_true
            exact ix_dict hK hP hu value slice pins s σ H _ _ v u Q I rx ry ⟨_, es, kvs, dy, d, _, _, _, rfl, h1, h2, hk, rk, q, fun z rz => hp.here S rz⟩ hs
        · rw [if_neg hk] at hp; exact hp.elim
      | lst xs =>
        obtain ⟨vs, h1, h2⟩ := S.obj l xs e
        cases dy with
        | int i =>
          obtain rfl : y = .int i := r2
          cases q : L2.atI xs i with
          | none =>
            have q2 : index (.lst xs) (.int i) = none := q
            simp only [q2] at hp
            exact hp.elim
          | some d =>
            have q2 : index (.lst xs) (.int i) = some d := q
            simp only [q2] at hp
            exact lst _ vs xs i d rfl rfl (.inl (.inl h1)) h2 q hp
        | _ => exact hp.elim
  | lst xs =>
    obtain ⟨a, vs, rfl, hq, _, hr⟩ := r1
    cases dy with
    | int i =>
      obtain rfl : y = .int i := r2
      cases q : L2.atI xs i with
      | none =>
        have q2 : index (.lst xs) (.int i) = none := q
        simp only [ixF, q2] at hp
        exact hp.elim
      | some d =>
        have q2 : index (.lst xs) (.int i) = some d := q
        simp only [ixF, q2] at hp
        exact lst a vs xs i d rfl rfl (.inl hq) hr q hp
    | _ => exact hp.elim
  | scr xs =>
    obtain ⟨a, vs, rfl, hq, hr⟩ := r1
    cases dy with
    | int i =>
      obtain rfl : y = .int i := r2
      cases q : L2.atI xs i with
      | none =>
        have q2 : index (.scr xs) (.int i) = none := q
        simp only [ixF, q2] at hp
        exact hp.elim
      | some d =>
        have q2 : index (.scr xs) (.int i) = some d := q
        simp only [ixF, q2] at hp
        exact lst a vs xs i d rfl rfl (.inr (by rw [hK]; exact hq)) hr q hp
    | _ => exact hp.elim
  | tup xs =>
    obtain ⟨a, vs, rfl, hq, hr⟩ := r1
    cases dy with
    | int i =>
      obtain rfl : y = .int i := r2
      cases q : L2.atI xs i with
      | none =>
        have q2 : index (.tup xs) (.int i) = none := q
        simp only [ixF, q2] at hp
        exact hp.elim
      | some d =>
        have q2 : index (.tup xs) (.int i) = some d := q
        simp only [ixF, q2] at hp
        obtain ⟨j, h1, h2, h3, h4, h5⟩ := atI_get q
        obtain ⟨w, e1, e2⟩ := Reps.get hr h2
        refine ix_tup value slice pins s σ H _ _ v u Q I rx ry ⟨a, vs, i, w, rfl, rfl, by rw [hK]; exact hq, ?_, hp.here S e2⟩ hs
        unfold L2.atI at q ⊢
        rw [Reps.length hr]
        cases q3 : ixN xs.length i with
        | none => rw [q3] at q; cases q
        | some j' =>
          rw [q3] at q
          obtain ⟨q1, _, _, _⟩ := ixN_seq q3
          rw [q1] at h1
          cases h1
          exact e1
    | _ => exact hp.elim
  | str z =>
    obtain rfl : x = .str z := r1
    cases dy with
    | int i =>
      obtain rfl : y = .int i := r2
      unfold ixF index at hp
      dsimp only at hp
      split at hp
      · rename_i hz
        cases q : L2.atI z.cps.toList i with
        | none => simp only [q] at hp; exact hp.elim
        | some c =>
          simp only [q, Option.map_some] at hp
          exact ix_str value slice pins s σ H _ _ v u Q I rx ry ⟨z, i, c, rfl, rfl, szOk_le hz, q, hp.here S rfl⟩ hs
      · exact hp.elim
    | _ =>
      exact hp.elim
  | _ => exact hp.elim

/-- a[lo:hi] -/
def rSlD (F : Fx) (bw : Bool) (W : WX) : V → Option Int → Option Int → Hp → VK → Prop := fun x lo hi H Q => ∃ σ Uo m env st dx, Sim F Uo m env σ st H ∧ RepB F (MuOf Uo env σ m st.length) m st.length H x dx ∧
  PostE F Uo env σ m st.length H W bw Q (lift (slice dx lo hi) env st)
theorem Reps.cut {Mu : Addr → Prop} {m : Nat → Addr} {n : Nat} {H : Hp} {vs : List V} {xs : List D} (r : Reps F Mu m n H vs xs) (lo hi : Option Int) : Reps F Mu m n H (cutV vs lo hi) (cutBy xs lo hi) := by
  unfold cutV cutBy
  dsimp only
  rw [Reps.length r]
  exact Reps.take _ (Reps.drop _ r)
theorem cutBy_whole {α : Type} {xs : List α} {lo hi : Option Int} (h : HT.sIx xs.length 0 lo = 0 ∧ HT.sIx xs.length xs.length hi = xs.length) : cutBy xs lo hi = xs := by
  unfold cutBy
  dsimp only
  rw [h.1, h.2]
  simp
theorem sl_dat (hK : X.K = F.K) : SlR X (rSlD F bw W) := by
  intro pins s σ H x v vl vu lo hi sl Q I rx hs pl pu h
  obtain ⟨σ0, Uo, m, env, st, dx, S, r1, hp⟩ := h
  cases dx with
  | tup xs =>
    obtain ⟨a, vs, rfl, hq, hr⟩ := r1
    have hp : PostE F Uo env σ0 m st.length H W bw Q (.ok (.tup (cutBy xs lo hi), false) env st) := hp
    refine sl_tupA pins s σ H _ v vl vu lo hi sl Q I rx hs pl pu ⟨a, vs, rfl, by rw [hK]; exact hq, fun hw => ?_, fun hw p hp0 => hp.newT S hp0 (Reps.cut hr lo hi)⟩
    rw [Reps.length hr] at hw
    rw [cutBy_whole hw] at hp
    exact hp.here S ⟨a, vs, rfl, hq, hr⟩
  | lst xs =>
    obtain ⟨a, vs, rfl, hq, _, hr⟩ := r1
    have hp : PostE F Uo env σ0 m st.length H W bw Q (.ok (.lst (cutBy xs lo hi), true) env st) := hp
    exact sl_list pins s σ H _ v vl vu lo hi sl Q I rx hs pl pu ⟨a, vs, rfl, .inl hq, fun p hp0 => hp.newL S hp0 (Reps.cut hr lo hi)⟩
  | str z =>
    obtain rfl : x = .str z := r1
    unfold slice at hp
    dsimp only at hp
    split at hp
    · rename_i hz
      exact sl_str pins s σ H _ v vl vu lo hi sl Q I rx hs pl pu ⟨z, rfl, szOk_le hz, hp.here S rfl⟩
    · exact hp.elim
  | _ => exact hp.elim

/-! ### built-in functions and types -/
/-- the value of a built-in function's name -/
def Bi.val : Bi → Value
  | .len => .builtin "len" | .int => .type "int" | .str => .type "str" | .bool => .type "bool" | .list => .type "list" | .tuple => .type "tuple"
  | .sorted => .builtin "sorted" | .sortset => .none | .all => .builtin "all" | .max1 => .builtin "max" | .max2 => .builtin "max" | .min2 => .builtin "min" | .sum => .builtin "sum"
  | .isinst => .builtin "isinstance" | .dict => .type "dict"
theorem RepBs.one {Mu : Addr → Prop} {m : Nat → Addr} {n : Nat} {H : Hp} {vs : List V} {d : D} (r : RepBs F Mu m n H vs [d]) : ∃ v, vs = [v] ∧ RepB F Mu m n H v d := by
  match vs, r with
  | [v], r => exact ⟨v, rfl, r.1⟩
  | [], r => exact r.elim
  | _ :: _ :: _, r => exact r.2.elim
theorem RepBs.two {Mu : Addr → Prop} {m : Nat → Addr} {n : Nat} {H : Hp} {vs : List V} {d e : D} (r : RepBs F Mu m n H vs [d, e]) : ∃ v w, vs = [v, w] ∧ RepB F Mu m n H v d ∧ RepB F Mu m n H w e := by
  match vs, r with
  | [v, w], r => exact ⟨v, w, rfl, r.1, r.2.1⟩
  | [_], r => exact r.2.elim
  | [], r => exact r.elim
  | _ :: _ :: _ :: _, r => exact r.2.2.elim

/-- the words for types that are asked -/
theorem kit_int_int : kitB "int" "int" = some true := by decide +kernel
theorem kit_bool_int : kitB "bool" "int" = some true := by decide +kernel
theorem kit_bool_bool : kitB "bool" "bool" = some true := by decide +kernel
theorem kit_str_str : kitB "str" "str" = some true := by decide +kernel
theorem kit_tup_tup : kitB "tuple" "tuple" = some true := by decide +kernel
theorem kit_lst_lst : kitB "list" "list" = some true := by decide +kernel
def tyNames : List String := ["int", "bool", "str", "tuple", "list"]
theorem kit_none : ∀ n ∈ tyNames, kitB "NoneType" n = some false := by decide +kernel
theorem kit_int : ∀ n ∈ ["bool", "str", "tuple", "list"], kitB "int" n = some false := by decide +kernel
theorem kit_bool : ∀ n ∈ ["str", "tuple", "list"], kitB "bool" n = some false := by decide +kernel
theorem kit_str : ∀ n ∈ ["int", "bool", "tuple", "list"], kitB "str" n = some false := by decide +kernel
theorem kit_tup : ∀ n ∈ ["int", "bool", "str", "list"], kitB "tuple" n = some false := by decide +kernel
theorem kit_lst : ∀ n ∈ ["int", "bool", "str", "tuple"], kitB "list" n = some false := by decide +kernel
theorem tyx_tup {H : Hp} {a : Addr} {vs : List V} (h : SqT X.K H a vs) : TyX X.K H (.ref a) (.type "tuple") := by
  rcases h with h | ⟨o, its, n, h1, h2, _⟩
  · rcases h with h | ⟨o, h⟩
    · exact .base (.tup h)
    · exact .fTuple h
  · exact .kTuple h1 h2
theorem tyx_lst {H : Hp} {a : Addr} {vs : List V} (h : Rd H a (.lst vs)) : TyX X.K H (.ref a) (.type "list") := by
  rcases h with h | ⟨o, h⟩
  · exact .base (.lst h)
  · exact .base (.frz h)
theorem isi_dat (hK : X.K = F.K) {G : Gl} {pins : List (Addr × Obj)} {s : Shared} {σ : SL} {H : Hp} {v w : V} {us : List Value} {Q : VK} {Mu : Addr → Prop} {m : Nat → Addr} {n : Nat} {a : D} {t : String} {b : Bool} (I : Inv X pins σ H s) (r : Vals [v, w] us)
    (ra : RepB F Mu m n H v a) (rt : w = .ty t) (e : isInst G a (.ty t) = some b) (q : Q (.bl b) H) : wpAny (model X.prog X.w) X.A (call (.builtin "isinstance") us) (EP X pins σ Q) X.xe s := by
  subst rt
  have go : ∀ (T : String), TyX X.K H v (.type T) → kitB T t = some b → wpAny (model X.prog X.w) X.A (call (.builtin "isinstance") us) (EP X pins σ Q) X.xe s := fun T hT hk =>
    call_isi pins s σ H _ us Q I r ⟨v, .ty t, .type T, .type t, b, rfl, .ty t, hT, kit_ty hk, q⟩
  unfold isInst at e
  split at e
  · rename_i h1 h2; cases h2; cases e
    obtain rfl : v = _ := ra
    exact go "int" (.base (.int _)) kit_int_int
  · rename_i h1 h2; cases h2; cases e
    obtain rfl : v = _ := ra
    exact go "bool" (.base (.bl _)) kit_bool_int
  · rename_i h1 h2; cases h2; cases e
    obtain rfl : v = _ := ra
    exact go "bool" (.base (.bl _)) kit_bool_bool
  · rename_i h1 h2; cases h2; cases e
    obtain rfl : v = _ := ra
    exact go "str" (.base (.str _)) kit_str_str
  · rename_i h1 h2; cases h2; cases e
    obtain ⟨p, vs, rfl, hq, _⟩ := ra
    exact go "tuple" (tyx_tup (by rw [hK]; exact hq)) kit_tup_tup
  · rename_i h1 h2; cases h2; cases e
    obtain ⟨p, vs, rfl, hq, _⟩ := ra
    exact go "list" (tyx_lst hq) kit_lst_lst
  · rename_i h1 h2 h3; cases h3
    split at e
    · rename_i hn
      cases e
      obtain rfl : v = _ := ra
      refine go "NoneType" (.base .non) (kit_none t ?_)
      rcases hn with rfl | rfl | rfl | rfl | rfl <;> decide
    · cases e
  · rename_i h1 h2 h3; cases h3
    split at e
    · rename_i hn
      cases e
      obtain rfl : v = _ := ra
      refine go "int" (.base (.int _)) (kit_int t ?_)
      rcases hn with rfl | rfl | rfl | rfl <;> decide
    · cases e
  · rename_i h1 h2 h3; cases h3
    split at e
    · rename_i hn
      cases e
      obtain rfl : v = _ := ra
      refine go "bool" (.base (.bl _)) (kit_bool t ?_)
      rcases hn with rfl | rfl | rfl <;> decide
    · cases e
  · rename_i h1 h2 h3; cases h3
    split at e
    · rename_i hn
      cases e
      obtain rfl : v = _ := ra
      refine go "str" (.base (.str _)) (kit_str t ?_)
      rcases hn with rfl | rfl | rfl | rfl <;> decide
    · cases e
  · rename_i h1 h2 h3; cases h3
    split at e
    · rename_i hn
      cases e
      obtain ⟨p, vs, rfl, hq, _⟩ := ra
      refine go "tuple" (tyx_tup (by rw [hK]; exact hq)) (kit_tup t ?_)
      rcases hn with rfl | rfl | rfl | rfl <;> decide
    · cases e
  · rename_i h1 h2 h3; cases h3
    split at e
    · rename_i hn
      cases e
      obtain ⟨p, vs, rfl, hq, _⟩ := ra
      refine go "list" (tyx_lst hq) (kit_lst t ?_)
      rcases hn with rfl | rfl | rfl | rfl <;> decide
    · cases e
  · exact ra.elim
  · rename_i h; cases h
  · cases e
end
end Pi

set_option maxRecDepth 100000
set_option maxHeartbeats 1000000
/-! PiG: calls of what is built in. -/
namespace Pi
open PySem PySem.Spec L2

section
variable {F : Fx} {Mu : Addr → Prop} {m : Nat → Addr} {n : Nat} {H : Hp}
theorem reps_zip : ∀ {vs : List V} {ds : List D}, Reps F Mu m n H vs ds → ∀ p ∈ vs.zip ds, Rep F Mu m n H p.1 p.2
  | [], [], _, _, hp => by simp at hp
  | v :: vs, d :: ds, h, p, hp => by
    rw [List.zip_cons_cons] at hp
    rcases List.mem_cons.mp hp with e | hp
    · rw [e]; exact h.1
    · exact reps_zip h.2 p hp
  | [], _ :: _, h, _, _ => h.elim
  | _ :: _, [], h, _, _ => h.elim
theorem reps_of : ∀ {ps : List (V × D)}, (∀ p ∈ ps, Rep F Mu m n H p.1 p.2) → Reps F Mu m n H (ps.map (·.1)) (ps.map (·.2))
  | [], _ => trivial
  | p :: ps, h => ⟨h p List.mem_cons_self, reps_of fun q hq => h q (List.mem_cons_of_mem _ hq)⟩
theorem zip_fst {α β : Type} : ∀ {xs : List α} {ys : List β}, xs.length = ys.length → (xs.zip ys).map (·.1) = xs
  | [], [], _ => rfl
  | x :: xs, y :: ys, h => by rw [List.zip_cons_cons, List.map_cons, zip_fst (by simpa using h)]
theorem zip_snd {α β : Type} : ∀ {xs : List α} {ys : List β}, xs.length = ys.length → (xs.zip ys).map (·.2) = ys
  | [], [], _ => rfl
  | x :: xs, y :: ys, h => by rw [List.zip_cons_cons, List.map_cons, zip_snd (by simpa using h)]
theorem each_vals : ∀ {bs : List (V × D)} {us : List Value}, Vals (bs.map (·.1)) us → PySem.W.EachIs (fun u (p : V × D) => RelV p.1 u) us bs
  | [], _, r => by cases r; exact .nil
  | p :: bs, _, r => by
    cases r with
    | cons r1 r2 => exact .cons r1 (each_vals r2)
theorem vals_each : ∀ {bs : List (V × D)} {us : List Value}, PySem.W.EachIs (fun u (p : V × D) => RelV p.1 u) us bs → Vals (bs.map (·.1)) us
  | [], _, .nil => .nil
  | _ :: _, _, .cons r1 r2 => .cons r1 (vals_each r2)
end

section
variable {X : Cx} {F : Fx} {bw : Bool} {W : WX}
/-- sorted(a list of data) -/
theorem sorted_dat (hK : X.K = F.K) (hu : X.A.units + 64 < cLine) {pins : List (Addr × Obj)} {s : Shared} {σ : SL} {H : Hp} {a : Addr} {vs : List V} {xs : List D} {Mu : Addr → Prop} {m : Nat → Addr} {n : Nat} {Q : Value → Shared → Prop} (I : Inv X pins σ H s)
    (hq : Rd H a (.lst vs)) (hr : Reps F Mu m n H vs xs) (hs : sortable xs = true) (hk : xs.all nonEmptyTup = true ∨ xs.all noTup = true)
    (h : ∀ (p : Addr) (ws : List V) (s' : Shared), H p = none → Reps F Mu m n H ws (isort xs) → Inv X pins σ (upd H p (.lst ws)) s' → Q (.ref p) s') : wpAny (model X.prog X.w) X.A (call (.builtin "sorted") [.ref a]) Q X.xe s := by
  obtain ⟨hz, its, c, r, e⟩ := hq.ok I.hok
  have hlen := Reps.length hr
  obtain ⟨hpl, hal⟩ := sortable_iff hs
  have hb1 : (vs.zip xs).map (·.1) = vs := zip_fst hlen
  have hb2 : (vs.zip xs).map (·.2) = xs := zip_snd hlen
  have hmem : ∀ p ∈ vs.zip xs, p.2 ∈ xs := fun p hp => by
    have : p.2 ∈ (vs.zip xs).map (·.2) := List.mem_map.mpr ⟨p, hp, rfl⟩
    rw [hb2] at this
    exact this
  have r0 : PySem.W.EachIs (fun u (p : V × D) => RelV p.1 u) its (vs.zip xs) := each_vals (by rw [hb1]; exact r)
  have rm : PySem.W.EachIs (fun u (p : V × D) => RelV p.1 u ∧ p ∈ vs.zip xs) its (vs.zip xs) := by
    have key : ∀ {us : List Value} {bs cs : List (V × D)}, PySem.W.EachIs (fun u (p : V × D) => RelV p.1 u) us bs → (∀ p ∈ bs, p ∈ cs) → PySem.W.EachIs (fun u (p : V × D) => RelV p.1 u ∧ p ∈ cs) us bs := by
      intro us bs cs z
      induction z with
      | nil => intro _; exact .nil
      | cons q _ ih => intro hc; exact .cons ⟨q, hc _ List.mem_cons_self⟩ (ih fun p hp => hc p (List.mem_cons_of_mem _ hp))
    exact key r0 fun _ hp => hp
  have er : PySem.W.EachIs (fun u (p : V × D) => ∃ as, Reads s.heap u (D.py p.2) as) its (vs.zip xs) := rm.mono fun u p hp =>
    Dp.reads I _ _ _ (by rw [hK]; exact rep_dp p.2 (reps_zip hr p hp.2) (hpl _ (hmem p hp.2)).1) hp.1
  refine PySem.W.sorted_data (R := fun u (p : V × D) => RelV p.1 u) (enc := fun p : V × D => D.py p.2) (vs := its) (bs := vs.zip xs) ⟨_, e, rfl, _, rfl⟩ r0 er ?_ ?_ ?_ ?_ fun out ho eo => ?_
  · intro d hd d' hd'
    obtain ⟨p, hp, rfl⟩ := List.mem_map.mp hd
    obtain ⟨p', hp', rfl⟩ := List.mem_map.mp hd'
    exact alk_py _ _ (hal _ (hmem p hp) _ (hmem p' hp'))
  · rcases hk with hk | hk
    · refine .inl fun d hd => ?_
      obtain ⟨p, hp, rfl⟩ := List.mem_map.mp hd
      have q := List.all_eq_true.mp hk _ (hmem p hp)
      show ∃ x r, D.py p.2 = .tuple (x :: r)
      generalize p.2 = d at q ⊢
      cases d with
      | tup ys =>
        cases ys with
        | nil => exact absurd q Bool.false_ne_true
        | cons y ys => exact ⟨_, _, rfl⟩
      | _ => exact absurd q Bool.false_ne_true
    · refine .inr fun d hd => ?_
      obtain ⟨p, hp, rfl⟩ := List.mem_map.mp hd
      have q := List.all_eq_true.mp hk _ (hmem p hp)
      have q2 := alk_some (hal _ (hmem p hp) _ (hmem p hp))
      refine ⟨q2, fun ys z => ?_⟩
      have z : D.py p.2 = .tuple ys := z
      generalize p.2 = d at q z
      cases d with
      | tup ys => exact absurd q Bool.false_ne_true
      | _ => cases z
  · rw [List.length_zip, hlen, Nat.min_self, ← hlen]; exact hz
  · intro p hp
    show X.A.units + 2 + (D.py p.2).depth < cLine
    rw [py_depth]
    have := (hpl _ (hmem p hp)).2
    omega
  · obtain ⟨c', hc'⟩ := PyProof.Rows.sortedAll_at s.heap its out.toArray
    have hm : ((vs.zip xs).mergeSort (PySem.W.dataLe false fun p : V × D => D.py p.2)).map (·.2) = isort xs := by
      rw [isort_merge hs]
      have := PySem.W.sort_maps (r := PySem.W.dataLe false fun p : V × D => D.py p.2) (s := PySem.W.dataLe false D.py) (fun p : V × D => p.2) (l := vs.zip xs) (fun a _ b _ => rfl)
      rw [hb2] at this
      exact this
    have hr' : Reps F Mu m n H (((vs.zip xs).mergeSort (PySem.W.dataLe false fun p : V × D => D.py p.2)).map (·.1)) (isort xs) := by
      rw [← hm]
      exact reps_of fun p hp => reps_zip hr p (((List.mergeSort_perm (vs.zip xs) _).mem_iff).mp hp)
    have hp0 : H (s.heap.objs.size + 1) = none := I.hok.fresh (Nat.le_succ _)
    refine h _ _ _ hp0 hr' (I.laid (t' := s.toks) (fun b o q => PyProof.Rows.sortedAll_old q) (Nat.le_succ _) ?_)
    have hl2 : ((vs.zip xs).mergeSort (PySem.W.dataLe false fun p : V × D => D.py p.2)).length = vs.length := by
      rw [List.length_mergeSort, List.length_zip, hlen, Nat.min_self]
    exact ⟨by rw [List.length_map, hl2]; exact hz, out, c', vals_each eo, hc'⟩

theorem numText_some {i : Int} {z : Str} (h : numText i = some z) : i.natAbs.log2 < 1920 ∧ z = toString i := by
  unfold numText at h
  split at h
  · rename_i hb
    rw [Bool.and_eq_true, decide_eq_true_eq, decide_eq_true_eq] at hb
    refine ⟨?_, (Option.some.inj h).symm⟩
    have h1 : i.natAbs < 2 ^ 40 := by omega
    by_cases h0 : i.natAbs = 0
    · rw [h0]; decide
    · have := (Nat.log2_lt h0 (k := 40)).mpr h1
      omega
  · cases h
theorem allD_bools {Mu : Addr → Prop} {m : Nat → Addr} {n : Nat} {H : Hp} : ∀ {vs : List V} {xs : List D} {b : Bool}, allD' xs = some b → Reps F Mu m n H vs xs → ∃ bs : List Bool, vs = bs.map V.bl ∧ bs.all id = b
  | [], [], _, h, _ => ⟨[], rfl, by cases h; rfl⟩
  | v :: vs, d :: xs, b, h, r => by
    cases d with
    | bl k =>
      obtain rfl : v = .bl k := r.1
      have h : (allD' xs).map (fun q => k && q) = some b := h
      cases e : allD' xs with
      | none => rw [e] at h; cases h
      | some q =>
        rw [e] at h
        obtain ⟨bs, rfl, hb⟩ := allD_bools e r.2
        refine ⟨k :: bs, rfl, ?_⟩
        rw [List.all_cons, hb]
        exact Option.some.inj h
    | _ => cases h
  | [], _ :: _, _, _, r => r.elim
  | _ :: _, [], _, _, r => r.elim
theorem bi_dat (hK : X.K = F.K) (hu : X.A.units + 64 < cLine) (hc : X.calm = true) {G : Gl} (hG : ∀ i d, G.xi i d = none) (b : Bi) (hb : b ≠ .sortset) : CallR X b.val (rMany F bw W (bifn G b)) := by
  intro pins s σ H xs us Q I r h
  obtain ⟨σ0, Uo, m, env, st, ds, S, rs, hp⟩ := h
  generalize e : bifn G b ds = z at hp
  unfold bifn at e
  split at e
  · -- len
    subst e
    obtain ⟨v, rfl, ra⟩ := RepBs.one rs
    obtain ⟨a, vs, rfl, hq, hr⟩ := ra
    refine call_len_seq pins s σ H _ us Q I r ⟨a, vs, rfl, .inr (by rw [hK]; exact hq), hp.here S ?_⟩
    show V.int _ = V.int _
    rw [Reps.length hr]
  · subst e
    obtain ⟨v, rfl, ra⟩ := RepBs.one rs
    obtain ⟨a, vs, rfl, hq, _, hr⟩ := ra
    refine call_len_seq pins s σ H _ us Q I r ⟨a, vs, rfl, .inl (.inl hq), hp.here S ?_⟩
    show V.int _ = V.int _
    rw [Reps.length hr]
  · split at e
    · rename_i hz
      subst e
      obtain ⟨v, rfl, ra⟩ := RepBs.one rs
      obtain rfl : v = _ := ra
      exact call_len_str pins s σ H _ us Q I r ⟨_, rfl, szOk_le hz, hp.here S rfl⟩
    · subst e; exact hp.elim
  · obtain ⟨v, rfl, ra⟩ := RepBs.one rs
    exact ra.elim
  · subst e
    obtain ⟨v, rfl, ra⟩ := RepBs.one rs
    obtain ⟨a, vs, rfl, hq, hr⟩ := ra
    refine call_len_seq pins s σ H _ us Q I r ⟨a, vs, rfl, .inl (.inr (by rw [hK]; exact hq)), hp.here S ?_⟩
    show V.int _ = V.int _
    rw [Reps.length hr]
  · -- int
    subst e
    obtain ⟨v, rfl, ra⟩ := RepBs.one rs
    obtain rfl : v = _ := ra
    exact call_int1 pins s σ H _ us Q I r (.inl ⟨_, rfl, hp.here S rfl⟩)
  · subst e
    obtain ⟨v, rfl, ra⟩ := RepBs.one rs
    obtain rfl : v = _ := ra
    exact call_int1 pins s σ H _ us Q I r (.inr ⟨_, rfl, hp.here S rfl⟩)
  · -- str
    rename_i i
    cases q : numText i with
    | none => rw [q] at e; subst e; exact hp.elim
    | some t =>
      rw [q] at e
      subst e
      obtain ⟨h1, rfl⟩ := numText_some q
      obtain ⟨v, rfl, ra⟩ := RepBs.one rs
      obtain rfl : v = _ := ra
      exact call_str_int pins s σ H _ us Q I r ⟨i, rfl, h1, hp.here S rfl⟩
  · -- bool
    subst e
    obtain ⟨v, rfl, ra⟩ := RepBs.one rs
    obtain rfl : v = _ := ra
    exact call_bool1 pins s σ H _ us Q I r (.inr ⟨_, rfl, hp.here S rfl⟩)
  · -- list
    subst e
    obtain ⟨v, rfl, ra⟩ := RepBs.one rs
    obtain ⟨a, vs, rfl, hq, hr⟩ := ra
    exact call_list_of pins s σ H _ us Q I r ⟨a, vs, rfl, .inr (by rw [hK]; exact hq), fun p h0 => hp.newL S h0 hr⟩
  · subst e
    obtain ⟨v, rfl, ra⟩ := RepBs.one rs
    obtain ⟨a, vs, rfl, hq, _, hr⟩ := ra
    exact call_list_of pins s σ H _ us Q I r ⟨a, vs, rfl, .inl (.inl hq), fun p h0 => hp.newL S h0 hr⟩
  · -- tuple
    subst e
    obtain ⟨v, rfl, ra⟩ := RepBs.one rs
    obtain ⟨a, vs, rfl, hq, hr⟩ := ra
    exact call_tuple_of pins s σ H _ us Q I r ⟨a, vs, rfl, .inr ⟨by rw [hK]; exact hq, hp.here S ⟨a, vs, rfl, hq, hr⟩⟩⟩
  · subst e
    obtain ⟨v, rfl, ra⟩ := RepBs.one rs
    obtain ⟨a, vs, rfl, hq, _, hr⟩ := ra
    exact call_tuple_of pins s σ H _ us Q I r ⟨a, vs, rfl, .inl ⟨.inl hq, fun p h0 => hp.newT S h0 hr⟩⟩
  · -- sorted
    unfold sortD at e
    split at e
    · rename_i hs
      subst e
      rw [Bool.and_eq_true, Bool.and_eq_true, Bool.or_eq_true] at hs
      obtain ⟨v, rfl, ra⟩ := RepBs.one rs
      obtain ⟨a, vs, rfl, hq, _, hr⟩ := ra
      obtain ⟨u, rfl, r1⟩ := Vals.one r
      cases r1
      exact sorted_dat hK hu I hq hr hs.1.1 hs.1.2 fun p ws s' h0 hr' I' => ⟨.ref p, _, I', rfl, hp.newL S h0 hr'⟩
    · subst e; exact hp.elim
  · exact absurd rfl hb
  · exact absurd rfl hb
  · -- all
    rename_i l
    cases q : allD' l with
    | none => rw [q] at e; subst e; exact hp.elim
    | some k =>
      rw [q] at e
      subst e
      obtain ⟨v, rfl, ra⟩ := RepBs.one rs
      obtain ⟨a, vs, rfl, hq, _, hr⟩ := ra
      obtain ⟨bs, rfl, hb2⟩ := allD_bools q hr
      exact cr_all hc pins s σ H _ us Q I r ⟨a, bs, rfl, .inl hq, by rw [hb2]; exact hp.here S rfl⟩
  · subst e
    obtain ⟨v, w, rfl, ra, rb⟩ := RepBs.two rs
    obtain rfl : v = _ := ra
    obtain rfl : w = _ := rb
    exact call_max2 hc pins s σ H _ us Q I r ⟨_, _, rfl, hp.here S rfl⟩
  · subst e
    obtain ⟨v, w, rfl, ra, rb⟩ := RepBs.two rs
    obtain rfl : v = _ := ra
    obtain rfl : w = _ := rb
    exact call_min2 hc pins s σ H _ us Q I r ⟨_, _, rfl, hp.here S rfl⟩
  · -- isinstance
    rename_i a t
    obtain ⟨v, w, rfl, ra, rb⟩ := RepBs.two rs
    cases q : isInst G a t with
    | none => rw [q] at e; subst e; exact hp.elim
    | some k =>
      rw [q] at e
      subst e
      cases t with
      | ty t => exact isi_dat hK I r ra rb q (hp.here S rfl)
      | gl c =>
        cases a with
        | exc _ _ => exact ra.elim
        | gl i =>
          have q : G.xi i c = some k := q
          rw [hG] at q
          cases q
        | _ => cases q
      | _ => cases a <;> cases q
  · subst e; exact hp.elim

/-- sep.join(xs) -/
theorem strsOf_map {Mu : Addr → Prop} {m : Nat → Addr} {n : Nat} {H : Hp} : ∀ {vs : List V} {xs : List D} {l : List Str}, strsOf xs = some l → Reps F Mu m n H vs xs → vs = l.map V.str
  | [], [], _, h, _ => by cases h; rfl
  | v :: vs, d :: xs, l, h, r => by
    cases d with
    | str z =>
      obtain rfl : v = .str z := r.1
      have h : (strsOf xs).map (fun r => z :: r) = some l := h
      cases e : strsOf xs with
      | none => rw [e] at h; cases h
      | some q =>
        rw [e] at h
        cases h
        rw [strsOf_map e r.2]; rfl
    | _ => cases h
  | [], _ :: _, _, _, r => r.elim
  | _ :: _, [], _, _, r => r.elim
end
end Pi

set_option maxRecDepth 100000
set_option maxHeartbeats 1000000
/-! PiDl: what is built in, of dicts. -/
namespace Pi
open PySem PySem.Spec L2

section
variable {X : Cx} {F : Fx} {Mu : Addr → Prop} {m : Nat → Addr} {n : Nat} {H : Hp} {pins : List (Addr × Obj)} {σ : SL} {s : Shared} {a : Addr} {es : List Ent} {kvs : List (D × D)} {bw : Bool} {W : WX}
mutual
theorem reads_lt {h : Heap} : ∀ {v : Value} {d : PyData} {as : List Addr}, Reads h v d as → ∀ a ∈ as, a < h.objs.size
  | _, _, _, .none, _, hm => nomatch hm
  | _, _, _, .bool _, _, hm => nomatch hm
  | _, _, _, .int _ _, _, hm => nomatch hm
  | _, _, _, .str _ _, _, hm => nomatch hm
  | _, _, _, .list e _ _ r, b, hm => by
    rcases List.mem_cons.mp hm with rfl | hm
    · exact Heap.lt_size e
    · exact readsAll_lt r b hm
  | _, _, _, .tuple _ _ _ r, b, hm => readsAll_lt r b hm
  | _, _, _, .dict e _ _ r q, b, hm => by
    rcases List.mem_append.mp hm with hm | hm
    · rcases List.mem_cons.mp hm with rfl | hm
      · exact Heap.lt_size e
      · exact readsAll_lt r b hm
    · exact readsAll_lt q b hm
theorem readsAll_lt {h : Heap} : ∀ {vs : List Value} {ds : List PyData} {as : List Addr}, ReadsAll h vs ds as → ∀ a ∈ as, a < h.objs.size
  | _, _, _, .nil, _, hm => nomatch hm
  | _, _, _, .cons r q, b, hm => by
    rcases List.mem_append.mp hm with hm | hm
    · exact reads_lt r b hm
    · exact readsAll_lt q b hm
end
theorem refs_vals {es : List Ent} {xs : List (NestedKey × Addr × Value)} (er : EntR es xs) : Vals (es.map fun e => V.ref e.2.1) (xs.map fun x => Value.ref x.2.1) := by
  induction er with
  | nil => exact .nil
  | @cons p q ps qs h _ ih =>
    refine .cons ?_ ih
    show Value.ref q.2.1 = Value.ref p.2.1
    rw [h.2.1]
/-- the keys that a walk over the entries gave -/
theorem keys_got {P : Program} {w : World} {xs : List (NestedKey × Addr × Value)} {ar : Array DictEntry} {acc : Array Value} (er : EntR es xs) (he : ar.toList = xs.map (entryOfKey (nestedKind P w))) (it : ItemsOf (fun i v => ∃ hi : i < ar.size, v = ar[i].key) acc ar.size) : Vals (es.map fun e => V.ref e.2.1) acc.toList := by
  have ea : acc.toList = xs.map fun x => Value.ref x.2.1 := by
    have l1 : ar.size = xs.length := size_of_entries he
    have hl : acc.toList.length = xs.length := by rw [Array.length_toList, it.1]; exact l1
    apply List.ext_getElem?
    intro j
    rw [List.getElem?_map]
    cases hj : acc.toList[j]? with
    | none =>
      have h1 := List.getElem?_eq_none_iff.mp hj
      rw [List.getElem?_eq_none (by omega)]
      all_goals rfl
    | some v =>
      obtain ⟨hi, hv⟩ := it.2 j v (by rw [← Array.getElem?_toList]; exact hj)
      have qe := entry_at he j
      rw [Array.getElem?_eq_getElem hi] at qe
      cases hb : xs[j]? with
      | none =>
        rw [hb] at qe
        exact nomatch (show some ar[j] = none from qe)
      | some b =>
        rw [hb] at qe
        have e2 : ar[j] = entryOfKey (nestedKind P w) b := Option.some.inj qe
        rw [hv, e2]
        all_goals rfl
  rw [ea]
  exact refs_vals er
/-- list(d) -/
theorem list_dict (hK : X.K = F.K) (hc : X.calm = true) (I : Inv X pins σ H s) (e : H a = some (dO X.prog X.w a es)) (r : DRel F Mu m n H es kvs) {Q : Value → Shared → Prop} {E : Value → Shared → Prop}
    (h : ∀ p s', H p = none → Inv X pins σ (upd H p (.lst (es.map fun e => V.ref e.2.1))) s' → Q (.ref p) s') : wpAny (model X.prog X.w) X.A (call (.type "list") [.ref a]) Q E s := by
  obtain ⟨z, lo, xs, er, o, ar, ep, h1, h2, h3, h4, h5, h6⟩ := dict_of hK I e r
  refine PySem.W.kdl_call (KdlSrc.rawDict (es := ar) (ep := ep) lo) (I.ok.hd hc) ⟨o, h1, h2, h3⟩ (by rw [size_of_entries h4, ← er.length]; exact z) fun h' tk acc' c' kp ea it => ?_
  have rv := keys_got er h4 it
  refine h _ _ I.fresh (I.laid (t' := tk) (o := .lst (es.map fun e => V.ref e.2.1)) kp (Nat.le_refl _) ?_)
  exact ⟨by rw [List.length_map]; exact z, acc'.toList, c', rv, by rw [Array.toArray_toList]; exact ea⟩
/-- len(d) -/
theorem len_dict (hK : X.K = F.K) (I : Inv X pins σ H s) (e : H a = some (dO X.prog X.w a es)) (r : DRel F Mu m n H es kvs) {Q : Value → Shared → Prop} {E : Value → Shared → Prop}
    (h : ∀ t s', Inv X pins σ H s' → Q (.int ((kvs.length : Nat) : Int) t) s') : wpAny (model X.prog X.w) X.A (call (.builtin "len") [.ref a]) Q E s := by
  obtain ⟨z, lo, xs, er, d⟩ := dict_of hK I e r
  have hl : kvs.length = xs.length := by rw [← r.length, er.length]
  refine call_len_dictH lo d (by rw [← er.length]; rw [sizeLine_eq] at z; omega) ?_
  rw [← hl]
  exact h _ _ (I.tok _)
/-- sorted(d) -/
theorem sorted_dict (hK : X.K = F.K) (hu : X.A.units + 64 < cLine) (hc : X.calm = true) (I : Inv X pins σ H s) (e : H a = some (dO X.prog X.w a es)) (r : DRel F Mu m n H es kvs) (hs : sortable (kvs.map (·.1)) = true) (hk : (kvs.map (·.1)).all nonEmptyTup = true ∨ (kvs.map (·.1)).all noTup = true)
    {Q : Value → Shared → Prop} {E : Value → Shared → Prop} (h : ∀ (p : Addr) (ws : List V) (s' : Shared), H p = none → Reps F Mu m n H ws (isort (kvs.map (·.1))) → Inv X pins σ (upd H p (.lst ws)) s' → Q (.ref p) s') : wpAny (model X.prog X.w) X.A (call (.builtin "sorted") [.ref a]) Q E s := by
  obtain ⟨z, lo, ys, er, o, ar, ep, h1, h2, h3, h4, h5, h6⟩ := dict_of hK I e r
  have hr := r.keys
  generalize hvs : es.map (fun e => V.ref e.2.1) = vs at hr
  generalize hxs : kvs.map (·.1) = xs at hr hs hk h
  have hzv : vs.length ≤ sizeLine := by rw [← hvs, List.length_map]; exact z
  refine PySem.Calls.call_function_entry PyProof.Rows.kind_sorted PyProof.Rows.plain_sorted PyProof.Rows.entry_sorted (PyProof.Rows.args_sorted1 _) ?_
  unfold Builtin.«sorted»
  refine wpAny_bind (m := checkCount "sorted" 1 1 _) (wpAny_pure ?_)
  have han : X.A.handled = none := I.ok.hd hc
  refine wpAny_bind (PySem.W.kdu_collect (A := X.A.in1) (KdlSrc.rawDict (es := ar) (ep := ep) lo) (by simpa using han) ⟨o, h1, h2, h3⟩ (by rw [size_of_entries h4, ← er.length]; exact z) fun h' tk acc kp it => ?_)
  have rv : Vals vs acc.toList := by rw [← hvs]; exact keys_got er h4 it
  have I1 : Inv X pins σ H { s with heap := h', toks := tk } := I.kept (t' := tk) kp
  generalize acc.toList = its at rv
  refine wpAny_bind (wpAny_newList ?_ (by rw [← rv.length]; exact hzv))
  have hlen := Reps.length hr
  obtain ⟨hpl, hal⟩ := sortable_iff hs
  have hb1 : (vs.zip xs).map (·.1) = vs := zip_fst hlen
  have hb2 : (vs.zip xs).map (·.2) = xs := zip_snd hlen
  have hmem : ∀ p ∈ vs.zip xs, p.2 ∈ xs := fun p hp => by
    have : p.2 ∈ (vs.zip xs).map (·.2) := List.mem_map.mpr ⟨p, hp, rfl⟩
    rw [hb2] at this
    exact this
  have r0 : PySem.W.EachIs (fun u (p : V × D) => RelV p.1 u) its (vs.zip xs) := each_vals (by rw [hb1]; exact rv)
  have rm : PySem.W.EachIs (fun u (p : V × D) => RelV p.1 u ∧ p ∈ vs.zip xs) its (vs.zip xs) := by
    have key : ∀ {us : List Value} {bs cs : List (V × D)}, PySem.W.EachIs (fun u (p : V × D) => RelV p.1 u) us bs → (∀ p ∈ bs, p ∈ cs) → PySem.W.EachIs (fun u (p : V × D) => RelV p.1 u ∧ p ∈ cs) us bs := by
      intro us bs cs z
      induction z with
      | nil => intro _; exact .nil
      | cons q _ ih => intro hc; exact .cons ⟨q, hc _ List.mem_cons_self⟩ (ih fun p hp => hc p (List.mem_cons_of_mem _ hp))
    exact key r0 fun _ hp => hp
  have hD : (h'.push { cls := .type "list", data := .seq its.toArray }).get? h'.objs.size = some (PyProof.Rows.seqObj "list" its.toArray 0) := Heap.get?_push_size _ rfl
  have er2 : PySem.W.EachIs (fun u (p : V × D) => ∃ as, Reads (h'.push { cls := .type "list", data := .seq its.toArray }) u (D.py p.2) as ∧ h'.objs.size ∉ as) its (vs.zip xs) := rm.mono fun u p hp => by
    obtain ⟨as, q⟩ := Dp.reads I1 _ _ _ (by rw [hK]; exact rep_dp p.2 (reps_zip hr p hp.2) (hpl _ (hmem p hp.2)).1) hp.1
    exact ⟨as, PyProof.Rows.Reads.keeps (fun _ _ q => Heap.get?_push_of_some _ q) q, fun hm => by
      have := reads_lt q _ hm
      exact absurd this (Nat.lt_irrefl _)⟩
  have a1 : PySem.W.AllAlike ((vs.zip xs).map fun p : V × D => D.py p.2) := by
    intro d hd d' hd'
    obtain ⟨p, hp, rfl⟩ := List.mem_map.mp hd
    obtain ⟨p', hp', rfl⟩ := List.mem_map.mp hd'
    exact alk_py _ _ (hal _ (hmem p hp) _ (hmem p' hp'))
  have a2 : PySem.W.Sortable ((vs.zip xs).map fun p : V × D => D.py p.2) := by
    rcases hk with hk | hk
    · refine .inl fun d hd => ?_
      obtain ⟨p, hp, rfl⟩ := List.mem_map.mp hd
      have q := List.all_eq_true.mp hk _ (hmem p hp)
      show ∃ x r, D.py p.2 = .tuple (x :: r)
      generalize p.2 = d at q ⊢
      cases d with
      | tup ys =>
        cases ys with
        | nil => exact absurd q Bool.false_ne_true
        | cons y ys => exact ⟨_, _, rfl⟩
      | _ => exact absurd q Bool.false_ne_true
    · refine .inr fun d hd => ?_
      obtain ⟨p, hp, rfl⟩ := List.mem_map.mp hd
      have q := List.all_eq_true.mp hk _ (hmem p hp)
      have q2 := alk_some (hal _ (hmem p hp) _ (hmem p hp))
      refine ⟨q2, fun ys z => ?_⟩
      have z : D.py p.2 = .tuple ys := z
      generalize p.2 = d at q z
      cases d with
      | tup ys => exact absurd q Bool.false_ne_true
      | _ => cases z
  have key := PySem.W.list_sort_data (prog := X.prog) (w := X.w) (A := X.A.in1) (E := E) (s := { s with heap := h'.push { cls := .type "list", data := .seq its.toArray }, toks := tk }) (R := fun u (p : V × D) => RelV p.1 u) (enc := fun p : V × D => D.py p.2) (vs := its) (bs := vs.zip xs) (Q := fun _ s' => Q (.ref h'.objs.size) s') hD r0 er2 a1 a2 (by rw [List.length_zip, hlen, Nat.min_self, ← hlen]; exact hzv) (fun p hp => by
    show X.A.units + 1 + 1 + (D.py p.2).depth < cLine
    rw [py_depth]
    have := (hpl _ (hmem p hp)).2
    omega) fun out ho eo => by
      have hm : ((vs.zip xs).mergeSort (PySem.W.dataLe false fun p : V × D => D.py p.2)).map (·.2) = isort xs := by
        rw [isort_merge hs]
        have := PySem.W.sort_maps (r := PySem.W.dataLe false fun p : V × D => D.py p.2) (s := PySem.W.dataLe false D.py) (fun p : V × D => p.2) (l := vs.zip xs) (fun a _ b _ => rfl)
        rw [hb2] at this
        exact this
      have hr' : Reps F Mu m n H (((vs.zip xs).mergeSort (PySem.W.dataLe false fun p : V × D => D.py p.2)).map (·.1)) (isort xs) := by
        rw [← hm]
        exact reps_of fun p hp => reps_zip hr p (((List.mergeSort_perm (vs.zip xs) _).mem_iff).mp hp)
      obtain ⟨c', hc'⟩ := PyProof.Rows.sortedHeap_at (out := out.toArray) hD
      have hsz : h'.objs.size < (h'.push { cls := .type "list", data := .seq its.toArray }).objs.size := by rw [Heap.size_push]; exact Nat.lt_succ_self _
      refine h _ _ _ I1.fresh hr' (I1.laid (t' := tk) (fun b o q => ?_) (Nat.le_refl _) ?_)
      · have hb := Heap.lt_size q
        rw [PyProof.Rows.sortedHeap_old (Nat.ne_of_lt hb) (Nat.lt_trans hb hsz)]
        exact Heap.get?_push_of_some _ q
      · have hl2 : ((vs.zip xs).mergeSort (PySem.W.dataLe false fun p : V × D => D.py p.2)).length = vs.length := by
          rw [List.length_mergeSort, List.length_zip, hlen, Nat.min_self]
        exact ⟨by rw [List.length_map, hl2]; exact hzv, out, c', vals_each eo, hc'⟩
  refine wpAny_bind (wpAny_holding (wpAny_mono key (fun _ s' x => ?_) fun _ _ e => e))
  exact wpAny_pure ⟨_, rfl, x⟩
/-- d != {} -/
theorem ne_dict {b : Addr} (hK : X.K = F.K) (hu : X.A.units + 64 < cLine) (I : Inv X pins σ H s) (e : H a = some (dO X.prog X.w a es)) (e2 : H b = some (dO X.prog X.w b [])) {Q : Value → Shared → Prop} {E : Value → Shared → Prop}
    (h : Q (.bool (!es.isEmpty)) s) : wpAny (model X.prog X.w) X.A (compareOp .NotEq (.ref a) (.ref b)) Q E s := by
  obtain ⟨z, lo, xs, er, o, ar, ep, h1, h2, h3, h4, h6⟩ := dO_of (I.hok a _ e)
  obtain ⟨z', lo', xs', er', o', ar', ep', h1', h2', h3', h4', h6'⟩ := dO_of (I.hok b _ e2)
  have ta : s.TypeIs (.ref a) "dict" := ⟨o, h1, h2.1⟩
  have tb : s.TypeIs (.ref b) "dict" := ⟨o', h1', h2'.1⟩
  have s1 : ar.size = es.length := by rw [size_of_entries h4, er.length]
  have s2 : ar'.size = 0 := by rw [size_of_entries h4', ← er'.length]; rfl
  refine wpAny_richCompare_same_room (op := .NotEq) ta tb PySem.F.slot_dict_ne (wpAny_call_entry PySem.F.slot_dict_ne ta PySem.F.entry_dict_ne ?_ (PySem.F.args_dict_ne_2 _ _)) (by omega)
  show wpAny _ _ (Builtin.Dict.dictSlotArgs "__ne__" ⟨[.ref a, .ref b], []⟩ >>= _) _ _ s
  refine wpAny_bind ?_
  unfold Builtin.Dict.dictSlotArgs
  refine wpAny_bind (wpAny_notOrdered_dict ta ?_)
  show wpAny _ _ (pure (Value.ref a, Value.ref b)) _ _ s
  refine wpAny_pure ?_
  refine wpAny_bind (wpAny_isInstance (T := "dict") tb PySem.F.sub_dict_dict ?_)
  simp only [Bool.not_true, Bool.false_eq_true, if_false]
  refine wpAny_bind (wpAny_pure (wpAny_bind (wpAny_pure ?_)))
  have key : ∀ {nm : String} {Q : Bool → Shared → Prop} {E : Value → Shared → Prop} {A : Around}, Q es.isEmpty s → wpAny (model X.prog X.w) A (Builtin.Dict.samePairs nm a b) Q E s := by
    intro nm Q E A h
    unfold Builtin.Dict.samePairs Builtin.Dict.showsAll
    rw [if_neg (show ¬ (a == sysModules) = true by rw [lo]; exact Bool.false_ne_true), if_neg (show ¬ (b == sysModules) = true by rw [lo']; exact Bool.false_ne_true)]
    refine wpAny_bind (wpAny_pure (wpAny_bind (wpAny_pure ?_)))
    refine wpAny_bind (wpAny_dictEntries h1 h3 ?_)
    dsimp only
    refine wpAny_bind (wpAny_dictEntries h1' h3' ?_)
    cases es with
    | cons p ps =>
      have hne : ¬ ar.size = ar'.size := by rw [s1, s2]; simp
      rw [if_pos (by simpa using hne)]
      exact wpAny_bind (wpAny_rule (wpAny_pure h))
    | nil =>
      have hz : ar.size = 0 := s1
      rw [if_neg (by rw [hz, s2]; simp)]
      refine wpAny_bind (wpAny_dictEpoch h1 h3 ?_)
      refine wpAny_bind ?_
      rw [hz, Std.Legacy.Range.forIn_eq_forIn_range']
      simp only [Std.Legacy.Range.size, Nat.sub_zero, Nat.add_sub_cancel, Nat.div_one, List.range'_zero]
      exact wpAny_pure (wpAny_pure h)
  refine wpAny_bind (key ?_)
  refine wpAny_pure ⟨_, rfl, ?_, ?_⟩
  · exact fun x => nomatch x
  · cases es <;> exact h
/-- what is built in, of dicts of the store too -/
def rManyS (F : Fx) (bw : Bool) (W : WX) (f : Sto → List D → Option (D × Bool)) : List V → Hp → VK → Prop := fun xs H Q => ∃ σ Uo m env st ds, Sim F Uo m env σ st H ∧ RepBs F (MuOf Uo env σ m st.length) m st.length H xs ds ∧
  PostE F Uo env σ m st.length H W bw Q (lift (f st ds) env st)
theorem bi_datF (hK : X.K = F.K) (hP : X.prog = F.P ∧ X.w = F.w) (hu : X.A.units + 64 < cLine) (hc : X.calm = true) {G : Gl} (hG : ∀ i d, G.xi i d = none) (b : Bi) (hb : b ≠ .sortset) : CallR X b.val (rManyS F bw W fun st ds => bifF G st b ds) := by
  intro pins s σ H xs us Q I r h
  obtain ⟨σ0, Uo, m, env, st, ds, S, rs, hp⟩ := h
  dsimp only at hp
  cases e : bifn G b ds with
  | some z =>
    have e2 : bifF G st b ds = some z := by unfold bifF; rw [e]
    rw [e2, ← e] at hp
    exact bi_dat (bw := bw) (W := W) hK hu hc hG b hb pins s σ H xs us Q I r ⟨σ0, Uo, m, env, st, ds, S, rs, hp⟩
  | none =>
    have e2 : bifF G st b ds = bifD st b ds := by unfold bifF; rw [e]
    rw [e2] at hp
    generalize ez : bifD st b ds = z at hp
    unfold bifD at ez
    split at ez
    · rename_i l
      split at ez
      · rename_i kvs el
        subst ez
        obtain ⟨v, rfl, ra⟩ := RepBs.one rs
        obtain ⟨hl, rfl⟩ := ra
        obtain ⟨es, k1, k2⟩ := S.objD l kvs el
        rw [← hP.1, ← hP.2] at k1
        obtain ⟨u, rfl, ru⟩ := r.one
        cases ru
        exact len_dict hK I k1 k2 fun t s' I' => ⟨.int _, H, I', ⟨_, rfl⟩, hp.here S rfl⟩
      · subst ez; exact hp.elim
    · rename_i l
      split at ez
      · rename_i kvs el
        subst ez
        obtain ⟨v, rfl, ra⟩ := RepBs.one rs
        obtain ⟨hl, rfl⟩ := ra
        obtain ⟨es, k1, k2⟩ := S.objD l kvs el
        rw [← hP.1, ← hP.2] at k1
        obtain ⟨u, rfl, ru⟩ := r.one
        cases ru
        exact list_dict hK hc I k1 k2 fun p s' hp0 I' => ⟨.ref p, _, I', rfl, hp.newL S hp0 k2.keys⟩
      · subst ez; exact hp.elim
    · rename_i l
      split at ez
      · rename_i kvs el
        obtain ⟨v, rfl, ra⟩ := RepBs.one rs
        obtain ⟨hl, rfl⟩ := ra
        obtain ⟨es, k1, k2⟩ := S.objD l kvs el
        rw [← hP.1, ← hP.2] at k1
        obtain ⟨u, rfl, ru⟩ := r.one
        cases ru
        unfold sortD at ez
        split at ez
        · rename_i hs
          subst ez
          rw [Bool.and_eq_true, Bool.and_eq_true, Bool.or_eq_true] at hs
          exact sorted_dict hK hu hc I k1 k2 hs.1.1 hs.1.2 fun p ws s' hp0 hr I' => ⟨.ref p, _, I', rfl, hp.newL S hp0 hr⟩
        · subst ez; exact hp.elim
      · subst ez; exact hp.elim
    · subst ez; exact hp.elim
/-- comparisons, with what is in a dict -/
def rTwoS (F : Fx) (bw : Bool) (W : WX) (f : Sto → D → D → Option (D × Bool)) : R2 := fun x y H Q => ∃ σ Uo m env st dx dy, Sim F Uo m env σ st H ∧ RepB F (MuOf Uo env σ m st.length) m st.length H x dx ∧ RepB F (MuOf Uo env σ m st.length) m st.length H y dy ∧
  PostE F Uo env σ m st.length H W bw Q (lift (f st dx dy) env st)
theorem op_cmpF (hK : X.K = F.K) (hP : X.prog = F.P ∧ X.w = F.w) (hu : X.A.units + 64 < cLine) (o : COp) : OpR X (compareOp o.op) (rTwoS F bw W fun st a b => (cmpF st o a b).map fun k => (.bl k, false)) := by
  intro pins s σ H x y v u Q I rx ry h
  obtain ⟨σ0, Uo, m, env, st, dx, dy, S, r1, r2, hp⟩ := h
  dsimp only at hp
  cases e : cmpop o dx dy with
  | some k =>
    have e2 : cmpF st o dx dy = some k := by unfold cmpF; rw [e]
    rw [e2] at hp
    refine op_cmp (bw := bw) (W := W) hK hu o pins s σ H x y v u Q I rx ry ⟨σ0, Uo, m, env, st, dx, dy, S, r1, r2, ?_⟩
    unfold cmpD
    rw [e]
    exact hp
  | none =>
    have e2 : cmpF st o dx dy = cmpS st o dx dy := by unfold cmpF; rw [e]
    rw [e2] at hp
    generalize ez : cmpS st o dx dy = z at hp
    unfold cmpS at ez
    split at ez
    · rename_i l
      split at ez
      · rename_i kvs el
        split at ez
        · rename_i hk
          subst ez
          obtain ⟨hl, rfl⟩ := r2
          obtain ⟨es, k1, k2⟩ := S.objD l kvs el
          rw [← hP.1, ← hP.2] at k1
          cases ry
          have rk : Rep F (MuOf Uo env σ0 m st.length) m st.length H x dx := by
            cases dx with
            | tup _ => exact r1
            | _ => exact absurd hk Bool.false_ne_true
          exact dk_in hK hu I k1 k2 hk rk rx fun s' I' => ⟨.bl _, H, I', rfl, hp.here S rfl⟩
        · subst ez; exact hp.elim
      · subst ez; exact hp.elim
    · rename_i l
      split at ez
      · rename_i kvs el
        split at ez
        · rename_i hk
          subst ez
          obtain ⟨hl, rfl⟩ := r2
          obtain ⟨es, k1, k2⟩ := S.objD l kvs el
          rw [← hP.1, ← hP.2] at k1
          cases ry
          have rk : Rep F (MuOf Uo env σ0 m st.length) m st.length H x dx := by
            cases dx with
            | tup _ => exact r1
            | _ => exact absurd hk Bool.false_ne_true
          exact dk_notIn hK hu I k1 k2 hk rk rx fun s' I' => ⟨.bl _, H, I', rfl, hp.here S rfl⟩
        · subst ez; exact hp.elim
      · subst ez; exact hp.elim
    · subst ez; exact hp.elim
end
end Pi

set_option maxRecDepth 100000
set_option maxHeartbeats 1000000
/-! PiH: readings of expressions. -/
namespace Pi
open PySem PySem.Spec L2

section
variable (F : Fx) (G : Gl) (call : Nat → List D → Sto → RC) (W : WX)
def RdE (bw : Bool) (c : C) : TE := fun σ H Q => ∃ Uo m env st, Sim F Uo m env σ st H ∧ PostE F Uo env σ m st.length H W bw Q (ev G call bw c env st)
def RdT (c : C) : TT := fun σ H Q => ∃ Uo m env st, Sim F Uo m env σ st H ∧ PostG F Uo env σ m st.length H W Eq Q (truth (ev G call true c env st))
def RdL (bw : Bool) (es : List C) : TA := fun σ H Q => ∃ Uo m env st, Sim F Uo m env σ st H ∧ PostL F Uo env σ m st.length H W bw Q (evs G call bw es env st)
def RdO (c : Option C) : TO := fun σ H Q => ∃ Uo m env st, Sim F Uo m env σ st H ∧ PostG F Uo env σ m st.length H W Eq Q (evo G call c env st)
end
theorem _root_.L2.PE.imp {X : Cx} {e : Expr} {t t' : TE} (h : PE X e t) (k : ∀ σ H Q, t' σ H Q → t σ H Q) : PE X e t' := ⟨fun pins s σ H Q I q => h.run pins s σ H Q I (k _ _ _ q)⟩
theorem _root_.L2.PT.imp {X : Cx} {e : Expr} {t t' : TT} (h : PT X e t) (k : ∀ σ H Q, t' σ H Q → t σ H Q) : PT X e t' := ⟨fun pins s σ H Q I q => h.run pins s σ H Q I (k _ _ _ q)⟩
theorem _root_.L2.PW.imp {X : Cx} {e : Expr} {t t' : TT} (h : PW X e t) (k : ∀ σ H Q, t' σ H Q → t σ H Q) : PW X e t' := ⟨fun wh pins s σ H Q I q => h.run wh pins s σ H Q I (k _ _ _ q)⟩
theorem _root_.L2.PA.imp {X : Cx} {e : List Expr} {t t' : TA} (h : PA X e t) (k : ∀ σ H Q, t' σ H Q → t σ H Q) : PA X e t' := ⟨fun p pins s σ H Q I q => h.run p pins s σ H Q I (k _ _ _ q)⟩
theorem _root_.L2.PO.imp {X : Cx} {e : Option Expr} {t t' : TO} (h : PO X e t) (k : ∀ σ H Q, t' σ H Q → t σ H Q) : PO X e t' := ⟨fun pins s σ H Q I q => h.run pins s σ H Q I (k _ _ _ q)⟩

section
variable {F : Fx} {Uo : Addr → Prop} {env : Env} {σ : SL} {m : Nat → Addr} {n : Nat} {H : Hp} {W : WX} {st : Sto}
theorem getS_some {env : Env} {i : Nat} {p : D × Bool} (h : getS env i = some p) : env[i]? = some (some p) := by
  unfold getS at h
  split at h
  · rename_i q e; cases h; exact e
  · cases h
theorem own_fz {i : Nat} {d : D} {b : Addr} (h : OwnAt (freeze env i d) σ b) : OwnAt env σ b ∧ ∀ a, σ[i]? = some (some (V.ref a)) → True := by
  obtain ⟨j, e, h1, h2⟩ := h
  refine ⟨⟨j, e, ?_, h2⟩, fun _ _ => trivial⟩
  unfold Pi.freeze at h1
  rw [List.getElem?_set] at h1
  split at h1
  · split at h1 <;> simp at h1
  · exact h1
theorem own_fzN {i : Nat} {d : D} {b : Addr} (h : OwnAt (freeze env i d) σ b) : ∃ j e, j ≠ i ∧ env[j]? = some (some (e, true)) ∧ σ[j]? = some (some (V.ref b)) := by
  obtain ⟨j, e, h1, h2⟩ := h
  unfold Pi.freeze at h1
  rw [List.getElem?_set] at h1
  split at h1
  · split at h1 <;> simp at h1
  · rename_i hne; exact ⟨j, e, fun z => hne z.symm, h1, h2⟩
theorem mu_fz {i : Nat} {d : D} {a : Addr} (h : MuOf Uo (freeze env i d) σ m n a) : MuOf Uo env σ m n a := h.imp (fun z => z) fun z => z.imp (fun z => (own_fz z).1) fun z => z
/-- an own list that is kept from now on -/
theorem sim_fz {i : Nat} {d : D} (S : Sim F Uo m env σ st H) (e : env[i]? = some (some (d, true))) :
    Sim F Uo m (freeze env i d) σ st H ∧ Step noCh env σ m st.length H (freeze env i d) σ m st.length H ∧ ∃ v, σ[i]? = some (some v) ∧ Rep F (MuOf Uo (freeze env i d) σ m st.length) m st.length H v d := by
  obtain ⟨a, xs, vs, rfl, h2, h3, h4⟩ := S.own i d e
  have L : Mov (MuOf Uo env σ m st.length) (MuOf Uo (Pi.freeze env i (.lst xs)) σ m st.length) m m st.length st.length H H := Mov.less fun _ z => mu_fz z
  have rep : Rep F (MuOf Uo (Pi.freeze env i (.lst xs)) σ m st.length) m st.length H (V.ref a) (.lst xs) := by
    refine ⟨a, vs, rfl, .inl h3, fun z => ?_, Reps.mov L h4⟩
    have ho : OwnAt env σ a := ⟨i, _, e, h2⟩
    rcases z with z | z | z
    · exact (S.osto a ho).1 z
    · obtain ⟨j, e', hne, h5, h6⟩ := own_fzN z
      exact hne (S.sep j i a _ _ h5 e h6 h2)
    · exact (S.osto a ho).2 z
  have get : ∀ j q, (Pi.freeze env i (.lst xs))[j]? = some (some q) → (j = i ∧ q = (.lst xs, false)) ∨ (j ≠ i ∧ env[j]? = some (some q)) := by
    intro j q h
    unfold Pi.freeze at h
    rw [List.getElem?_set] at h
    split at h
    · rename_i hij
      split at h
      · cases h; exact .inl ⟨hij.symm, rfl⟩
      · cases h
    · rename_i hij; exact .inr ⟨fun z => hij z.symm, h⟩
  refine ⟨?_, ?_, V.ref a, h2, rep⟩
  · exact {
      len := by unfold Pi.freeze; rw [List.length_set]; exact S.len
      inj := S.inj
      obj := fun l ys q => let ⟨vs, h1, h2⟩ := S.obj l ys q; ⟨vs, h1, Reps.mov L h2⟩
      objD := fun l kvs e => let ⟨es, h1, h2⟩ := S.objD l kvs e; ⟨es, h1, DRel.mov L h2⟩
      val := fun j d' q => by
        rcases get j _ q with ⟨rfl, z⟩ | ⟨_, z⟩
        · cases z; exact ⟨_, h2, rep⟩
        · obtain ⟨v, h1, h2⟩ := S.val j d' z; exact ⟨v, h1, Rep.mov L h2⟩
      own := fun j d' q => by
        rcases get j _ q with ⟨rfl, z⟩ | ⟨_, z⟩
        · cases z
        · obtain ⟨b, ys, ws, h1, h2, h3, h4⟩ := S.own j d' z; exact ⟨b, ys, ws, h1, h2, h3, Reps.mov L h4⟩
      sep := fun j k b d' e' h1 h2 h3 h4 => by
        rcases get j _ h1 with ⟨rfl, z⟩ | ⟨_, z⟩
        · cases z
        · rcases get k _ h2 with ⟨rfl, z'⟩ | ⟨_, z'⟩
          · cases z'
          · exact S.sep j k b _ _ z z' h3 h4
      osto := fun b hb => S.osto b (own_fz hb).1
      usto := S.usto
      uH := S.uH
      tab := S.tab }
  · exact ⟨Nat.le_refl _, fun _ _ => rfl, fun l h1 h2 => absurd (Nat.lt_of_le_of_lt h1 h2) (Nat.lt_irrefl _), fun _ _ e _ _ => e, fun _ e => e, fun _ e => .inl (own_fz e).1⟩
end

section
variable {X : Cx} {F : Fx} {G : Gl} {call : Nat → List D → Sto → RC} {W : WX} {bw : Bool} {pos : Pos}
/-! ### leaves -/
theorem rd_k {e : Expr} {d : D} {v : V} (h : PE X e (tC v)) (r : ∀ Mu m n H, Rep F Mu m n H v d) : PE X e (RdE F G call W bw (.k d)) := h.imp fun σ H Q ⟨Uo, m, env, st, S, q⟩ => by
  rw [ev] at q
  exact q.here S (r _ _ _ _)
theorem rd_g {e : Expr} {d : D} {v : V} (h : PE X e (tC v)) (r : ∀ Mu m n H, Rep F Mu m n H v d) : PE X e (RdE F G call W bw (.g d)) := h.imp fun σ H Q ⟨Uo, m, env, st, S, q⟩ => by
  rw [ev] at q
  exact q.here S (r _ _ _ _)
theorem rd_v {e : Expr} {i : Nat} (h : PE X e (tVar i)) : PE X e (RdE F G call W bw (.v i)) := h.imp fun σ H Q ⟨Uo, m, env, st, S, q⟩ => by
  rw [ev] at q
  split at q
  · rename_i d o e
    have e := getS_some e
    cases o with
    | false =>
      rw [if_neg (by simp)] at q
      obtain ⟨v, h1, h2⟩ := S.val i d e
      exact ⟨v, h1, q.here S h2⟩
    | true =>
      cases bw with
      | false =>
        rw [if_pos (by simp)] at q
        obtain ⟨S1, p, v, h1, h2⟩ := sim_fz S e
        exact ⟨v, h1, (closedE.step _ _ _ _ _ _ _ _ _ p q).here S1 h2⟩
      | true =>
        rw [if_neg (by simp)] at q
        obtain ⟨a, xs, vs, rfl, h2, h3, h4⟩ := S.own i d e
        exact ⟨_, h2, q.hereB S ⟨a, vs, rfl, .inl h3, (S.osto a ⟨i, _, e, h2⟩).2, h4⟩⟩
  · exact q.elim
/-! ### operations -/
section
variable {a b c : C} {ea eb ec : Expr}
theorem rd_bin (hK : X.K = F.K) (o : BOp) (ha : PE X ea (RdE F G call W true a)) (hb : PE X eb (RdE F G call W true b)) : PE X (.BinOp ea o.op eb pos) (RdE F G call W bw (.bin o a b)) :=
  (pe_op (op_bin (bw := bw) (W := W) hK o) ha hb).imp fun σ H Q ⟨Uo, m, env, st, S, q⟩ => by
    rw [ev] at q
    refine ⟨Uo, m, env, st, S, bindE closedE q fun v d o1 m1 env1 st1 H1 p1 S1 r1 q1 => ⟨Uo, m1, env1, st1, S1.base, bindE closedE q1 fun w e o2 m2 env2 st2 H2 p2 S2 r2 q2 => ?_⟩⟩
    exact ⟨σ, Uo, m2, env2, st2, d, e, S2.base, RepB.movE S1.base p2 (r1.toB S1), r2.toB S2, q2⟩
theorem rd_neg (ha : PE X ea (RdE F G call W true a)) : PE X (.UnaryOp .USub ea pos) (RdE F G call W bw (.neg a)) :=
  (pe_un (unT (bw := bw) (W := W) (fun x => (dnum x).map fun i => (.int (-i), false)) _ (fun d r h => by
    cases d with
    | int i => exact ⟨i, rfl, (Option.some.inj h).symm⟩
    | _ => cases h) rfl) ha).imp fun σ H Q ⟨Uo, m, env, st, S, q⟩ => by
    rw [ev] at q
    exact ⟨Uo, m, env, st, S, bindE closedE q fun v d o1 m1 env1 st1 H1 p1 S1 r1 q1 => ⟨σ, Uo, m1, env1, st1, d, S1.base, r1.toB S1, q1⟩⟩
theorem rd_cmp (hK : X.K = F.K) (hP : X.prog = F.P ∧ X.w = F.w) (hu : X.A.units + 64 < cLine) (o : COp) (hm : behindInMarks o.op eb = false) (ha : PE X ea (RdE F G call W true a)) (hb : PE X eb (RdE F G call W true b)) : PE X (.Compare ea [o.op] [eb] pos) (RdE F G call W bw (.cmp o a b)) :=
  (pe_cmpR (op_cmpF (bw := bw) (W := W) hK hP hu o) ha hb hm).imp fun σ H Q ⟨Uo, m, env, st, S, q⟩ => by
    rw [ev] at q
    refine ⟨Uo, m, env, st, S, bindE closedE q fun v d o1 m1 env1 st1 H1 p1 S1 r1 q1 => ⟨Uo, m1, env1, st1, S1.base, bindE closedE q1 fun w e o2 m2 env2 st2 H2 p2 S2 r2 q2 => ?_⟩⟩
    exact ⟨σ, Uo, m2, env2, st2, d, e, S2.base, RepB.movE S1.base p2 (r1.toB S1), r2.toB S2, q2⟩
/-- a truth that has come -/
theorem val_bl {o : Bool} {Mu : Addr → Prop} {m : Nat → Addr} {n : Nat} {H0 H : Hp} {v : V} {k : Bool} (r : ValR F bw o Mu m n H0 H v (.bl k)) : v = .bl k := by
  cases o with
  | true => obtain ⟨_, _, _, _, z, _⟩ := r.1 rfl; cases z
  | false =>
    cases bw with
    | true => exact r.2.2 rfl rfl
    | false => exact r.2.1 rfl rfl
theorem chn_dat {o p : COp} {σ : SL} {H : Hp} {Q : VK} {tc : TE} (htc : tc = RdE F G call W true c)
    (h : RdE F G call W bw (.chn o p a b c) σ H Q) : tChain (rTwo F true W (cmpD o)) (rTwo F bw W (cmpD p)) (RdE F G call W true a) (RdE F G call W true b) tc σ H Q := by
  subst htc
  obtain ⟨Uo, m, env, st, S, q⟩ := h
  rw [ev] at q
  refine ⟨Uo, m, env, st, S, bindE closedE q fun v d o1 m1 env1 st1 H1 p1 S1 r1 q1 => ⟨Uo, m1, env1, st1, S1.base, bindE closedE q1 fun w e o2 m2 env2 st2 H2 p2 S2 r2 q2 => ?_⟩⟩
  refine ⟨σ, Uo, m2, env2, st2, d, e, S2.base, RepB.movE S1.base p2 (r1.toB S1), r2.toB S2, ?_⟩
  have q2 : PostE F Uo env2 σ m2 st2.length H2 W bw Q (match cmpop o d e with
    | some true => (ev G call true c env2 st2).bind fun z env st => lift ((cmpop p e z.1).map fun b => (.bl b, false)) env st
    | some false => .ok (.bl false, false) env2 st2
    | none => .no) := q2
  unfold cmpD
  cases z : cmpop o d e with
  | none => rw [z] at q2; exact q2.elim
  | some k =>
    rw [z] at q2
    intro v3 m3 H3 p3 S3 r3
    have ev3 : v3 = .bl k := val_bl r3
    subst ev3
    refine ⟨k, rfl, ?_⟩
    cases k with
    | false =>
      rw [if_neg (by decide)]
      exact (closedE.step _ _ _ _ _ _ _ _ _ p3 q2).here S3.base rfl
    | true =>
      rw [if_pos rfl]
      refine ⟨Uo, m3, env2, st2, S3.base, bindE closedE (closedE.step _ _ _ _ _ _ _ _ _ p3 q2) fun z e3 o4 m4 env4 st4 H4 p4 S4 r4 q4 => ?_⟩
      exact ⟨σ, Uo, m4, env4, st4, e, e3, S4.base, RepB.movE S3.base p4 (RepB.movE S2.base p3 (r2.toB S2)), r4.toB S4, q4⟩
theorem rd_chn (hK : X.K = F.K) (hu : X.A.units + 64 < cLine) (o p : COp) (hm : lastMarks [o.op, p.op] [eb, ec] = false) (ha : PE X ea (RdE F G call W true a)) (hb : PE X eb (RdE F G call W true b)) (hc : PE X ec (RdE F G call W true c)) :
    PE X (.Compare ea [o.op, p.op] [eb, ec] pos) (RdE F G call W bw (.chn o p a b c)) :=
  (pe_chain (op_cmp (bw := true) (W := W) hK hu o) (op_cmp (bw := bw) (W := W) hK hu p) ha hb hc hm).imp fun _ _ _ h => chn_dat rfl h
theorem rd_ix (hK : X.K = F.K) (hP : X.prog = F.P ∧ X.w = F.w) (hu : X.A.units + 64 < cLine) (hs : PlainIx eb) (ha : PE X ea (RdE F G call W true a)) (hb : PE X eb (RdE F G call W true b)) : PE X (.Subscript ea eb pos) (RdE F G call W bw (.ix a b)) :=
  (pe_ix (ix_dat (bw := bw) (W := W) hK hP hu) ha hb hs).imp fun σ H Q ⟨Uo, m, env, st, S, q⟩ => by
    rw [ev] at q
    refine ⟨Uo, m, env, st, S, bindE closedE q fun v d o1 m1 env1 st1 H1 p1 S1 r1 q1 => ⟨Uo, m1, env1, st1, S1.base, bindE closedE q1 fun w e o2 m2 env2 st2 H2 p2 S2 r2 q2 => ?_⟩⟩
    exact ⟨σ, Uo, m2, env2, st2, d, e, S2.base, RepB.movE S1.base p2 (r1.toB S1), r2.toB S2, q2⟩

/-! ### and, or, not, if -/
theorem rd_not (ha : PE X ea (RdE F G call W true a)) : PE X (.UnaryOp .Not ea pos) (RdE F G call W bw (.not a)) := (pe_not ha).imp fun σ H Q ⟨Uo, m, env, st, S, q⟩ => by
  rw [ev] at q
  refine ⟨Uo, m, env, st, S, bindE closedE q fun v d o1 m1 env1 st1 H1 p1 S1 r1 q1 => ?_⟩
  cases d with
  | bl k =>
    obtain rfl := val_bl r1
    exact ⟨k, rfl, q1.here S1.base rfl⟩
  | _ => exact q1.elim
theorem rd_and {es : List Expr} (ha : PE X ea (RdE F G call W true a)) (hb : PE X (.BoolOp .And (eb :: es) pos) (RdE F G call W bw b)) : PE X (.BoolOp .And (ea :: eb :: es) pos) (RdE F G call W bw (.and a b)) := (pe_and ha hb).imp fun σ H Q ⟨Uo, m, env, st, S, q⟩ => by
  rw [ev] at q
  refine ⟨Uo, m, env, st, S, bindE closedE q fun v d o1 m1 env1 st1 H1 p1 S1 r1 q1 => ?_⟩
  cases d with
  | bl k =>
    obtain rfl := val_bl r1
    refine ⟨k, rfl, ?_⟩
    cases k with
    | true => rw [if_pos rfl]; exact ⟨Uo, m1, env1, st1, S1.base, q1⟩
    | false => rw [if_neg (by decide)]; exact q1.here S1.base rfl
  | _ => exact q1.elim
theorem rd_or {es : List Expr} (ha : PE X ea (RdE F G call W true a)) (hb : PE X (.BoolOp .Or (eb :: es) pos) (RdE F G call W bw b)) : PE X (.BoolOp .Or (ea :: eb :: es) pos) (RdE F G call W bw (.or a b)) := (pe_or ha hb).imp fun σ H Q ⟨Uo, m, env, st, S, q⟩ => by
  rw [ev] at q
  refine ⟨Uo, m, env, st, S, bindE closedE q fun v d o1 m1 env1 st1 H1 p1 S1 r1 q1 => ?_⟩
  cases d with
  | bl k =>
    obtain rfl := val_bl r1
    refine ⟨k, rfl, ?_⟩
    cases k with
    | true => rw [if_pos rfl]; exact q1.here S1.base rfl
    | false => rw [if_neg (by decide)]; exact ⟨Uo, m1, env1, st1, S1.base, q1⟩
  | _ => exact q1.elim
theorem rd_ite (hc : PT X ec (RdT F G call W c)) (ha : PE X ea (RdE F G call W bw a)) (hb : PE X eb (RdE F G call W bw b)) : PE X (.IfExp ec ea eb pos) (RdE F G call W bw (.ite c a b)) := (pe_ifExp hc ha hb).imp fun σ H Q ⟨Uo, m, env, st, S, q⟩ => by
  rw [ev] at q
  refine ⟨Uo, m, env, st, S, ?_⟩
  unfold truth
  revert q
  generalize ev G call true c env st = r
  intro q
  cases r with
  | no => exact q.elim
  | ex c x env' st' => exact q
  | ok p env' st' =>
    obtain ⟨d, o⟩ := p
    cases d with
    | bl k =>
      intro b' m1 H1 p1 S1 e1
      subst e1
      have q := closedE.step _ _ _ _ _ _ _ _ _ p1 q
      cases b' with
      | true => rw [if_pos rfl]; exact ⟨Uo, m1, env', st', S1, q⟩
      | false => rw [if_neg (by decide)]; exact ⟨Uo, m1, env', st', S1, q⟩
    | _ => exact q.elim

/-! ### tests -/
/-- a test by its value -/
theorem truth_val {σ : SL} {H : Hp} {Q : Bool → Hp → Prop} (h : RdT F G call W c σ H Q) : RdE F G call W true c σ H fun x H1 => ∃ k, x = .bl k ∧ Q k H1 := by
  obtain ⟨Uo, m, env, st, S, q⟩ := h
  refine ⟨Uo, m, env, st, S, bindE closedG q fun v d o1 m1 env1 st1 H1 p1 S1 r1 q1 => ?_⟩
  cases d with
  | bl k =>
    obtain rfl := val_bl r1
    exact ⟨k, rfl, q1 k m1 H1 Step.refl S1.base rfl⟩
  | _ => exact q1.elim
def plainTest : Expr → Bool
  | .UnaryOp .Not _ _ | .BoolOp .. | .IfExp .. | .Compare .. => false
  | _ => true
theorem rt_val {e : Expr} (h : PE X e (RdE F G call W true c)) (hp : plainTest e = true) : PT X e (RdT F G call W c) := by
  refine (pt_val h fun whole => ?_).imp fun σ H Q q => truth_val q
  cases e with
  | UnaryOp op x p =>
    cases op with
    | Not => exact absurd hp Bool.false_ne_true
    | _ => rfl
  | BoolOp _ _ _ => exact absurd hp Bool.false_ne_true
  | IfExp _ _ _ _ => exact absurd hp Bool.false_ne_true
  | Compare _ _ _ _ => exact absurd hp Bool.false_ne_true
  | _ => rfl
theorem rt_cmp (hK : X.K = F.K) (hP : X.prog = F.P ∧ X.w = F.w) (hu : X.A.units + 64 < cLine) (o : COp) (hm : behindInMarks o.op eb = false) (ha : PE X ea (RdE F G call W true a)) (hb : PE X eb (RdE F G call W true b)) : PT X (.Compare ea [o.op] [eb] pos) (RdT F G call W (.cmp o a b)) :=
  (pt_cmpR (op_cmpF (bw := true) (W := W) hK hP hu o) ha hb hm).imp fun σ H Q h => by
    obtain ⟨Uo, m, env, st, S, q⟩ := truth_val h
    rw [ev] at q
    refine ⟨Uo, m, env, st, S, bindE closedE q fun v d o1 m1 env1 st1 H1 p1 S1 r1 q1 => ⟨Uo, m1, env1, st1, S1.base, bindE closedE q1 fun w e o2 m2 env2 st2 H2 p2 S2 r2 q2 => ?_⟩⟩
    exact ⟨σ, Uo, m2, env2, st2, d, e, S2.base, RepB.movE S1.base p2 (r1.toB S1), r2.toB S2, q2⟩
theorem rt_chn (hK : X.K = F.K) (hu : X.A.units + 64 < cLine) (o p : COp) (hm : lastMarks [o.op, p.op] [eb, ec] = false) (ha : PE X ea (RdE F G call W true a)) (hb : PE X eb (RdE F G call W true b)) (hc : PE X ec (RdE F G call W true c)) :
    PT X (.Compare ea [o.op, p.op] [eb, ec] pos) (RdT F G call W (.chn o p a b c)) :=
  (pt_chain (op_cmp (bw := true) (W := W) hK hu o) (op_cmp (bw := true) (W := W) hK hu p) ha hb hc hm).imp fun σ H Q h => chn_dat rfl (truth_val h)
theorem rt_not (ha : PT X ea (RdT F G call W a)) : PT X (.UnaryOp .Not ea pos) (RdT F G call W (.not a)) := (pt_not ha).imp fun σ H Q h => by
  obtain ⟨Uo, m, env, st, S, q⟩ := truth_val h
  rw [ev] at q
  refine ⟨Uo, m, env, st, S, ?_⟩
  unfold truth
  revert q
  generalize ev G call true a env st = r
  intro q
  cases r with
  | no => exact q.elim
  | ex c x env' st' => exact q
  | ok p env' st' =>
    obtain ⟨d, o⟩ := p
    cases d with
    | bl k =>
      intro b' m1 H1 p1 S1 e1
      subst e1
      have q : PostE F Uo env σ m st.length H W true _ (.ok (.bl (!_), false) env' st') := q
      obtain ⟨k', e, q⟩ := (closedE.step _ _ _ _ _ _ _ _ _ p1 q).here S1 (d := .bl (!_)) rfl
      cases e
      exact q
    | _ => exact q.elim
theorem rt_two {es : List Expr} {k0 : Bool} {f : C} (hf : ∀ env st, ev G call true f env st = (ev G call true a env st).bind fun x env st => match x.1 with
      | .bl k => if k = k0 then ev G call true b env st else .ok (.bl k, false) env st
      | _ => .no) {σ : SL} {H : Hp} {Q : Bool → Hp → Prop} (h : RdT F G call W f σ H Q) : RdT F G call W a σ H fun k H1 => if k = k0 then RdT F G call W b σ H1 Q else Q k H1 := by
  obtain ⟨Uo, m, env, st, S, q⟩ := h
  refine ⟨Uo, m, env, st, S, ?_⟩
  unfold truth at q ⊢
  rw [hf] at q
  revert q
  generalize ev G call true a env st = r
  intro q
  cases r with
  | no => exact q.elim
  | ex c x env' st' => exact q
  | ok p env' st' =>
    obtain ⟨d, o⟩ := p
    cases d with
    | bl k =>
      intro b' m1 H1 p1 S1 e1
      subst e1
      by_cases hk : b' = k0
      · rw [if_pos hk]
        refine ⟨Uo, m1, env', st', S1, ?_⟩
        have q : PostG F Uo env σ m st.length H W Eq Q ((if b' = k0 then ev G call true b env' st' else .ok (.bl b', false) env' st').bind fun p env st => lift (dbl p.1) env st) := q
        rw [if_pos hk] at q
        exact closedG.step _ _ _ _ _ _ _ _ _ p1 q
      · rw [if_neg hk]
        have q : PostG F Uo env σ m st.length H W Eq Q ((if b' = k0 then ev G call true b env' st' else .ok (.bl b', false) env' st').bind fun p env st => lift (dbl p.1) env st) := q
        rw [if_neg hk] at q
        exact q b' m1 H1 p1 S1 rfl
    | _ => exact q.elim
theorem ev_and_if {env : Env} {st : Sto} : ev G call true (.and a b) env st = (ev G call true a env st).bind fun x env st => match x.1 with
      | .bl k => if k = true then ev G call true b env st else .ok (.bl k, false) env st
      | _ => .no := by
  rw [ev]
  congr 1
  funext x env st
  obtain ⟨d, o⟩ := x
  cases d with
  | bl k => cases k <;> rfl
  | _ => rfl
theorem ev_or_if {env : Env} {st : Sto} : ev G call true (.or a b) env st = (ev G call true a env st).bind fun x env st => match x.1 with
      | .bl k => if k = false then ev G call true b env st else .ok (.bl k, false) env st
      | _ => .no := by
  rw [ev]
  congr 1
  funext x env st
  obtain ⟨d, o⟩ := x
  cases d with
  | bl k => cases k <;> rfl
  | _ => rfl
theorem rw_and {es : List Expr} (ha : PT X ea (RdT F G call W a)) (hb : PW X (.BoolOp .And (eb :: es) pos) (RdT F G call W b)) : PW X (.BoolOp .And (ea :: eb :: es) pos) (RdT F G call W (.and a b)) := (pw_and ha hb).imp fun σ H Q h => by
  obtain ⟨Uo, m, env, st, S, q⟩ := rt_two (es := es) (k0 := true) (fun _ _ => ev_and_if) h
  refine ⟨Uo, m, env, st, S, ?_⟩
  revert q
  generalize truth (ev G call true a env st) = r
  intro q
  cases r with
  | no => exact q
  | ex c x env' st' => exact q
  | ok p env' st' =>
    intro k m1 H1 p1 S1 e1
    have z := q k m1 H1 p1 S1 e1
    cases k with
    | true => rw [if_pos rfl] at z ⊢; exact z
    | false => rw [if_neg (by decide)] at z ⊢; exact z
theorem rw_or {es : List Expr} (ha : PT X ea (RdT F G call W a)) (hb : PW X (.BoolOp .Or (eb :: es) pos) (RdT F G call W b)) : PW X (.BoolOp .Or (ea :: eb :: es) pos) (RdT F G call W (.or a b)) := (pw_or ha hb).imp fun σ H Q h => by
  obtain ⟨Uo, m, env, st, S, q⟩ := rt_two (es := es) (k0 := false) (fun _ _ => ev_or_if) h
  refine ⟨Uo, m, env, st, S, ?_⟩
  revert q
  generalize truth (ev G call true a env st) = r
  intro q
  cases r with
  | no => exact q
  | ex c x env' st' => exact q
  | ok p env' st' =>
    intro k m1 H1 p1 S1 e1
    have z := q k m1 H1 p1 S1 e1
    cases k with
    | true => rw [if_pos rfl]; rw [if_neg (by decide)] at z; exact z
    | false => rw [if_neg (by decide)]; rw [if_pos rfl] at z; exact z
end
end
end Pi

/-! PiS: set(a tuple of tuples of ints). -/
namespace L2
open PySem PySem.Spec
open PyProof.Rows
abbrev new0 (w : World) : Obj := { cls := .type "set", dict := none, data := .set #[] 0 (.fresh 0 0 (!w.params.followText "set-order")) }
section
variable {P : Program} {w : World} {A : Around} {E : Value → Shared → Prop} {s : Shared}
set_option maxRecDepth 100000 in
set_option maxHeartbeats 3200000 in
theorem pi_set_tup {tp : Addr} {row : Array Value} (qs : List (Addr × List Int)) {Q : Value → Shared → Prop} (calm : A.handled = none) (ht : s.heap.IsTuple tp row) (same : row.toList = qs.map fun p => Value.ref p.1)
    (each : ∀ p ∈ qs, IsT P w s.heap p.2 p.1) (few : qs.length < 64) (un : A.units + 3 < cLine)
    (fin : ∀ (g : Heap) (tk : Nat) L es ep t, SetTR P w g s.heap.objs.size L es ep t → Got qs qs.length L → (∀ b o, s.heap.get? b = some o → g.get? b = some o) → Q (.ref s.heap.objs.size) { s with heap := g, toks := tk }) :
    wpAny (model P w) A (call (.type "set") [.ref tp]) Q E s := by
  have count : row.size = qs.length := by simpa using congrArg List.length same
  obtain ⟨_, _, mro⟩ := F.called_set.mro
  have made := F.called_set.made
  have subt := F.called_set.sub
  refine wpAny_call (codeAny_of_tree ?_)
  show wpAny _ _ (callAny (.type "set") _) _ _ _
  refine wpAny_pure ⟨Code.quiet_builtin _ (by decide +kernel), codeAny_builtin F.entry_type_call ?_⟩
  rw [Around.under_plain (weight_type_call_type "set" [.ref tp] []) rfl]
  have nt := F.called_set.notType
  have cc := F.called_set.canCreate
  have tc := F.typeCall_set_1 (.ref tp)
  repeat (any_goals (first | assumption | wp_step))
  refine codeAny_mono (code_set_led1 (.ref tp) (E := E) (Q₁ := fun v z => v = .ref s.heap.objs.size ∧ z = { s with heap := s.heap.push (new0 w) }) ⟨rfl, rfl⟩) fun r z hr => ?_
  rcases r with e | fl
  · exact hr
  cases fl with
  | next => exact hr.elim
  | brk => exact hr.elim
  | cont => exact hr.elim
  | ret v =>
  obtain ⟨rfl, rfl⟩ := hr
  have at0 : (s.heap.push (new0 w)).get? s.heap.objs.size = some (new0 w) := Heap.get?_push_size _ rfl
  have ty0 : Shared.TypeIs { s with heap := s.heap.push (new0 w) } (.ref s.heap.objs.size) "set" := ⟨_, at0, rfl⟩
  have li := F.called_set.init.lookup
  have bi := F.called_set.init.bind (.ref s.heap.objs.size)
  repeat (any_goals (first | assumption | wp_step))
  refine codeAny_mono (codeAny_call_builtin (R := wants (fun r z => r = .none ∧ ∃ g tk L es ep t, z = { s with heap := g, toks := tk } ∧ SetTR P w g s.heap.objs.size L es ep t ∧ Got qs qs.length L ∧
      (∀ b o, s.heap.get? b = some o → g.get? b = some o)) E) F.called_set.init.plain F.entry_set_init (check_set_init_1 ty0 ?_)) fun r z hr => ?_
  · have ht1 : (s.heap.push (new0 w)).IsTuple tp row := ht.push _
    obtain ⟨⟨oc, od, ox, os⟩, ho, hc, n, hd⟩ := ht
    simp only at hc hd
    subst hc; subst hd
    have ho1 : (s.heap.push (new0 w)).get? tp = some { cls := .type "tuple", dict := od, data := .seq row n, slots := os } := Heap.get?_push_of_some _ ho
    have no1 := F.sub_tuple_set
    have no2 := F.sub_tuple_frozenset
    have no3 : (Value.type "tuple" == Value.type "dict") = false := by decide
    unfold Builtin.«set.__init__» noKeywords Builtin.Frozenset.updateFrom
    generalize hPI : pyIter = PI
    wp_walk
    subst hPI
    refine wpAny_pyIter_tuple ht1 ?_
    refine wpAny_bind (wpAny_runValue ?_)
    have lt0 : tp < s.heap.objs.size := Heap.lt_size ho
    have calm3 : A.in1.in1.in1.handled = none := by simp [calm]
    have apart : tp ≠ (s.heap.push (new0 w)).objs.size := by rw [Heap.size_push]; exact Nat.ne_of_lt (Nat.lt_succ_of_lt lt0)
    have off : s.heap.objs.size ∉ [(s.heap.push (new0 w)).objs.size, tp] := by
      rw [Heap.size_push]
      simp only [List.mem_cons, List.mem_singleton, List.not_mem_nil, or_false, not_or]
      exact ⟨Nat.ne_of_lt (Nat.lt_succ_self _), Nat.ne_of_gt lt0⟩
    have what : ∀ (i : Nat) (v : Value), row[i]? = some v → ∃ p, qs[i]? = some p ∧ v = .ref p.1 := fun i v hv => by
      have q : row.toList[i]? = some v := by rw [Array.getElem?_toList]; exact hv
      rw [same, List.getElem?_map] at q
      cases z : qs[i]? with
      | none => rw [z] at q; cases q
      | some p => rw [z] at q; exact ⟨p, rfl, (Option.some.inj q).symm⟩
    have above : ∀ b, s.heap.objs.size ≤ b → s.heap.get? b = none := fun b hb => by
      cases q : s.heap.get? b with
      | none => rfl
      | some o => exact absurd (Nat.lt_of_lt_of_le (Heap.lt_size q) hb) (Nat.lt_irrefl _)
    refine set_update_tups ((Walks.tuple calm3 _ tp apart row).toS) s.heap.objs.size off qs count few what s.heap each (above _ (Nat.le_refl _))
      (fun b hb => above b (by rw [List.mem_singleton.mp hb, Heap.size_push]; exact Nat.le_succ _)) un (row.size - 0) 0 _ (by omega) (Nat.zero_le _)
      ⟨⟨_, Heap.get?_push_size _ rfl, rfl, rfl⟩, ht1.push _⟩ (fun b o e => Heap.get?_push_of_some _ (Heap.get?_push_of_some _ e)) ⟨[], #[], 0, _, setTR_fresh (Heap.get?_push_of_some _ at0), Got.zero qs⟩ ?_
    intro z L es ep t hm R got kp
    obtain ⟨g, g2, d2, tk, os2⟩ := z
    obtain rfl : g2 = s.gens := hm.gens
    obtain rfl : d2 = s.drawn := hm.drawn
    obtain rfl : os2 = s.os := hm.os
    show wpAny _ _ _ _ _ _
    refine wpAny_pure ?_
    show wpAny _ _ (ret Value.none) _ _ _
    rw [count] at got
    exact wpAny_pure ⟨rfl, g, tk, L, es, ep, t, rfl, R, got, kp⟩
  · rcases r with e | fl
    · exact hr
    cases fl with
    | next => exact hr.elim
    | brk => exact hr.elim
    | cont => exact hr.elim
    | ret v =>
    obtain ⟨rfl, g, tk, L, es, ep, t, rfl, R, got, kp⟩ := hr
    repeat (any_goals (first | assumption | wp_step))
    exact fin _ _ _ _ _ _ R got kp
end
section
variable {X : Cx}
/-- set(xs), xs a list or a tuple of tuples of ints -/
def rSetOfU (K : PySem.W.Frag) (P : Program) (w : World) : List V → Hp → VK → Prop := fun xs H Q => ∃ (l : Addr) (ks : List (Addr × List Int)), xs = [V.ref l] ∧ (SqL K H l (ks.map fun p => V.ref p.1) ∨ SqT K H l (ks.map fun p => V.ref p.1)) ∧ (∀ p ∈ ks, SqT K H p.1 (p.2.map V.int)) ∧ ks.length < 64 ∧
  ∀ a L, H a = none → (∀ p ∈ L, p ∈ ks) → (∀ p ∈ ks, p.2 ∈ L.map (·.2)) → Q (.ref a) (upd H a (SetTO P w a L))
theorem cr_setOfU (hc : X.calm = true) (hu : X.A.units + 64 < cLine) : CallR X (.type "set") (rSetOfU X.K X.prog X.w) := by
  intro pins s σ H xs us Q I r h
  obtain ⟨l, ks, rfl, hl | hl, hk, hf, q⟩ := h
  · exact cr_setOfT hc hu pins s σ H _ us Q I r ⟨l, ks, rfl, hl, hk, hf, q⟩
  · rw [Vals.ref1 r]
    obtain ⟨its, rv, pl, hz⟩ := I.tuple hl
    have hn : H s.heap.objs.size = none := I.hok.fresh (Nat.le_refl _)
    refine pi_set_tup (P := X.prog) (w := X.w) ks (I.ok.hd hc) (show s.heap.IsTuple l its.toArray from pl) (by simpa using refs_of_vals rv) (fun p hp => I.isT (hk p hp)) hf (by omega) fun g tk L es ep t R got k => ?_
    exact ⟨.ref s.heap.objs.size, _, I.laid (t' := tk) k (Nat.le_refl _) (setTO_new R.t0), rfl, q _ L hn (fun p hp => List.mem_of_mem_take (got.sub p hp)) fun p hp => got.all p (by rw [List.take_length]; exact hp)⟩
end
end L2

set_option maxRecDepth 100000
set_option maxHeartbeats 1000000
/-! PiI: sorted(set(..)); argument lists; displays; slices; calls of what is built in. -/
namespace Pi
open PySem PySem.Spec L2

/-! ### sorted(set(xs)), xs pairs of small numbers -/
def pairD (l : List Int) : D := .tup (l.map .int)
def keyD : D → Int
  | .tup [.int i, .int j] => i * 64 + j
  | _ => 0
theorem flat_pair {d : D} (h : flatInts d = true) : ∃ i j : Int, d = pairD [i, j] ∧ 0 ≤ i ∧ i < 64 ∧ 0 ≤ j ∧ j < 64 := by
  unfold flatInts at h
  split at h
  · rename_i i j
    simp only [Bool.and_eq_true, decide_eq_true_eq] at h
    exact ⟨i, j, rfl, h.1.1, h.1.2, h.2.1, h.2.2⟩
  · cases h
theorem keyD_inj {a b : D} (ha : flatInts a = true) (hb : flatInts b = true) (h : keyD a = keyD b) : a = b := by
  obtain ⟨i, j, rfl, h1, h2, h3, h4⟩ := flat_pair ha
  obtain ⟨k, l, rfl, h5, h6, h7, h8⟩ := flat_pair hb
  have h : i * 64 + j = k * 64 + l := h
  have e1 : i = k := by omega
  have e2 : j = l := by omega
  rw [e1, e2]
theorem deq_flat {a b : D} (ha : flatInts a = true) (hb : flatInts b = true) : deq a b = true ↔ a = b := by
  obtain ⟨i, j, rfl, h1, h2, h3, h4⟩ := flat_pair ha
  obtain ⟨k, l, rfl, h5, h6, h7, h8⟩ := flat_pair hb
  show ((i == k) && ((j == l) && true)) = true ↔ _
  by_cases e1 : i = k <;> by_cases e2 : j = l <;> simp [e1, e2, pairD]
theorem dlt_flat {a b : D} (ha : flatInts a = true) (hb : flatInts b = true) : dlt a b = decide (keyD a < keyD b) := by
  obtain ⟨i, j, rfl, h1, h2, h3, h4⟩ := flat_pair ha
  obtain ⟨k, l, rfl, h5, h6, h7, h8⟩ := flat_pair hb
  show (if (i == k) then (if (j == l) then false else decide (j < l)) else decide (i < k)) = decide (i * 64 + j < k * 64 + l)
  by_cases e1 : i = k
  · subst e1
    rw [if_pos (by simp)]
    by_cases e2 : j = l
    · subst e2; simp
    · rw [if_neg (by simpa using e2)]
      congr 1
      exact propext ⟨fun _ => by omega, fun _ => by omega⟩
  · rw [if_neg (by simpa using e1)]
    congr 1
    exact propext ⟨fun _ => by omega, fun _ => by omega⟩
abbrev Asc (xs : List D) : Prop := xs.Pairwise fun a b => keyD a < keyD b
theorem mem_insB {x y : D} : ∀ {xs : List D}, y ∈ insB x xs ↔ y = x ∨ y ∈ xs
  | [] => by simp [insB]
  | z :: zs => by
    unfold insB
    split
    · rw [List.mem_cons, mem_insB, List.mem_cons]
      constructor
      · rintro (h | h | h)
        · exact .inr (.inl h)
        · exact .inl h
        · exact .inr (.inr h)
      · rintro (h | h | h)
        · exact .inr (.inl h)
        · exact .inl h
        · exact .inr (.inr h)
    · rw [List.mem_cons]
theorem mem_isort {y : D} : ∀ {xs : List D}, y ∈ isort xs ↔ y ∈ xs
  | [] => by simp [isort]
  | x :: xs => by
    unfold isort
    rw [mem_insB, mem_isort, List.mem_cons]
theorem insB_asc {x : D} (hx : flatInts x = true) : ∀ {xs : List D}, (∀ y ∈ xs, flatInts y = true) → x ∉ xs → Asc xs → Asc (insB x xs)
  | [], _, _, _ => List.pairwise_singleton _ _
  | y :: ys, hf, hn, ha => by
    have hy := hf y List.mem_cons_self
    have ha := List.pairwise_cons.mp ha
    unfold insB
    rw [dlt_flat hy hx]
    split
    · rename_i h
      have h := of_decide_eq_true h
      refine List.pairwise_cons.mpr ?_
      refine ⟨fun z hz => ?_, insB_asc hx (fun z hz => hf z (List.mem_cons_of_mem _ hz)) (fun z => hn (List.mem_cons_of_mem _ z)) ha.2⟩
      rcases mem_insB.mp hz with rfl | hz
      · exact h
      · exact ha.1 z hz
    · rename_i h
      have h : ¬ keyD y < keyD x := fun z => h (decide_eq_true z)
      have hne : keyD x ≠ keyD y := fun e => hn (by rw [keyD_inj hx hy e]; exact List.mem_cons_self)
      refine List.pairwise_cons.mpr ⟨fun z hz => ?_, List.pairwise_cons.mpr ha⟩
      rcases List.mem_cons.mp hz with rfl | hz
      · omega
      · have := ha.1 z hz; omega
theorem isort_asc : ∀ {xs : List D}, (∀ y ∈ xs, flatInts y = true) → xs.Nodup → Asc (isort xs)
  | [], _, _ => List.Pairwise.nil
  | x :: xs, hf, hn => by
    rw [List.nodup_cons] at hn
    have hf' : ∀ y ∈ xs, flatInts y = true := fun y hy => hf y (List.mem_cons_of_mem _ hy)
    unfold isort
    exact insB_asc (hf x List.mem_cons_self) (fun y hy => hf' y (mem_isort.mp hy)) (fun z => hn.1 (mem_isort.mp z)) (isort_asc hf' hn.2)
theorem dmem_flat {x : D} (hx : flatInts x = true) : ∀ {ys : List D}, (∀ y ∈ ys, flatInts y = true) → (dmem x ys = true ↔ x ∈ ys)
  | [], _ => by simp [dmem]
  | y :: ys, h => by
    unfold dmem
    rw [Bool.or_eq_true, deq_flat (h y List.mem_cons_self) hx, dmem_flat hx fun z hz => h z (List.mem_cons_of_mem _ hz), List.mem_cons]
    exact ⟨fun z => z.imp Eq.symm id, fun z => z.imp Eq.symm id⟩
theorem dedup_spec : ∀ {xs seen : List D}, (∀ y ∈ xs, flatInts y = true) → (∀ y ∈ seen, flatInts y = true) → (dedup seen xs).Nodup ∧ ∀ y, y ∈ dedup seen xs ↔ y ∈ xs ∧ y ∉ seen
  | [], seen, _, _ => by simp [dedup]
  | x :: xs, seen, h1, h2 => by
    have hx := h1 x List.mem_cons_self
    have h1' : ∀ y ∈ xs, flatInts y = true := fun y hy => h1 y (List.mem_cons_of_mem _ hy)
    unfold dedup
    split
    · rename_i hm
      have hm := (dmem_flat hx h2).mp hm
      obtain ⟨q1, q2⟩ := dedup_spec (seen := seen) h1' h2
      refine ⟨q1, fun y => ?_⟩
      rw [q2, List.mem_cons]
      exact ⟨fun z => ⟨.inr z.1, z.2⟩, fun z => ⟨z.1.resolve_left fun e => z.2 (by rw [e]; exact hm), z.2⟩⟩
    · rename_i hm
      have hm : x ∉ seen := fun z => hm ((dmem_flat hx h2).mpr z)
      have h2' : ∀ y ∈ x :: seen, flatInts y = true := fun y hy => by
        rcases List.mem_cons.mp hy with rfl | hy
        · exact hx
        · exact h2 y hy
      obtain ⟨q1, q2⟩ := dedup_spec (seen := x :: seen) h1' h2'
      refine ⟨List.nodup_cons.mpr ⟨fun z => ((q2 x).mp z).2 List.mem_cons_self, q1⟩, fun y => ?_⟩
      rw [List.mem_cons, q2, List.mem_cons, List.mem_cons, not_or]
      by_cases e : y = x
      · subst e; simp [hm]
      · simp [e]
theorem asc_same : ∀ {xs ys : List D}, Asc xs → Asc ys → (∀ y, y ∈ xs ↔ y ∈ ys) → xs = ys
  | [], [], _, _, _ => rfl
  | [], y :: ys, _, _, h => absurd ((h y).mpr List.mem_cons_self) (by simp)
  | x :: xs, [], _, _, h => absurd ((h x).mp List.mem_cons_self) (by simp)
  | x :: xs, y :: ys, h1, h2, h => by
    have h1 := List.pairwise_cons.mp h1
    have h2 := List.pairwise_cons.mp h2
    have e : x = y := by
      rcases List.mem_cons.mp ((h x).mp List.mem_cons_self) with e | z
      · exact e
      · rcases List.mem_cons.mp ((h y).mpr List.mem_cons_self) with e' | z'
        · exact e'.symm
        · have a1 := h2.1 x z
          have a2 := h1.1 y z'
          omega
    subst e
    have hn : ∀ {zs : List D}, (∀ a ∈ zs, keyD x < keyD a) → x ∉ zs := fun q z => by have := q x z; omega
    rw [asc_same h1.2 h2.2 fun z => ⟨fun hz => by
        rcases List.mem_cons.mp ((h z).mp (List.mem_cons_of_mem _ hz)) with e | z'
        · rw [e] at hz; exact absurd hz (hn h1.1)
        · exact z', fun hz => by
        rcases List.mem_cons.mp ((h z).mpr (List.mem_cons_of_mem _ hz)) with e | z'
        · rw [e] at hz; exact absurd hz (hn h2.1)
        · exact z'⟩]

section
variable {F : Fx} {Mu : Addr → Prop} {m : Nat → Addr} {n : Nat} {H : Hp}
theorem reps_ints : ∀ {l : List Int} {vs : List V}, Reps F Mu m n H vs (l.map .int) → vs = l.map V.int
  | [], [], _ => rfl
  | i :: l, v :: vs, h => by
    obtain rfl : v = .int i := h.1
    rw [reps_ints h.2]; rfl
  | [], _ :: _, h => h.elim
  | _ :: _, [], h => h.elim
theorem ints_reps : ∀ (l : List Int), Reps F Mu m n H (l.map V.int) (l.map .int)
  | [] => trivial
  | i :: l => ⟨rfl, ints_reps l⟩
/-- pairs as the set's rules take them -/
theorem pairs_of : ∀ {xs : List D} {vs : List V}, xs.all flatInts = true → Reps F Mu m n H vs xs → ∃ ks : List (Addr × List Int), vs = ks.map (fun p => V.ref p.1) ∧ xs = ks.map (fun p => pairD p.2) ∧ ∀ p ∈ ks, SqT F.K H p.1 (p.2.map V.int) ∧ ∃ i j : Int, p.2 = [i, j] ∧ 0 ≤ i ∧ i < 64 ∧ 0 ≤ j ∧ j < 64
  | [], [], _, _ => ⟨[], rfl, rfl, fun _ h => by cases h⟩
  | x :: xs, v :: vs, hf, h => by
    rw [List.all_cons, Bool.and_eq_true] at hf
    obtain ⟨ks, rfl, rfl, hk⟩ := pairs_of hf.2 h.2
    obtain ⟨i, j, rfl, h1, h2, h3, h4⟩ := flat_pair hf.1
    obtain ⟨a, ws, rfl, hq, hr⟩ := h.1
    refine ⟨(a, [i, j]) :: ks, rfl, rfl, fun p hp => ?_⟩
    rcases List.mem_cons.mp hp with rfl | hp
    · refine ⟨?_, i, j, rfl, h1, h2, h3, h4⟩
      rw [← reps_ints hr]; exact hq
    · exact hk p hp
  | [], _ :: _, _, h => h.elim
  | _ :: _, [], _, h => h.elim
theorem reps_pairs : ∀ {ks : List (Addr × List Int)}, (∀ p ∈ ks, SqT F.K H p.1 (p.2.map V.int)) → Reps F Mu m n H (ks.map fun p => V.ref p.1) (ks.map fun p => pairD p.2)
  | [], _ => trivial
  | p :: ks, h => ⟨⟨p.1, _, rfl, h p List.mem_cons_self, ints_reps _⟩, reps_pairs fun q hq => h q (List.mem_cons_of_mem _ hq)⟩
end
theorem pairD_inj {a b : List Int} (h : pairD a = pairD b) : a = b := by
  have h : a.map D.int = b.map D.int := by injection h
  exact List.map_inj_right (fun _ _ e => by injection e) |>.mp h
/-- what sorted(set(..)) leaves -/
theorem set_sorted {ks L L' : List (Addr × List Int)} (hk : ∀ p ∈ ks, ∃ i j : Int, p.2 = [i, j] ∧ 0 ≤ i ∧ i < 64 ∧ 0 ≤ j ∧ j < 64) (h1 : ∀ p ∈ L, p ∈ ks) (h2 : ∀ p ∈ ks, p.2 ∈ L.map (·.2)) (pm : L'.Perm L) (nd : (L'.map (·.2)).Nodup)
    (pw : L'.Pairwise (fun q r => TS.code 64 q.2 ≤ TS.code 64 r.2)) : L'.map (fun p => pairD p.2) = isort (dedup [] (ks.map fun p => pairD p.2)) := by
  have hf : ∀ y ∈ ks.map (fun p => pairD p.2), flatInts y = true := fun y hy => by
    obtain ⟨p, hp, rfl⟩ := List.mem_map.mp hy
    obtain ⟨i, j, e, q1, q2, q3, q4⟩ := hk p hp
    rw [e]
    show (decide (0 ≤ i) && decide (i < 64) && (decide (0 ≤ j) && decide (j < 64))) = true
    simp [q1, q2, q3, q4]
  have hk' : ∀ p ∈ L', ∃ i j : Int, p.2 = [i, j] ∧ 0 ≤ i ∧ i < 64 ∧ 0 ≤ j ∧ j < 64 := fun p hp => hk p (h1 p (pm.mem_iff.mp hp))
  obtain ⟨d1, d2⟩ := dedup_spec (seen := []) hf (fun _ h => by cases h)
  refine asc_same ?_ (isort_asc (fun y hy => hf y ((d2 y).mp hy).1) d1) fun y => ?_
  · refine List.pairwise_map.mpr ?_
    have ne : L'.Pairwise fun q r => q.2 ≠ r.2 := List.pairwise_map.mp nd
    refine List.Pairwise.imp_of_mem ?_ (pw.and ne)
    intro q r hq hr ⟨hle, hne⟩
    obtain ⟨i, j, e, q1, q2, q3, q4⟩ := hk' q hq
    obtain ⟨k, l, e', q5, q6, q7, q8⟩ := hk' r hr
    rw [e, e'] at hle hne ⊢
    have := pair_lt hle hne ⟨q1, q2⟩ ⟨q3, q4⟩ ⟨q5, q6⟩ ⟨q7, q8⟩
    show i * 64 + j < k * 64 + l
    omega
  · rw [mem_isort, d2]
    constructor
    · intro h
      obtain ⟨p, hp, rfl⟩ := List.mem_map.mp h
      exact ⟨List.mem_map.mpr ⟨p, h1 p (pm.mem_iff.mp hp), rfl⟩, by simp⟩
    · rintro ⟨h, _⟩
      obtain ⟨p, hp, rfl⟩ := List.mem_map.mp h
      obtain ⟨q, hq, e⟩ := List.mem_map.mp (h2 p hp)
      exact List.mem_map.mpr ⟨q, pm.mem_iff.mpr hq, by rw [e]⟩

section
variable {X : Cx} {F : Fx} {G : Gl} {call : Nat → List D → Sto → RC} {W : WX} {bw : Bool} {pos : Pos}
theorem evs_one {a : C} {env : Env} {st : Sto} : evs G call bw [a] env st = (ev G call bw a env st).bind fun x env st => .ok [x.1] env st := by
  rw [evs]
  congr 1
theorem bind_bind {α β γ : Type} (r : R α) (f : α → Env → Sto → R β) (g : β → Env → Sto → R γ) : (r.bind f).bind g = r.bind fun a env st => (f a env st).bind g := by
  cases r <;> rfl
theorem bifF_ss {st : Sto} {d : D} : bifF G st .sortset [d] = bifn G .sortset [d] := by
  unfold bifF
  cases bifn G .sortset [d] <;> rfl
theorem rd_sortset {a : C} {ea : Expr} {p1 p2 q1 q2 : Pos} (hK : X.K = F.K) (hu : X.A.units + 64 < cLine) (hc : X.calm = true) (g1 : L2.Gl X "sorted") (m1 : X.mg "sorted" = none) (g2 : L2.Gl X "set") (m2 : X.mg "set" = none) (hs : ∀ env, starEach [ea] env = (false, eval ea env) :: starEach [] env) (ha : PE X ea (RdE F G call W true a)) :
    PE X (.Call (.Name "sorted" p1) [.Call (.Name "set" p2) [ea] [] q2] [] q1) (RdE F G call W bw (.bi .sortset [a])) := by
  have e1 : PE X (.Call (.Name "set" p2) [ea] [] q2) (tCB (rSetOfU X.K X.prog X.w) (tCons (RdE F G call W true a) tNil)) := pe_callTy (cr_setOfU hc hu) g2 m2 PyProof.Rows.boot_set (pa_cons ha pa_nil (hs _)) (he := hs _)
  refine (pe_callB (cr_sortedT hc) g1 m1 PyProof.Rows.boot_sorted (pa_cons e1 pa_nil)).imp fun σ H Q ⟨Uo, m, env, st, S, q⟩ => ?_
  rw [ev, evs_one, bind_bind] at q
  refine ⟨Uo, m, env, st, S, bindE closedE q fun v d o1 m1 env1 st1 H1 p1 S1 r1 q1 => ?_⟩
  have rb := r1.toB S1
  have key : ∀ (a : Addr) (vs : List V) (xs : List D), v = .ref a → (Rd H1 a (.lst vs) ∨ SqT F.K H1 a vs) → Reps F (MuOf Uo env1 σ m1 st1.length) m1 st1.length H1 vs xs → PostE F Uo env1 σ m1 st1.length H1 W bw Q (lift (sortSetD xs) env1 st1) →
      rSetOfU X.K X.prog X.w [v] H1 fun x H2 => rSortedT X.K X.prog X.w [x] H2 Q := by
    intro a vs xs ea hq hr q1
    subst ea
    unfold sortSetD at q1
    split at q1
    · rename_i hb
      rw [Bool.and_eq_true, decide_eq_true_eq] at hb
      obtain ⟨ks, rfl, rfl, hk⟩ := pairs_of hb.1 hr
      refine ⟨a, ks, rfl, ?_, fun p hp => by rw [hK]; exact (hk p hp).1, by simpa using hb.2, fun b L hb0 l1 l2 => ?_⟩
      · rcases hq with hq | hq
        · exact .inl (.inl hq)
        · exact .inr (by rw [hK]; exact hq)
      have kp : ∀ p ∈ L, SqT F.K (upd H1 b (SetTO X.prog X.w b L)) p.1 (p.2.map V.int) := fun p hp => SqT.mov (fun c o e _ => upd_keep hb0 c o e) (hk p (l1 p hp)).1
      refine ⟨b, L, 2, 64, rfl, upd_same, fun p hp => by rw [hK]; exact kp p hp, by decide, fun p hp => ?_, fun L' p pm nd few pw hp0 => ?_⟩
      · obtain ⟨_, i, j, e, z1, z2, z3, z4⟩ := hk p (l1 p hp)
        rw [e]
        refine ⟨rfl, fun z hz => ?_⟩
        rcases List.mem_cons.mp hz with rfl | hz
        · exact ⟨z1, z2⟩
        · rcases List.mem_cons.mp hz with rfl | hz
          · exact ⟨z3, z4⟩
          · cases hz
      · have es := set_sorted (fun p hp => (hk p hp).2) l1 l2 pm nd pw
        have q1 : PostE F Uo env1 σ m1 st1.length H1 W bw Q (.ok (.lst (isort (dedup [] (ks.map fun p => pairD p.2))), true) env1 st1) := q1
        rw [← es] at q1
        exact (closedE.step _ _ _ _ _ _ _ _ _ (Step.fresh hb0) q1).newL (S1.base.fresh hb0) hp0 (reps_pairs fun p hp => kp p (pm.mem_iff.mp hp))
    · exact q1.elim
  show rSetOfU X.K X.prog X.w [v] H1 fun x H2 => rSortedT X.K X.prog X.w [x] H2 Q
  have q1 : PostE F Uo env1 σ m1 st1.length H1 W bw Q (lift (bifF G st1 .sortset [d]) env1 st1) := q1
  rw [bifF_ss] at q1
  cases d with
  | lst xs =>
    obtain ⟨b, vs, rfl, hq, _, hr⟩ := rb
    exact key b vs xs rfl (.inl hq) hr q1
  | tup xs =>
    obtain ⟨b, vs, rfl, hq, hr⟩ := rb
    exact key b vs xs rfl (.inr hq) hr q1
  | _ => exact q1.elim
end
end Pi

set_option maxRecDepth 100000
set_option maxHeartbeats 1000000
/-! PiJ: what is walked. -/
namespace PySem
theorem pi_meets_enum {v : Value} {o : Obj} {H : Heap → Prop} (B : Begins v o H) :
    Meets (Builtin.«enumerate.__new__» ⟨[.type "enumerate", v], []⟩) (fun _ R s => H s.heap ∧
      R (.ok (.ret (.ref (s.heap.push o).objs.size))) { s with heap := (s.heap.push o).push { cls := .type "enumerate", data := .fields #[.none, .bool false, .ref s.heap.objs.size, rawInt 0, .none, .none] } }) :=
  .of_wp fun prog w A R s h => by
    obtain ⟨hp, g, d, tk, os⟩ := s
    obtain ⟨h1, h⟩ := h
    have hsub := sub_enumerate
    have q1 : ∀ {A' : Around} {E : Value → Shared → Prop} {Q : Value → Shared → Prop}, Q (.ref hp.objs.size) ⟨hp.push o, g, d, tk, os⟩ → wpAny (model prog w) A' (pyIter v) Q E ⟨hp, g, d, tk, os⟩ :=
      fun q => B.iter prog w _ _ ⟨hp, g, d, tk, os⟩ _ h1 q
    wp_walk using q1
    refine wpAny_stack_any fun st => wpAny_pure ?_
    split
    · rename_i c _ _ _ _ _
      cases (c == Value.type "enumerate")
      · wp_walk using q1
        exact ⟨_, rfl, h⟩
      · wp_walk using q1
        exact ⟨_, rfl, h⟩
    · wp_walk using q1
      exact ⟨_, rfl, h⟩
theorem pi_call_enum {prog : Program} {w : World} {A : Around} {E : Value → Shared → Prop} {s : Shared} {v : Value} {o : Obj} {H : Heap → Prop} {Q : Value → Shared → Prop} (B : Begins v o H) (h1 : H s.heap)
    (h : ∀ h', IsEnum h' (s.heap.objs.size + 1) s.heap.objs.size 0 .none → h'.get? s.heap.objs.size = some o → h'.objs.size = s.heap.objs.size + 2 →
      (∀ b o, s.heap.get? b = some o → h'.get? b = some o) → Q (.ref (s.heap.objs.size + 1)) { s with heap := h' }) :
    wpAny (model prog w) A (call (.type "enumerate") [v]) Q E s := by
  refine callType_new F.called_enumerate (by decide) (F.typeCall_enumerate_1 _) (F.newCall_enumerate_1 _) (fun obj => F.args_object_init_2 obj _) F.entry_enumerate_new (pi_meets_enum B) ⟨h1, ?_⟩
  have hz : (s.heap.push o).objs.size = s.heap.objs.size + 1 := Heap.size_push ..
  show _ ∧ _
  rw [hz]
  have he : IsEnum ((s.heap.push o).push { cls := .type "enumerate", data := .fields #[.none, .bool false, .ref s.heap.objs.size, rawInt 0, .none, .none] }) (s.heap.objs.size + 1) s.heap.objs.size 0 .none := by
    have := Heap.get?_push_size (s.heap.push o) (o := { cls := .type "enumerate", data := .fields #[.none, .bool false, .ref s.heap.objs.size, rawInt 0, .none, .none] }) rfl
    rw [hz] at this; exact this
  exact ⟨⟨_, he, rfl⟩, h _ he (Heap.get?_push_of_some _ (Heap.get?_push_size _ B.free)) (by rw [Heap.size_push, hz]) fun b o x => Heap.get?_push_of_some _ (Heap.get?_push_of_some _ x)⟩
end PySem
namespace Pi
open PySem PySem.Spec L2
open PyProof.Rows (boot_enumerate boot_zip Call_)

/-- the tuple at a, its items in new pairs with their numbers -/
def IteT (K : PySem.W.Frag) (a : Addr) : It :=
  ⟨fun i H => ∃ (xs : List V) (x : V), SqT K H a xs ∧ xs[i]? = some x, fun i H v H' => ∃ T x, v = .ref T ∧ H T = none ∧ H' = upd H T (.tup [.int (i : Nat), x]) ∧ ∀ xs, SqT K H a xs → xs[i]? = some x, fun i H => ∃ xs : List V, SqT K H a xs ∧ xs.length = i⟩
theorem turn_enumT {P : Program} {w : World} {K : PySem.W.Frag} {elts : List Expr} {kk : Nat} {tpos : Pos} (a e it : Addr) :
    Turn P w K (.Tuple elts kk tpos) (IteT K a) [e, it] e (fun i h => (∃ old, IsEnum h e it ((i : Nat) : Int) old) ∧ h.IsTupleIter it a i ∧ e ≠ it) where
  mem := by simp
  obj := fun i h st b hb => by
    obtain ⟨⟨old, he⟩, ⟨o, ho, hc, hd⟩, _⟩ := st
    have e' : b = e ∨ b = it := by simpa using hb
    rcases e' with z | z
    · rw [z]; exact ⟨_, he, fun v q => nomatch q⟩
    · rw [z]; exact ⟨o, ho, fun v q => by rw [hd] at q; cases q⟩
  keep := fun i h h' st k => let ⟨⟨old, he⟩, hi, hne⟩ := st; ⟨⟨old, k e (by simp) _ he⟩, hi.at fun o q => k it (by simp) o q, hne⟩
  item := by
    intro X hP hw hK hc i pins s σ H E I hf st hg
    subst hP hw hK
    obtain ⟨⟨old, he⟩, hit, hne⟩ := st
    obtain ⟨xs, x, hq, hx⟩ := hg
    obtain ⟨its, rv, p, hz⟩ := I.tuple hq
    obtain ⟨u, hu, ru⟩ := rv.get hx
    have p : s.heap.IsTuple a its.toArray := p
    have hel : e < s.heap.objs.size := Heap.lt_size he
    have hil : it < s.heap.objs.size := by obtain ⟨_, q, _⟩ := hit; exact Heap.lt_size q
    have ha : a ≠ it := fun z => by
      obtain ⟨o1, e1, c1, _⟩ := p
      obtain ⟨o2, e2, c2, _⟩ := hit
      rw [z, e2] at e1
      cases e1
      rw [c1] at c2
      exact absurd c2 (by decide)
    have ha2 : a ≠ e := fun z => by
      obtain ⟨o1, e1, c1, _⟩ := p
      rw [z, show s.heap.get? e = some _ from he] at e1
      cases e1
      exact absurd (show Value.type "enumerate" = Value.type "tuple" from c1) (by decide)
    have hun : its.toArray[i]? = some u := by simpa using hu
    have hlt : i < its.toArray.size := (Array.getElem?_eq_some_iff.mp hun).1
    refine wpAny_pyNext_enum_itemD (Draws.tuple (A := X.A.in1) (by simpa using I.ok.hd hc) it a ha its.toArray) he ⟨hit, p⟩ hlt hne (by simp [hne, Ne.symm ha2]) fun y h' tk hy ho st' hT hsz hk => ?_
    obtain ⟨hit', _⟩ := st'
    rw [hun] at hy
    cases hy
    refine ⟨_, rfl, wpAny_letOwnedTupleGo_enum (s := { s with heap := h', toks := tk + 1 }) ho fun h'' he' sb => ?_⟩
    have hT2 : h''.get? s.heap.objs.size = some { cls := .type "tuple", data := .seq #[.int i tk, u] } := (sb.2 _ (Nat.ne_of_gt hel)).trans hT
    have new : ObjOk X.prog X.w (upd H s.heap.objs.size (.tup [.int (i : Nat), x])) h'' s.heap.objs.size (.tup [.int (i : Nat), x]) :=
      ⟨by show 2 ≤ sizeLine; decide, [.int i tk, u], .cons ⟨_, rfl⟩ (.cons ru .nil), ⟨_, hT2, rfl, _, rfl⟩⟩
    have I1 : Inv X pins σ (upd H s.heap.objs.size (.tup [.int (i : Nat), x])) { s with heap := h'', toks := tk + 1 } :=
      I.turnedNew (ch := [e, it]) (fun b ob hb q => (sb.2 b (fun z => hb (by simp [z]))).trans (hk b ob (fun z => hb (by simp [z])) (fun z => hb (by simp [z])) q)) hf (Nat.le_refl _) new
    refine ⟨.ref s.heap.objs.size, _, I1, rfl, ⟨_, x, rfl, I.hok.fresh (Nat.le_refl _), rfl, fun ys hy => by rw [I.tuple_inj hy hq]; exact hx⟩, ⟨⟨u, ?_⟩, hit'.at fun o q => (sb.2 it (Ne.symm hne)).trans q, hne⟩, fun b hb => ?_⟩
    · have e1 : ((i + 1 : Nat) : Int) = (i : Int) + 1 := by omega
      rw [e1]; exact he'
    · have hb' : b < s.heap.objs.size := by
        have e' : b = e ∨ b = it := by simpa using hb
        rcases e' with z | z
        · rw [z]; exact hel
        · rw [z]; exact hil
      rw [upd_ne (Nat.ne_of_lt hb')]
      exact (hf b hb).1
  done := by
    intro X hP hw hK hc i pins s σ H E I hf st hg
    subst hP hw hK
    obtain ⟨⟨old, he⟩, hit, hne⟩ := st
    obtain ⟨xs, hq, hx⟩ := hg
    obtain ⟨its, rv, p, hz⟩ := I.tuple hq
    have p : s.heap.IsTuple a its.toArray := p
    obtain ⟨f0, f1, f2, f3, f4, f5⟩ := hf it (by simp)
    have hl := rv.length
    have ha : a ≠ it := fun z => by
      obtain ⟨o1, e1, c1, _⟩ := p
      obtain ⟨o2, e2, c2, _⟩ := hit
      rw [z, e2] at e1
      cases e1
      rw [c1] at c2
      exact absurd c2 (by decide)
    have ei : its.toArray.size = i := by rw [List.size_toArray]; omega
    subst ei
    exact wpAny_pyNext_enum_endD (Draws.tuple (A := X.A.in1) (by simpa using I.ok.hd hc) it a ha its.toArray) he ⟨hit, p⟩ fun h' eb => ⟨rfl, I.turned (t' := s.toks) (fun b o hb q => eb b o hb q) f0 f1 f3 f4 f5⟩
  self := fun A i s Q E st h => let ⟨⟨_, he⟩, _⟩ := st; wpAny_pyIter_enum he h

/-- the signs of a text, in new pairs with their numbers -/
def IteS (x : Str) : It := ⟨fun i _ => i < x.cps.size, fun i H v H' => ∃ T c, v = .ref T ∧ H T = none ∧ H' = upd H T (.tup [.int (i : Nat), .str ⟨#[c]⟩]) ∧ x.cps[i]? = some c, fun i _ => x.cps.size = i⟩
theorem turn_enumS {P : Program} {w : World} {K : PySem.W.Frag} {elts : List Expr} {kk : Nat} {tpos : Pos} (x : Str) (t : Tok) (e it : Addr) :
    Turn P w K (.Tuple elts kk tpos) (IteS x) [e, it] e (fun i h => (∃ old, IsEnum h e it ((i : Nat) : Int) old) ∧ h.IsStrIter it (strIterType x) x t i ∧ e ≠ it) where
  mem := by simp
  obj := fun i h st b hb => by
    obtain ⟨⟨old, he⟩, ⟨o, ho, hc, hd⟩, _⟩ := st
    have e' : b = e ∨ b = it := by simpa using hb
    rcases e' with z | z
    · rw [z]; exact ⟨_, he, fun v q => nomatch q⟩
    · rw [z]; exact ⟨o, ho, fun v q => by rw [hd] at q; cases q⟩
  keep := fun i h h' st k => let ⟨⟨old, he⟩, ⟨o, ho, r⟩, hne⟩ := st; ⟨⟨old, k e (by simp) _ he⟩, ⟨o, k it (by simp) o ho, r⟩, hne⟩
  item := by
    intro X hP hw hK hc i pins s σ H E I hf st hg
    subst hP hw hK
    obtain ⟨⟨old, he⟩, hit, hne⟩ := st
    have hel : e < s.heap.objs.size := Heap.lt_size he
    have hil : it < s.heap.objs.size := by obtain ⟨_, q, _⟩ := hit; exact Heap.lt_size q
    refine wpAny_pyNext_enum_itemD (Draws.text (A := X.A.in1) (by simpa using I.ok.hd hc) it x t) he hit hg hne (by simp [hne]) fun y h' tk hy ho st' hT hsz hk => ?_
    obtain ⟨c, u, hcx, rfl⟩ := hy
    have hit' := st'
    refine ⟨_, rfl, wpAny_letOwnedTupleGo_enum (s := { s with heap := h', toks := tk + 1 }) ho fun h'' he' sb => ?_⟩
    have hT2 : h''.get? s.heap.objs.size = some { cls := .type "tuple", data := .seq #[.int i tk, .str ⟨#[c]⟩ u] } := (sb.2 _ (Nat.ne_of_gt hel)).trans hT
    have new : ObjOk X.prog X.w (upd H s.heap.objs.size (.tup [.int (i : Nat), .str ⟨#[c]⟩])) h'' s.heap.objs.size (.tup [.int (i : Nat), .str ⟨#[c]⟩]) :=
      ⟨by show 2 ≤ sizeLine; decide, [.int i tk, .str ⟨#[c]⟩ u], .cons ⟨_, rfl⟩ (.cons ⟨_, rfl⟩ .nil), ⟨_, hT2, rfl, _, rfl⟩⟩
    have I1 : Inv X pins σ (upd H s.heap.objs.size (.tup [.int (i : Nat), .str ⟨#[c]⟩])) { s with heap := h'', toks := tk + 1 } :=
      I.turnedNew (ch := [e, it]) (fun b ob hb q => (sb.2 b (fun z => hb (by simp [z]))).trans (hk b ob (fun z => hb (by simp [z])) (fun z => hb (by simp [z])) q)) hf (Nat.le_refl _) new
    refine ⟨.ref s.heap.objs.size, _, I1, rfl, ⟨_, c, rfl, I.hok.fresh (Nat.le_refl _), rfl, hcx⟩, ⟨⟨.str ⟨#[c]⟩ u, ?_⟩, ?_, hne⟩, fun b hb => ?_⟩
    · have e1 : ((i + 1 : Nat) : Int) = (i : Int) + 1 := by omega
      rw [e1]; exact he'
    · obtain ⟨o2, ho2, r2⟩ := hit'
      exact ⟨o2, (sb.2 it (Ne.symm hne)).trans ho2, r2⟩
    · have hb' : b < s.heap.objs.size := by
        have e' : b = e ∨ b = it := by simpa using hb
        rcases e' with z | z
        · rw [z]; exact hel
        · rw [z]; exact hil
      rw [upd_ne (Nat.ne_of_lt hb')]
      exact (hf b hb).1
  done := by
    intro X hP hw hK hc i pins s σ H E I hf st hg
    subst hP hw hK
    obtain ⟨⟨old, he⟩, hit, hne⟩ := st
    obtain ⟨f0, f1, f2, f3, f4, f5⟩ := hf it (by simp)
    have hg : x.cps.size = i := hg
    subst hg
    exact wpAny_pyNext_enum_endD (Draws.text (A := X.A.in1) (by simpa using I.ok.hd hc) it x t) he hit fun h' eb => ⟨rfl, I.turned (t' := s.toks) (fun b o hb q => eb b o hb q) f0 f1 f3 f4 f5⟩
  self := fun A i s Q E st h => let ⟨⟨_, he⟩, _⟩ := st; wpAny_pyIter_enum he h

section
variable {X : Cx} {tg : Expr}
/-- a list or a tuple, walked -/
theorem pi_seq {l : Expr} {tl : TE} (hl : PE X l tl) : PI X tg l (fun σ H R => tl σ H fun x H1 => ∃ a, x = .ref a ∧ (((∃ xs, SqL X.K H1 a xs) ∧ R (Itl X.K a) H1) ∨ ((∃ xs, SqT X.K H1 a xs) ∧ R (Itt X.K a) H1))) := by
  refine ⟨fun pins s σ H R I h => ?_⟩
  refine thn (hl.run pins s σ H _ I h) fun v s1 ⟨x, H1, I1, r1, q1⟩ => ?_
  obtain ⟨a, e, q⟩ := q1
  subst e
  cases r1
  rcases q with ⟨⟨xs, hq⟩, q⟩ | ⟨⟨xs, hq⟩, q⟩
  · obtain ⟨its, rv, p, hz⟩ := I1.list hq
    refine wpAny_pyIter_list p.isList ?_
    refine ⟨s1.heap.objs.size, [s1.heap.objs.size], _, _, H1, rfl, I1.kept (t' := s1.toks) fun b o e => Heap.get?_push_of_some _ e, turn_list a _, ⟨_, Heap.get?_push_size _ rfl, rfl, rfl⟩, fun b hb => ?_, q⟩
    obtain rfl : b = s1.heap.objs.size := by simpa using hb
    exact I1.fpOk (Nat.le_refl _) (I1.hok.fresh (Nat.le_refl _))
  · obtain ⟨its, rv, p, hz⟩ := I1.tuple hq
    refine wpAny_pyIter_tuple (show s1.heap.IsTuple a its.toArray from p) ?_
    refine ⟨s1.heap.objs.size, [s1.heap.objs.size], _, _, H1, rfl, I1.kept (t' := s1.toks) fun b o e => Heap.get?_push_of_some _ e, turn_tuple a _, ⟨_, Heap.get?_push_size _ rfl, rfl, rfl⟩, fun b hb => ?_, q⟩
    obtain rfl : b = s1.heap.objs.size := by simpa using hb
    exact I1.fpOk (Nat.le_refl _) (I1.hok.fresh (Nat.le_refl _))
/-- enumerate(a list or a tuple) -/
theorem pi_enumA {e : Expr} {ta : TA} {p pos tpos : Pos} {elts : List Expr} {kk : Nat} (hg : L2.Gl X "enumerate") (hm : X.mg "enumerate" = none) (ha : PA X [e] ta) (hs : starEach [e] X.env = (false, eval e X.env) :: starEach [] X.env) :
    PI X (.Tuple elts kk tpos) (.Call (.Name "enumerate" p) [e] [] pos) (fun σ H R => ta σ H fun vs H1 => (∃ x, vs = [.str x] ∧ R (IteS x) H1) ∨ ∃ a, vs = [.ref a] ∧ (((∃ xs, SqL X.K H1 a xs) ∧ R (Ite X.K a) H1) ∨ ((∃ xs, SqT X.K H1 a xs) ∧ R (IteT X.K a) H1))) := by
  refine ⟨fun pins s σ H R I h => ?_⟩
  refine Call_ (ld_blt I hg hm boot_enumerate (PyProof.Rows.callWith_type1 (thn (ha.run pos pins s σ H _ I h) fun us s1 ⟨vs, H1, I1, r1, q1⟩ => ?_) hs rfl))
  rcases q1 with ⟨x, ex, q⟩ | ⟨a, ex, q⟩
  · subst ex
    obtain ⟨u, rfl, t, rfl⟩ := r1.one
    have two : ∀ b, b ∈ [s1.heap.objs.size + 1, s1.heap.objs.size] → FpOk X pins H1 b := fun b hb => by
      have e' : b = s1.heap.objs.size + 1 ∨ b = s1.heap.objs.size := by simpa using hb
      have hle : s1.heap.objs.size ≤ b := by
        rcases e' with z | z
        · rw [z]; exact Nat.le_add_right _ _
        · rw [z]; exact Nat.le_refl _
      exact I1.fpOk hle (I1.hok.fresh hle)
    refine pi_call_enum (begins_text x t) trivial fun h' he hit hsz hk => wpAny_pyIter_enum he ?_
    have I2 : Inv X pins σ H1 { s1 with heap := h' } := I1.kept (t' := s1.toks) hk
    exact ⟨s1.heap.objs.size + 1, [s1.heap.objs.size + 1, s1.heap.objs.size], _, _, H1, rfl, I2, turn_enumS x t (s1.heap.objs.size + 1) s1.heap.objs.size, ⟨⟨.none, he⟩, ⟨_, hit, rfl, rfl⟩, Nat.succ_ne_self _⟩, two, q⟩
  subst ex
  rw [Vals.ref1 r1]
  have two : ∀ b, b ∈ [s1.heap.objs.size + 1, s1.heap.objs.size] → FpOk X pins H1 b := fun b hb => by
    have e' : b = s1.heap.objs.size + 1 ∨ b = s1.heap.objs.size := by simpa using hb
    have hle : s1.heap.objs.size ≤ b := by
      rcases e' with z | z
      · rw [z]; exact Nat.le_add_right _ _
      · rw [z]; exact Nat.le_refl _
    exact I1.fpOk hle (I1.hok.fresh hle)
  rcases q with ⟨⟨xs, hq⟩, q⟩ | ⟨⟨xs, hq⟩, q⟩
  · obtain ⟨its, rv, p', hz⟩ := I1.list hq
    refine pi_call_enum (begins_list a its.toArray) p'.isList fun h' he hit hsz hk => wpAny_pyIter_enum he ?_
    have I2 : Inv X pins σ H1 { s1 with heap := h' } := I1.kept (t' := s1.toks) hk
    exact ⟨s1.heap.objs.size + 1, [s1.heap.objs.size + 1, s1.heap.objs.size], _, _, H1, rfl, I2, turn_enum a (s1.heap.objs.size + 1) s1.heap.objs.size, ⟨⟨.none, he⟩, ⟨_, hit, rfl, rfl⟩, Nat.succ_ne_self _⟩, two, q⟩
  · obtain ⟨its, rv, p', hz⟩ := I1.tuple hq
    refine pi_call_enum (begins_tuple a its.toArray) (show s1.heap.IsTuple a its.toArray from p') fun h' he hit hsz hk => wpAny_pyIter_enum he ?_
    have I2 : Inv X pins σ H1 { s1 with heap := h' } := I1.kept (t' := s1.toks) hk
    exact ⟨s1.heap.objs.size + 1, [s1.heap.objs.size + 1, s1.heap.objs.size], _, _, H1, rfl, I2, turn_enumT a (s1.heap.objs.size + 1) s1.heap.objs.size, ⟨⟨.none, he⟩, ⟨_, hit, rfl, rfl⟩, Nat.succ_ne_self _⟩, two, q⟩
end

/-! ### what stands behind a walk -/
section
variable (F : Fx) (Mu : Addr → Prop) (m : Nat → Addr) (n : Nat) (H : Hp)
/-- J goes through xs -/
inductive Itv : It → List D → Prop where
  | lst {a : Addr} {vs : List V} {xs : List D} : Rd H a (.lst vs) → ¬ Mu a → Reps F Mu m n H vs xs → Itv (Itl F.K a) xs
  | tup {a : Addr} {vs : List V} {xs : List D} : SqT F.K H a vs → Reps F Mu m n H vs xs → Itv (Itt F.K a) xs
  | rng {lo : Int} {k : Nat} : Itv (Itr lo k) (rangeD lo k)
  | enm {a : Addr} {vs : List V} {xs : List D} : Rd H a (.lst vs) → ¬ Mu a → Reps F Mu m n H vs xs → Itv (Ite F.K a) (enumD 0 xs)
  | enmS {x : Str} : Itv (IteS x) (enumD 0 (x.cps.toList.map fun c => D.str ⟨#[c]⟩))
  | enmT {a : Addr} {vs : List V} {xs : List D} : SqT F.K H a vs → Reps F Mu m n H vs xs → Itv (IteT F.K a) (enumD 0 xs)
  | zip {a b : Addr} {vs ws : List V} {xs ys : List D} : Rd H a (.lst vs) → ¬ Mu a → Reps F Mu m n H vs xs → Rd H b (.lst ws) → ¬ Mu b → Reps F Mu m n H ws ys → Itv (Itz F.K a b) (zipD xs ys)
  | zipT {a b : Addr} {vs ws : List V} {xs ys : List D} : SqT F.K H a vs → Reps F Mu m n H vs xs → SqT F.K H b ws → Reps F Mu m n H ws ys → Itv (RZ.ItzT F.K a b) (zipD xs ys)
end
section
variable {F : Fx} {Mu Mu' : Addr → Prop} {m m' : Nat → Addr} {n n' : Nat} {H H' : Hp} {J : It} {xs : List D}
theorem rd_mov {a : Addr} {vs : List V} (M : Mov Mu Mu' m m' n n' H H') (h : Rd H a (.lst vs)) (k : ¬ Mu a) : Rd H' a (.lst vs) ∧ ¬ Mu' a := ⟨Rd.mov M.kp k h, fun z => (M.mu a z).elim k (Rd.some h)⟩
theorem sqt_mov {a : Addr} {vs : List V} (M : Mov Mu Mu' m m' n n' H H') (h : SqT F.K H a vs) : SqT F.K H' a vs := SqT.mov (fun a o h1 h2 => M.kp a o h1 (.inl h2)) h
theorem Itv.mov (M : Mov Mu Mu' m m' n n' H H') (h : Itv F Mu m n H J xs) : Itv F Mu' m' n' H' J xs := by
  cases h with
  | lst h1 h2 h3 => exact .lst (rd_mov M h1 h2).1 (rd_mov M h1 h2).2 (Reps.mov M h3)
  | tup h1 h2 => exact .tup (sqt_mov M h1) (Reps.mov M h2)
  | rng => exact .rng
  | enm h1 h2 h3 => exact .enm (rd_mov M h1 h2).1 (rd_mov M h1 h2).2 (Reps.mov M h3)
  | enmS => exact .enmS
  | enmT h1 h2 => exact .enmT (sqt_mov M h1) (Reps.mov M h2)
  | zip h1 h2 h3 h4 h5 h6 => exact .zip (rd_mov M h1 h2).1 (rd_mov M h1 h2).2 (Reps.mov M h3) (rd_mov M h4 h5).1 (rd_mov M h4 h5).2 (Reps.mov M h6)
  | zipT h1 h2 h3 h4 => exact .zipT (sqt_mov M h1) (Reps.mov M h2) (sqt_mov M h3) (Reps.mov M h4)
theorem rangeD_len : ∀ {lo : Int} {k : Nat}, (rangeD lo k).length = k
  | _, 0 => rfl
  | lo, k + 1 => by unfold rangeD; rw [List.length_cons, rangeD_len]
theorem rangeD_get : ∀ {lo : Int} {k i : Nat}, i < k → (rangeD lo k)[i]? = some (.int (lo + i))
  | lo, k + 1, 0, _ => by
    show some (D.int lo) = _
    rw [Int.natCast_zero, Int.add_zero]
  | lo, k + 1, i + 1, h => by
    show (rangeD (lo + 1) k)[i]? = _
    rw [rangeD_get (by omega)]
    congr 2
    omega
theorem enumD_len : ∀ {i : Int} {xs : List D}, (enumD i xs).length = xs.length
  | _, [] => rfl
  | i, x :: xs => by unfold enumD; rw [List.length_cons, enumD_len]; rfl
theorem enumD_get : ∀ {k : Int} {xs : List D} {i : Nat} {x : D}, xs[i]? = some x → (enumD k xs)[i]? = some (.tup [.int (k + i), x])
  | k, [], i, x, h => by simp at h
  | k, y :: ys, 0, x, h => by
    simp at h
    subst h
    show some (D.tup [.int k, y]) = _
    rw [Int.natCast_zero, Int.add_zero]
  | k, y :: ys, i + 1, x, h => by
    show (enumD (k + 1) ys)[i]? = _
    rw [enumD_get (by simpa using h)]
    congr 4
    omega
theorem zipD_len : ∀ {xs ys : List D}, (zipD xs ys).length = min xs.length ys.length
  | [], ys => by unfold zipD; simp
  | x :: xs, [] => by unfold zipD; simp
  | x :: xs, y :: ys => by
    unfold zipD
    rw [List.length_cons, zipD_len, List.length_cons, List.length_cons]
    omega
theorem zipD_get : ∀ {xs ys : List D} {i : Nat} {x y : D}, xs[i]? = some x → ys[i]? = some y → (zipD xs ys)[i]? = some (.tup [x, y])
  | [], _, _, _, _, h, _ => by simp at h
  | _ :: _, [], _, _, _, _, h => by simp at h
  | x :: xs, y :: ys, 0, _, _, h, k => by
    simp at h k
    subst h k
    rfl
  | x :: xs, y :: ys, i + 1, _, _, h, k => by
    show (zipD xs ys)[i]? = _
    exact zipD_get (by simpa using h) (by simpa using k)
theorem get_lt {α : Type} {xs : List α} {i : Nat} (h : i < xs.length) : ∃ x, xs[i]? = some x := ⟨xs[i], by simp [h]⟩
theorem Itv.go (h : Itv F Mu m n H J xs) {i : Nat} (hi : i < xs.length) : J.go i H := by
  cases h with
  | lst h1 h2 h3 =>
    obtain ⟨d, e⟩ := get_lt hi
    obtain ⟨v, e1, _⟩ := Reps.get h3 e
    exact ⟨_, v, .inl h1, e1⟩
  | tup h1 h2 =>
    obtain ⟨d, e⟩ := get_lt hi
    obtain ⟨v, e1, _⟩ := Reps.get h2 e
    exact ⟨_, v, h1, e1⟩
  | rng => rw [rangeD_len] at hi; exact hi
  | enm h1 h2 h3 =>
    rw [enumD_len] at hi
    obtain ⟨d, e⟩ := get_lt hi
    obtain ⟨v, e1, _⟩ := Reps.get h3 e
    exact ⟨_, v, .inl h1, e1⟩
  | @enmS x =>
    rw [enumD_len] at hi
    show i < x.cps.size
    simpa using hi
  | enmT h1 h2 =>
    rw [enumD_len] at hi
    obtain ⟨d, e⟩ := get_lt hi
    obtain ⟨v, e1, _⟩ := Reps.get h2 e
    exact ⟨_, v, h1, e1⟩
  | zip h1 h2 h3 h4 h5 h6 =>
    rw [zipD_len] at hi
    obtain ⟨d, e⟩ := get_lt (Nat.lt_of_lt_of_le hi (Nat.min_le_left _ _))
    obtain ⟨d', e'⟩ := get_lt (Nat.lt_of_lt_of_le hi (Nat.min_le_right _ _))
    obtain ⟨v, e1, _⟩ := Reps.get h3 e
    obtain ⟨w, e2, _⟩ := Reps.get h6 e'
    exact ⟨_, _, v, w, .inl h1, .inl h4, e1, e2⟩
  | zipT h1 h2 h3 h4 =>
    rw [zipD_len] at hi
    obtain ⟨d, e⟩ := get_lt (Nat.lt_of_lt_of_le hi (Nat.min_le_left _ _))
    obtain ⟨d', e'⟩ := get_lt (Nat.lt_of_lt_of_le hi (Nat.min_le_right _ _))
    obtain ⟨v, e1, _⟩ := Reps.get h2 e
    obtain ⟨w, e2, _⟩ := Reps.get h4 e'
    exact ⟨_, _, v, w, h1, h3, e1, e2⟩
theorem Itv.stop (h : Itv F Mu m n H J xs) : J.stop xs.length H := by
  cases h with
  | lst h1 h2 h3 => exact ⟨_, .inl h1, by rw [Reps.length h3]; exact Nat.le_refl _⟩
  | tup h1 h2 => exact ⟨_, h1, by rw [Reps.length h2]; exact Nat.le_refl _⟩
  | rng => rw [rangeD_len]; exact Nat.le_refl _
  | enm h1 h2 h3 => rw [enumD_len]; exact ⟨_, .inl h1, by rw [Reps.length h3]; exact Nat.le_refl _⟩
  | @enmS x => rw [enumD_len]; show x.cps.size = _; simp
  | enmT h1 h2 => rw [enumD_len]; exact ⟨_, h1, Reps.length h2⟩
  | zip h1 h2 h3 h4 h5 h6 =>
    rw [zipD_len]
    refine ⟨_, _, .inl h1, .inl h4, ?_⟩
    rw [Reps.length h3, Reps.length h6]
    omega
  | zipT h1 h2 h3 h4 =>
    rw [zipD_len]
    refine ⟨_, _, h1, h3, ?_⟩
    rw [Reps.length h2, Reps.length h4]
    omega
/-- the same heap, or one with a new object -/
def More (H H' : Hp) : Prop := H' = H ∨ ∃ p u, H p = none ∧ H' = upd H p u
theorem itv_pair {x y : V} {d e : D} {T : Addr} {vs ws : List V} (hT : H T = none) (r : Rep F Mu m n H x d) (r' : Rep F Mu m n H y e) : More H (upd H T (.tup [x, y])) ∧ Rep F Mu m n (upd H T (.tup [x, y])) (.ref T) (.tup [d, e]) :=
  ⟨.inr ⟨T, _, hT, rfl⟩, T, [x, y], rfl, .inl (.inl upd_same), Rep.mov (Mov.fresh hT) r, Rep.mov (Mov.fresh hT) r', trivial⟩
theorem Itv.yld (h : Itv F Mu m n H J xs) {i : Nat} {x : V} (hi : i < xs.length) (hy : J.yld i H x H') : ∃ d, xs[i]? = some d ∧ More H H' ∧ Rep F Mu m n H' x d := by
  cases h with
  | lst h1 h2 h3 =>
    obtain ⟨rfl, k⟩ := hy
    obtain ⟨d, e⟩ := get_lt hi
    obtain ⟨v, e1, r⟩ := Reps.get h3 e
    have e2 := k _ (.inl h1)
    rw [e1] at e2
    cases e2
    exact ⟨d, e, .inl rfl, r⟩
  | tup h1 h2 =>
    obtain ⟨rfl, k⟩ := hy
    obtain ⟨d, e⟩ := get_lt hi
    obtain ⟨v, e1, r⟩ := Reps.get h2 e
    have e2 := k _ h1
    rw [e1] at e2
    cases e2
    exact ⟨d, e, .inl rfl, r⟩
  | rng =>
    obtain ⟨rfl, rfl⟩ := hy
    rw [rangeD_len] at hi
    exact ⟨_, rangeD_get hi, .inl rfl, rfl⟩
  | enm h1 h2 h3 =>
    obtain ⟨T, y, rfl, hT, rfl, k⟩ := hy
    rw [enumD_len] at hi
    obtain ⟨d, e⟩ := get_lt hi
    obtain ⟨v, e1, r⟩ := Reps.get h3 e
    have e2 := k _ (.inl h1)
    rw [e1] at e2
    cases e2
    refine ⟨_, enumD_get e, ?_⟩
    rw [Int.zero_add]
    exact itv_pair (vs := []) (ws := []) hT rfl r
  | @enmS x =>
    obtain ⟨T, c, rfl, hT, rfl, k⟩ := hy
    have e : (x.cps.toList.map fun c => D.str ⟨#[c]⟩)[i]? = some (D.str ⟨#[c]⟩) := by rw [List.getElem?_map, Array.getElem?_toList, k]; rfl
    refine ⟨_, enumD_get e, ?_⟩
    rw [Int.zero_add]
    exact itv_pair (vs := []) (ws := []) hT rfl rfl
  | enmT h1 h2 =>
    obtain ⟨T, y, rfl, hT, rfl, k⟩ := hy
    rw [enumD_len] at hi
    obtain ⟨d, e⟩ := get_lt hi
    obtain ⟨v, e1, r⟩ := Reps.get h2 e
    have e2 := k _ h1
    rw [e1] at e2
    cases e2
    refine ⟨_, enumD_get e, ?_⟩
    rw [Int.zero_add]
    exact itv_pair (vs := []) (ws := []) hT rfl r
  | zip h1 h2 h3 h4 h5 h6 =>
    obtain ⟨T, y, z, rfl, hT, rfl, k, k'⟩ := hy
    rw [zipD_len] at hi
    obtain ⟨d, e⟩ := get_lt (Nat.lt_of_lt_of_le hi (Nat.min_le_left _ _))
    obtain ⟨d', e'⟩ := get_lt (Nat.lt_of_lt_of_le hi (Nat.min_le_right _ _))
    obtain ⟨v, e1, r⟩ := Reps.get h3 e
    obtain ⟨w, e2, r'⟩ := Reps.get h6 e'
    have q1 := k _ (.inl h1)
    have q2 := k' _ (.inl h4)
    rw [e1] at q1
    rw [e2] at q2
    cases q1
    cases q2
    exact ⟨_, zipD_get e e', itv_pair (vs := []) (ws := []) hT r r'⟩
  | zipT h1 h2 h3 h4 =>
    obtain ⟨T, y, z, rfl, hT, rfl, k, k'⟩ := hy
    rw [zipD_len] at hi
    obtain ⟨d, e⟩ := get_lt (Nat.lt_of_lt_of_le hi (Nat.min_le_left _ _))
    obtain ⟨d', e'⟩ := get_lt (Nat.lt_of_lt_of_le hi (Nat.min_le_right _ _))
    obtain ⟨v, e1, r⟩ := Reps.get h2 e
    obtain ⟨w, e2, r'⟩ := Reps.get h4 e'
    have q1 := k _ h1
    have q2 := k' _ h3
    rw [e1] at q1
    rw [e2] at q2
    cases q1
    cases q2
    exact ⟨_, zipD_get e e', itv_pair (vs := []) (ws := []) hT r r'⟩
end
end Pi

set_option maxRecDepth 100000
set_option maxHeartbeats 1000000
/-! PiRv: t[::-1] of a tuple; and of a list or a tuple. -/
namespace Pi
open PySem PySem.Spec PySem.W L2 HT PyProof.Rows PyProof.V
theorem fm_congr {α β : Type} {f g : α → Option β} : ∀ l : List α, (∀ x ∈ l, f x = g x) → l.filterMap f = l.filterMap g
  | [], _ => rfl
  | x :: l, h => by
    rw [List.filterMap_cons, List.filterMap_cons, h x List.mem_cons_self, fm_congr l fun y hy => h y (List.mem_cons_of_mem _ hy)]
theorem pick_rev (xs : Array Value) : ((List.range xs.size).filterMap fun (k : Nat) => xs[((xs.size : Int) - 1 + (k : Int) * (-1)).toNat]?).toArray = xs.toList.reverse.toArray := by
  have e : (List.range xs.size).filterMap (fun (k : Nat) => xs[((xs.size : Int) - 1 + (k : Int) * (-1)).toNat]?) = (List.range xs.size).filterMap (fun (k : Nat) => xs.toList.reverse.toArray[(((0 : Nat) : Int) + (k : Int) * 1).toNat]?) := by
    refine fm_congr _ fun k hk => ?_
    have hk : k < xs.size := List.mem_range.mp hk
    have e1 : ((xs.size : Int) - 1 + (k : Int) * (-1)).toNat = xs.size - 1 - k := by omega
    have e2 : (((0 : Nat) : Int) + (k : Int) * 1).toNat = k := by omega
    rw [e1, e2]
    show _ = xs.toList.reverse.toArray[k]?
    have e3 : xs.toList.reverse.toArray[k]? = xs.toList.reverse[k]? := by simp
    rw [e3, List.getElem?_reverse (by rw [Array.length_toList]; exact hk), Array.length_toList, Array.getElem?_toList]
  rw [e, pick_gen]
  congr 1
  rw [List.drop_zero, List.take_of_length_le (by simp)]
section
variable {prog : Program} {w : World} {A : Around} {E : Value → Shared → Prop} {s : Shared}
theorem sliceApplied_rev {sl : Addr} {vl vu vs : Value} {n : Nat} {Q : Int × Int × Nat → Shared → Prop} (hs : s.heap.IsSliceOf sl vl vu vs) (pl : IsPart vl none) (pu : IsPart vu none) (ps : IsPart vs (some (-1)))
    (h : Q ((n : Int) - 1, -1, n) s) : wpAny (model prog w) A (Builtin.Slice.sliceApplied (.ref sl) (pure (n : Int))) Q E s := by
  obtain ⟨os, hos, hcs, hds⟩ := id hs
  unfold Builtin.Slice.sliceApplied Builtin.Slice.sliceFields
  refine wpAny_bind (wpAny_bind (wpAny_field hos hds (x := vl) rfl (wpAny_bind (wpAny_field hos hds (x := vu) rfl (wpAny_bind (wpAny_field hos hds (x := vs) rfl (wpAny_pure ?_)))))))
  refine wpAny_bind (slicePart_ ps ?_)
  show wpAny _ _ (if ((-1 : Int) == 0) = true then _ else _) _ _ s
  rw [if_neg (by decide)]
  refine wpAny_bind (slicePart_ pl (wpAny_bind (slicePart_ pu (wpAny_bind (wpAny_pure ?_)))))
  show wpAny _ _ (pure ((n : Int) - 1, (-1 : Int), Builtin.Slice.slicePlaces ((n : Int) - 1) (-1) (-1))) _ _ s
  have e : Builtin.Slice.slicePlaces ((n : Int) - 1) (-1) (-1) = n := by
    unfold Builtin.Slice.slicePlaces
    rw [if_neg (by decide)]
    have e2 : ((n : Int) - 1 - -1 - 1) / (- -1) = (n : Int) - 1 := by
      have : (- -1 : Int) = 1 := rfl
      rw [this, Int.ediv_one]
      omega
    rw [e2]
    split <;> omega
  rw [e]
  exact wpAny_pure h
theorem getItem_tuple_rev {t sl : Addr} {items : Array Value} {vl vu vs : Value} {Q : Value → Shared → Prop} (ht : IsTup s.heap t items) (hs : s.heap.IsSliceOf sl vl vu vs) (pl : IsPart vl none) (pu : IsPart vu none) (ps : IsPart vs (some (-1)))
    (h : Q (.ref s.heap.objs.size) { s with heap := s.heap.push { cls := .type "tuple", data := .seq items.toList.reverse.toArray } })
    (hsz : items.size ≤ sizeLine) : wpAny (model prog w) A (getItem (.ref t) (.ref sl)) Q E s := by
  have htake : sizeOk (.seq items.toList.reverse.toArray) := by
    show items.toList.reverse.toArray.size ≤ sizeLine
    rw [List.size_toArray, List.length_reverse, Array.length_toList]
    exact hsz
  obtain ⟨os, hos, hcs, hds⟩ := id hs
  have hTs : s.TypeIs (.ref sl) "slice" := ⟨os, hos, hcs⟩
  unfold getItem
  try with_reducible refine wpAny_holding ?_
  first | refine wpAny_bind (wpAny_pure ?_) | skip
  refine wpAny_bind (wpAny_sequenceKey ht.typeIs (by decide) ?_)
  refine wpAny_bind (wpAny_callSpecial?_slot (name := Str.ofString "__getitem__") ht.typeIs PyProof.Rows.slot_tuple_getitem
    (wpAny_call_entry PyProof.Rows.slot_tuple_getitem ht.typeIs entry_tuple_getitem ?_ (args_tuple_getitem _ _)))
  show wpAny _ _ (Builtin.Tuple.tupleItemsOf (.ref t) >>= _) _ _ s
  refine wpAny_bind (tupleItemsOf_ ht ?_)
  refine wpAny_bind (wpAny_typeOf hTs ?_)
  rw [if_pos (by decide)]
  refine wpAny_bind (sliceApplied_rev hs pl pu ps ?_)
  have hno : ¬ ((((items.size : Int) - 1) == 0 && (-1 : Int) == 1 && items.size == items.size) = true) := by
    intro q
    rw [Bool.and_eq_true, Bool.and_eq_true] at q
    exact absurd q.1.2 (by decide)
  show wpAny _ _ (if (((items.size : Int) - 1) == 0 && (-1 : Int) == 1 && items.size == items.size) = true then _ else _) _ _ s
  rw [if_neg hno, pick_rev]
  first
    | exact wpAny_bind (m := Builtin.Tuple.tupleExact _) (wpAny_newObj_type (wpAny_pure ⟨_, rfl, wpAny_pure h⟩) htake)
    | exact wpAny_bind (m := Builtin.Tuple.tupleExact _) (wpAny_newObj_type (wpAny_bind (wpAny_pure (wpAny_pure ⟨_, rfl, wpAny_pure h⟩))) htake)
    | exact wpAny_bind (wpAny_bind (m := Builtin.Tuple.tupleExact _) (wpAny_newObj_type (wpAny_pure (wpAny_pure ⟨_, rfl, wpAny_pure h⟩)) htake))
    | exact wpAny_bind (wpAny_bind (m := Builtin.Tuple.tupleExact _) (wpAny_newObj_type (wpAny_pure ⟨_, rfl, wpAny_pure h⟩) htake))
end
def tRevA (K : PySem.W.Frag) (te : TE) : TE := fun σ H Q => te σ H fun x H1 => ∃ a xs, x = .ref a ∧ ((SqL K H1 a xs ∧ ∀ p, H1 p = none → Q (.ref p) (upd H1 p (.lst xs.reverse))) ∨ (SqT K H1 a xs ∧ ∀ p, H1 p = none → Q (.ref p) (upd H1 p (.tup xs.reverse))))
theorem pe_revA {X : Cx} {e : Expr} {te : TE} {k : Nat} {p1 p2 p3 pos : Pos} (he : PE X e te) : PE X (.Subscript e (.Slice none none (some (.UnaryOp .USub (.Constant (.int 1) k p1) p2)) p3) pos) (tRevA X.K te) := by
  refine ⟨fun pins s σ H Q I h => ?_⟩
  refine Subscript_ (thn (he.run pins s σ H _ I h) fun v s1 ⟨x, H1, I1, r1, q1⟩ => ?_)
  obtain ⟨a, xs, ex, q⟩ := q1
  subst ex
  cases r1
  have hst : PO X (some (.UnaryOp .USub (.Constant (.int 1) k p1) p2)) (tPart (tUn (rU fun i => .int (-i)) (tC (.int 1)))) := po_some (pe_un un_neg pe_int)
  refine wpAny_Slice (thn (po_none.run pins s1 σ H1 (fun o H2 => o = none ∧ H2 = H1) I1 ⟨rfl, rfl⟩) fun vl s2 ⟨l, H2, I2, pl, el, e2⟩ => ?_)
  subst el e2
  refine thn (po_none.run pins s2 σ H2 (fun o H3 => o = none ∧ H3 = H2) I2 ⟨rfl, rfl⟩) fun vu s3 ⟨u, H3, I3, pu, eu, e3⟩ => ?_
  subst eu e3
  refine thn (hst.run pins s3 σ H3 (fun o H4 => o = some (-1) ∧ H4 = H3) I3 ⟨1, rfl, -1, rfl, rfl, rfl⟩) fun vs s4 ⟨o, H4, I4, ps, eo, e4⟩ => ?_
  subst eo e4
  have I5 : Inv X pins σ H4 { s4 with heap := s4.heap.push { cls := .type "slice", data := .fields #[vl, vu, vs] } } := I4.kept (t' := s4.toks) fun b ob q => Heap.get?_push_of_some _ q
  show wpAny (model X.prog X.w) X.A (PyProof.Rows.subscriptTail e (.Slice none none (some (.UnaryOp .USub (.Constant (.int 1) k p1) p2)) p3) (.ref a) (.ref s4.heap.objs.size)) (EP X pins σ Q) X.xe { s4 with heap := s4.heap.push { cls := .type "slice", data := .fields #[vl, vu, vs] } }
  rcases q with ⟨hx, q⟩ | ⟨hx, q⟩
  · obtain ⟨its, r, ht, hz⟩ := I5.list hx
    have hlen := r.length
    refine tail_any (ops := [.ref a, .ref s4.heap.objs.size]) ht.isList.typeIs (PySem.slot_list_getitem.lookup) ?_ (by with_unfolding_all rfl)
    refine wpAny_getItem_list_slice ht.isList (Heap.IsSliceOf.new _ vl vu vs) pl pu ps (by decide) ?_ (by rw [List.size_toArray]; omega)
    rw [PySem.W.krv_pick]
    refine ⟨.ref _, _, I5.laid (t' := s4.toks) (o := .lst xs.reverse) (fun b ob q => Heap.get?_push_of_some _ q) (Nat.le_refl _) ?_, rfl, q _ (I5.hok.fresh (Nat.le_refl _))⟩
    exact ⟨by rw [List.length_reverse]; exact hz, _, 0, r.reverse, Heap.get?_push_size _ rfl⟩
  · obtain ⟨its, r, ht, hz⟩ := I5.tuple hx
    have hlen := r.length
    refine tail_any (ops := [.ref a, .ref s4.heap.objs.size]) ht.typeIs (PyProof.Rows.slot_tuple_getitem.lookup) ?_ (by with_unfolding_all rfl)
    refine getItem_tuple_rev ht (Heap.IsSliceOf.new _ vl vu vs) pl pu ps ?_ (by rw [List.size_toArray]; omega)
    refine ⟨.ref _, _, I5.laid (t' := s4.toks) (o := .tup xs.reverse) (fun b ob q => Heap.get?_push_of_some _ q) (Nat.le_refl _) ?_, rfl, q _ (I5.hok.fresh (Nat.le_refl _))⟩
    exact ⟨by rw [List.length_reverse]; exact hz, its.reverse, r.reverse, ⟨_, Heap.get?_push_size _ rfl, rfl, 0, by simp⟩⟩
end Pi

set_option maxRecDepth 100000
set_option maxHeartbeats 1000000
/-! PiK: argument lists, displays, slices, calls; what is walked. -/
namespace Pi
open PySem PySem.Spec L2

/-! ### syntax -/
def noStar : Expr → Bool
  | .Starred .. => false
  | _ => true
theorem star_cons {e : Expr} {es : List Expr} (h : noStar e = true) (env : PySem.Env) : starEach (e :: es) env = (false, eval e env) :: starEach es env := by
  cases e <;> first | rfl | exact absurd h Bool.false_ne_true
theorem star_none : ∀ {es : List Expr} (h : es.all noStar = true) (env : PySem.Env) (pos : Pos), (backTo pos (starEach es env)).any (·.1) = false
  | [], _, _, _ => rfl
  | e :: es, h, env, pos => by
    rw [List.all_cons, Bool.and_eq_true] at h
    rw [star_cons h.1]
    show (false || (backTo pos (starEach es env)).any (·.1)) = false
    rw [star_none h.2]; rfl
def noSlice : Expr → Bool
  | .Slice .. => false
  | _ => true
theorem plain_ix {e : Expr} (h : noSlice e = true) : PlainIx e := by
  intro o i
  cases e <;> first | rfl | exact absurd h Bool.false_ne_true
def noSet : Expr → Bool
  | .Set .. => false
  | _ => true
theorem no_fold {e : Expr} (h : noSet e = true) (env : PySem.Env) (x : Value) : foldedSetIterable e env x = pure x := by
  cases e <;> first | rfl | exact absurd h Bool.false_ne_true
def noCall : Expr → Bool
  | .Call .. => false
  | _ => true
theorem no_base {e : Expr} (h : noCall e = true) (a : Str) (env : PySem.Env) (w : Sem Value) : attributeBase e a env w = w := by
  cases e <;> first | rfl | exact absurd h Bool.false_ne_true

section
variable {X : Cx} {F : Fx} {G : Gl} {call : Nat → List D → Sto → RC} {W : WX} {bw : Bool} {pos : Pos}
/-! ### argument lists -/
theorem rl_nil : PA X [] (RdL F G call W bw []) := pa_nil.imp fun σ H Q ⟨Uo, m, env, st, S, q⟩ => by
  rw [evs] at q
  exact q [] m H Step.refl S (fun _ => trivial) trivial
theorem rl_cons {c : C} {cs : List C} {e : Expr} {es : List Expr} (h : noStar e = true) (ha : PE X e (RdE F G call W bw c)) (hr : PA X es (RdL F G call W bw cs)) : PA X (e :: es) (RdL F G call W bw (c :: cs)) :=
  (pa_cons ha hr (star_cons h _)).imp fun σ H Q ⟨Uo, m, env, st, S, q⟩ => by
    rw [evs] at q
    refine ⟨Uo, m, env, st, S, bindE closedL q fun v d o m1 env1 st1 H1 p1 S1 r1 q1 => ⟨Uo, m1, env1, st1, S1.base, bindL closedL q1 fun vs ds m2 env2 st2 H2 p2 S2 r2 rb2 q2 => ?_⟩⟩
    refine q2 (v :: vs) m2 H2 Step.refl S2 (fun eb => ⟨?_, r2 eb⟩) ⟨RepB.movE S1.base p2 (r1.toB S1), rb2⟩
    subst eb
    exact Rep.mov (p2.movE S1.base) (r1.toRep S.uH S1)
/-! ### displays -/
theorem rd_tp {cs : List C} {es : List Expr} {k : Nat} (h : PA X es (RdL F G call W false cs)) : PE X (.Tuple es k pos) (RdE F G call W bw (.tp cs)) := (pe_tup h).imp fun σ H Q ⟨Uo, m, env, st, S, q⟩ => by
  rw [ev] at q
  refine ⟨Uo, m, env, st, S, bindL closedE q fun vs ds m1 env1 st1 H1 p1 S1 r1 _ q1 => ?_⟩
  have r1 := r1 rfl
  by_cases hz : szOk ds.length = true
  · rw [if_pos hz] at q1
    exact ⟨by rw [Reps.length r1]; exact szOk_le hz, fun p hp => q1.newT S1 hp r1⟩
  · rw [if_neg hz] at q1
    exact q1.elim
theorem rd_ls {cs : List C} {es : List Expr} (h : PA X es (RdL F G call W false cs)) : PE X (.List es pos) (RdE F G call W bw (.ls cs)) := (pe_lst h).imp fun σ H Q ⟨Uo, m, env, st, S, q⟩ => by
  rw [ev] at q
  refine ⟨Uo, m, env, st, S, bindL closedE q fun vs ds m1 env1 st1 H1 p1 S1 r1 _ q1 => ?_⟩
  have r1 := r1 rfl
  by_cases hz : szOk ds.length = true
  · rw [if_pos hz] at q1
    exact ⟨by rw [Reps.length r1]; exact szOk_le hz, fun p hp => q1.newL S1 hp r1⟩
  · rw [if_neg hz] at q1
    exact q1.elim
/-! ### list(range(n)); a new list times an int -/
theorem rng_reps {F : Fx} {Mu : Addr → Prop} {m : Nat → Addr} {n : Nat} {H : Hp} : ∀ (k : Nat) (a : Int), Reps F Mu m n H ((List.range k).map fun i => V.int (a + (i : Nat))) (rangeD a k)
  | 0, _ => trivial
  | k + 1, a => by
    rw [List.range_succ_eq_map, List.map_cons, List.map_map]
    have e : ((fun i : Nat => V.int (a + (i : Int))) ∘ Nat.succ) = fun i : Nat => V.int (a + 1 + (i : Int)) := by
      funext i
      show V.int (a + ((i + 1 : Nat) : Int)) = _
      congr 1
      omega
    rw [e]
    exact ⟨by show V.int (a + ((0 : Nat) : Int)) = V.int a; simp, rng_reps k (a + 1)⟩
theorem rd_lrg {a : C} {ea : Expr} {p p2 pos2 : Pos} (hc : X.calm = true) (hg : L2.Gl X "list") (hm : X.mg "list" = none) (hg2 : L2.Gl X "range") (hm2 : X.mg "range" = none) (hs : noStar ea = true) (ha : PE X ea (RdE F G call W true a)) :
    PE X (.Call (.Name "list" p) [.Call (.Name "range" p2) [ea] [] pos2] [] pos) (RdE F G call W bw (.lrg a)) :=
  (pe_listRg hc hg hm (prg_1 hg2 hm2 ha (star_cons hs _))).imp fun σ H Q ⟨Uo, m, env, st, S, q⟩ => by
    rw [ev] at q
    refine ⟨Uo, m, env, st, S, bindE closedE q fun v d o m1 env1 st1 H1 p1 S1 r1 q1 => ?_⟩
    have r1 := r1.toB S1
    cases d with
    | int i =>
      have q1 : PostE F Uo env1 σ m1 st1.length H1 W bw Q (lift (if decide (0 ≤ i) && decide (i ≤ 1000000) then some (.lst (rangeD 0 i.toNat), true) else none) env1 st1) := q1
      by_cases hb : (decide (0 ≤ i) && decide (i ≤ 1000000)) = true
      · rw [if_pos hb] at q1
        rw [Bool.and_eq_true, decide_eq_true_eq, decide_eq_true_eq] at hb
        obtain rfl : v = .int i := r1
        refine ⟨i, rfl, RgOk.of_le (by omega) (by omega) (by omega) (by omega), fun b hb0 => q1.newL S1.base hb0 ?_⟩
        unfold rgV
        have : (i - 0).toNat = i.toNat := by omega
        rw [this]
        exact rng_reps _ 0
      · rw [if_neg hb] at q1
        exact q1.elim
    | _ => exact q1.elim
theorem rd_rep {a k : C} {ea ek : Expr} (ha : PE X ea (RdE F G call W false a)) (hk : PE X ek (RdE F G call W true k)) : PE X (.BinOp ea .Mult ek pos) (RdE F G call W bw (.rep a k)) :=
  (pe_op op_rep ha hk).imp fun σ H Q ⟨Uo, m, env, st, S, q⟩ => by
    rw [ev] at q
    refine ⟨Uo, m, env, st, S, bindE closedE q fun v d o m1 env1 st1 H1 p1 S1 r1 q1 => ⟨Uo, m1, env1, st1, S1.base, bindE closedE q1 fun w e o2 m2 env2 st2 H2 p2 S2 r2 q2 => ?_⟩⟩
    have r2 := r2.toB S2
    cases d with
    | lst xs =>
      cases o with
      | false => exact q2.elim
      | true =>
        cases e with
        | int n =>
          have q2 : PostE F Uo env2 σ m2 st2.length H2 W bw Q (lift (if decide (xs.length ≤ 1000) && (decide (0 ≤ n) && decide (n ≤ 1000)) then some (.lst (List.replicate n.toNat xs).flatten, true) else none) env2 st2) := q2
          by_cases hb : (decide (xs.length ≤ 1000) && (decide (0 ≤ n) && decide (n ≤ 1000))) = true
          · rw [if_pos hb] at q2
            simp only [Bool.and_eq_true, decide_eq_true_eq] at hb
            obtain ⟨h1, h2, h3⟩ := hb
            obtain rfl : w = .int n := r2
            obtain ⟨l, xs', vs, rfl, e, hl, hr, h0⟩ := r1.1 rfl
            cases e
            have ns : ¬ StoAt m1 st1.length l := fun z => S1.usto l z (.inr ⟨rfl, rfl⟩)
            have hl2 : H2 l = some (.lst vs) := p2.fr l _ hl (fun z => z) (.inr ⟨fun z => z, ns⟩)
            have hr2 : Reps F (MuOf Uo env2 σ m2 st2.length) m2 st2.length H2 vs xs := Reps.mov (p2.movE S1.base) (Reps.mov (Mov.less fun _ z => z.imp .inl id) hr)
            have hlen := Reps.length hr2
            refine ⟨l, n, vs, rfl, rfl, hl2, by omega, by omega, ?_, fun b hb0 => q2.newL S2.base hb0 (reps_rep hr2 _)⟩
            rw [hlen]
            have : n.toNat ≤ 1000 := by omega
            have := Nat.mul_le_mul h1 this
            rw [sizeLine_eq]
            omega
          · rw [if_neg hb] at q2
            exact q2.elim
        | _ => exact q2.elim
    | _ => exact q2.elim
/-! ### slices -/
theorem ro_none : PO X none (RdO F G call W none) := po_none.imp fun σ H Q ⟨Uo, m, env, st, S, q⟩ => by
  rw [evo] at q
  exact q none m H Step.refl S rfl
theorem ro_some {c : C} {e : Expr} (h : PE X e (RdE F G call W true c)) : PO X (some e) (RdO F G call W (some c)) := (po_some h).imp fun σ H Q ⟨Uo, m, env, st, S, q⟩ => by
  rw [evo] at q
  refine ⟨Uo, m, env, st, S, bindE closedG q fun v d o m1 env1 st1 H1 p1 S1 r1 q1 => ?_⟩
  have rb := r1.toB S1
  cases d with
  | int i =>
    obtain rfl : v = .int i := rb
    exact ⟨i, rfl, q1 (some i) m1 H1 Step.refl S1.base rfl⟩
  | _ => exact q1.elim
theorem rd_sl {a : C} {lo hi : Option C} {ea : Expr} {el eh : Option Expr} {p2 : Pos} (hK : X.K = F.K) (ha : PE X ea (RdE F G call W true a)) (hl : PO X el (RdO F G call W lo)) (hh : PO X eh (RdO F G call W hi)) :
    PE X (.Subscript ea (.Slice el eh none p2) pos) (RdE F G call W bw (.sl a lo hi)) := (pe_slice (sl_dat (bw := bw) (W := W) hK) ha hl hh).imp fun σ H Q ⟨Uo, m, env, st, S, q⟩ => by
  rw [ev] at q
  refine ⟨Uo, m, env, st, S, bindE closedE q fun v d o m1 env1 st1 H1 p1 S1 r1 q1 => ⟨Uo, m1, env1, st1, S1.base, bindG closedE q1 fun l l' m2 env2 st2 H2 p2 S2 e2 q2 => ⟨Uo, m2, env2, st2, S2, bindG closedE q2 fun h h' m3 env3 st3 H3 p3 S3 e3 q3 => ?_⟩⟩⟩
  subst e2 e3
  exact ⟨σ, Uo, m3, env3, st3, d, S3, RepB.movE S2 p3 (RepB.movE S1.base p2 (r1.toB S1)), q3⟩
theorem rd_rev {a : C} {ea : Expr} {k : Nat} {p1 p2 p3 : Pos} (hK : X.K = F.K) (ha : PE X ea (RdE F G call W true a)) : PE X (.Subscript ea (.Slice none none (some (.UnaryOp .USub (.Constant (.int 1) k p1) p2)) p3) pos) (RdE F G call W bw (.rev a)) := (pe_revA ha).imp fun σ H Q ⟨Uo, m, env, st, S, q⟩ => by
  rw [ev] at q
  refine ⟨Uo, m, env, st, S, bindE closedE q fun v d o m1 env1 st1 H1 p1 S1 r1 q1 => ?_⟩
  have rb := r1.toB S1
  cases d with
  | lst xs =>
    obtain ⟨b, vs, rfl, hq, _, hr⟩ := rb
    exact ⟨b, vs, rfl, .inl ⟨.inl hq, fun p hp => PostE.newL S1.base q1 hp (Reps.reverse hr)⟩⟩
  | tup xs =>
    obtain ⟨b, vs, rfl, hq, hr⟩ := rb
    exact ⟨b, vs, rfl, .inr ⟨by rw [hK]; exact hq, fun p hp => PostE.newT S1.base q1 hp (Reps.reverse hr)⟩⟩
  | _ => exact q1.elim
/-! ### calls of what is built in -/
def Bi.name : Bi → Str
  | .len => "len" | .int => "int" | .str => "str" | .bool => "bool" | .list => "list" | .tuple => "tuple" | .sorted => "sorted" | .all => "all" | .max1 => "max" | .max2 => "max" | .min2 => "min" | .sum => "sum" | .isinst => "isinstance" | .dict => "dict" | .sortset => "sorted"
theorem rd_bi (hG : ∀ i d, G.xi i d = none) (hK : X.K = F.K) (hP : X.prog = F.P ∧ X.w = F.w) (hu : X.A.units + 64 < cLine) (hc : X.calm = true) (b : Bi) (hb : b ≠ .sortset) {cs : List C} {e : Expr} {es : List Expr} {p : Pos} (hg : L2.Gl X b.name) (hm : X.mg b.name = none) (hv : bootBuiltins b.name = some b.val) (hn : b.name ≠ "__name__") (hd : (b.name == ("__debug__" : Str)) = false)
    (hs : noStar e = true) (hss : es.all noStar = true) (ha : PA X (e :: es) (RdL F G call W true cs)) : PE X (.Call (.Name b.name p) (e :: es) [] pos) (RdE F G call W bw (.bi b cs)) := by
  have key : PE X (.Call (.Name b.name p) (e :: es) [] pos) (tCB (rManyS F bw W fun st ds => bifF G st b ds) (RdL F G call W true cs)) := by
    have cr := bi_datF (bw := bw) (W := W) hK hP hu hc (G := G) hG b hb
    generalize hx : b.name = x at *
    revert cr hv
    cases hval : b.val with
    | builtin id => exact fun cr hv => pe_callB cr hg hm hv ha hn hd (star_cons hs _) (star_none hss _ _)
    | type T => exact fun cr hv => pe_callTy cr hg hm hv ha hn hd (star_cons hs _) (star_none hss _ _)
    | _ => cases b <;> first | exact absurd rfl hb | cases hval
  refine key.imp fun σ H Q ⟨Uo, m, env, st, S, q⟩ => ?_
  rw [ev] at q
  exact ⟨Uo, m, env, st, S, bindL closedE q fun vs ds m1 env1 st1 H1 p1 S1 _ rb q1 => ⟨σ, Uo, m1, env1, st1, ds, S1, rb, q1⟩⟩
/-- sep.join(xs) -/
theorem rd_join (hK : X.K = F.K) {a b : C} {o e : Expr} {apos : Pos} (hs : noStar e = true) (hb : noCall o = true) (hl : (apos.endLine == pos.line) = true) (ho : PE X o (RdE F G call W true a)) (he : PE X e (RdE F G call W true b)) :
    PE X (.Call (.Attribute o "join" apos) [e] [] pos) (RdE F G call W bw (.me .join a [b])) := (pe_join ho he (star_cons hs _) (no_base hb _ _ _) hl).imp fun σ H Q ⟨Uo, m, env, st, S, q⟩ => by
  rw [ev] at q
  simp only [evs_one, bind_bind] at q
  refine ⟨Uo, m, env, st, S, bindE closedE q fun v d o1 m1 env1 st1 H1 p1 S1 r1 q1 => ?_⟩
  have ra := r1.toB S1
  cases d with
  | str z => ?_
  | _ => exact q1.elim
  obtain rfl : v = .str z := ra
  refine ⟨⟨z, rfl⟩, Uo, m1, env1, st1, S1.base, bindE closedE q1 fun w e o2 m2 env2 st2 H2 p2 S2 r2 q2 => ?_⟩
  have rb := r2.toB S2
  have q2 : PostE F Uo env2 σ m2 st2.length H2 W bw Q (lift (mef .join (.str z) [e]) env2 st2) := q2
  cases e with
  | lst xs =>
    obtain ⟨c, vs, rfl, hq, _, hr⟩ := rb
    unfold mef at q2
    dsimp only at q2
    cases es : strsOf xs with
    | none => rw [es] at q2; exact q2.elim
    | some l =>
      rw [es] at q2
      dsimp only at q2
      by_cases hz : szOk ((l.map (·.length)).sum + l.length * z.length) = true
      · rw [if_pos hz] at q2
        have hl := strsOf_map es hr
        subst hl
        exact ⟨z, c, l, rfl, rfl, .inl (.inl hq), by have := of_decide_eq_true hz; omega, q2.here S2.base rfl⟩
      · rw [if_neg hz] at q2
        exact q2.elim
  | _ => exact q2.elim
end
end Pi

set_option maxRecDepth 100000
set_option maxHeartbeats 1000000
/-! PiL: calls of functions; new store cells; what is walked. -/
namespace Pi
open PySem PySem.Spec L2

/-- what a function promises -/
def spOf (F : Fx) (call : Nat → List D → Sto → RC) (f k : Nat) : Sp := fun vs H Q E => ∃ Uo m ds st, Sim F Uo m [] [] st H ∧ Reps F (MuOf Uo [] [] m st.length) m st.length H vs ds ∧ vs.length = k ∧
  PostE F Uo [] [] m st.length H (fun cls dd _ H' => E cls dd H') false Q (ofCall (call f ds st) [])

section
variable {F : Fx} {Uo : Addr → Prop} {env : Env} {σ : SL} {m m1 : Nat → Addr} {H H1 : Hp} {st st1 : Sto}
/-- the caller's own lists are others' for the callee -/
def Co (Uo : Addr → Prop) (env : Env) (σ : SL) : Addr → Prop := fun a => Uo a ∨ OwnAt env σ a
theorem own_nil {b : Addr} : ¬ OwnAt [] [] b := fun ⟨i, d, h, _⟩ => by simp at h
theorem mu_co {n : Nat} {a : Addr} : MuOf (Co Uo env σ) [] [] m n a ↔ MuOf Uo env σ m n a := by
  constructor
  · rintro ((h | h) | h | h)
    · exact .inl h
    · exact .inr (.inl h)
    · exact absurd h own_nil
    · exact .inr (.inr h)
  · rintro (h | h | h)
    · exact .inl (.inl h)
    · exact .inl (.inr h)
    · exact .inr (.inr h)
theorem sim_call (S : Sim F Uo m env σ st H) : Sim F (Co Uo env σ) m [] [] st H where
  len := rfl
  inj := S.inj
  obj := fun l xs e => let ⟨vs, h1, h2⟩ := S.obj l xs e; ⟨vs, h1, Reps.mov (Mov.less fun _ z => mu_co.mp z) h2⟩
  objD := fun l kvs e => let ⟨es, h1, h2⟩ := S.objD l kvs e; ⟨es, h1, DRel.mov (Mov.less fun _ z => mu_co.mp z) h2⟩
  val := fun i d e => by simp at e
  own := fun i d e => by simp at e
  sep := fun i j a d e h => by simp at h
  osto := fun b hb => absurd hb own_nil
  usto := fun b hb z => z.elim (S.usto b hb) fun z => (S.osto b z).2 hb
  uH := fun a z => z.elim (S.uH a) S.ownH
  tab := S.tab
/-- behind the call -/
theorem step_back {st1 : Sto} (p : Step noCh [] [] m st.length H [] [] m1 st1.length H1) : Step noCh env σ m st.length H env σ m1 st1.length H1 := ⟨p.hn, p.hm, p.new, p.fr, p.th, fun _ h => .inl h⟩
theorem mu_plus {U V : Addr → Prop} {n : Nat} {a : Addr} : MuOf (Plus U V) env σ m n a → V a ∨ MuOf U env σ m n a := by
  rintro ((h | h) | h)
  · exact .inr (.inl h)
  · exact .inl h
  · exact .inr (.inr h)
theorem mu_co2 {V : Addr → Prop} {n : Nat} {a : Addr} : MuOf (Plus Uo V) env σ m n a → MuOf (Plus (Co Uo env σ) V) [] [] m n a := by
  rintro ((h | h) | h | h)
  · exact .inl (.inl (.inl h))
  · exact .inl (.inr h)
  · exact .inl (.inl (.inr h))
  · exact .inr (.inr h)
theorem sim_back {T : Addr → Prop} (S : Sim F Uo m env σ st H) (p : Step noCh [] [] m st.length H [] [] m1 st1.length H1) (S1 : Sim F (Plus (Co Uo env σ) T) m1 [] [] st1 H1) (fresh : ∀ a, T a → H a = none) : Sim F (Plus Uo T) m1 env σ st1 H1 := by
  have q : Step noCh env σ m st.length H env σ m1 st1.length H1 := step_back p
  have M := q.movE S
  have M2 : Mov (MuOf Uo env σ m st.length) (MuOf (Plus Uo T) env σ m1 st1.length) m m1 st.length st1.length H H1 := ⟨M.hn, M.hm, M.kp, fun a z => (mu_plus z).elim (fun z => .inr (fresh a z)) (M.mu a)⟩
  exact {
    len := S.len
    inj := S1.inj
    obj := fun l xs e => let ⟨vs, h1, h2⟩ := S1.obj l xs e; ⟨vs, h1, Reps.mov (Mov.less fun _ z => mu_co2 z) h2⟩
    objD := fun l kvs e => let ⟨es, h1, h2⟩ := S1.objD l kvs e; ⟨es, h1, DRel.mov (Mov.less fun _ z => mu_co2 z) h2⟩
    val := fun i d e => let ⟨v, h1, h2⟩ := S.val i d e; ⟨v, h1, Rep.mov M2 h2⟩
    own := fun i d e => by
      obtain ⟨a, xs, vs, h1, h2, h3, h4⟩ := S.own i d e
      subst h1
      have ho : OwnAt env σ a := ⟨i, _, e, h2⟩
      exact ⟨a, xs, vs, rfl, h2, p.fr a _ h3 (fun z => z) (.inr ⟨fun z => z, (S.osto a ho).2⟩), Reps.mov M2 h4⟩
    sep := S.sep
    osto := fun b hb => ⟨fun z => by
      rcases z with z | z
      · exact (S.osto b hb).1 z
      · exact S.ownH hb (fresh b z), fun z => (StoAt.back p.hm p.new z).elim (S.osto b hb).2 (S.ownH hb)⟩
    usto := fun b hb z => S1.usto b hb (z.imp .inl id)
    uH := fun a z => S1.uH a (z.imp .inl id)
    tab := S1.tab }
theorem val_back {T : Addr → Prop} {o : Bool} {bw : Bool} {v : V} {d : D} (S1 : Sim F (Plus (Co Uo env σ) T) m1 [] [] st1 H1) (r : ValR F false o (MuOf (Plus (Co Uo env σ) T) [] [] m1 st1.length) m1 st1.length H H1 v d) : ValR F bw o (MuOf (Plus Uo T) env σ m1 st1.length) m1 st1.length H H1 v d :=
  ⟨fun e => let ⟨a, xs, vs, h1, h2, h3, h4, h5⟩ := r.1 e; ⟨a, xs, vs, h1, h2, h3, Reps.mov (Mov.less fun _ z => mu_co2 z) h4, h5⟩,
   fun e _ => Rep.mov (Mov.less fun _ z => mu_co2 z) (r.2.1 e rfl),
   fun e _ => Rep.toB (fun _ => StoAt.mu) (Rep.mov (Mov.less fun _ z => mu_co2 z) (r.2.1 e rfl))⟩
/-- the promise of a call at the caller's state -/
theorem sp_call {call : Nat → List D → Sto → RC} {W : WX} {bw : Bool} {f k : Nat} {vs : List V} {ds : List D} {Q : VK} (S : Sim F Uo m env σ st H) (hr : Reps F (MuOf Uo env σ m st.length) m st.length H vs ds) (hk : ds.length = k)
    (q : PostE F Uo env σ m st.length H W bw Q (ofCall (call f ds st) env)) : spOf F call f k vs H Q (WE W σ) := by
  refine ⟨Co Uo env σ, m, ds, st, sim_call S, Reps.mov (Mov.less fun _ z => mu_co.mp z) hr, by rw [Reps.length hr]; exact hk, ?_⟩
  revert q
  generalize call f ds st = r
  intro q
  cases r with
  | no => exact q
  | ok d o st' =>
    intro v m1 H1 p S1 r1
    have fresh : ∀ a, Tmp o v a → H a = none := fun a z => by
      obtain ⟨rfl, rfl⟩ := z
      obtain ⟨b, xs, ws, e, _, _, _, h5⟩ := r1.1 rfl
      cases e
      exact h5
    exact q v m1 H1 (step_back p) (sim_back S p S1 fresh) (val_back S1 r1)
  | ex c x st' =>
    intro cls dd m1 H1 p S1 e1
    have S2 : Sim F (Plus (Co Uo env σ) fun _ => False) m1 [] [] st' H1 := S1.less fun a z => z.elim id fun z => z.elim
    exact q cls dd m1 H1 (step_back p) ((sim_back S p S2 fun _ z => z.elim).base) e1
end

section
variable {X : Cx} {F : Fx} {G : Gl} {call : Nat → List D → Sto → RC} {W : WX} {bw : Bool} {pos : Pos}
/-- the functions as they are proved -/
def Fns (X : Cx) (F : Fx) (call : Nat → List D → Sto → RC) (G : Gl) (k : Nat) : Prop := ∀ f n, G.ar f = some n → ∃ fd ps, FnOk X.prog X.w X.K X.mg X.base (L2N.CX X.prog X.w) k (F.ga f) fd ps (spOf F call f n) ∧ Binds X.K fd ps [] ∧ PySem.W.keepIn X.K (.ref (F.ga f)) = true
theorem rd_call {k f n : Nat} {cs : List C} {x : Str} {p : Pos} {e : Expr} {es : List Expr} (fs : Fns X F call G k) (hf : G.ar f = some n) (hr : Room k X.A) (tk : L2N.Takes X W) (hg : L2.Gl X x) (hm : X.mg x = some (.ref (F.ga f))) (hd : (x == ("__debug__" : Str)) = false)
    (hn : ∀ f ds st, call f ds st ≠ .no → G.ar f = some ds.length) (hs : noStar e = true) (hss : es.all noStar = true) (ha : PA X (e :: es) (RdL F G call W false cs)) : PE X (.Call (.Name x p) (e :: es) [] pos) (RdE F G call W bw (.call f cs)) := by
  obtain ⟨fd, ps, fo, hb, hk⟩ := fs f n hf
  refine (pe_callSD (dvs := []) (ds := []) (E := WE W) fo hr hg hm hk hb .nil (L2N.passAt tk) ha hd (star_cons hs _) (star_none hss _ _)).imp fun σ H Q ⟨Uo, m, env, st, S, q⟩ => ?_
  rw [ev] at q
  refine ⟨Uo, m, env, st, S, bindL closedE q fun vs ds m1 env1 st1 H1 p1 S1 r1 _ q1 => ?_⟩
  show spOf F call f n (vs ++ []) H1 Q (WE W σ)
  rw [List.append_nil]
  refine sp_call S1 (r1 rfl) (Option.some.inj ((hn f ds st1 fun z => ?_).symm.trans hf)) q1
  have q1 : PostE F Uo env1 σ m1 st1.length H1 W bw Q (ofCall (call f ds st1) env1) := q1
  rw [z] at q1
  exact q1
theorem _root_.L2.PE.anyOf {ι : Type} {P : ι → Prop} {e : Expr} {t : ι → TE} (h : ∀ i, P i → PE X e (t i)) : PE X e (fun σ H Q => ∃ i, P i ∧ t i σ H Q) := ⟨fun pins s σ H Q I ⟨i, hi, q⟩ => (h i hi).run pins s σ H Q I q⟩
/-- a call of a local name, at the caller's slots -/
theorem pe_callLS {CX : CXT} {k i : Nat} {f : Addr} {fd : FuncData} {ps : List Str} {sp : Sp} {E : SL → XK} {x : Str} {p : Pos} {e : Expr} {es : List Expr} {t : TA} (fo : FnOk X.prog X.w X.K X.mg X.base CX k f fd ps sp) (hr : Room k X.A) (hN : X.N[i]? = some x) (hv : Vis X.env.scope x) (hk : PySem.W.keepIn X.K (.ref f) = true) (hb : Binds X.K fd ps [])
    (hx : ∀ σ, PassesAt CX X σ (E σ)) (ha : PA X (e :: es) t) (hdb : (x == ("__debug__" : Str)) = false) (hcd : (x == ("__classdict__" : Str)) = false) (he : starEach (e :: es) X.env = (false, eval e X.env) :: starEach es X.env) (hpl : (backTo pos (starEach es X.env)).any (·.1) = false) :
    PE X (.Call (.Name x p) (e :: es) [] pos) (fun σ H Q => σ[i]? = some (some (.ref f)) ∧ t σ H fun vs H1 => sp (vs ++ []) H1 Q (E σ)) := by
  refine ⟨fun pins s σ H Q I ⟨hs, ht⟩ => ?_⟩
  refine wpAny_Call_Name_kw (thn ((pe_var (pos := p) hN hv hdb hcd).run pins s σ H (fun v H1 => v = .ref f ∧ H1 = H) I ⟨.ref f, hs, rfl, rfl⟩) fun u s1 ⟨v, H1, I1, r1, q1⟩ => ?_)
  obtain ⟨rfl, rfl⟩ := q1
  cases r1
  refine PySem.W.callWith_K (h₀ := X.base) I.ok.mod.kin hk (thn (ha.run pos pins s1 σ _ _ I1 ht) fun us s2 ⟨vs, H2, I2, r, q⟩ => ⟨I2.kIn, ?_⟩) he hpl
  exact run_fnSD (dvs := []) (ds := []) fo hr hb .nil (hx σ) I2 r q
theorem rd_cv {k i : Nat} {cs : List C} {x : Str} {p : Pos} {e : Expr} {es : List Expr} (fs : Fns X F call G k) (hr : Room k X.A) (tk : L2N.Takes X W) (hN : X.N[i]? = some x) (hv : Vis X.env.scope x) (hd : (x == ("__debug__" : Str)) = false) (hcd : (x == ("__classdict__" : Str)) = false)
    (hn : ∀ f ds st, call f ds st ≠ .no → G.ar f = some ds.length) (hs : noStar e = true) (hss : es.all noStar = true) (ha : PA X (e :: es) (RdL F G call W false cs)) : PE X (.Call (.Name x p) (e :: es) [] pos) (RdE F G call W bw (.cv i cs)) := by
  refine (PE.anyOf (P := fun fn : Nat × Nat => G.ar fn.1 = some fn.2) (t := fun fn σ H Q => σ[i]? = some (some (.ref (F.ga fn.1))) ∧ RdL F G call W false cs σ H fun vs H1 => spOf F call fn.1 fn.2 (vs ++ []) H1 Q (WE W σ)) fun fn hf => ?_).imp fun σ H Q ⟨Uo, m, env, st, S, q⟩ => ?_
  · obtain ⟨fd, ps, fo, hb, hk⟩ := fs fn.1 fn.2 hf
    exact pe_callLS (E := WE W) fo hr hN hv hk hb (L2N.passAt tk) ha hd hcd (star_cons hs _) (star_none hss _ _)
  · rw [ev] at q
    split at q
    · rename_i f o e
      have e := getS_some e
      have hv : σ[i]? = some (some (.ref (F.ga f))) := by
        cases o with
        | true => obtain ⟨_, _, _, z, _⟩ := S.own i _ e; cases z
        | false => obtain ⟨v, h1, rfl⟩ := S.val i _ e; exact h1
      cases ha : G.ar f with
      | none => rw [ha] at q; exact q.elim
      | some n =>
        rw [ha, if_pos (show (some n).isSome = true from rfl)] at q
        refine ⟨(f, n), ha, hv, Uo, m, env, st, S, bindL closedE q fun vs ds m1 env1 st1 H1 p1 S1 r1 _ q1 => ?_⟩
        show spOf F call f n (vs ++ []) H1 Q (WE W σ)
        rw [List.append_nil]
        refine sp_call S1 (r1 rfl) (Option.some.inj ((hn f ds st1 fun z => ?_).symm.trans ha)) q1
        have q1 : PostE F Uo env1 σ m1 st1.length H1 W bw Q (ofCall (call f ds st1) env1) := q1
        rw [z] at q1
        exact q1
    · exact q.elim
end

section
variable {X : Cx} {F : Fx} {G : Gl} {call : Nat → List D → Sto → RC} {W : WX} {bw : Bool} {pos : Pos}
/-! ### a new list of the store -/
theorem rd_mk {a : C} {e : Expr} (ha : PE X e (RdE F G call W false a)) : PE X e (RdE F G call W bw (.mk a)) := ha.imp fun σ H Q ⟨Uo, m, env, st, S, q⟩ => by
  rw [ev] at q
  refine ⟨Uo, m, env, st, S, ?_⟩
  revert q
  generalize ev G call false a env st = r
  intro q
  rcases r with _ | ⟨⟨d, o⟩, env1, st1⟩ | ⟨c, x, env', st'⟩
  · exact q.elim
  rotate_left
  · exact q
  intro v m1 H1 p1 S1 r1
  cases o with
  | false => cases d <;> exact q.elim
  | true =>
    obtain ⟨a, xs, vs, rfl, rfl, h3, h4, h5⟩ := r1.1 rfl
    have q1 : PostE F Uo env σ m st.length H W bw Q (.ok (.ref st1.length, false) env1 (st1 ++ [.lst xs])) := q
    dsimp only at S1 h4
    -- the new place
    have hT : Plus Uo (Tmp true (V.ref a)) a := .inr ⟨rfl, rfl⟩
    have ha : H1 a ≠ none := by rw [h3]; simp
    have nSto : ¬ StoAt m1 st1.length a := fun z => S1.usto a z hT
    have nOwn : ¬ OwnAt env1 σ a := fun z => (S1.osto a z).1 hT
    have nUo : ¬ Uo a := fun z => S.uH a z h5
    generalize hm : (fun l => if l = st1.length then a else m1 l) = m2
    have e1 : ∀ l, l < st1.length → m2 l = m1 l := fun l hl => by rw [← hm]; exact if_neg (Nat.ne_of_lt hl)
    have e2 : m2 st1.length = a := by rw [← hm]; exact if_pos rfl
    have hlen : (st1 ++ [Ob.lst xs]).length = st1.length + 1 := by rw [List.length_append]; rfl
    have sto : ∀ b, StoAt m2 (st1.length + 1) b ↔ StoAt m1 st1.length b ∨ b = a := fun b => by
      constructor
      · rintro ⟨l, hl, e⟩
        by_cases z : l = st1.length
        · rw [z, e2] at e; exact .inr e.symm
        · exact .inl ⟨l, by omega, by rw [← e1 l (by omega)]; exact e⟩
      · rintro (⟨l, hl, e⟩ | rfl)
        · exact ⟨l, by omega, by rw [e1 l hl]; exact e⟩
        · exact ⟨_, Nat.lt_succ_self _, e2⟩
    have M : Mov (MuOf (Plus Uo (Tmp true (V.ref a))) env1 σ m1 st1.length) (MuOf Uo env1 σ m2 (st1.length + 1)) m1 m2 st1.length (st1.length + 1) H1 H1 :=
      ⟨Nat.le_succ _, e1, fun _ _ e _ => e, fun b z => .inl (by
        rcases z with z | z | z
        · exact .inl (.inl z)
        · exact .inr (.inl z)
        · rcases (sto b).mp z with z | rfl
          · exact .inr (.inr z)
          · exact .inl hT)⟩
    have S2 : Sim F Uo m2 env1 σ (st1 ++ [.lst xs]) H1 := by
      refine { len := S1.len, inj := fun i j hi hj e => ?_, obj := fun l ys e => ?_, objD := fun l kvs e => ?_, val := fun i d e => ?_, own := fun i d e => ?_, sep := S1.sep, osto := fun b hb => ⟨fun z => (S1.osto b hb).1 (.inl z), fun z => ?_⟩, usto := fun b hb z => ?_, uH := fun b z => S1.uH b (.inl z), tab := S1.tab }
      · rw [hlen] at hi hj
        by_cases zi : i = st1.length <;> by_cases zj : j = st1.length
        · rw [zi, zj]
        · subst zi
          rw [e2, e1 j (by omega)] at e
          exact absurd ⟨j, by omega, e.symm⟩ nSto
        · subst zj
          rw [e2, e1 i (by omega)] at e
          exact absurd ⟨i, by omega, e⟩ nSto
        · rw [e1 i (by omega), e1 j (by omega)] at e
          exact S1.inj i j (by omega) (by omega) e
      · rw [hlen]
        by_cases z : l < st1.length
        · rw [List.getElem?_append_left z] at e
          obtain ⟨ws, k1, k2⟩ := S1.obj l ys e
          exact ⟨ws, by rw [e1 l z]; exact k1, Reps.mov M k2⟩
        · rw [List.getElem?_append_right (by omega)] at e
          have z2 : l = st1.length := by
            by_cases z3 : l - st1.length = 0
            · omega
            · rw [List.getElem?_eq_none (by simp; omega)] at e; cases e
          subst z2
          simp at e
          subst e
          exact ⟨vs, by rw [e2]; exact h3, Reps.mov M h4⟩
      · by_cases z : l < st1.length
        · rw [List.getElem?_append_left z] at e
          obtain ⟨es, k1, k2⟩ := S1.objD l kvs e
          exact ⟨es, by rw [e1 l z]; exact k1, by rw [hlen]; exact DRel.mov M k2⟩
        · rw [List.getElem?_append_right (by omega)] at e
          by_cases z3 : l - st1.length = 0
          · rw [z3] at e; cases e
          · rw [List.getElem?_eq_none (by simp; omega)] at e; cases e
      · obtain ⟨v, k1, k2⟩ := S1.val i d e
        rw [hlen]
        exact ⟨v, k1, Rep.mov M k2⟩
      · obtain ⟨b, ys, ws, k1, k2, k3, k4⟩ := S1.own i d e
        rw [hlen]
        exact ⟨b, ys, ws, k1, k2, k3, Reps.mov M k4⟩
      · rw [hlen] at z
        rcases (sto b).mp z with z | rfl
        · exact (S1.osto b hb).2 z
        · exact nOwn hb
      · rw [hlen] at hb
        rcases (sto b).mp hb with hb | rfl
        · exact S1.usto b hb (.inl z)
        · exact nUo z
    refine q1 (.ref a) m2 H1 ⟨by rw [hlen]; exact Nat.le_succ_of_le p1.hn, fun l hl => (e1 l (Nat.lt_of_lt_of_le hl p1.hn)).trans (p1.hm l hl), fun l hl hl2 => ?_, p1.fr, p1.th, p1.own⟩ S2.plusF ⟨fun e => absurd e (by simp), fun _ _ => ?_, fun _ _ => ?_⟩
    · rw [hlen] at hl2
      by_cases z : l = st1.length
      · rw [z, e2]; exact h5
      · rw [e1 l (by omega)]; exact p1.new l hl (by omega)
    · exact ⟨by rw [hlen]; exact Nat.lt_succ_self _, by rw [e2]⟩
    · exact ⟨by rw [hlen]; exact Nat.lt_succ_self _, by rw [e2]⟩
end
end Pi

set_option maxRecDepth 100000
set_option maxHeartbeats 1000000
/-! PiM: slots set, cleared, restored; comprehensions. -/
namespace Pi
open PySem PySem.Spec L2

/-! ### lists of slots -/
theorem wipe_get {σ : SL} : ∀ {is : List Nat} {j : Nat}, (wipe σ is)[j]? = if j ∈ is ∧ j < σ.length then some none else σ[j]?
  | [], j => by simp [wipe]
  | i :: is, j => by
    unfold wipe
    rw [List.getElem?_set, wipe_length, wipe_get]
    by_cases h : i = j
    · subst h
      rw [if_pos rfl]
      by_cases hl : i < σ.length
      · simp [hl]
      · simp [hl]
    · rw [if_neg h]
      have e : (j ∈ i :: is) ↔ (j ∈ is) := by simp [Ne.symm h]
      simp only [e]
theorem clear_length {env : Env} : ∀ {is : List Nat}, (clear env is).length = env.length
  | [] => rfl
  | i :: is => by unfold clear; rw [List.length_set, clear_length]
theorem clear_get {env : Env} : ∀ {is : List Nat} {j : Nat}, (clear env is)[j]? = if j ∈ is ∧ j < env.length then some none else env[j]?
  | [], j => by simp [clear]
  | i :: is, j => by
    unfold clear
    rw [List.getElem?_set, clear_length, clear_get]
    by_cases h : i = j
    · subst h
      rw [if_pos rfl]
      by_cases hl : i < env.length
      · simp [hl]
      · simp [hl]
    · rw [if_neg h]
      have e : (j ∈ i :: is) ↔ (j ∈ is) := by simp [Ne.symm h]
      simp only [e]
theorem restore_length {old env : Env} : ∀ {is : List Nat}, (restore old env is).length = env.length
  | [] => rfl
  | i :: is => by unfold restore; rw [List.length_set, restore_length]
theorem restore_get {old env : Env} (hl : old.length = env.length) : ∀ {is : List Nat} {j : Nat}, (restore old env is)[j]? = if j ∈ is then old[j]? else env[j]?
  | [], j => by simp [restore]
  | i :: is, j => by
    unfold restore
    rw [List.getElem?_set, restore_length, restore_get hl]
    by_cases h : i = j
    · subst h
      rw [if_pos rfl, if_pos (show i ∈ i :: is from List.mem_cons_self)]
      by_cases hl' : i < env.length
      · rw [if_pos hl', List.getElem?_eq_getElem (by omega)]
      · rw [if_neg hl', List.getElem?_eq_none (by omega)]
    · rw [if_neg h]
      have e : (j ∈ i :: is) ↔ (j ∈ is) := by simp [Ne.symm h]
      simp only [e]
theorem wipe_wipe {σ : SL} {is : List Nat} : wipe (wipe σ is) is = wipe σ is := by
  refine List.ext_getElem? fun j => ?_
  rw [wipe_get, wipe_get, wipe_length]
  split <;> rfl
theorem wipe_set {σ : SL} {is : List Nat} {i : Nat} {x : Option V} (h : i ∈ is) : wipe (σ.set i x) is = wipe σ is := by
  refine List.ext_getElem? fun j => ?_
  rw [wipe_get, wipe_get, List.length_set]
  by_cases hj : j ∈ is ∧ j < σ.length
  · rw [if_pos hj, if_pos hj]
  · rw [if_neg hj, if_neg hj, List.getElem?_set]
    split
    · rename_i e
      subst e
      split
      · rename_i hl; exact absurd ⟨h, hl⟩ hj
      · rename_i hl; rw [List.getElem?_eq_none (by omega)]
    · rfl
theorem set_get {α : Type} {xs : List α} {i j : Nat} {x y : α} (h : (xs.set i x)[j]? = some y) : (j = i ∧ y = x) ∨ (j ≠ i ∧ xs[j]? = some y) := by
  rw [List.getElem?_set] at h
  split at h
  · rename_i e
    split at h
    · cases h; exact .inl ⟨e.symm, rfl⟩
    · cases h
  · rename_i e; exact .inr ⟨fun z => e z.symm, h⟩

section
variable {F : Fx} {Uo : Addr → Prop} {env : Env} {σ : SL} {m : Nat → Addr} {n : Nat} {H : Hp} {st : Sto}
/-! ### a slot set to what is kept -/
theorem own_set {i : Nat} {s : Slot} {x : Option V} (hs : ∀ d, s ≠ some (d, true)) {b : Addr} (h : OwnAt (env.set i s) (σ.set i x) b) : ∃ j d, j ≠ i ∧ env[j]? = some (some (d, true)) ∧ σ[j]? = some (some (V.ref b)) := by
  obtain ⟨j, d, h1, h2⟩ := h
  rcases set_get h1 with ⟨rfl, e⟩ | ⟨hne, h1⟩
  · exact absurd e.symm (hs d)
  · rcases set_get h2 with ⟨rfl, _⟩ | ⟨_, h2⟩
    · exact absurd rfl hne
    · exact ⟨j, d, hne, h1, h2⟩
theorem own_set' {i : Nat} {s : Slot} {x : Option V} (hs : ∀ d, s ≠ some (d, true)) {b : Addr} (h : OwnAt (env.set i s) (σ.set i x) b) : OwnAt env σ b := let ⟨j, d, _, h1, h2⟩ := own_set hs h; ⟨j, d, h1, h2⟩
theorem mu_set {i : Nat} {s : Slot} {x : Option V} (hs : ∀ d, s ≠ some (d, true)) {b : Addr} (h : MuOf Uo (env.set i s) (σ.set i x) m n b) : MuOf Uo env σ m n b := h.imp id fun h => h.imp (own_set' hs) id
theorem sim_setS {i : Nat} {s : Slot} {x : Option V} (S : Sim F Uo m env σ st H) (hs : ∀ d, s ≠ some (d, true)) (hx : ∀ d, s = some (d, false) → ∃ v, x = some v ∧ Rep F (MuOf Uo env σ m st.length) m st.length H v d) : Sim F Uo m (env.set i s) (σ.set i x) st H := by
  have L : Mov (MuOf Uo env σ m st.length) (MuOf Uo (env.set i s) (σ.set i x) m st.length) m m st.length st.length H H := Mov.less fun _ z => mu_set hs z
  have get : ∀ j q, (env.set i s)[j]? = some (some q) → (j = i ∧ s = some q) ∨ (j ≠ i ∧ env[j]? = some (some q)) := fun j q h => (set_get h).imp (fun z => ⟨z.1, z.2.symm⟩) id
  have len := S.len
  exact {
    len := by rw [List.length_set, List.length_set]; exact S.len
    inj := S.inj
    obj := fun l ys q => let ⟨vs, h1, h2⟩ := S.obj l ys q; ⟨vs, h1, Reps.mov L h2⟩
    objD := fun l kvs e => let ⟨es, h1, h2⟩ := S.objD l kvs e; ⟨es, h1, DRel.mov L h2⟩
    val := fun j d q => by
      rcases get j _ q with ⟨rfl, z⟩ | ⟨hne, z⟩
      · obtain ⟨v, rfl, r⟩ := hx d z
        have hl : j < σ.length := by
          rw [← len]
          rw [List.getElem?_set] at q
          rw [if_pos rfl] at q
          by_cases hl : j < env.length
          · exact hl
          · rw [if_neg hl] at q; cases q
        exact ⟨v, List.getElem?_set_self hl, Rep.mov L r⟩
      · obtain ⟨v, h1, h2⟩ := S.val j d z
        exact ⟨v, by rw [List.getElem?_set_ne (Ne.symm hne)]; exact h1, Rep.mov L h2⟩
    own := fun j d q => by
      rcases get j _ q with ⟨rfl, z⟩ | ⟨hne, z⟩
      · exact absurd z (hs d)
      · obtain ⟨a, ys, ws, h1, h2, h3, h4⟩ := S.own j d z
        exact ⟨a, ys, ws, h1, by rw [List.getElem?_set_ne (Ne.symm hne)]; exact h2, h3, Reps.mov L h4⟩
    sep := fun j k b d e h1 h2 h3 h4 => by
      rcases get j _ h1 with ⟨rfl, z⟩ | ⟨hne, z⟩
      · exact absurd z (hs d)
      · rcases get k _ h2 with ⟨rfl, z'⟩ | ⟨hne', z'⟩
        · exact absurd z' (hs e)
        · rw [List.getElem?_set_ne (Ne.symm hne)] at h3
          rw [List.getElem?_set_ne (Ne.symm hne')] at h4
          exact S.sep j k b _ _ z z' h3 h4
    osto := fun b hb => S.osto b (own_set' hs hb)
    usto := S.usto
    uH := S.uH
    tab := S.tab }
theorem sim_set {i : Nat} {v : V} {d : D} (S : Sim F Uo m env σ st H) (r : Rep F (MuOf Uo env σ m st.length) m st.length H v d) : Sim F Uo m (env.set i (some (d, false))) (σ.set i (some v)) st H :=
  sim_setS S (fun _ z => by cases z) fun d' z => ⟨v, rfl, by cases z; exact r⟩
/-- several slots -/
def envs (is : List Nat) (ds : List D) (env : Env) : Env := (is.zip ds).foldl (fun e q => e.set q.1 (some (q.2, false))) env
def slots (is : List Nat) (vs : List V) (σ : SL) : SL := (is.zip vs).foldl (fun e q => e.set q.1 (some q.2)) σ
theorem sim_sets : ∀ {is : List Nat} {vs : List V} {ds : List D} {env : Env} {σ : SL}, Sim F Uo m env σ st H → Reps F (MuOf Uo env σ m st.length) m st.length H vs ds → Sim F Uo m (envs is ds env) (slots is vs σ) st H ∧ ∀ b, OwnAt (envs is ds env) (slots is vs σ) b → OwnAt env σ b
  | [], _, _, _, _, S, _ => ⟨S, fun _ h => h⟩
  | _ :: _, [], [], _, _, S, _ => ⟨S, fun _ h => h⟩
  | i :: is, v :: vs, d :: ds, env, σ, S, r => by
    have S1 := sim_set (i := i) S r.1
    obtain ⟨S2, k⟩ := sim_sets (is := is) S1 (Reps.mov (Mov.less fun _ z => mu_set (fun _ z => by cases z) z) r.2)
    exact ⟨S2, fun b h => own_set' (fun _ z => by cases z) (k b h)⟩
  | _ :: _, [], _ :: _, _, _, _, r => r.elim
  | _ :: _, _ :: _, [], _, _, _, r => r.elim
theorem wipe_slots {js : List Nat} : ∀ {is : List Nat} {vs : List V} {σ : SL}, (∀ i ∈ is, i ∈ js) → wipe (slots is vs σ) js = wipe σ js
  | [], _, _, _ => rfl
  | _ :: _, [], _, _ => rfl
  | i :: is, v :: vs, σ, h => by
    show wipe (slots is vs (σ.set i (some v))) js = _
    rw [wipe_slots fun j hj => h j (List.mem_cons_of_mem _ hj), wipe_set (h i List.mem_cons_self)]
/-! ### targets -/
def tgs : List Nat → TGs
  | [] => gNil
  | i :: is => gCons (gName i) (tgs is)
def T.g (K : PySem.W.Frag) : T → TG
  | .n i => gName i
  | .t is => gTup K is.length (tgs is)
theorem tgs_run {Q : SL → Hp → Prop} : ∀ {is : List Nat} {vs : List V} {σ : SL}, is.length = vs.length → Q (slots is vs σ) H → tgs is vs σ H Q
  | [], [], _, _, h => ⟨rfl, h⟩
  | i :: is, v :: vs, σ, hl, h => ⟨v, vs, rfl, tgs_run (by simpa using hl) h⟩
  | [], _ :: _, _, hl, _ => by cases hl
  | _ :: _, [], _, hl, _ => by cases hl
/-- a target takes what is kept -/
theorem tg_set {t : T} {env2 : Env} {v : V} {d : D} {Q : SL → Hp → Prop} (S : Sim F Uo m env σ st H) (r : Rep F (MuOf Uo env σ m st.length) m st.length H v d) (h : setT t (d, false) env = some env2)
    (k : ∀ σ2, Sim F Uo m env2 σ2 st H → (∀ b, OwnAt env2 σ2 b → OwnAt env σ b) → wipe σ2 t.own = wipe σ t.own → Q σ2 H) : t.g F.K v σ H Q := by
  cases t with
  | n i =>
    have h : (if i < env.length then some (env.set i (some (d, false))) else none) = some env2 := h
    by_cases hc : i < env.length
    · rw [if_pos hc] at h
      obtain rfl := Option.some.inj h
      exact k _ (sim_set S r) (fun b hb => own_set' (fun _ z => by cases z) hb) (wipe_set List.mem_cons_self)
    · rw [if_neg hc] at h
      cases h
  | t is =>
    cases d with
    | tup xs =>
      obtain ⟨a, vs, rfl, hq, hr⟩ := r
      have h : (if is.length = xs.length ∧ ∀ i ∈ is, i < env.length then some (envs is xs env) else none) = some env2 := h
      by_cases hc : is.length = xs.length ∧ ∀ i ∈ is, i < env.length
      · rw [if_pos hc] at h
        obtain rfl := Option.some.inj h
        have hl := Reps.length hr
        obtain ⟨S2, k2⟩ := sim_sets (is := is) S hr
        exact ⟨a, vs, rfl, hq, by rw [hl]; exact hc.1.symm, tgs_run (by rw [hl]; exact hc.1) (k _ S2 k2 (wipe_slots fun i hi => hi))⟩
      · rw [if_neg hc] at h
        cases h
    | _ => cases h

/-! ### a block's own slots -/
/-- the own lists of the slots that are cleared -/
def Hid (env : Env) (σ : SL) (is : List Nat) (b : Addr) : Prop := ∃ i ∈ is, ∃ d, env[i]? = some (some (d, true)) ∧ σ[i]? = some (some (V.ref b))
theorem Hid.own {is : List Nat} {b : Addr} (h : Hid env σ is b) : OwnAt env σ b := let ⟨i, _, d, h1, h2⟩ := h; ⟨i, d, h1, h2⟩
theorem clear_some {is : List Nat} {j : Nat} {q : D × Bool} (h : (clear env is)[j]? = some (some q)) : j ∉ is ∧ env[j]? = some (some q) := by
  rw [clear_get] at h
  split at h
  · cases h
  · rename_i hn
    refine ⟨fun hj => hn ⟨hj, ?_⟩, h⟩
    by_cases hl : j < env.length
    · exact hl
    · rw [List.getElem?_eq_none (by omega)] at h; cases h
theorem wipe_out' {is : List Nat} {j : Nat} (h : j ∉ is) : (wipe σ is)[j]? = σ[j]? := by rw [wipe_get, if_neg (fun z => h z.1)]
theorem own_clear {is : List Nat} {b : Addr} (h : OwnAt (clear env is) (wipe σ is) b) : ∃ j d, j ∉ is ∧ env[j]? = some (some (d, true)) ∧ σ[j]? = some (some (V.ref b)) := by
  obtain ⟨j, d, h1, h2⟩ := h
  obtain ⟨hj, h1⟩ := clear_some h1
  rw [wipe_out' hj] at h2
  exact ⟨j, d, hj, h1, h2⟩
theorem own_clear' {is : List Nat} {b : Addr} (h : OwnAt (clear env is) (wipe σ is) b) : OwnAt env σ b := let ⟨j, d, _, h1, h2⟩ := own_clear h; ⟨j, d, h1, h2⟩
theorem mu_clear {is : List Nat} {b : Addr} (h : MuOf (Plus Uo (Hid env σ is)) (clear env is) (wipe σ is) m n b) : MuOf Uo env σ m n b := by
  rcases h with (h | h) | h | h
  · exact .inl h
  · exact .inr (.inl h.own)
  · exact .inr (.inl (own_clear' h))
  · exact .inr (.inr h)
theorem sim_clear {is : List Nat} (S : Sim F Uo m env σ st H) : Sim F (Plus Uo (Hid env σ is)) m (clear env is) (wipe σ is) st H := by
  have L : Mov (MuOf Uo env σ m st.length) (MuOf (Plus Uo (Hid env σ is)) (clear env is) (wipe σ is) m st.length) m m st.length st.length H H := Mov.less fun _ z => mu_clear z
  exact {
    len := by rw [clear_length, wipe_length]; exact S.len
    inj := S.inj
    obj := fun l ys q => let ⟨vs, h1, h2⟩ := S.obj l ys q; ⟨vs, h1, Reps.mov L h2⟩
    objD := fun l kvs e => let ⟨es, h1, h2⟩ := S.objD l kvs e; ⟨es, h1, DRel.mov L h2⟩
    val := fun j d q => by
      obtain ⟨hj, q⟩ := clear_some q
      obtain ⟨v, h1, h2⟩ := S.val j d q
      exact ⟨v, by rw [wipe_out' hj]; exact h1, Rep.mov L h2⟩
    own := fun j d q => by
      obtain ⟨hj, q⟩ := clear_some q
      obtain ⟨a, ys, ws, h1, h2, h3, h4⟩ := S.own j d q
      exact ⟨a, ys, ws, h1, by rw [wipe_out' hj]; exact h2, h3, Reps.mov L h4⟩
    sep := fun j k b d e h1 h2 h3 h4 => by
      obtain ⟨hj, h1⟩ := clear_some h1
      obtain ⟨hk, h2⟩ := clear_some h2
      rw [wipe_out' hj] at h3
      rw [wipe_out' hk] at h4
      exact S.sep j k b _ _ h1 h2 h3 h4
    osto := fun b hb => by
      obtain ⟨j, d, hj, h1, h2⟩ := own_clear hb
      refine ⟨fun z => ?_, (S.osto b ⟨j, d, h1, h2⟩).2⟩
      rcases z with z | ⟨i, hi, e, h3, h4⟩
      · exact (S.osto b ⟨j, d, h1, h2⟩).1 z
      · exact hj (by rw [S.sep j i b _ _ h1 h3 h2 h4]; exact hi)
    usto := fun b hb z => z.elim (S.usto b hb) fun z => (S.osto b z.own).2 hb
    uH := fun b z => z.elim (S.uH b) fun z => S.ownH z.own
    tab := S.tab }
theorem step_clear {Ch : Addr → Prop} {is : List Nat} : Step Ch env σ m n H (clear env is) (wipe σ is) m n H := ⟨Nat.le_refl _, fun _ _ => rfl, fun l h1 h2 => absurd (Nat.lt_of_le_of_lt h1 h2) (Nat.lt_irrefl _), fun _ _ e _ _ => e, fun _ e => e, fun _ e => .inl (own_clear' e)⟩
/-- .. restored -/
theorem sim_restore {is : List Nat} {T : Addr → Prop} {m1 : Nat → Addr} {env1 : Env} {st1 : Sto} {H1 : Hp} (S : Sim F Uo m env σ st H) (p : Step noCh (clear env is) (wipe σ is) m st.length H env1 (wipe σ is) m1 st1.length H1)
    (S1 : Sim F (Plus (Plus Uo (Hid env σ is)) T) m1 env1 (wipe σ is) st1 H1) (fresh : ∀ a, T a → H a = none) : Sim F (Plus Uo T) m1 (restore env env1 is) σ st1 H1 ∧ Step noCh env σ m st.length H (restore env env1 is) σ m1 st1.length H1 ∧
      (∀ b, MuOf (Plus Uo T) (restore env env1 is) σ m1 st1.length b → MuOf (Plus (Plus Uo (Hid env σ is)) T) env1 (wipe σ is) m1 st1.length b) := by
  have hlen : env.length = env1.length := by rw [S.len, S1.len, wipe_length]
  have get : ∀ j q, (restore env env1 is)[j]? = some (some q) → (j ∈ is ∧ env[j]? = some (some q)) ∨ (j ∉ is ∧ env1[j]? = some (some q)) := fun j q h => by
    rw [restore_get hlen] at h
    split at h
    · rename_i hj; exact .inl ⟨hj, h⟩
    · rename_i hj; exact .inr ⟨hj, h⟩
  have own : ∀ b, OwnAt (restore env env1 is) σ b → Hid env σ is b ∨ OwnAt env1 (wipe σ is) b := fun b ⟨j, d, h1, h2⟩ => by
    rcases get j _ h1 with ⟨hj, h1⟩ | ⟨hj, h1⟩
    · exact .inl ⟨j, hj, d, h1, h2⟩
    · exact .inr ⟨j, d, h1, by rw [wipe_out' hj]; exact h2⟩
  have mu : ∀ b, MuOf (Plus Uo T) (restore env env1 is) σ m1 st1.length b → MuOf (Plus (Plus Uo (Hid env σ is)) T) env1 (wipe σ is) m1 st1.length b := fun b z => by
    rcases z with (z | z) | z | z
    · exact .inl (.inl (.inl z))
    · exact .inl (.inr z)
    · exact (own b z).elim (fun z => .inl (.inl (.inr z))) fun z => .inr (.inl z)
    · exact .inr (.inr z)
  have L : Mov (MuOf (Plus (Plus Uo (Hid env σ is)) T) env1 (wipe σ is) m1 st1.length) (MuOf (Plus Uo T) (restore env env1 is) σ m1 st1.length) m1 m1 st1.length st1.length H1 H1 := Mov.less mu
  have q : Step noCh env σ m st.length H (restore env env1 is) σ m1 st1.length H1 := ⟨p.hn, p.hm, p.new, p.fr, p.th, fun b z => (own b z).elim (fun z => .inl z.own) fun z => (p.own b z).imp own_clear' id⟩
  have M := q.movE S
  have M2 : Mov (MuOf Uo env σ m st.length) (MuOf (Plus Uo T) (restore env env1 is) σ m1 st1.length) m m1 st.length st1.length H H1 := ⟨M.hn, M.hm, M.kp, fun a z => (mu_plus z).elim (fun z => .inr (fresh a z)) (M.mu a)⟩
  refine ⟨?_, q, mu⟩
  exact {
    len := by rw [restore_length, ← hlen]; exact S.len
    inj := S1.inj
    obj := fun l ys e => let ⟨vs, h1, h2⟩ := S1.obj l ys e; ⟨vs, h1, Reps.mov L h2⟩
    objD := fun l kvs e => let ⟨es, h1, h2⟩ := S1.objD l kvs e; ⟨es, h1, DRel.mov L h2⟩
    val := fun j d e => by
      rcases get j _ e with ⟨hj, e⟩ | ⟨hj, e⟩
      · obtain ⟨v, h1, h2⟩ := S.val j d e
        exact ⟨v, h1, Rep.mov M2 h2⟩
      · obtain ⟨v, h1, h2⟩ := S1.val j d e
        rw [wipe_out' hj] at h1
        exact ⟨v, h1, Rep.mov L h2⟩
    own := fun j d e => by
      rcases get j _ e with ⟨hj, e⟩ | ⟨hj, e⟩
      · obtain ⟨a, ys, ws, rfl, h2, h3, h4⟩ := S.own j d e
        exact ⟨a, ys, ws, rfl, h2, p.fr a _ h3 (fun z => z) (.inr ⟨fun z => z, (S.osto a ⟨j, _, e, h2⟩).2⟩), Reps.mov M2 h4⟩
      · obtain ⟨a, ys, ws, rfl, h2, h3, h4⟩ := S1.own j d e
        rw [wipe_out' hj] at h2
        exact ⟨a, ys, ws, rfl, h2, h3, Reps.mov L h4⟩
    sep := fun j k b d e h1 h2 h3 h4 => by
      rcases get j _ h1 with ⟨hj, h1⟩ | ⟨hj, h1⟩ <;> rcases get k _ h2 with ⟨hk, h2⟩ | ⟨hk, h2⟩
      · exact S.sep j k b _ _ h1 h2 h3 h4
      · exact absurd (.inl (.inr ⟨j, hj, d, h1, h3⟩)) (S1.osto b ⟨k, e, h2, by rw [wipe_out' hk]; exact h4⟩).1
      · exact absurd (.inl (.inr ⟨k, hk, e, h2, h4⟩)) (S1.osto b ⟨j, d, h1, by rw [wipe_out' hj]; exact h3⟩).1
      · exact S1.sep j k b _ _ h1 h2 (by rw [wipe_out' hj]; exact h3) (by rw [wipe_out' hk]; exact h4)
    osto := fun b hb => by
      rcases own b hb with z | z
      · refine ⟨fun y => ?_, fun y => ?_⟩
        · rcases y with y | y
          · exact (S.osto b z.own).1 y
          · exact S.ownH z.own (fresh b y)
        · exact (StoAt.back p.hm p.new y).elim (S.osto b z.own).2 (S.ownH z.own)
      · exact ⟨fun y => (S1.osto b z).1 (y.imp .inl id), (S1.osto b z).2⟩
    usto := fun b hb z => S1.usto b hb (z.imp .inl id)
    uH := fun b z => S1.uH b (z.imp .inl id)
    tab := S1.tab }
end
end Pi

set_option maxRecDepth 100000
set_option maxHeartbeats 1000000
/-! PiN: what is walked; comprehensions. -/
namespace Pi
open PySem PySem.Spec L2

def PostI (F : Fx) (Uo : Addr → Prop) (env : Env) (σ : SL) (m : Nat → Addr) (n : Nat) (H : Hp) (W : WX) (R0 : It → Hp → Prop) : R (D × Bool) → Prop
  | .no => False
  | .ok p env' st' => ∃ xs, items p.1 = some xs ∧ ∀ J m' H', Step noCh env σ m n H env' σ m' st'.length H' → Sim F Uo m' env' σ st' H' → Itv F (MuOf Uo env' σ m' st'.length) m' st'.length H' J xs → R0 J H'
  | .ex c x env' st' => PostX F Uo env σ m n H W c x env' st'
def RdI (F : Fx) (G : Gl) (call : Nat → List D → Sto → RC) (W : WX) (c : C) : TI := fun σ H R0 => ∃ Uo m env st, Sim F Uo m env σ st H ∧ PostI F Uo env σ m st.length H W R0 (ev G call false c env st)
theorem closedI {F : Fx} {Uo : Addr → Prop} {σ : SL} {W : WX} {R0 : It → Hp → Prop} : Closed F Uo σ W fun env m n H r => PostI F Uo env σ m n H W R0 r where
  no := fun _ _ _ _ h => h
  ex := fun _ _ _ _ _ _ _ _ h => h
  step := fun env m n H env1 m1 n1 H1 r p h => by
    cases r with
    | no => exact h
    | ex c x env' st' => exact PostX.step p h
    | ok a env' st' =>
      obtain ⟨xs, e, k⟩ := h
      exact ⟨xs, e, fun J m' H' q S i => k J m' H' (p.transE q) S i⟩
theorem _root_.L2.PI.imp {X : Cx} {tg e : Expr} {t t' : TI} (h : PI X tg e t) (k : ∀ σ H R0, t' σ H R0 → t σ H R0) : PI X tg e t' := ⟨fun pins s σ H R0 I q => h.run pins s σ H R0 I (k _ _ _ q)⟩

section
variable {X : Cx} {F : Fx} {G : Gl} {call : Nat → List D → Sto → RC} {W : WX} {bw : Bool} {pos : Pos} {tg : Expr}
theorem sql_of {K : PySem.W.Frag} {H : Hp} {a : Addr} {vs : List V} (h : Rd H a (.lst vs)) : SqL K H a vs := .inl h
/-- a list or a tuple -/
theorem ri_seq {c : C} {e : Expr} (hK : X.K = F.K) (h : PE X e (RdE F G call W false c)) : PI X tg e (RdI F G call W c) := (pi_seq h).imp fun σ H R0 ⟨Uo, m, env, st, S, q⟩ => by
  refine ⟨Uo, m, env, st, S, ?_⟩
  revert q
  generalize ev G call false c env st = r
  intro q
  cases r with
  | no => exact q
  | ex c x env' st' => exact q
  | ok p env1 st1 =>
    obtain ⟨xs, e, k⟩ := q
    intro v m1 H1 p1 S1 r1
    have rep := r1.toRep S.uH S1
    obtain ⟨d, o⟩ := p
    cases d with
    | lst ys =>
      cases e
      obtain ⟨a, vs, rfl, hq, hm, hr⟩ := rep
      exact ⟨a, rfl, .inl ⟨⟨vs, .inl hq⟩, by rw [hK]; exact k _ m1 H1 p1 S1.base (.lst hq hm hr)⟩⟩
    | tup ys =>
      cases e
      obtain ⟨a, vs, rfl, hq, hr⟩ := rep
      exact ⟨a, rfl, .inr ⟨⟨vs, by rw [hK]; exact hq⟩, by rw [hK]; exact k _ m1 H1 p1 S1.base (.tup hq hr)⟩⟩
    | _ => cases e
theorem small_iff {i : Int} (h : small i = true) : -(2 ^ 62) ≤ i ∧ i < 2 ^ 62 := by
  unfold small at h
  rw [Bool.and_eq_true, decide_eq_true_eq, decide_eq_true_eq] at h
  exact h
theorem evs_len : ∀ {es : List C} {env env' : Env} {st st' : Sto} {ds : List D}, evs G call bw es env st = .ok ds env' st' → ds.length = es.length
  | [], env, env', st, st', ds, h => by
    rw [evs] at h
    cases h; rfl
  | e :: es, env, env', st, st', ds, h => by
    rw [evs] at h
    cases q : ev G call bw e env st with
    | no => rw [q] at h; cases h
    | ex c x e1 s1 => rw [q] at h; cases h
    | ok x e1 s1 =>
      rw [q] at h
      have h : (evs G call bw es e1 s1).bind (fun xs env st => .ok (x.1 :: xs) env st) = .ok ds env' st' := h
      cases q2 : evs G call bw es e1 s1 with
      | no => rw [q2] at h; cases h
      | ex c x e2 s2 => rw [q2] at h; cases h
      | ok xs e2 s2 =>
        rw [q2] at h
        have h : R.ok (x.1 :: xs) e2 s2 = .ok ds env' st' := h
        cases h
        rw [List.length_cons, List.length_cons, evs_len q2]
/-- arguments, then what is walked -/
theorem ri_args {cs : List C} {σ : SL} {H : Hp} {f : List D → Option D} {R0 : It → Hp → Prop} {Q : List V → Hp → Prop} {Uo : Addr → Prop} {m : Nat → Addr} {env : Env} {st : Sto} (S : Sim F Uo m env σ st H)
    (q : PostI F Uo env σ m st.length H W R0 ((evs G call true cs env st).bind fun ds env st => lift ((f ds).map fun d => (d, false)) env st))
    (k : ∀ ds vs xs m1 env1 st1 H1, ds.length = cs.length → Sim F Uo m1 env1 σ st1 H1 → RepBs F (MuOf Uo env1 σ m1 st1.length) m1 st1.length H1 vs ds → (∃ d, f ds = some d ∧ items d = some xs) → (∀ J, Itv F (MuOf Uo env1 σ m1 st1.length) m1 st1.length H1 J xs → R0 J H1) → Q vs H1) : RdL F G call W true cs σ H Q := by
  refine ⟨Uo, m, env, st, S, ?_⟩
  revert q
  cases hr : evs G call true cs env st with
  | no => exact fun q => q
  | ex c x env' st' => exact fun q => q
  | ok ds env1 st1 =>
    intro q vs m1 H1 p1 S1 _ rb
    have q : PostI F Uo env σ m st.length H W R0 (lift ((f ds).map fun d => (d, false)) env1 st1) := q
    cases hf : f ds with
    | none => rw [hf] at q; exact q.elim
    | some d =>
      rw [hf] at q
      obtain ⟨xs, e, z⟩ := q
      exact k ds vs xs m1 env1 st1 H1 (evs_len hr) S1 rb ⟨d, hf, e⟩ fun J i => z J m1 H1 p1 S1 i
theorem ri_rng1 {c : C} {e : Expr} {p : Pos} (hg : L2.Gl X "range") (hm : X.mg "range" = none) (hs : noStar e = true) (ha : PA X [e] (RdL F G call W true [c])) : PI X tg (.Call (.Name "range" p) [e] [] pos) (RdI F G call W (.rng [c])) :=
  (pi_range1 hg hm ha (star_cons hs _)).imp fun σ H R0 ⟨Uo, m, env, st, S, q⟩ => by
    rw [ev] at q
    refine ri_args S q fun ds vs xs m1 env1 st1 H1 hl S1 rb hx k => ?_
    obtain ⟨d, hd, hi⟩ := hx
    unfold rangeOf at hd
    split at hd
    · rename_i i
      split at hd
      · rename_i hb
        cases hd
        cases hi
        obtain ⟨v, rfl, rv⟩ := RepBs.one rb
        obtain rfl : v = .int i := rv
        obtain ⟨h1, h2⟩ := small_iff hb
        exact ⟨i, rfl, h1, h2, k _ .rng⟩
      · cases hd
    · cases hl
    · cases hd
theorem ri_rng2 {c c2 : C} {e e2 : Expr} {p : Pos} (hg : L2.Gl X "range") (hm : X.mg "range" = none) (hs : noStar e = true) (hs2 : noStar e2 = true) (ha : PA X [e, e2] (RdL F G call W true [c, c2])) : PI X tg (.Call (.Name "range" p) [e, e2] [] pos) (RdI F G call W (.rng [c, c2])) :=
  (pi_range2 hg hm ha (by rw [star_cons hs, star_cons hs2]; rfl) (star_cons hs2 _)).imp fun σ H R0 ⟨Uo, m, env, st, S, q⟩ => by
    rw [ev] at q
    refine ri_args S q fun ds vs xs m1 env1 st1 H1 hl S1 rb hx k => ?_
    obtain ⟨d, hd, hi⟩ := hx
    unfold rangeOf at hd
    split at hd
    · cases hl
    · rename_i i j
      split at hd
      · rename_i hb
        cases hd
        cases hi
        obtain ⟨v, w, rfl, rv, rw'⟩ := RepBs.two rb
        obtain rfl : v = .int i := rv
        obtain rfl : w = .int j := rw'
        rw [Bool.and_eq_true] at hb
        obtain ⟨h1, h2⟩ := small_iff hb.1
        obtain ⟨h3, h4⟩ := small_iff hb.2
        exact ⟨i, j, rfl, ⟨h1, h2, h3, h4⟩, k _ .rng⟩
      · cases hd
    · cases hd
theorem ri_enm {c : C} {e : Expr} {p tpos : Pos} {elts : List Expr} {kk : Nat} (hK : X.K = F.K) (hg : L2.Gl X "enumerate") (hm : X.mg "enumerate" = none) (hs : noStar e = true) (ha : PE X e (RdE F G call W false c)) : PI X (.Tuple elts kk tpos) (.Call (.Name "enumerate" p) [e] [] pos) (RdI F G call W (.enm c)) :=
  (pi_enumA hg hm (pa_cons ha pa_nil (star_cons hs _)) (star_cons hs _)).imp fun σ H R0 ⟨Uo, m, env, st, S, q⟩ => by
    rw [ev] at q
    refine ⟨Uo, m, env, st, S, bindE closedI q fun v d o m1 env1 st1 H1 p1 S1 r1 q1 => ?_⟩
    have rep := r1.toRep S.uH S1
    have q1 : PostI F Uo env1 σ m1 st1.length H1 W R0 (lift ((enumOf d).map fun d => (d, false)) env1 st1) := q1
    cases d with
    | lst ys =>
      obtain ⟨xs, e, k⟩ := q1
      cases e
      obtain ⟨a, vs, rfl, hq, hm, hr⟩ := rep
      exact .inr ⟨a, rfl, .inl ⟨⟨vs, .inl hq⟩, by rw [hK]; exact k _ m1 H1 Step.refl S1.base (.enm hq hm hr)⟩⟩
    | tup ys =>
      obtain ⟨xs, e, k⟩ := q1
      cases e
      obtain ⟨a, vs, rfl, hq, hr⟩ := rep
      exact .inr ⟨a, rfl, .inr ⟨⟨vs, by rw [hK]; exact hq⟩, by rw [hK]; exact k _ m1 H1 Step.refl S1.base (.enmT hq hr)⟩⟩
    | str z =>
      obtain ⟨xs, e, k⟩ := q1
      cases e
      obtain rfl : v = .str z := rep
      exact .inl ⟨z, rfl, k _ m1 H1 Step.refl S1.base .enmS⟩
    | _ => exact q1.elim
theorem ri_zip {c c2 : C} {e e2 : Expr} {p tpos : Pos} {elts : List Expr} {kk : Nat} (hK : X.K = F.K) (hg : L2.Gl X "zip") (hm : X.mg "zip" = none) (hs : noStar e = true) (hs2 : noStar e2 = true) (ha : PE X e (RdE F G call W false c)) (hb : PE X e2 (RdE F G call W false c2)) : PI X (.Tuple elts kk tpos) (.Call (.Name "zip" p) [e, e2] [] pos) (RdI F G call W (.zp c c2)) :=
  (RZ.pi_zipA hg hm (pa_cons ha (pa_cons hb pa_nil (star_cons hs2 _)) (star_cons hs _)) (star_cons hs _) (star_none (es := [e2]) (by simp [hs2]) _ _)).imp fun σ H R0 ⟨Uo, m, env, st, S, q⟩ => by
    rw [ev] at q
    refine ⟨Uo, m, env, st, S, bindE closedI q fun v d o m1 env1 st1 H1 p1 S1 r1 q1 => ⟨Uo, m1, env1, st1, S1.base, bindE closedI q1 fun w d2 o2 m2 env2 st2 H2 p2 S2 r2 q2 => ?_⟩⟩
    have rep := Rep.mov (p2.movE S1.base) (r1.toRep S.uH S1)
    have rep2 := r2.toRep S1.base.uH S2
    have q2 : PostI F Uo env2 σ m2 st2.length H2 W R0 (lift ((zipOf d d2).map fun d => (d, false)) env2 st2) := q2
    cases d with
    | lst ys =>
      cases d2 with
      | lst zs =>
        obtain ⟨xs, e, k⟩ := q2
        cases e
        obtain ⟨a, vs, rfl, hq, hm, hr⟩ := rep
        obtain ⟨b, ws, rfl, hq2, hm2, hr2⟩ := rep2
        exact ⟨a, b, vs, ws, rfl, .inl ⟨.inl hq, .inl hq2, by rw [hK]; exact k _ m2 H2 Step.refl S2.base (.zip hq hm hr hq2 hm2 hr2)⟩⟩
      | _ => exact q2.elim
    | tup ys =>
      cases d2 with
      | tup zs =>
        obtain ⟨xs, e, k⟩ := q2
        cases e
        obtain ⟨a, vs, rfl, hq, hr⟩ := rep
        obtain ⟨b, ws, rfl, hq2, hr2⟩ := rep2
        exact ⟨a, b, vs, ws, rfl, .inr ⟨by rw [hK]; exact hq, by rw [hK]; exact hq2, by rw [hK]; exact k _ m2 H2 Step.refl S2.base (.zipT hq hr hq2 hr2)⟩⟩
      | _ => exact q2.elim
    | _ => cases d2 <;> exact q2.elim
end

/-! ### a list that others hold is changed -/
section
variable {F : Fx} {Uo : Addr → Prop} {env env0 : Env} {σ σ0 : SL} {m m0 : Nat → Addr} {n0 : Nat} {H H0 : Hp} {st : Sto}
theorem mov_at {Mu : Addr → Prop} {n : Nat} {D : Addr} {xs : List V} {u : HO} (hD : H D = some (.lst xs)) (hM : Mu D) : Mov Mu Mu m m n n H (upd H D u) :=
  ⟨Nat.le_refl _, fun _ _ => rfl, fun a o e h => by
    by_cases z : a = D
    · subst z
      rw [hD] at e
      cases e
      rcases h with h | ⟨_, h⟩
      · exact h.elim
      · exact absurd hM h
    · rw [upd_ne z]; exact e, fun _ z => .inl z⟩
theorem tabs_at {T : List (Addr × Str)} {D : Addr} {xs : List V} {u : HO} (t : LamX.Tabs T H) (hD : H D = some (.lst xs)) : LamX.Tabs T (upd H D u) := fun p hp => by
  obtain ⟨ps, h1, h2, h3⟩ := t p hp
  refine ⟨ps, ?_, h2, fun pos cv hc => ?_⟩
  · rw [upd_ne (fun z => by rw [z, hD] at h1; cases h1)]; exact h1
  · obtain ⟨c, e1, e2⟩ := h3 pos cv hc
    exact ⟨c, e1, by rw [upd_ne (fun z => by rw [z, hD] at e2; cases e2)]; exact e2⟩
theorem sim_at {D : Addr} {xs ys : List V} (S : Sim F Uo m env σ st H) (hD : H D = some (.lst xs)) (hU : Uo D) : Sim F Uo m env σ st (upd H D (.lst ys)) := by
  have M : Mov (MuOf Uo env σ m st.length) (MuOf Uo env σ m st.length) m m st.length st.length H (upd H D (.lst ys)) := mov_at hD (.inl hU)
  have nS : ∀ a, StoAt m st.length a → a ≠ D := fun a h z => S.usto a h (by rw [z]; exact hU)
  exact {
    len := S.len
    inj := S.inj
    obj := fun l zs e => by
      obtain ⟨vs, h1, h2⟩ := S.obj l zs e
      have hl : l < st.length := by
        by_cases hl : l < st.length
        · exact hl
        · rw [List.getElem?_eq_none (by omega)] at e; cases e
      exact ⟨vs, by rw [upd_ne (nS _ ⟨l, hl, rfl⟩)]; exact h1, Reps.mov M h2⟩
    objD := fun l kvs e => by
      obtain ⟨es, h1, h2⟩ := S.objD l kvs e
      have hl : l < st.length := by
        by_cases hl : l < st.length
        · exact hl
        · rw [List.getElem?_eq_none (by omega)] at e; cases e
      exact ⟨es, by rw [upd_ne (nS _ ⟨l, hl, rfl⟩)]; exact h1, DRel.mov M h2⟩
    val := fun i d e => let ⟨v, h1, h2⟩ := S.val i d e; ⟨v, h1, Rep.mov M h2⟩
    own := fun i d e => by
      obtain ⟨a, zs, vs, h1, h2, h3, h4⟩ := S.own i d e
      exact ⟨a, zs, vs, h1, h2, by rw [upd_ne (fun z => (S.osto a ⟨i, d, e, h2⟩).1 (by rw [z]; exact hU))]; exact h3, Reps.mov M h4⟩
    sep := S.sep
    osto := S.osto
    usto := S.usto
    uH := fun a z => upd_th _ (S.uH a z)
    tab := tabs_at S.tab hD }
theorem step_at {D : Addr} {u : HO} (p : Step noCh env0 σ0 m0 n0 H0 env σ m st.length H) (h0 : H0 D = none) : Step noCh env0 σ0 m0 n0 H0 env σ m st.length (upd H D u) :=
  ⟨p.hn, p.hm, p.new, fun a o e ht k => by rw [upd_ne (ne_of_none e h0)]; exact p.fr a o e ht k, fun a e => upd_th _ (p.th a e), p.own⟩
end
end Pi

set_option maxRecDepth 100000
set_option maxHeartbeats 1000000
/-! PiO: comprehensions. -/
namespace Pi
open PySem PySem.Spec L2

/-- nothing is let out -/
abbrev W0 : WX := fun _ _ _ _ => False
section
variable {F : Fx} {G : Gl} {call : Nat → List D → Sto → RC} {W : WX} {bw : Bool}
def RdC (F : Fx) (G : Gl) (call : Nat → List D → Sto → RC) : Option C → TT
  | none => tYes
  | some c => RdT F G call W0 c
/-- one turn, as the interpreter does it -/
def lcStep (G : Gl) (call : Nat → List D → Sto → RC) (elt : C) (tg : T) (cond : Option C) : D → Env → Sto → R (Option D) := fun x env st => match setT tg (x, false) env with
  | none => .no
  | some env => match cond with
    | none => (ev G call false elt env st).calm.bind fun y env st => .ok (some y.1) (clear env tg.own) st
    | some c => (truth (ev G call true c env st)).calm.bind fun b env st => if b then (ev G call false elt env st).calm.bind fun y env st => .ok (some y.1) (clear env tg.own) st
      else .ok none (clear env tg.own) st
theorem calm_ok {α β : Type} {r : R α} {f : α → Env → Sto → R β} {b : β} {e : Env} {s : Sto} (h : r.calm.bind f = .ok b e s) : ∃ a e1 s1, r = .ok a e1 s1 ∧ f a e1 s1 = .ok b e s := by
  cases r with
  | no => cases h
  | ex c x e1 s1 => cases h
  | ok a e1 s1 => exact ⟨a, e1, s1, rfl, h⟩
theorem bind_ok {α β : Type} {r : R α} {f : α → Env → Sto → R β} {b : β} {e : Env} {s : Sto} (h : r.bind f = .ok b e s) : ∃ a e1 s1, r = .ok a e1 s1 ∧ f a e1 s1 = .ok b e s := by
  cases r with
  | no => cases h
  | ex c x e1 s1 => cases h
  | ok a e1 s1 => exact ⟨a, e1, s1, rfl, h⟩
theorem lcGo_calm {elt : C} {tg : T} {cond : Option C} : ∀ {xs : List D} {env : Env} {st : Sto} {c : Nat} {x : D} {e : Env} {s : Sto}, lcGo (lcStep G call elt tg cond) xs env st ≠ .ex c x e s
  | [], _, _, _, _, _, _, h => by cases h
  | y :: ys, env, st, c, x, e, s, h => by
    unfold lcGo at h
    have step : ∀ c x e s, lcStep G call elt tg cond y env st ≠ .ex c x e s := fun c x e s h => by
      unfold lcStep at h
      split at h
      · cases h
      · split at h
        · revert h
          generalize ev G call false elt _ st = r
          intro h
          cases r <;> cases h
        · revert h
          generalize truth (ev G call true _ _ st) = r
          intro h
          cases r with
          | no => cases h
          | ex _ _ _ _ => cases h
          | ok b e1 s1 =>
            cases b with
            | false => cases h
            | true =>
              have h : (ev G call false elt e1 s1).calm.bind (fun y env st => .ok (some y.1) (clear env tg.own) st) = .ex c x e s := h
              revert h
              generalize ev G call false elt e1 s1 = r
              intro h
              cases r <;> cases h
    cases q : lcStep G call elt tg cond y env st with
    | no => rw [q] at h; cases h
    | ex c x e s => exact step _ _ _ _ q
    | ok z e1 s1 =>
      rw [q] at h
      have h : (lcGo (lcStep G call elt tg cond) ys e1 s1).bind (fun ys env st => .ok (match z with | some y => y :: ys | none => ys) env st) = .ex c x e s := h
      cases q2 : lcGo (lcStep G call elt tg cond) ys e1 s1 with
      | no => rw [q2] at h; cases h
      | ex c x e s => exact lcGo_calm q2
      | ok _ _ _ => rw [q2] at h; cases h
theorem sim_more {Uo : Addr → Prop} {m : Nat → Addr} {env : Env} {σ : SL} {st : Sto} {H H' : Hp} (S : Sim F Uo m env σ st H) (h : More H H') : Sim F Uo m env σ st H' ∧ Step noCh env σ m st.length H env σ m st.length H' := by
  rcases h with rfl | ⟨p, u, hp, rfl⟩
  · exact ⟨S, Step.refl⟩
  · exact ⟨S.fresh hp, Step.fresh hp⟩
/-- an outcome that is fine, told of any wish -/
theorem post_ok {Uo : Addr → Prop} {env : Env} {σ : SL} {m : Nat → Addr} {n : Nat} {H : Hp} {Q : VK} {p : D × Bool} {e1 : Env} {s1 : Sto} {r : R (D × Bool)} (hr : r = .ok p e1 s1)
    (k : ∀ v m' H', Step noCh env σ m n H e1 σ m' s1.length H' → Sim F (Plus Uo (Tmp p.2 v)) m' e1 σ s1 H' → ValR F bw p.2 (MuOf (Plus Uo (Tmp p.2 v)) e1 σ m' s1.length) m' s1.length H H' v p.1 → Q v H') : PostE F Uo env σ m n H W bw Q r := by
  rw [hr]; exact k

theorem lc_dat {elt it : C} {tg : T} {cond : Option C} {σ : SL} {H : Hp} {Q : VK} (h : RdE F G call W bw (.lc elt tg it cond) σ H Q) :
    tLc (RdI F G call W it) (tg.g F.K) (RdC F G call cond) (RdE F G call W0 false elt) tg.own σ H Q := by
  obtain ⟨Uo, m, env, st, S, q⟩ := h
  rw [ev] at q
  refine ⟨Uo, m, env, st, S, ?_⟩
  revert q
  generalize ev G call false it env st = r
  intro q
  rcases r with _ | ⟨⟨d, o⟩, env1, st1⟩ | ⟨c, x, env', st'⟩
  · exact q.elim
  rotate_left
  · exact q
  have q : PostE F Uo env σ m st.length H W bw Q (match items d with
    | none => .no
    | some xs => (lcGo (lcStep G call elt tg cond) xs (clear env1 tg.own) st1).bind fun ys env2 st => if szOk xs.length then .ok (.lst ys, true) (restore env1 env2 tg.own) st else .no) := q
  cases hi : items d with
  | none => rw [hi] at q; exact q.elim
  | some xs =>
    rw [hi] at q
    have q : PostE F Uo env σ m st.length H W bw Q ((lcGo (lcStep G call elt tg cond) xs (clear env1 tg.own) st1).bind fun ys env2 st => if szOk xs.length then .ok (.lst ys, true) (restore env1 env2 tg.own) st else .no) := q
    refine ⟨xs, hi, fun J m1 H1 p1 S1 itv => ?_⟩
    intro L0 hD
    -- the whole walk
    cases hgo : lcGo (lcStep G call elt tg cond) xs (clear env1 tg.own) st1 with
    | no => rw [hgo] at q; exact q.elim
    | ex c x e s => exact absurd hgo lcGo_calm
    | ok ys env2 st2 =>
      rw [hgo] at q
      have q : PostE F Uo env σ m st.length H W bw Q (if szOk xs.length then .ok (.lst ys, true) (restore env1 env2 tg.own) st2 else .no) := q
      by_cases hz : szOk xs.length = true
      · rw [if_pos hz] at q
        have hz := szOk_le hz
        -- the state in which the walk begins
        have Sc := sim_clear (is := tg.own) S1
        generalize hU : Plus (Plus Uo (Hid env1 σ tg.own)) (Tmp true (V.ref L0)) = U0
        have SD : Sim F U0 m1 (clear env1 tg.own) (wipe σ tg.own) st1 (upd H1 L0 (.lst [])) := by rw [← hU]; exact Sc.plusT hD
        have uD : U0 L0 := by rw [← hU]; exact .inr ⟨rfl, rfl⟩
        have pD : Step noCh (clear env1 tg.own) (wipe σ tg.own) m1 st1.length H1 (clear env1 tg.own) (wipe σ tg.own) m1 st1.length (upd H1 L0 (.lst [])) := Step.fresh hD
        have mv : Mov (MuOf Uo env1 σ m1 st1.length) (MuOf U0 (clear env1 tg.own) (wipe σ tg.own) m1 st1.length) m1 m1 st1.length st1.length H1 (upd H1 L0 (.lst [])) :=
          ⟨Nat.le_refl _, fun _ _ => rfl, fun a o e _ => upd_keep hD a o e, fun a z => by
            rw [← hU] at z
            rcases mu_plus z with ⟨_, z⟩ | z
            · cases z; exact .inr hD
            · exact .inl (mu_clear z)⟩
        refine ⟨fun i k Hx => k = xs.length - i ∧ i ≤ xs.length ∧ ∃ mi envi sti zs acc rest, Step noCh (clear env1 tg.own) (wipe σ tg.own) m1 st1.length H1 envi (wipe σ tg.own) mi sti.length Hx ∧ Sim F U0 mi envi (wipe σ tg.own) sti Hx ∧
            Hx L0 = some (.lst zs) ∧ Reps F (MuOf U0 envi (wipe σ tg.own) mi sti.length) mi sti.length Hx zs acc ∧ Itv F (MuOf U0 envi (wipe σ tg.own) mi sti.length) mi sti.length Hx J xs ∧
            lcGo (lcStep G call elt tg cond) (xs.drop i) envi sti = .ok rest env2 st2 ∧ acc ++ rest = ys ∧ acc.length ≤ i,
          ⟨xs.length, by simp, Nat.zero_le _, m1, _, st1, [], [], ys, pD, SD, upd_same, trivial, itv.mov mv, hgo, rfl, Nat.le_refl _⟩, ?_⟩
        rintro i k Hx ⟨rfl, hi, mi, envi, sti, zs, acc, rest, px, Sx, hDx, ra, ix, go, cat, hl⟩
        by_cases hlt : i < xs.length
        · -- a turn
          refine .inr ⟨ix.go hlt, _, fun H' hn => ⟨xs.length - (i + 1), by omega, rfl, hlt, hn⟩, fun x H' hy => ?_⟩
          obtain ⟨d, hd, mo, rx⟩ := ix.yld hlt hy
          have hdrop : xs.drop i = d :: xs.drop (i + 1) := by
            rw [List.drop_eq_getElem_cons hlt]
            congr 1
            rw [List.getElem?_eq_getElem hlt] at hd
            exact Option.some.inj hd
          rw [hdrop] at go
          unfold lcGo at go
          obtain ⟨y, envj, stj, hstep, go⟩ := bind_ok go
          obtain ⟨rest', e3, s3, go2, fin⟩ := bind_ok go
          cases fin
          obtain ⟨S', pm⟩ := sim_more Sx mo
          have px' := px.transE pm
          have ra' := Reps.mov (pm.movE Sx) ra
          have ix' := ix.mov (pm.movE Sx)
          have nS : ∀ {m : Nat → Addr} {e : Env} {σ : SL} {s : Sto} {h : Hp}, Sim F U0 m e σ s h → ¬ StoAt m s.length L0 := fun S z => S.usto L0 z uD
          have hD' : H' L0 = some (.lst zs) := pm.fr L0 _ hDx (fun z => z) (.inr ⟨fun z => z, nS Sx⟩)
          unfold lcStep at hstep
          cases hset : setT tg (d, false) envi with
          | none => rw [hset] at hstep; cases hstep
          | some envs =>
            rw [hset] at hstep
            dsimp only at hstep
            refine tg_set S' rx hset fun σ2 S2 own2 hw => ?_
            rw [wipe_wipe] at hw
            refine ⟨hw, ?_⟩
            have ps : Step noCh envi (wipe σ tg.own) mi sti.length H' envs σ2 mi sti.length H' := ⟨Nat.le_refl _, fun _ _ => rfl, fun l h1 h2 => absurd (Nat.lt_of_le_of_lt h1 h2) (Nat.lt_irrefl _), fun _ _ e _ _ => e, fun _ e => e, fun b z => .inl (own2 b z)⟩
            have ra2 := Reps.mov (ps.movE S') ra'
            have ix2 := ix'.mov (ps.movE S')
            have px2 := px'.transE ps
            -- behind the turn
            have back : ∀ {e3 : Env} {s3 : Sto} {m3 : Nat → Addr} {H3 : Hp}, Step noCh (clear env1 tg.own) (wipe σ tg.own) m1 st1.length H1 e3 σ2 m3 s3.length H3 → Sim F U0 m3 e3 σ2 s3 H3 →
                Step noCh (clear env1 tg.own) (wipe σ tg.own) m1 st1.length H1 (clear e3 tg.own) (wipe σ tg.own) m3 s3.length H3 ∧ Sim F U0 m3 (clear e3 tg.own) (wipe σ tg.own) s3 H3 ∧
                (∀ b, MuOf U0 (clear e3 tg.own) (wipe σ tg.own) m3 s3.length b → MuOf U0 e3 σ2 m3 s3.length b) := fun {e3 s3 m3 H3} p S => by
              have c1 := (sim_clear (is := tg.own) S).base
              have c2 : Step noCh e3 σ2 m3 s3.length H3 (clear e3 tg.own) (wipe σ2 tg.own) m3 s3.length H3 := step_clear
              have c3 : ∀ b, MuOf U0 (clear e3 tg.own) (wipe σ2 tg.own) m3 s3.length b → MuOf U0 e3 σ2 m3 s3.length b := fun b z => mu_clear (z.imp .inl id)
              rw [hw] at c1 c2 c3
              exact ⟨p.transE c2, c1, c3⟩
            -- the element
            have elem : ∀ {e3 : Env} {s3 : Sto} {m3 : Nat → Addr} {H3 : Hp} {p : D × Bool} {e4 : Env} {s4 : Sto}, Step noCh (clear env1 tg.own) (wipe σ tg.own) m1 st1.length H1 e3 σ2 m3 s3.length H3 → Sim F U0 m3 e3 σ2 s3 H3 → H3 L0 = some (.lst zs) →
                Reps F (MuOf U0 e3 σ2 m3 s3.length) m3 s3.length H3 zs acc → Itv F (MuOf U0 e3 σ2 m3 s3.length) m3 s3.length H3 J xs → ev G call false elt e3 s3 = .ok p e4 s4 → clear e4 tg.own = envj → s4 = stj → y = some p.1 →
                RdE F G call W0 false elt σ2 H3 fun y H4 => ∃ acc, H4 L0 = some (.lst acc) ∧ acc.length < sizeLine ∧ (fun Hx => ∃ mi envi sti zs acc rest, Step noCh (clear env1 tg.own) (wipe σ tg.own) m1 st1.length H1 envi (wipe σ tg.own) mi sti.length Hx ∧ Sim F U0 mi envi (wipe σ tg.own) sti Hx ∧
                  Hx L0 = some (.lst zs) ∧ Reps F (MuOf U0 envi (wipe σ tg.own) mi sti.length) mi sti.length Hx zs acc ∧ Itv F (MuOf U0 envi (wipe σ tg.own) mi sti.length) mi sti.length Hx J xs ∧
                  lcGo (lcStep G call elt tg cond) (xs.drop (i + 1)) envi sti = .ok rest env2 st2 ∧ acc ++ rest = ys ∧ acc.length ≤ i + 1) (upd H4 L0 (.lst (acc ++ [y]))) := by
              intro e3 s3 m3 H3 p e4 s4 p3 S3 d3 r3 i3 he hc hs ey
              subst hc hs ey
              refine ⟨U0, m3, e3, s3, S3, post_ok he fun w m4 H4 p4 S4 r4 => ?_⟩
              have rw4 := r4.toRep S3.uH S4
              have S4 := S4.base
              have d4 : H4 L0 = some (.lst zs) := p4.fr L0 _ d3 (fun z => z) (.inr ⟨fun z => z, nS S3⟩)
              have hzs : zs.length ≤ i := by rw [Reps.length ra]; exact hl
              refine ⟨zs, d4, by omega, ?_⟩
              obtain ⟨b1, b2, b3⟩ := back (p3.transE p4) S4
              have M : Mov (MuOf U0 e4 σ2 m4 s4.length) (MuOf U0 (clear e4 tg.own) (wipe σ tg.own) m4 s4.length) m4 m4 s4.length s4.length H4 (upd H4 L0 (.lst (zs ++ [w]))) := by
                have a1 : Mov (MuOf U0 e4 σ2 m4 s4.length) (MuOf U0 e4 σ2 m4 s4.length) m4 m4 s4.length s4.length H4 (upd H4 L0 (.lst (zs ++ [w]))) := mov_at d4 (.inl uD)
                exact ⟨a1.hn, a1.hm, a1.kp, fun b z => .inl (b3 b z)⟩
              refine ⟨m4, clear e4 tg.own, s4, zs ++ [w], acc ++ [p.1], rest', step_at b1 hD, sim_at b2 d4 uD, upd_same, Reps.append (Reps.mov M (Reps.mov (p4.movE S3) r3)) ⟨Rep.mov M rw4, trivial⟩, (i3.mov (p4.movE S3)).mov M, go2, ?_, ?_⟩
              · rw [List.append_assoc]; exact cat
              · rw [List.length_append]; exact Nat.succ_le_succ hl
            cases cond with
            | none =>
              dsimp only at hstep
              obtain ⟨p, e4, s4, he, hf⟩ := calm_ok hstep
              cases hf
              show RdE F G call W0 false elt σ2 H' _
              exact elem px2 S2 hD' ra2 ix2 he rfl rfl rfl
            | some c =>
              dsimp only at hstep
              obtain ⟨b, e3, s3, ht, hf⟩ := calm_ok hstep
              refine ⟨U0, mi, envs, sti, S2, ?_⟩
              rw [ht]
              intro b' m3 H3 p3 S3 eb
              subst eb
              have d3 : H3 L0 = some (.lst zs) := p3.fr L0 _ hD' (fun z => z) (.inr ⟨fun z => z, nS S2⟩)
              cases b' with
              | true =>
                rw [if_pos rfl] at hf ⊢
                obtain ⟨p, e4, s4, he, hf⟩ := calm_ok hf
                cases hf
                exact elem (px2.transE p3) S3 d3 (Reps.mov (p3.movE S2) ra2) (ix2.mov (p3.movE S2)) he rfl rfl rfl
              | false =>
                rw [if_neg (by decide)] at hf ⊢
                cases hf
                obtain ⟨b1, b2, b3⟩ := back (px2.transE p3) S3
                exact ⟨m3, _, _, zs, acc, rest', b1, b2, d3, Reps.mov (Mov.less b3) (Reps.mov (p3.movE S2) ra2), (ix2.mov (p3.movE S2)).mov (Mov.less b3), go2, cat, Nat.le_succ_of_le hl⟩
        · -- the end
          have ei : i = xs.length := by omega
          subst ei
          refine .inl ⟨ix.stop, ?_⟩
          rw [List.drop_length] at go
          cases go
          rw [List.append_nil] at cat
          subst cat
          rw [← hU] at Sx ra
          have fr : ∀ a, Tmp true (V.ref L0) a → H1 a = none := fun a z => by obtain ⟨_, z⟩ := z; cases z; exact hD
          obtain ⟨S3, p3, mu3⟩ := sim_restore S1 px Sx fr
          exact q (.ref L0) mi Hx (p1.transE p3) S3 ⟨fun _ => ⟨L0, acc, zs, rfl, rfl, hDx, Reps.mov (Mov.less mu3) ra, by
            cases e : H L0 with
            | none => rfl
            | some o => exact absurd hD (p1.th L0 (by rw [e]; simp))⟩, fun e => absurd e (by simp), fun e => absurd e (by simp)⟩
      · rw [if_neg hz] at q; exact q.elim
end
end Pi

set_option maxRecDepth 100000
set_option maxHeartbeats 1000000
/-! PiP: statements. -/
namespace Pi
open PySem PySem.Spec L2

section
variable (F : Fx) (G : Gl) (call : Nat → List D → Sto → RC) (W : WX) (N : Nat)
def RdS (s : S) : TS := fun D0 σ H => ∃ Uo m env st, Sim F Uo m env σ st H ∧ PostS F Uo env σ m st.length H W D0 (exS G call N s env st)
def RdB (ss : List S) : TS := fun D0 σ H => ∃ Uo m env st, Sim F Uo m env σ st H ∧ PostS F Uo env σ m st.length H W D0 (exB G call N ss env st)
end
theorem _root_.L2.PS.imp {X : Cx} {e : Stmt} {t t' : TS} (h : PS X e t) (k : ∀ D σ H, t' D σ H → t D σ H) : PS X e t' := ⟨fun pins s σ H D I q => h.run pins s σ H D I (k _ _ _ q)⟩
theorem _root_.L2.PSs.imp {X : Cx} {e : List Stmt} {t t' : TS} (h : PSs X e t) (k : ∀ D σ H, t' D σ H → t D σ H) : PSs X e t' := ⟨fun pins s σ H D I q => h.run pins s σ H D I (k _ _ _ q)⟩

section
variable {F : Fx} {Uo : Addr → Prop} {env env1 : Env} {σ σ1 : SL} {m m1 : Nat → Addr} {n n1 : Nat} {H H1 : Hp} {W : WX} {st : Sto} {D0 : Ends}
/-- a statement's promise, further on -/
theorem PostS.step {r : R Flow} (p : Step (OwnAt env σ) env σ m n H env1 σ1 m1 n1 H1) (h : PostS F Uo env σ m n H W D0 r) : PostS F Uo env1 σ1 m1 n1 H1 W D0 r := by
  cases r with
  | no => exact h
  | ex c x env' st' => exact fun cls dd σ' m' H' q S e => h cls dd σ' m' H' (p.transS q) S e
  | ok f env' st' =>
    cases f with
    | nx => exact fun σ' m' H' q S => h σ' m' H' (p.transS q) S
    | brk => exact fun σ' m' H' q S => h σ' m' H' (p.transS q) S
    | ct => exact fun σ' m' H' q S => h σ' m' H' (p.transS q) S
    | ret d o =>
      refine fun v σ' m' H' q S r1 r2 => h v σ' m' H' (p.transS q) S (fun e => ?_) r2
      obtain ⟨a, xs, vs, h1, h2, h3, h4, h5⟩ := r1 e
      refine ⟨a, xs, vs, h1, h2, h3, h4, ?_⟩
      rcases h5 with h5 | h5
      · refine .inl ?_
        cases q : H a with
        | none => rfl
        | some o => exact absurd h5 (p.th a (by rw [q]; simp))
      · exact (p.own a h5).symm
/-- the first of two -/
theorem PostS.seq {D1 : Ends} {r : R Flow} {g : Flow → Env → Sto → R Flow} (h : PostS F Uo env σ m n H W D0 (r.bind g))
    (hn : ∀ e s σ' m' H', g .nx e s ≠ .no → PostS F Uo env σ m n H W D0 (g .nx e s) → Step (OwnAt env σ) env σ m n H e σ' m' s.length H' → Sim F Uo m' e σ' s H' → D1.nx σ' H')
    (hb : ∀ e s σ' m' H', PostS F Uo env σ m n H W D0 (g .brk e s) → Step (OwnAt env σ) env σ m n H e σ' m' s.length H' → Sim F Uo m' e σ' s H' → D1.bk σ' H')
    (hc : ∀ e s σ' m' H', PostS F Uo env σ m n H W D0 (g .ct e s) → Step (OwnAt env σ) env σ m n H e σ' m' s.length H' → Sim F Uo m' e σ' s H' → D1.ct σ' H')
    (hr : ∀ d o e s, g (.ret d o) e s = .ok (.ret d o) e s) (ert : D1.rt = D0.rt) : PostS F Uo env σ m n H W D1 r := by
  cases r with
  | no => exact h
  | ex c x env' st' => exact h
  | ok f env' st' =>
    cases f with
    | nx => exact fun σ' m' H' q S => hn env' st' σ' m' H' (fun z => by
        have h : PostS F Uo env σ m n H W D0 (g .nx env' st') := h
        rw [z] at h; exact h) h q S
    | brk => exact fun σ' m' H' q S => hb env' st' σ' m' H' h q S
    | ct => exact fun σ' m' H' q S => hc env' st' σ' m' H' h q S
    | ret d o =>
      have h : PostS F Uo env σ m n H W D0 (g (.ret d o) env' st') := h
      rw [hr] at h
      intro v σ' m' H' q S r1 r2
      rw [ert]
      exact h v σ' m' H' q S r1 r2
theorem step_own {i : Nat} {xs ys : List D} {a : Addr} {zs : List V} {u : HO} (he : env[i]? = some (some (.lst xs, true))) (hs : σ[i]? = some (some (V.ref a))) (hH : H a = some (.lst zs)) :
    Step (OwnAt env σ) env σ m n H (env.set i (some (.lst ys, true))) σ m n (upd H a u) := by
  refine ⟨Nat.le_refl _, fun _ _ => rfl, fun l h1 h2 => absurd (Nat.lt_of_le_of_lt h1 h2) (Nat.lt_irrefl _), fun b o e ht k => ?_, fun b e => upd_th _ e, fun b hb => ?_⟩
  · have ne : b ≠ a := fun z => by
      subst z
      rw [hH] at e
      cases e
      rcases k with k | k
      · exact k
      · exact k.1 ⟨i, _, he, hs⟩
    rw [upd_ne ne]; exact e
  · obtain ⟨j, d, h1, h2⟩ := hb
    rcases set_get h1 with ⟨rfl, e⟩ | ⟨_, h1⟩
    · cases e; exact .inl ⟨j, _, he, h2⟩
    · exact .inl ⟨j, d, h1, h2⟩
/-- a list of one's own is changed -/
theorem sim_own {i : Nat} {xs ys : List D} {a : Addr} {zs ws : List V} (S : Sim F Uo m env σ st H) (he : env[i]? = some (some (.lst xs, true))) (hs : σ[i]? = some (some (V.ref a))) (hH : H a = some (.lst zs)) (hr : Reps F (MuOf Uo env σ m st.length) m st.length H ws ys) :
    Sim F Uo m (env.set i (some (.lst ys, true))) σ st (upd H a (.lst ws)) := by
  have ha : OwnAt env σ a := ⟨i, _, he, hs⟩
  have own : ∀ b, OwnAt (env.set i (some (.lst ys, true))) σ b → OwnAt env σ b := fun b ⟨j, d, h1, h2⟩ => by
    rcases set_get h1 with ⟨rfl, e⟩ | ⟨_, h1⟩
    · cases e; exact ⟨j, _, he, h2⟩
    · exact ⟨j, d, h1, h2⟩
  have M0 : Mov (MuOf Uo env σ m st.length) (MuOf Uo env σ m st.length) m m st.length st.length H (upd H a (.lst ws)) := mov_at hH (.inr (.inl ha))
  have M : Mov (MuOf Uo env σ m st.length) (MuOf Uo (env.set i (some (.lst ys, true))) σ m st.length) m m st.length st.length H (upd H a (.lst ws)) := ⟨M0.hn, M0.hm, M0.kp, fun b z => .inl (z.imp id fun z => z.imp (own b) id)⟩
  have back : ∀ j d, (env.set i (some (.lst ys, true)))[j]? = some (some (d, true)) → ∃ d', env[j]? = some (some (d', true)) := fun j d h => by
    rcases set_get h with ⟨rfl, e⟩ | ⟨_, h1⟩
    · exact ⟨_, he⟩
    · exact ⟨_, h1⟩
  exact {
    len := by rw [List.length_set]; exact S.len
    inj := S.inj
    obj := fun l zs e => by
      obtain ⟨vs, h1, h2⟩ := S.obj l zs e
      have hl : l < st.length := by
        by_cases hl : l < st.length
        · exact hl
        · rw [List.getElem?_eq_none (by omega)] at e; cases e
      exact ⟨vs, by rw [upd_ne (fun z => (S.osto a ha).2 ⟨l, hl, z⟩)]; exact h1, Reps.mov M h2⟩
    objD := fun l kvs e => by
      obtain ⟨es, h1, h2⟩ := S.objD l kvs e
      have hl : l < st.length := by
        by_cases hl : l < st.length
        · exact hl
        · rw [List.getElem?_eq_none (by omega)] at e; cases e
      exact ⟨es, by rw [upd_ne (fun z => (S.osto a ha).2 ⟨l, hl, z⟩)]; exact h1, DRel.mov M h2⟩
    val := fun j d e => by
      rcases set_get e with ⟨rfl, z⟩ | ⟨_, z⟩
      · cases z
      · obtain ⟨v, h1, h2⟩ := S.val j d z; exact ⟨v, h1, Rep.mov M h2⟩
    own := fun j d e => by
      rcases set_get e with ⟨rfl, z⟩ | ⟨hne, z⟩
      · cases z
        exact ⟨a, ys, ws, rfl, hs, upd_same, Reps.mov M hr⟩
      · obtain ⟨b, zs, vs, h1, h2, h3, h4⟩ := S.own j d z
        refine ⟨b, zs, vs, h1, h2, ?_, Reps.mov M h4⟩
        rw [upd_ne (fun y => hne (S.sep j i a _ _ z he (by rw [← y]; exact h2) hs))]; exact h3
    sep := fun j k b d e h1 h2 h3 h4 => let ⟨_, h1⟩ := back j d h1; let ⟨_, h2⟩ := back k e h2; S.sep j k b _ _ h1 h2 h3 h4
    osto := fun b hb => S.osto b (own b hb)
    usto := S.usto
    uH := fun b z => upd_th _ (S.uH b z)
    tab := tabs_at S.tab hH }
/-- a list of the store is changed -/
theorem step_sto {l : Nat} {zs : List V} {u : HO} (hl : l < n) (hH : H (m l) = some (.lst zs)) : Step (OwnAt env σ) env σ m n H env σ m n (upd H (m l) u) := by
  refine ⟨Nat.le_refl _, fun _ _ => rfl, fun l h1 h2 => absurd (Nat.lt_of_le_of_lt h1 h2) (Nat.lt_irrefl _), fun b o e ht k => ?_, fun b e => upd_th _ e, fun b hb => .inl hb⟩
  have ne : b ≠ m l := fun z => by
    subst z
    rw [hH] at e
    cases e
    rcases k with k | k
    · exact k
    · exact k.2 ⟨l, hl, rfl⟩
  rw [upd_ne ne]; exact e
theorem sim_sto {l : Nat} {ys : List D} {zs ws : List V} (S : Sim F Uo m env σ st H) (hl : l < st.length) (hH : H (m l) = some (.lst zs)) (hr : Reps F (MuOf Uo env σ m st.length) m st.length H ws ys) :
    Sim F Uo m env σ (st.set l (.lst ys)) (upd H (m l) (.lst ws)) := by
  have hs : StoAt m st.length (m l) := ⟨l, hl, rfl⟩
  have M : Mov (MuOf Uo env σ m st.length) (MuOf Uo env σ m st.length) m m st.length st.length H (upd H (m l) (.lst ws)) := mov_at hH (.inr (.inr hs))
  have el : (st.set l (Ob.lst ys)).length = st.length := List.length_set
  exact {
    len := S.len
    inj := fun i j hi hj => S.inj i j (by rw [← el]; exact hi) (by rw [← el]; exact hj)
    obj := fun k zs e => by
      rw [el]
      rcases set_get e with ⟨rfl, y⟩ | ⟨hne, y⟩
      · cases y; exact ⟨ws, upd_same, Reps.mov M hr⟩
      · obtain ⟨vs, h1, h2⟩ := S.obj k zs y
        have hk : k < st.length := by
          by_cases hk : k < st.length
          · exact hk
          · rw [List.getElem?_eq_none (by omega)] at y; cases y
        exact ⟨vs, by rw [upd_ne (fun z => hne (S.inj k l hk hl z))]; exact h1, Reps.mov M h2⟩
    objD := fun k kvs e => by
      rw [el]
      rcases set_get e with ⟨rfl, y⟩ | ⟨hne, y⟩
      · cases y
      · obtain ⟨es, h1, h2⟩ := S.objD k kvs y
        have hk : k < st.length := by
          by_cases hk : k < st.length
          · exact hk
          · rw [List.getElem?_eq_none (by omega)] at y; cases y
        exact ⟨es, by rw [upd_ne (fun z => hne (S.inj k l hk hl z))]; exact h1, DRel.mov M h2⟩
    val := fun j d e => by rw [el]; obtain ⟨v, h1, h2⟩ := S.val j d e; exact ⟨v, h1, Rep.mov M h2⟩
    own := fun j d e => by
      rw [el]
      obtain ⟨b, zs, vs, h1, h2, h3, h4⟩ := S.own j d e
      exact ⟨b, zs, vs, h1, h2, by rw [upd_ne (fun z => (S.osto b ⟨j, d, e, h2⟩).2 (by rw [z]; exact hs))]; exact h3, Reps.mov M h4⟩
    sep := S.sep
    osto := fun b hb => by rw [el]; exact S.osto b hb
    usto := fun b hb => S.usto b (by rw [← el]; exact hb)
    uH := fun b z => upd_th _ (S.uH b z)
    tab := tabs_at S.tab hH }
/-- a slot takes a list of one's own -/
theorem sim_take {i : Nat} {xs : List D} {a : Addr} {vs : List V} (S : Sim F (Plus Uo (Tmp true (V.ref a))) m env σ st H) (nU : ¬ Uo a) (hi : i < env.length) (hH : H a = some (.lst vs)) (hr : Reps F (MuOf (Plus Uo (Tmp true (V.ref a))) env σ m st.length) m st.length H vs xs) :
    Sim F Uo m (env.set i (some (.lst xs, true))) (σ.set i (some (V.ref a))) st H ∧ ∀ b, OwnAt (env.set i (some (.lst xs, true))) (σ.set i (some (V.ref a))) b → b = a ∨ OwnAt env σ b := by
  have hiσ : i < σ.length := by rw [← S.len]; exact hi
  have own : ∀ b, OwnAt (env.set i (some (.lst xs, true))) (σ.set i (some (V.ref a))) b → b = a ∨ OwnAt env σ b := fun b ⟨j, d, h1, h2⟩ => by
    rcases set_get h1 with ⟨rfl, e⟩ | ⟨hne, h1⟩
    · rcases set_get h2 with ⟨_, e2⟩ | ⟨h, _⟩
      · cases e2; exact .inl rfl
      · exact absurd rfl h
    · rw [List.getElem?_set_ne (Ne.symm hne)] at h2
      exact .inr ⟨j, d, h1, h2⟩
  have uA : Plus Uo (Tmp true (V.ref a)) a := .inr ⟨rfl, rfl⟩
  have M : Mov (MuOf (Plus Uo (Tmp true (V.ref a))) env σ m st.length) (MuOf Uo (env.set i (some (.lst xs, true))) (σ.set i (some (V.ref a))) m st.length) m m st.length st.length H H := Mov.less fun b z => by
    rcases z with z | z | z
    · exact .inl (.inl z)
    · rcases own b z with rfl | z
      · exact .inl uA
      · exact .inr (.inl z)
    · exact .inr (.inr z)
  refine ⟨?_, own⟩
  have at_i : ∀ b j d, j ≠ i → env[j]? = some (some (d, true)) → σ[j]? = some (some (V.ref b)) → b ≠ a := fun b j d _ h1 h2 z => (S.osto b ⟨j, d, h1, h2⟩).1 (by rw [z]; exact uA)
  exact {
    len := by rw [List.length_set, List.length_set]; exact S.len
    inj := S.inj
    obj := fun l ys q => let ⟨vs, h1, h2⟩ := S.obj l ys q; ⟨vs, h1, Reps.mov M h2⟩
    objD := fun l kvs e => let ⟨es, h1, h2⟩ := S.objD l kvs e; ⟨es, h1, DRel.mov M h2⟩
    val := fun j d q => by
      rcases set_get q with ⟨rfl, z⟩ | ⟨hne, z⟩
      · cases z
      · obtain ⟨v, h1, h2⟩ := S.val j d z
        exact ⟨v, by rw [List.getElem?_set_ne (Ne.symm hne)]; exact h1, Rep.mov M h2⟩
    own := fun j d q => by
      rcases set_get q with ⟨rfl, z⟩ | ⟨hne, z⟩
      · cases z
        exact ⟨a, xs, vs, rfl, List.getElem?_set_self hiσ, hH, Reps.mov M hr⟩
      · obtain ⟨b, ys, ws, h1, h2, h3, h4⟩ := S.own j d z
        exact ⟨b, ys, ws, h1, by rw [List.getElem?_set_ne (Ne.symm hne)]; exact h2, h3, Reps.mov M h4⟩
    sep := fun j k b d e h1 h2 h3 h4 => by
      rcases set_get h1 with ⟨rfl, z⟩ | ⟨hne, z⟩ <;> rcases set_get h2 with ⟨rfl, z'⟩ | ⟨hne', z'⟩
      · rfl
      · rw [List.getElem?_set_self hiσ] at h3
        rw [List.getElem?_set_ne (Ne.symm hne')] at h4
        cases h3
        exact absurd rfl (at_i a k e hne' z' h4)
      · rw [List.getElem?_set_self hiσ] at h4
        rw [List.getElem?_set_ne (Ne.symm hne)] at h3
        cases h4
        exact absurd rfl (at_i a j d hne z h3)
      · rw [List.getElem?_set_ne (Ne.symm hne)] at h3
        rw [List.getElem?_set_ne (Ne.symm hne')] at h4
        exact S.sep j k b _ _ z z' h3 h4
    osto := fun b hb => by
      rcases own b hb with rfl | z
      · exact ⟨nU, fun z => S.usto b z uA⟩
      · exact ⟨fun z' => (S.osto b z).1 (.inl z'), (S.osto b z).2⟩
    usto := fun b hb z => S.usto b hb (.inl z)
    uH := fun b z => S.uH b (.inl z)
    tab := S.tab }
/-- a slot gives its list away -/
theorem sim_give {i : Nat} {xs : List D} {a : Addr} (S : Sim F Uo m env σ st H) (he : env[i]? = some (some (.lst xs, true))) (hs : σ[i]? = some (some (V.ref a))) :
    Sim F (Plus Uo (Tmp true (V.ref a))) m (env.set i none) (σ.set i none) st H ∧ ∀ b, MuOf (Plus Uo (Tmp true (V.ref a))) (env.set i none) (σ.set i none) m st.length b → MuOf Uo env σ m st.length b := by
  have ha : OwnAt env σ a := ⟨i, _, he, hs⟩
  have S1 : Sim F Uo m (env.set i none) (σ.set i none) st H := sim_setS S (fun _ z => by cases z) fun _ z => by cases z
  have mu : ∀ b, MuOf (Plus Uo (Tmp true (V.ref a))) (env.set i none) (σ.set i none) m st.length b → MuOf Uo env σ m st.length b := fun b z => by
    rcases z with (z | ⟨_, z⟩) | z | z
    · exact .inl z
    · cases z; exact .inr (.inl ha)
    · exact .inr (.inl (own_set' (fun _ z => by cases z) z))
    · exact .inr (.inr z)
  have M : Mov (MuOf Uo env σ m st.length) (MuOf (Plus Uo (Tmp true (V.ref a))) (env.set i none) (σ.set i none) m st.length) m m st.length st.length H H := Mov.less mu
  refine ⟨?_, mu⟩
  exact {
    len := S1.len
    inj := S.inj
    obj := fun l ys q => let ⟨vs, h1, h2⟩ := S.obj l ys q; ⟨vs, h1, Reps.mov M h2⟩
    objD := fun l kvs e => let ⟨es, h1, h2⟩ := S.objD l kvs e; ⟨es, h1, DRel.mov M h2⟩
    val := fun j d q => by
      rcases set_get q with ⟨rfl, z⟩ | ⟨hne, z⟩
      · cases z
      · obtain ⟨v, h1, h2⟩ := S.val j d z
        exact ⟨v, by rw [List.getElem?_set_ne (Ne.symm hne)]; exact h1, Rep.mov M h2⟩
    own := fun j d q => by
      rcases set_get q with ⟨rfl, z⟩ | ⟨hne, z⟩
      · cases z
      · obtain ⟨b, ys, ws, h1, h2, h3, h4⟩ := S.own j d z
        exact ⟨b, ys, ws, h1, by rw [List.getElem?_set_ne (Ne.symm hne)]; exact h2, h3, Reps.mov M h4⟩
    sep := S1.sep
    osto := fun b hb => by
      obtain ⟨j, d, hne, h1, h2⟩ := own_set (fun _ z => by cases z) hb
      refine ⟨fun z => ?_, (S.osto b ⟨j, d, h1, h2⟩).2⟩
      rcases z with z | ⟨_, z⟩
      · exact (S.osto b ⟨j, d, h1, h2⟩).1 z
      · cases z; exact hne (S.sep j i a _ _ h1 he h2 hs)
    usto := fun b hb z => by
      rcases z with z | ⟨_, z⟩
      · exact S.usto b hb z
      · cases z; exact (S.osto a ha).2 hb
    uH := fun b z => by
      rcases z with z | ⟨_, z⟩
      · exact S.uH b z
      · cases z; exact S.ownH ha
    tab := S.tab }
end
end Pi

set_option maxRecDepth 100000
set_option maxHeartbeats 1000000
/-! PiDm: dicts of the store: readings. -/
namespace Pi
open PySem PySem.Spec L2

/-! ### dict(pairs) -/
def allE (es fs : List Ent) : List Ent := fs.foldl (fun acc e => putE acc e.1 e.2.1 e.2.2) es
theorem EntR.all {fs : List Ent} {ys : List (NestedKey × Addr × Value)} (q : EntR fs ys) : ∀ {es : List Ent} {xs : List (NestedKey × Addr × Value)}, EntR es xs → EntR (allE es fs) (storedAllH xs ys) := by
  induction q with
  | nil => exact fun r => r
  | @cons e x fs ys h _ ih =>
    intro es xs r
    show EntR (allE (putE es e.1 e.2.1 e.2.2) fs) (storedAllH (storedH xs x.1 x.2.1 x.2.2) ys)
    rw [← h.1, ← h.2.1]
    exact ih (r.put _ _ h.2.2)
theorem allE_len : ∀ (fs es : List Ent), (allE es fs).length ≤ es.length + fs.length
  | [], es => Nat.le_refl _
  | f :: fs, es => by
    have h1 := allE_len fs (putE es f.1 f.2.1 f.2.2)
    have h2 := putE_len es f.1 f.2.1 f.2.2
    show (allE (putE es f.1 f.2.1 f.2.2) fs).length ≤ es.length + (fs.length + 1)
    omega
section
variable {F : Fx} {Mu : Addr → Prop} {m : Nat → Addr} {n : Nat} {H : Hp}
theorem DRel.all : ∀ {fs : List Ent} {ps : List (D × D)} {es : List Ent} {kvs : List (D × D)}, DRel F Mu m n H fs ps → DRel F Mu m n H es kvs → DRel F Mu m n H (allE es fs) (dkAll kvs ps)
  | [], [], _, _, _, r => r
  | f :: fs, p :: ps, es, kvs, h, r => by
    obtain ⟨⟨h1, h2, h3, h4⟩, h5⟩ := h
    show DRel F Mu m n H (allE (putE es f.1 f.2.1 f.2.2) fs) (dkAll (dkPut kvs p.1 p.2) ps)
    rw [← h2]
    exact DRel.all h5 (r.put h1 h3 h4)
  | [], _ :: _, _, _, h, _ => h.elim
  | _ :: _, [], _, _, h, _ => h.elim
variable {X : Cx} {pins : List (Addr × Obj)} {σ : SL} {s : Shared}
/-- the pairs of a list, as they stand -/
theorem pairs_at (hK : X.K = F.K) (I : Inv X pins σ H s) : ∀ {ds : List D} {ps : List (D × D)} {vs : List V} {us : List Value}, pairsD ds = some ps → Reps F Mu m n H vs ds → Vals vs us →
    ∃ (ts : List Addr) (es : List Ent) (xs : List (NestedKey × Addr × Value)), us = ts.map Value.ref ∧ ts.length = xs.length ∧ EntR es xs ∧ DRel F Mu m n H es ps ∧ (∀ x ∈ xs, (nestedKind X.prog X.w).is s.heap x.1 x.2.1) ∧ ∀ j x, xs[j]? = some x → s.heap.IsTuple (ts.getD j 0) #[.ref x.2.1, x.2.2]
  | [], ps, vs, us, h, r, e => by
    cases h
    cases vs with
    | cons _ _ => exact r.elim
    | nil =>
      cases e
      exact ⟨[], [], [], rfl, rfl, .nil, trivial, fun x hx => (nomatch hx), fun j x hx => by simp at hx⟩
  | d :: ds, ps, vs, us, h, r, e => by
    cases vs with
    | nil => exact r.elim
    | cons v vs =>
      cases e with
      | @cons _ u _ us' ru re =>
        match d, h with
        | .tup [k, y], h =>
          have h : (if keyOk k then (pairsD ds).map (fun r => (k, y) :: r) else none) = some ps := h
          by_cases hk : keyOk k = true
          · rw [if_pos hk] at h
            cases hp : pairsD ds with
            | none => rw [hp] at h; cases h
            | some qs =>
              rw [hp] at h
              cases h
              obtain ⟨ts, es, xs, e1, e2, e3, e4, e5, e6⟩ := pairs_at hK I hp r.2 re
              obtain ⟨T, ws, rfl, hq, hr⟩ := r.1
              cases ru
              match ws, hr with
              | [kv, yv], hr =>
                obtain ⟨its, rv, p, hz⟩ := I.tuple (by rw [hK]; exact hq)
                cases rv with
                | @cons _ ku _ rest rk rr =>
                  cases rr with
                  | @cons _ yu _ rest' ry rn =>
                    cases rn
                    obtain ⟨b, rfl, rfl, kk⟩ := keyAt hK I hr.1 hk rk
                    refine ⟨T :: ts, (nk k, b, yv) :: es, (nk k, b, yu) :: xs, by rw [e1]; rfl, by simp [e2], .cons ⟨rfl, rfl, ry⟩ e3, ⟨⟨hk, rfl, hr.1, hr.2.1⟩, e4⟩, fun x hx => ?_, fun j x hx => ?_⟩
                    · rcases List.mem_cons.mp hx with rfl | hx
                      · exact kk
                      · exact e5 x hx
                    · cases j with
                      | zero =>
                        simp at hx
                        subst hx
                        exact p
                      | succ j =>
                        simp at hx
                        simpa using e6 j x hx
          · rw [if_neg hk] at h; cases h
        | .tup [], h => cases h
        | .tup [_], h => cases h
        | .tup (_ :: _ :: _ :: _), h => cases h
        | .non, h => cases h
        | .bl _, h => cases h
        | .int _, h => cases h
        | .str _, h => cases h
        | .lst _, h => cases h
        | .dct _ _, h => cases h
        | .ref _, h => cases h
        | .gl _, h => cases h
        | .ty _, h => cases h
        | .exc _ _, h => cases h
        | .scr _, h => cases h
theorem call_dof (hK : X.K = F.K) (hu : X.A.units + 64 < cLine) (hc : X.calm = true) : CallR X (.type "dict") (fun xs H Q => ∃ (a : Addr) (vs : List V) (ds : List D) (ps : List (D × D)) (Mu : Addr → Prop) (m : Nat → Addr) (n : Nat), xs = [.ref a] ∧ Rd H a (.lst vs) ∧ Reps F Mu m n H vs ds ∧ pairsD ds = some ps ∧
    ∀ p es, H p = none → DRel F Mu m n H es (dkAll [] ps) → Q (.ref p) (upd H p (dO X.prog X.w p es))) := by
  intro pins s σ H xs us Q I r q
  obtain ⟨a, vs, ds, ps, Mu, m, n, rfl, hq, hr, hp, q⟩ := q
  obtain ⟨u, rfl, rx⟩ := r.one
  cases rx
  obtain ⟨hz, its, c, rv, ea⟩ := hq.ok I.hok
  obtain ⟨ts, es, ys, e1, e2, e3, e4, e5, e6⟩ := pairs_at hK I hp hr rv
  subst e1
  have hl : ys.length ≤ sizeLine := by
    have := rv.length
    rw [List.length_map] at this
    omega
  have hget : ∀ {j : Nat} {k v : Value}, (ys.map fun x => (Value.ref x.2.1, x.2.2))[j]? = some (k, v) → ∃ x, ys[j]? = some x ∧ k = .ref x.2.1 ∧ v = x.2.2 := fun {j k v} h => by
    rw [List.getElem?_map] at h
    cases hx : ys[j]? with
    | none => rw [hx] at h; cases h
    | some x => rw [hx] at h; cases h; exact ⟨x, rfl, rfl, rfl⟩
  refine call_dict_pairsH (knd := nestedKind X.prog X.w) (ps := ys) (PairArg.list a (ts.map Value.ref).toArray (fun j => ts.getD j 0) (ys.map fun x => (Value.ref x.2.1, x.2.2))) (I.ok.hd hc) (by show X.A.units + 1 + 1 + 8 < cLine; omega) ⟨⟨_, _, ea, rfl, rfl, rfl⟩, by simp [e2], fun j k v h => ?_⟩ ⟨by simp, fun i k v h => ?_⟩ (fun h' hk x hx => ?_) (by simpa using hl) fun h' tk hd' hk => ?_
  · obtain ⟨x, hx, rfl, rfl⟩ := hget h
    refine ⟨?_, .inl (e6 j x hx)⟩
    have hj : j < ts.length := by
      rw [e2]
      by_cases hj : j < ys.length
      · exact hj
      · rw [List.getElem?_eq_none (by omega)] at hx; cases hx
    simp [hj]
  · obtain ⟨x, hx, rfl, rfl⟩ := hget h
    exact ⟨x.1, x.2.1, hx, rfl⟩
  · exact nestedKind_stays.stays (fun b o _ _ e _ => hk b o (Nat.ne_of_lt (Heap.lt_size e)) (fun z => nomatch z) e) (e5 x hx)
  · have hm : (s.heap.objs.size == sysModules) = false := beq_eq_false_iff_ne.mpr (Nat.ne_of_gt I.big)
    obtain ⟨o, ar, ep, h1, h2, h3, h4, _, h5⟩ := hd'
    have hlen : (allE [] es).length ≤ sizeLine := by
      have := allE_len es []
      rw [e3.length] at this
      simp at this
      omega
    exact ⟨.ref s.heap.objs.size, _, I.laid (t' := tk) (o := dO X.prog X.w s.heap.objs.size (allE [] es)) (fun b o e => hk b o (fun z => nomatch z) e) (Nat.le_refl _) (dO_ok ⟨hlen, hm, _, EntR.all e3 .nil, o, ar, ep, h1, h2, h3, h4, h5⟩), rfl, q _ _ I.fresh (DRel.all e4 trivial)⟩
end

/-! ### cells that hold dicts -/
section
variable {F : Fx} {Uo : Addr → Prop} {env : Env} {σ : SL} {m : Nat → Addr} {n : Nat} {H : Hp} {st : Sto}
/-- a new cell takes a new dict -/
theorem sim_newD {p : Addr} {es : List Ent} {kvs : List (D × D)} (S : Sim F Uo m env σ st H) (hp : H p = none) (r : DRel F (MuOf Uo env σ m st.length) m st.length H es kvs) :
    ∃ m2, m2 st.length = p ∧ Sim F Uo m2 env σ (st ++ [.dct kvs]) (upd H p (dO F.P F.w p es)) ∧ Step noCh env σ m st.length H env σ m2 (st ++ [Ob.dct kvs]).length (upd H p (dO F.P F.w p es)) := by
  generalize hm : (fun l => if l = st.length then p else m l) = m2
  have e1 : ∀ l, l < st.length → m2 l = m l := fun l hl => by rw [← hm]; exact if_neg (Nat.ne_of_lt hl)
  have e2 : m2 st.length = p := by rw [← hm]; exact if_pos rfl
  have hlen : (st ++ [Ob.dct kvs]).length = st.length + 1 := by rw [List.length_append]; rfl
  have nSto : ¬ StoAt m st.length p := fun z => S.stoH z hp
  have sto : ∀ b, StoAt m2 (st.length + 1) b ↔ StoAt m st.length b ∨ b = p := fun b => by
    constructor
    · rintro ⟨l, hl, e⟩
      by_cases z : l = st.length
      · rw [z, e2] at e; exact .inr e.symm
      · exact .inl ⟨l, by omega, by rw [← e1 l (by omega)]; exact e⟩
    · rintro (⟨l, hl, e⟩ | rfl)
      · exact ⟨l, by omega, by rw [e1 l hl]; exact e⟩
      · exact ⟨_, Nat.lt_succ_self _, e2⟩
  have M : Mov (MuOf Uo env σ m st.length) (MuOf Uo env σ m2 (st.length + 1)) m m2 st.length (st.length + 1) H (upd H p (dO F.P F.w p es)) :=
    ⟨Nat.le_succ _, e1, fun a o e _ => upd_keep hp a o e, fun b z => by
      rcases z with z | z | z
      · exact .inl (.inl z)
      · exact .inl (.inr (.inl z))
      · rcases (sto b).mp z with z | rfl
        · exact .inl (.inr (.inr z))
        · exact .inr hp⟩
  refine ⟨m2, e2, ?_, ?_⟩
  · refine { len := S.len, inj := fun i j hi hj e => ?_, obj := fun l ys e => ?_, objD := fun l ks e => ?_, val := fun i d e => ?_, own := fun i d e => ?_, sep := S.sep, osto := fun b hb => ⟨(S.osto b hb).1, fun z => ?_⟩, usto := fun b hb z => ?_, uH := fun b z => upd_th _ (S.uH b z), tab := LamX.Tabs.ext S.tab (upd_keep hp) }
    · rw [hlen] at hi hj
      by_cases zi : i = st.length <;> by_cases zj : j = st.length
      · rw [zi, zj]
      · subst zi
        rw [e2, e1 j (by omega)] at e
        exact absurd ⟨j, by omega, e.symm⟩ nSto
      · subst zj
        rw [e2, e1 i (by omega)] at e
        exact absurd ⟨i, by omega, e⟩ nSto
      · rw [e1 i (by omega), e1 j (by omega)] at e
        exact S.inj i j (by omega) (by omega) e
    · rw [hlen]
      by_cases z : l < st.length
      · rw [List.getElem?_append_left z] at e
        obtain ⟨ws, k1, k2⟩ := S.obj l ys e
        exact ⟨ws, by rw [e1 l z]; exact upd_keep hp _ _ k1, Reps.mov M k2⟩
      · rw [List.getElem?_append_right (by omega)] at e
        by_cases z3 : l - st.length = 0
        · rw [z3] at e; cases e
        · rw [List.getElem?_eq_none (by simp; omega)] at e; cases e
    · rw [hlen]
      by_cases z : l < st.length
      · rw [List.getElem?_append_left z] at e
        obtain ⟨ws, k1, k2⟩ := S.objD l ks e
        exact ⟨ws, by rw [e1 l z]; exact upd_keep hp _ _ k1, DRel.mov M k2⟩
      · rw [List.getElem?_append_right (by omega)] at e
        have z2 : l = st.length := by
          by_cases z3 : l - st.length = 0
          · omega
          · rw [List.getElem?_eq_none (by simp; omega)] at e; cases e
        subst z2
        simp at e
        subst e
        exact ⟨es, by rw [e2]; exact upd_same, DRel.mov M r⟩
    · obtain ⟨v, k1, k2⟩ := S.val i d e
      rw [hlen]
      exact ⟨v, k1, Rep.mov M k2⟩
    · obtain ⟨b, ys, ws, k1, k2, k3, k4⟩ := S.own i d e
      rw [hlen]
      exact ⟨b, ys, ws, k1, k2, upd_keep hp _ _ k3, Reps.mov M k4⟩
    · rw [hlen] at z
      rcases (sto b).mp z with z | rfl
      · exact (S.osto b hb).2 z
      · exact S.ownH hb hp
    · rw [hlen] at hb
      rcases (sto b).mp hb with h | rfl
      · exact S.usto b h z
      · exact S.uH b z hp
  · rw [hlen]
    exact ⟨Nat.le_succ _, e1, fun l h1 h2 => by
      have : l = st.length := by omega
      subst this
      rw [e2]; exact hp, fun a o e _ _ => upd_keep hp a o e, fun _ e => upd_th _ e, fun _ e => .inl e⟩
/-- .. a dict of the store is changed -/
theorem step_dk {Ch : Addr → Prop} {l : Nat} {es : List Ent} {u : HO} (hl : l < n) (hH : H (m l) = some (dO F.P F.w (m l) es)) : Step Ch env σ m n H env σ m n (upd H (m l) u) := by
  refine ⟨Nat.le_refl _, fun _ _ => rfl, fun l h1 h2 => absurd (Nat.lt_of_le_of_lt h1 h2) (Nat.lt_irrefl _), fun b o e ht k => ?_, fun b e => upd_th _ e, fun b hb => .inl hb⟩
  have ne : b ≠ m l := fun z => by
    subst z
    rw [hH] at e
    cases e
    rcases k with k | k
    · exact k
    · exact k.2 ⟨l, hl, rfl⟩
  rw [upd_ne ne]; exact e
theorem mov_dk {Mu : Addr → Prop} {a : Addr} {es : List Ent} {u : HO} (hH : H a = some (dO F.P F.w a es)) : Mov Mu Mu m m n n H (upd H a u) :=
  ⟨Nat.le_refl _, fun _ _ => rfl, fun b o e k => by
    have ne : b ≠ a := fun z => by
      subst z
      rw [hH] at e
      cases e
      rcases k with k | ⟨⟨_, k⟩, _⟩
      · exact k
      · cases k
    rw [upd_ne ne]; exact e, fun _ z => .inl z⟩
/-- a dict is no code's constant -/
theorem code_ne {P : Program} {w : World} {a : Addr} {es : List Ent} {y : Str} (e : (HO.ext fun h : Heap => ∃ oc vs t, h.get? a = some oc ∧ oc.data = .fields vs ∧ vs[1]? = some (.str y t)) = dO P w a es) : False := by
  have e := HO.ext.inj e
  generalize ho : ({ cls := .none, data := .fields #[.none, .str y 0] } : Obj) = o
  have hg : ({ objs := Array.replicate (a + 1) o } : Heap).get? a = some o := by
    unfold Heap.get?
    rw [Array.getElem?_replicate, if_pos (Nat.lt_succ_self _), ← ho]
  have h1 : (fun h : Heap => ∃ oc vs t, h.get? a = some oc ∧ oc.data = .fields vs ∧ vs[1]? = some (Value.str y t)) ({ objs := Array.replicate (a + 1) o } : Heap) := ⟨o, _, 0, hg, by rw [← ho], rfl⟩
  rw [e] at h1
  obtain ⟨_, _, _, _, o', ar, ep, g1, _, g3, _⟩ := h1
  rw [hg] at g1
  cases g1
  rw [← ho] at g3
  cases g3
theorem tabs_dk {T : List (Addr × Str)} {a : Addr} {es : List Ent} {u : HO} (t : LamX.Tabs T H) (hH : H a = some (dO F.P F.w a es)) : LamX.Tabs T (upd H a u) := fun p hp => by
  obtain ⟨ps, h1, h2, h3⟩ := t p hp
  refine ⟨ps, ?_, h2, fun pos cv hc => ?_⟩
  · rw [upd_ne (fun z => by rw [z, hH] at h1; cases h1)]; exact h1
  · obtain ⟨c, e1, e2⟩ := h3 pos cv hc
    exact ⟨c, e1, by rw [upd_ne (fun z => by subst z; rw [hH] at e2; exact code_ne (Option.some.inj e2).symm)]; exact e2⟩
theorem sim_dk {l : Nat} {es fs : List Ent} {kvs : List (D × D)} (S : Sim F Uo m env σ st H) (hl : l < st.length) (hH : H (m l) = some (dO F.P F.w (m l) es)) (hr : DRel F (MuOf Uo env σ m st.length) m st.length H fs kvs) :
    Sim F Uo m env σ (st.set l (.dct kvs)) (upd H (m l) (dO F.P F.w (m l) fs)) := by
  have hs : StoAt m st.length (m l) := ⟨l, hl, rfl⟩
  have M : Mov (MuOf Uo env σ m st.length) (MuOf Uo env σ m st.length) m m st.length st.length H (upd H (m l) (dO F.P F.w (m l) fs)) := mov_dk hH
  have el : (st.set l (Ob.dct kvs)).length = st.length := List.length_set
  have lt : ∀ {k : Nat} {o : Ob}, st[k]? = some o → k < st.length := fun {k o} y => by
    by_cases hk : k < st.length
    · exact hk
    · rw [List.getElem?_eq_none (by omega)] at y; cases y
  exact {
    len := S.len
    inj := fun i j hi hj => S.inj i j (by rw [← el]; exact hi) (by rw [← el]; exact hj)
    obj := fun k zs e => by
      rw [el]
      rcases set_get e with ⟨rfl, y⟩ | ⟨hne, y⟩
      · cases y
      · obtain ⟨vs, h1, h2⟩ := S.obj k zs y
        exact ⟨vs, by rw [upd_ne (fun z => hne (S.inj k l (lt y) hl z))]; exact h1, Reps.mov M h2⟩
    objD := fun k zs e => by
      rw [el]
      rcases set_get e with ⟨rfl, y⟩ | ⟨hne, y⟩
      · cases y; exact ⟨fs, upd_same, DRel.mov M hr⟩
      · obtain ⟨gs, h1, h2⟩ := S.objD k zs y
        exact ⟨gs, by rw [upd_ne (fun z => hne (S.inj k l (lt y) hl z))]; exact h1, DRel.mov M h2⟩
    val := fun j d e => by rw [el]; obtain ⟨v, h1, h2⟩ := S.val j d e; exact ⟨v, h1, Rep.mov M h2⟩
    own := fun j d e => by
      rw [el]
      obtain ⟨b, zs, vs, h1, h2, h3, h4⟩ := S.own j d e
      exact ⟨b, zs, vs, h1, h2, by rw [upd_ne (fun z => (S.osto b ⟨j, d, e, h2⟩).2 (by rw [z]; exact hs))]; exact h3, Reps.mov M h4⟩
    sep := S.sep
    osto := fun b hb => by rw [el]; exact S.osto b hb
    usto := fun b hb => S.usto b (by rw [← el]; exact hb)
    uH := fun b z => upd_th _ (S.uH b z)
    tab := tabs_dk S.tab hH }
theorem isDk_at {i : Nat} (S : Sim F Uo m env σ st H) (h : isDk st (getS env i) = true) : ∃ l kvs es, l < st.length ∧ getS env i = some (.ref l, false) ∧ st[l]? = some (.dct kvs) ∧ σ[i]? = some (some (V.ref (m l))) ∧ H (m l) = some (dO F.P F.w (m l) es) ∧ DRel F (MuOf Uo env σ m st.length) m st.length H es kvs := by
  cases e : getS env i with
  | none => rw [e] at h; cases h
  | some p =>
    rw [e] at h
    have e' := getS_some e
    obtain ⟨d, o⟩ := p
    cases o with
    | true => cases d <;> cases h
    | false =>
      cases d with
      | ref l =>
        have h : (match st[l]? with | some (.dct _) => true | _ => false) = true := h
        cases q : st[l]? with
        | none => rw [q] at h; cases h
        | some ob =>
          rw [q] at h
          cases ob with
          | lst _ => cases h
          | dct kvs =>
            obtain ⟨es, h1, h2⟩ := S.objD l kvs q
            obtain ⟨v, h3, h4, rfl⟩ := S.val i _ e'
            exact ⟨l, kvs, es, h4, rfl, q, h3, h1, h2⟩
      | _ => cases h
end

/-! ### readings -/
theorem dO_isD {X : Cx} {pins : List (Addr × Obj)} {σ : SL} {H : Hp} {s : Shared} {a : Addr} {es : List Ent} (I : Inv X pins σ H s) (e : H a = some (dO X.prog X.w a es)) :
    s.TypeIs (.ref a) "dict" ∧ ∀ b, Value.ref a = .ref b → ∃ ob, s.heap.get? b = some ob ∧ ob.dict = none := by
  obtain ⟨z, lo, xs, er, o, ar, ep, h1, h2, h3, h4, h6⟩ := dO_of (I.hok a _ e)
  exact ⟨⟨o, h1, h2.1⟩, fun b q => by cases q; exact ⟨o, h1, h2.2.1⟩⟩
section
variable {X : Cx} {o e f : Expr} {apos cpos : Pos} {td ty tx : TE}
def tDPopX (P : Program) (w : World) (F : Fx) (td ty : TE) : TE := fun σ H Q => td σ H fun x H1 => ∃ a es, x = .ref a ∧ H1 a = some (dO P w a es) ∧ ty σ H1 fun y H2 => ∃ es kvs k d Mu m n, H2 a = some (dO P w a es) ∧ DRel F Mu m n H2 es kvs ∧ keyOk k = true ∧ Rep F Mu m n H2 y k ∧ dkAt kvs k = some d ∧
  ∀ z, Rep F Mu m n H2 z d → Q z (upd H2 a (dO P w a (delE es (nk k))))
theorem pe_dpopX {F : Fx} (hK : X.K = F.K) (hu : X.A.units + 64 < cLine) (ho : PE X o td) (he : PE X e ty) (m : M1 X o "pop" apos e cpos) : PE X (.Call (.Attribute o "pop" apos) [e] [] cpos) (tDPopX X.prog X.w F td ty) := by
  refine ⟨fun pins s σ H Q I h => ?_⟩
  refine wpAny_Call_method m.base m.few m.line PySem.F.plainAttrs_dict PySem.F.slot_dict_pop PySem.F.type_dict_pop (thn (ho.run pins s σ H _ I h) fun u s1 ⟨x, H1, I1, rx, a, es0, ex, d, q1⟩ => ?_)
  subst ex
  obtain rfl : u = Value.ref a := rx
  obtain ⟨t1, t2⟩ := dO_isD I1 d
  refine ⟨t1, t2, ?_⟩
  rw [m.trees]
  refine Calls.callWith_builtin rfl (Calls.evalArgs_plain (Calls.spliced_cons (thn (he.run pins s1 σ H1 _ I1 q1) fun iv s2 ⟨y, H2, I2, ry, es, kvs, k, v, Mu, mm, n, ea, r, hk, rk, l, q2⟩ => Calls.spliced_nil ?_)))
  exact dk_pop hK hu I2 ea r hk rk ry l fun z z' s3 I3 rz rz' => ⟨z, _, I3, rz', q2 z rz⟩
def tDGetX (P : Program) (w : World) (F : Fx) (td ty tx : TE) : TE := fun σ H Q => td σ H fun x H1 => ∃ a es, x = .ref a ∧ H1 a = some (dO P w a es) ∧ ty σ H1 fun y H2 => tx σ H2 fun z H3 => ∃ es kvs k d Mu m n, H3 a = some (dO P w a es) ∧ DRel F Mu m n H3 es kvs ∧ keyOk k = true ∧ Rep F Mu m n H3 y k ∧ Rep F Mu m n H3 z d ∧
  ∀ z, Rep F Mu m n H3 z ((dkAt kvs k).getD d) → Q z H3
theorem pe_dgetX {F : Fx} (hK : X.K = F.K) (hu : X.A.units + 64 < cLine) (ho : PE X o td) (he : PE X e ty) (hf : PE X f tx) (m : M2 X o "get" apos e f cpos) : PE X (.Call (.Attribute o "get" apos) [e, f] [] cpos) (tDGetX X.prog X.w F td ty tx) := by
  refine ⟨fun pins s σ H Q I h => ?_⟩
  refine wpAny_Call_method m.base m.few m.line PySem.F.plainAttrs_dict PySem.F.slot_dict_get PySem.F.type_dict_get (thn (ho.run pins s σ H _ I h) fun u s1 ⟨x, H1, I1, rx, a, es0, ex, d, q1⟩ => ?_)
  subst ex
  obtain rfl : u = Value.ref a := rx
  obtain ⟨t1, t2⟩ := dO_isD I1 d
  refine ⟨t1, t2, ?_⟩
  rw [m.trees]
  refine Calls.callWith_builtin rfl (Calls.evalArgs_plain (Calls.spliced_cons (thn (he.run pins s1 σ H1 _ I1 q1) fun iv s2 ⟨y, H2, I2, ry, q2⟩ =>
    Calls.spliced_cons (thn (hf.run pins s2 σ H2 _ I2 q2) fun fv s3 ⟨z, H3, I3, rz, es, kvs, k, v, Mu, mm, n, ea, r, hk, rk, rv, q3⟩ => Calls.spliced_nil ?_))))
  exact dk_getD hK hu I3 ea r hk rk ry rv rz fun z z' s4 I4 r1 r2 => ⟨z, H3, I4, r2, q3 z r1⟩
end
section
variable {X : Cx} {F : Fx} {G : Gl} {call : Nat → List D → Sto → RC} {W : WX} {bw : Bool} {pos : Pos}
theorem pe_dnwX {P : Program} {w : World} (hP : X.prog = P ∧ X.w = w) : PE X (.Dict [] [] pos) (fun _ H Q => ∀ p, H p = none → Q (.ref p) (upd H p (dO P w p []))) := by
  obtain ⟨rfl, rfl⟩ := hP
  exact ⟨fun pins s σ H Q I h => wpAny_Dict_empty ⟨.ref s.heap.objs.size, _, I.laid (a := s.heap.objs.size) (o := dO X.prog X.w s.heap.objs.size []) (t' := s.toks) (fun _ _ q => Heap.get?_push_of_some _ q) (Nat.le_refl _)
    (dO_ok ⟨Nat.zero_le _, beq_eq_false_iff_ne.mpr (Ne.symm (Nat.ne_of_lt I.big)), [], .nil, _, #[], 0, Heap.get?_push_size _ rfl, ⟨rfl, rfl, rfl⟩, rfl, rfl, List.nodup_nil⟩), rfl, h _ (I.hok.fresh (Nat.le_refl _))⟩⟩
theorem cellE {Uo : Addr → Prop} {m : Nat → Addr} {env : Env} {σ : SL} {st : Sto} {H : Hp} {p : Addr} {es : List Ent} {kvs : List (D × D)} {Q : VK} (S : Sim F Uo m env σ st H) (hp : H p = none) (r : DRel F (MuOf Uo env σ m st.length) m st.length H es kvs)
    (q : PostE F Uo env σ m st.length H W bw Q (.ok (.ref st.length, false) env (st ++ [.dct kvs]))) : Q (.ref p) (upd H p (dO F.P F.w p es)) := by
  obtain ⟨m2, e2, S2, p2⟩ := sim_newD S hp r
  refine (closedE.step _ _ _ _ _ _ _ _ _ p2 q).here S2 ⟨by rw [List.length_append]; exact Nat.lt_succ_self _, by rw [e2]⟩
theorem rd_dnw (hP : X.prog = F.P ∧ X.w = F.w) : PE X (.Dict [] [] pos) (RdE F G call W bw .dnw) := (pe_dnwX hP).imp fun σ H Q ⟨Uo, m, env, st, S, q⟩ => by
  rw [ev] at q
  exact fun p hp => cellE S hp (es := []) (kvs := []) trivial q
theorem rd_dof {a : C} {ea : Expr} {p : Pos} (hK : X.K = F.K) (hP : X.prog = F.P ∧ X.w = F.w) (hu : X.A.units + 64 < cLine) (hc : X.calm = true) (hg : L2.Gl X "dict") (hm : X.mg "dict" = none) (hs : noStar ea = true) (ha : PE X ea (RdE F G call W true a)) :
    PE X (.Call (.Name "dict" p) [ea] [] pos) (RdE F G call W bw (.dof a)) :=
  (pe_callTy (call_dof (F := F) hK hu hc) hg hm (by decide +kernel) (pa_cons ha pa_nil (star_cons hs _)) (by decide) (by decide) (star_cons hs _) rfl).imp fun σ H Q ⟨Uo, m, env, st, S, q⟩ => by
    rw [ev] at q
    refine ⟨Uo, m, env, st, S, bindE closedE q fun v d o m1 env1 st1 H1 p1 S1 r1 q1 => ?_⟩
    have rb := r1.toB S1
    cases d with
    | lst xs =>
      obtain ⟨b, vs, rfl, hq, _, hr⟩ := rb
      have q1 : PostE F Uo env1 σ m1 st1.length H1 W bw Q (match pairsD xs with
        | some ps => if szOk ps.length then .ok (.ref st1.length, false) env1 (st1 ++ [.dct (dkAll [] ps)]) else .no
        | none => .no) := q1
      cases hp : pairsD xs with
      | none => rw [hp] at q1; exact q1.elim
      | some ps =>
        rw [hp] at q1
        dsimp only at q1
        by_cases hz : szOk ps.length = true
        · rw [if_pos hz] at q1
          refine ⟨b, vs, xs, ps, _, _, _, rfl, hq, hr, hp, fun p es hp0 r => ?_⟩
          rw [hP.1, hP.2]
          exact cellE S1.base hp0 r q1
        · rw [if_neg hz] at q1; exact q1.elim
    | _ => exact q1.elim
def rSetDk (P : Program) (w : World) (F : Fx) : TSet := fun o i v H Q => ∃ a es kvs k Mu m n, o = V.ref a ∧ H a = some (dO P w a es) ∧ DRel F Mu m n H es kvs ∧ keyOk k = true ∧ Rep F Mu m n H i k ∧ es.length < sizeLine ∧ ∀ b, i = .ref b → Q (upd H a (dO P w a (putE es (nk k) b v)))
theorem set_dk (hK : X.K = F.K) (hu : X.A.units + 64 < cLine) : PSet X (rSetDk X.prog X.w F) := by
  intro pins s σ H o i v ov iv u Q I ro ri rv h
  obtain ⟨a, es, kvs, k, Mu, m, n, rfl, e, r, hk, rk, hz, q⟩ := h
  cases ro
  exact dk_set hK hu I e r hk rk ri rv hz fun b s' hb I' => ⟨_, I', q b hb⟩
def rNeD (P : Program) (w : World) : R2 := fun x y H Q => ∃ a b es, x = V.ref a ∧ y = V.ref b ∧ H a = some (dO P w a es) ∧ H b = some (dO P w b []) ∧ Q (.bl (!es.isEmpty)) H
theorem op_neD (hK : X.K = F.K) (hu : X.A.units + 64 < cLine) : OpR X (compareOp .NotEq) (rNeD X.prog X.w) := by
  intro pins s σ H x y v u Q I rx ry h
  obtain ⟨a, b, es, rfl, rfl, h1, h2, q⟩ := h
  cases rx
  cases ry
  exact ne_dict hK hu I h1 h2 ⟨.bl _, H, I, rfl, q⟩
theorem dne_dat {a : C} {σ : SL} {H : Hp} {Q : VK} (h : RdE F G call W bw (.dne a) σ H Q) : tOp (rNeD F.P F.w) (RdE F G call W true a) (fun _ H Q => ∀ p, H p = none → Q (.ref p) (upd H p (dO F.P F.w p []))) σ H Q := by
  obtain ⟨Uo, m, env, st, S, q⟩ := h
  rw [ev] at q
  refine ⟨Uo, m, env, st, S, bindE closedE q fun v d o m1 env1 st1 H1 p1 S1 r1 q1 => fun p hp => ?_⟩
  have rb := r1.toB S1
  cases d with
  | ref l =>
    obtain ⟨hl, rfl⟩ := rb
    have q1 : PostE F Uo env1 σ m1 st1.length H1 W bw Q (match st1[l]? with
      | some (.dct kvs) => .ok (.bl (!kvs.isEmpty), false) env1 st1
      | _ => .no) := q1
    cases e : st1[l]? with
    | none => rw [e] at q1; exact q1.elim
    | some ob =>
      rw [e] at q1
      cases ob with
      | lst _ => exact q1.elim
      | dct kvs =>
        obtain ⟨es, h1, h2⟩ := S1.base.objD l kvs e
        refine ⟨_, _, es, rfl, rfl, upd_keep hp _ _ h1, upd_same, ?_⟩
        have ee : es.isEmpty = kvs.isEmpty := by
          have := h2.length
          cases es <;> cases kvs <;> first | rfl | cases this
        rw [ee]
        exact (closedE.step _ _ _ _ _ _ _ _ _ (Step.fresh hp) q1).here (S1.base.fresh hp) rfl
  | _ => exact q1.elim
theorem rd_dne {a : C} {ea : Expr} {p2 : Pos} (hK : X.K = F.K) (hP : X.prog = F.P ∧ X.w = F.w) (hu : X.A.units + 64 < cLine) (ha : PE X ea (RdE F G call W true a)) : PE X (.Compare ea [.NotEq] [.Dict [] [] p2] pos) (RdE F G call W bw (.dne a)) := by
  have k := op_neD (F := F) hK hu
  rw [hP.1, hP.2] at k
  exact (pe_cmpR k ha (pe_dnwX hP) rfl).imp fun σ H Q h => dne_dat h
theorem rt_dne {a : C} {ea : Expr} {p2 : Pos} (hK : X.K = F.K) (hP : X.prog = F.P ∧ X.w = F.w) (hu : X.A.units + 64 < cLine) (ha : PE X ea (RdE F G call W true a)) : PT X (.Compare ea [.NotEq] [.Dict [] [] p2] pos) (RdT F G call W (.dne a)) := by
  have k := op_neD (F := F) hK hu
  rw [hP.1, hP.2] at k
  exact (pt_cmpR k ha (pe_dnwX hP) rfl).imp fun σ H Q h => dne_dat (truth_val h)
theorem rd_dpp {i : Nat} {k : C} {x : Str} {px ap : Pos} {e : Expr} (hK : X.K = F.K) (hP : X.prog = F.P ∧ X.w = F.w) (hu : X.A.units + 64 < cLine) (hN : X.N[i]? = some x) (hv : Vis X.env.scope x) (hd : (x == ("__debug__" : Str)) = false) (hcd : (x == ("__classdict__" : Str)) = false) (hs : noStar e = true) (hl : (ap.endLine == pos.line) = true)
    (he : PE X e (RdE F G call W true k)) : PE X (.Call (.Attribute (.Name x px) "pop" ap) [e] [] pos) (RdE F G call W bw (.dpp i k)) := by
  refine (pe_dpopX (F := F) hK hu (pe_var hN hv hd hcd) he ⟨rfl, by rw [star_cons hs]; rfl, hl, by rw [star_cons hs]; rfl⟩).imp fun σ H Q ⟨Uo, m, env, st, S, q⟩ => ?_
  rw [ev] at q
  by_cases hD : isDk st (getS env i) = true
  · rw [if_pos hD] at q
    obtain ⟨l0, kvs0, es0, _, _, _, hσ, hH, _⟩ := isDk_at S hD
    refine ⟨V.ref (m l0), hσ, m l0, es0, rfl, by rw [hP.1, hP.2]; exact hH, Uo, m, env, st, S, bindE closedE q fun v d o m1 env1 st1 H1 p1 S1 r1 q1 => ?_⟩
    have rb := r1.toB S1
    have S1 := S1.base
    dsimp only at q1
    cases e1 : getS env1 i with
    | none => rw [e1] at q1; exact q1.elim
    | some p =>
      rw [e1] at q1
      have e1 := getS_some e1
      obtain ⟨dd, oo⟩ := p
      cases dd with
      | ref l =>
        have q1 : PostE F Uo env1 σ m1 st1.length H1 W bw Q (match st1[l]? with
          | some (.dct kvs) => if keyOk d then match dkAt kvs d with
              | some v => .ok (v, false) env1 (st1.set l (.dct (dkDel kvs d)))
              | none => .no
            else .no
          | _ => .no) := by cases oo <;> exact q1
        cases e2 : st1[l]? with
        | none => rw [e2] at q1; exact q1.elim
        | some ob =>
          rw [e2] at q1
          cases ob with
          | lst _ => exact q1.elim
          | dct kvs =>
            dsimp only at q1
            by_cases hk : keyOk d = true
            · rw [if_pos hk] at q1
              cases hd : dkAt kvs d with
              | none => rw [hd] at q1; exact q1.elim
              | some y =>
                rw [hd] at q1
                obtain ⟨es, k1, k2⟩ := S1.objD l kvs e2
                have hσ2 : σ[i]? = some (some (V.ref (m1 l))) ∧ l < st1.length := by
                  cases oo with
                  | true => obtain ⟨_, _, _, z, _⟩ := S1.own i _ e1; cases z
                  | false => obtain ⟨v, h2, h3, rfl⟩ := S1.val i _ e1; exact ⟨h2, h3⟩
                have em : m1 l = m l0 := by
                  have := hσ2.1
                  rw [hσ] at this
                  injection this with this; injection this with this; injection this with this
                  exact this.symm
                have rk : Rep F (MuOf Uo env1 σ m1 st1.length) m1 st1.length H1 v d := by
                  cases d with
                  | tup _ => exact rb
                  | _ => exact absurd hk Bool.false_ne_true
                rw [← em, hP.1, hP.2]
                refine ⟨es, kvs, d, y, _, m1, st1.length, k1, k2, hk, rk, hd, fun z rz => ?_⟩
                have S2 := sim_dk S1 hσ2.2 k1 (k2.del hk)
                have p2 : Step noCh env1 σ m1 st1.length H1 env1 σ m1 (st1.set l (Ob.dct (dkDel kvs d))).length (upd H1 (m1 l) (dO F.P F.w (m1 l) (delE es (nk d)))) := by
                  rw [List.length_set]; exact step_dk hσ2.2 k1
                exact (closedE.step _ _ _ _ _ _ _ _ _ p2 q1).here S2 (by rw [List.length_set]; exact Rep.mov (mov_dk k1) rz)
            · rw [if_neg hk] at q1; exact q1.elim
      | _ => cases oo <;> exact q1.elim
  · rw [if_neg hD] at q; exact q.elim
theorem rd_dgt {i : Nat} {k c : C} {x : Str} {px ap : Pos} {e f : Expr} (hK : X.K = F.K) (hP : X.prog = F.P ∧ X.w = F.w) (hu : X.A.units + 64 < cLine) (hN : X.N[i]? = some x) (hv : Vis X.env.scope x) (hd : (x == ("__debug__" : Str)) = false) (hcd : (x == ("__classdict__" : Str)) = false) (hs : noStar e = true) (hs2 : noStar f = true) (hl : (ap.endLine == pos.line) = true)
    (he : PE X e (RdE F G call W true k)) (hf : PE X f (RdE F G call W false c)) : PE X (.Call (.Attribute (.Name x px) "get" ap) [e, f] [] pos) (RdE F G call W bw (.dgt i k c)) := by
  refine (pe_dgetX (F := F) hK hu (pe_var hN hv hd hcd) he hf ⟨rfl, by rw [star_cons hs, star_cons hs2]; rfl, hl, by rw [star_cons hs, star_cons hs2]; rfl⟩).imp fun σ H Q ⟨Uo, m, env, st, S, q⟩ => ?_
  rw [ev] at q
  by_cases hD : isDk st (getS env i) = true
  · rw [if_pos hD] at q
    obtain ⟨l0, kvs0, es0, _, _, _, hσ, hH, _⟩ := isDk_at S hD
    refine ⟨V.ref (m l0), hσ, m l0, es0, rfl, by rw [hP.1, hP.2]; exact hH, Uo, m, env, st, S, bindE closedE q fun v d o m1 env1 st1 H1 p1 S1 r1 q1 => ?_⟩
    have rb := r1.toB S1
    have S1 := S1.base
    refine ⟨Uo, m1, env1, st1, S1, bindE closedE q1 fun w2 d2 o2 m2 env2 st2 H2 p2 S2 r2 q2 => ?_⟩
    have r2 := r2.toRep S1.uH S2
    have rb := RepB.movE S1 p2 rb
    replace S2 := S2.base
    dsimp only at q2
    cases e1 : getS env2 i with
    | none => rw [e1] at q2; exact q2.elim
    | some p =>
      rw [e1] at q2
      have e1 := getS_some e1
      obtain ⟨dd, oo⟩ := p
      cases dd with
      | ref l =>
        have q2 : PostE F Uo env2 σ m2 st2.length H2 W bw Q (match st2[l]? with
          | some (.dct kvs) => if keyOk d then .ok ((dkAt kvs d).getD d2, false) env2 st2 else .no
          | _ => .no) := by cases oo <;> exact q2
        cases e2 : st2[l]? with
        | none => rw [e2] at q2; exact q2.elim
        | some ob =>
          rw [e2] at q2
          cases ob with
          | lst _ => exact q2.elim
          | dct kvs =>
            dsimp only at q2
            by_cases hk : keyOk d = true
            · rw [if_pos hk] at q2
              obtain ⟨es, k1, k2⟩ := S2.objD l kvs e2
              have hσ2 : σ[i]? = some (some (V.ref (m2 l))) := by
                cases oo with
                | true => obtain ⟨_, _, _, z, _⟩ := S2.own i _ e1; cases z
                | false => obtain ⟨v, h2, h3, rfl⟩ := S2.val i _ e1; exact h2
              have em : m2 l = m l0 := by
                have := hσ2
                rw [hσ] at this
                injection this with this; injection this with this; injection this with this
                exact this.symm
              have rk : Rep F (MuOf Uo env2 σ m2 st2.length) m2 st2.length H2 v d := by
                cases d with
                | tup _ => exact rb
                | _ => exact absurd hk Bool.false_ne_true
              rw [← em, hP.1, hP.2]
              exact ⟨es, kvs, d, d2, _, m2, st2.length, k1, k2, hk, rk, r2, fun z rz => q2.here S2 rz⟩
            · rw [if_neg hk] at q2; exact q2.elim
      | _ => cases oo <;> exact q2.elim
  · rw [if_neg hD] at q; exact q.elim
end
end Pi

set_option maxRecDepth 100000
set_option maxHeartbeats 1000000
/-! PiQ: readings of statements. -/
namespace Pi
open PySem PySem.Spec L2

/-! ### syntax -/
def noComp : Expr → Bool
  | .ListComp .. | .SetComp .. | .DictComp .. => false
  | _ => true
theorem no_swap {e : Expr} (h : noComp e = true) (t : Option Expr) (l : Nat) (env : PySem.Env) : swapsWith e t l env = pure false := by
  cases e <;> first | rfl | exact absurd h Bool.false_ne_true
/-- a pair's or a triple's stores are not exchanged -/
def noStores (t e : Expr) : Bool := match t, e with
  | .Tuple _ _ _, .Tuple vs _ _ => vs.all (foldedForSure 8)
  | .Tuple _ _ _, _ => true
  | .Name _ _, _ => true
  | .Subscript _ _ _, _ => true
  | _, _ => false
theorem no_stores {t e : Expr} (h : noStores t e = true) (env : PySem.Env) : swappedStores [t] e env = pure none := by
  unfold noStores at h
  split at h
  · rename_i ts k1 p1 vs k2 p2
    unfold swappedStores
    dsimp only
    split
    · rfl
    · split
      · rfl
      · split
        · rfl
        · rfl
        
  · rename_i hne
    cases e <;> first | rfl | exact absurd rfl (hne _ _ _)
  · cases e <;> rfl
  · cases e <;> rfl
  · cases h
end Pi
namespace Pi
open PySem PySem.Spec L2
def funKind (sc : Scope) : Bool := match sc.kind with
  | .function => true
  | _ => false
def swap2 (sc : Scope) (x : Str) (px : Pos) (y : Str) (py : Pos) (a b : Expr) : Bool :=
  funKind sc && decide (sc.names.lookup x = some .local) && decide (sc.names.lookup y = some .local) && (py.line == px.line) && !(y == x) && noStar a && noStar b && !([a, b].all (foldedForSure 8)) && !([a, b].all (constantsAlone 8))
theorem swap2_ok {sc : Scope} {x y : Str} {px py : Pos} {a b : Expr} {kt pt k2 pt2} {env : PySem.Env} (he : env.scope = sc) (h : swap2 sc x px y py a b = true) : swappedStores [.Tuple [.Name x px, .Name y py] kt pt] (.Tuple [a, b] k2 pt2) env = pure (some [x, y]) := by
  subst he
  unfold swap2 funKind at h
  simp only [Bool.and_eq_true, decide_eq_true_eq, Bool.not_eq_true', beq_iff_eq] at h
  obtain ⟨⟨⟨⟨⟨⟨⟨⟨h1, h2⟩, h3⟩, h4⟩, h5⟩, h6⟩, h7⟩, h8⟩, h9⟩ := h
  have hk : env.scope.kind = .function := by
    revert h1
    cases env.scope.kind <;> simp
  have hb : env.blockKind = .function := by unfold Env.blockKind; rw [hk]; rfl
  have hx : env.kindOf x = some .local := h2
  have hy : env.kindOf y = some .local := h3
  have e1 : ∀ e : Expr, noStar e = true → (match e with | .Starred .. => true | _ => false) = false := fun e he => by
    cases e <;> first | rfl | exact absurd he Bool.false_ne_true
  unfold swappedStores
  simp only [hb, hx, hy, h8, h9, h4, List.filterMap_cons, List.filterMap_nil, List.length_cons, List.length_nil, List.head?_cons, Option.map_some, Option.getD_some, beq_self_eq_true, Bool.and_self, if_true, Expr.pos]
  have e2 : ([x, y] : List Str).eraseDups = [x, y] := by
    simp only [List.eraseDups_cons, List.filter_cons, h5, Bool.not_false, List.filter_nil, if_true, List.eraseDups_nil]
  simp [e2]
  rintro (z | z)
  · exact absurd (z.symm.trans (e1 a h6)) (by decide)
  · exact absurd (z.symm.trans (e1 b h7)) (by decide)
def swap3 (sc : Scope) (x : Str) (px : Pos) (y : Str) (py : Pos) (z : Str) (pz : Pos) (a b c : Expr) : Bool :=
  funKind sc && decide (sc.names.lookup x = some .local) && decide (sc.names.lookup y = some .local) && decide (sc.names.lookup z = some .local) && (py.line == px.line) && (pz.line == px.line) && !(y == x) && !(z == x) && !(z == y) && noStar a && noStar b && noStar c && !([a, b, c].all (foldedForSure 8)) && !([a, b, c].all (constantsAlone 8))
theorem swap3_ok {sc : Scope} {x y z : Str} {px py pz : Pos} {a b c : Expr} {kt pt k2 pt2} {env : PySem.Env} (he : env.scope = sc) (h : swap3 sc x px y py z pz a b c = true) : swappedStores [.Tuple [.Name x px, .Name y py, .Name z pz] kt pt] (.Tuple [a, b, c] k2 pt2) env = pure (some [x, y, z]) := by
  subst he
  unfold swap3 funKind at h
  simp only [Bool.and_eq_true, decide_eq_true_eq, Bool.not_eq_true', beq_iff_eq] at h
  obtain ⟨⟨⟨⟨⟨⟨⟨⟨⟨⟨⟨⟨⟨h1, h2⟩, h3⟩, h3'⟩, h4⟩, h4'⟩, h5⟩, h5'⟩, h5''⟩, h6⟩, h7⟩, h7'⟩, h8⟩, h9⟩ := h
  have hk : env.scope.kind = .function := by
    revert h1
    cases env.scope.kind <;> simp
  have hb : env.blockKind = .function := by unfold Env.blockKind; rw [hk]; rfl
  have hx : env.kindOf x = some .local := h2
  have hy : env.kindOf y = some .local := h3
  have hz : env.kindOf z = some .local := h3'
  have e1 : ∀ e : Expr, noStar e = true → (match e with | .Starred .. => true | _ => false) = false := fun e he => by
    cases e <;> first | rfl | exact absurd he Bool.false_ne_true
  unfold swappedStores
  simp only [hb, hx, hy, hz, h8, h9, h4, h4', List.filterMap_cons, List.filterMap_nil, List.length_cons, List.length_nil, List.head?_cons, Option.map_some, Option.getD_some, beq_self_eq_true, Bool.and_self, if_true, Expr.pos]
  have e2 : ([x, y, z] : List Str).eraseDups = [x, y, z] := by
    simp only [List.eraseDups_cons, List.filter_cons, h5, h5', h5'', Bool.not_false, List.filter_nil, if_true, List.eraseDups_nil]
  simp [e2]
  rintro (z | z | z)
  · exact absurd (z.symm.trans (e1 a h6)) (by decide)
  · exact absurd (z.symm.trans (e1 b h7)) (by decide)
  · exact absurd (z.symm.trans (e1 c h7')) (by decide)
end Pi

set_option maxRecDepth 100000
set_option maxHeartbeats 1000000
/-! PiR: readings of statements. -/
namespace Pi
open PySem PySem.Spec L2

section
variable {X : Cx} {F : Fx} {G : Gl} {call : Nat → List D → Sto → RC} {W : WX} {N : Nat} {pos : Pos}
theorem rs_nil : PSs X [] (RdB F G call W N []) := pss_nil.imp fun D σ H ⟨Uo, m, env, st, S, q⟩ => by
  rw [exB] at q
  exact q σ m H Step.refl S
theorem rs_cons {s : S} {ss : List S} {e : Stmt} {es : List Stmt} (h1 : PS X e (RdS F G call W N s)) (h2 : PSs X es (RdB F G call W N ss)) : PSs X (e :: es) (RdB F G call W N (s :: ss)) := (pss_cons h1 h2).imp fun D0 σ H ⟨Uo, m, env, st, S, q⟩ => by
  rw [exB] at q
  refine ⟨Uo, m, env, st, S, PostS.seq (D1 := { D0 with nx := RdB F G call W N ss D0 }) q ?_ ?_ ?_ ?_ rfl⟩
  · exact fun e s σ' m' H' _ k p S' => ⟨Uo, m', e, s, S', PostS.step p k⟩
  · exact fun e s σ' m' H' k p S' => k σ' m' H' p S'
  · exact fun e s σ' m' H' k p S' => k σ' m' H' p S'
  · exact fun d o e s => rfl
theorem rs_ex {c : C} {e : Expr} (hn : noComp e = true) (h : PE X e (RdE F G call W false c)) : PS X (.Expr e pos) (RdS F G call W N (.ex c)) := (ps_expr h (no_swap hn _ _ _)).imp fun D0 σ H ⟨Uo, m, env, st, S, q⟩ => by
  rw [exS] at q
  exact ⟨Uo, m, env, st, S, bindE closedS q fun v d o m1 env1 st1 H1 p1 S1 r1 q1 => q1 σ m1 H1 Step.refl S1.base⟩
theorem rs_pass : PS X (.Pass pos) (RdS F G call W N .pass) := ps_pass.imp fun D0 σ H ⟨Uo, m, env, st, S, q⟩ => by
  rw [exS] at q
  exact q σ m H Step.refl S
theorem rs_brk : PS X (.Break pos) (RdS F G call W N .brk) := ps_break.imp fun D0 σ H ⟨Uo, m, env, st, S, q⟩ => by
  rw [exS] at q
  exact q σ m H Step.refl S
theorem rs_cont : PS X (.Continue pos) (RdS F G call W N .cont) := ps_continue.imp fun D0 σ H ⟨Uo, m, env, st, S, q⟩ => by
  rw [exS] at q
  exact q σ m H Step.refl S
/-! ### assignments -/
theorem asg_dat {t : T} {c : C} {D0 : Ends} {σ : SL} {H : Hp} (h : RdS F G call W N (.asg t c) D0 σ H) : tAsg (RdE F G call W false c) (t.g F.K) D0 σ H := by
  obtain ⟨Uo, m, env, st, S, q⟩ := h
  rw [exS] at q
  refine ⟨Uo, m, env, st, S, ?_⟩
  revert q
  generalize ev G call false c env st = r
  intro q
  rcases r with _ | ⟨⟨d, o⟩, env1, st1⟩ | ⟨c, x, env', st'⟩
  · exact q.elim
  rotate_left
  · exact fun cls dd m' H' p S e => q cls dd σ m' H' p.wide S e
  have q : PostS F Uo env σ m st.length H W D0 (match setT t (d, o) env1 with
    | some env => .ok .nx env st1
    | none => .no) := q
  intro v m1 H1 p1 S1 r1
  dsimp only at S1 r1
  cases hset : setT t (d, o) env1 with
  | none => rw [hset] at q; exact q.elim
  | some env2 =>
    rw [hset] at q
    have nx : ∀ σ' m' H', Step (OwnAt env σ) env σ m st.length H env2 σ' m' st1.length H' → Sim F Uo m' env2 σ' st1 H' → D0.nx σ' H' := q
    have plain : Rep F (MuOf Uo env1 σ m1 st1.length) m1 st1.length H1 v d → setT t (d, false) env1 = some env2 → t.g F.K v σ H1 D0.nx := fun rv hs =>
      tg_set S1.base rv hs fun σ2 S2 own2 _ => nx σ2 m1 H1 (p1.wide.transS ⟨Nat.le_refl _, fun _ _ => rfl, fun l h1 h2 => absurd (Nat.lt_of_le_of_lt h1 h2) (Nat.lt_irrefl _), fun _ _ e _ _ => e, fun _ e => e, fun b z => .inl (own2 b z)⟩) S2
    have rv := r1.toRep S.uH S1
    cases o with
    | false => exact plain rv hset
    | true =>
      cases t with
      | t is =>
        cases d with
        | tup xs => exact plain rv hset
        | _ => cases hset
      | n i =>
        obtain ⟨a, xs, vs, rfl, rfl, h3, h4, h5⟩ := r1.1 rfl
        have hset : (if i < env1.length then some (env1.set i (some (.lst xs, true))) else none) = some env2 := hset
        by_cases hi : i < env1.length
        · rw [if_pos hi] at hset
          obtain rfl := Option.some.inj hset
          obtain ⟨S2, own2⟩ := sim_take S1 (fun z => S.uH a z h5) hi h3 h4
          refine nx _ m1 H1 ⟨p1.hn, p1.hm, p1.new, fun b o e ht k => p1.fr b o e ht (k.imp id fun z => ⟨fun z => z, z.2⟩), p1.th, fun b z => ?_⟩ S2
          rcases own2 b z with rfl | z
          · exact .inr h5
          · exact p1.own b z
        · rw [if_neg hi] at hset; cases hset
theorem rs_asg {t : T} {c : C} {tg e : Expr} (hn : noComp e = true) (hs : noStores tg e = true) (he : PE X e (RdE F G call W false c)) (hg : PG X tg (t.g F.K)) (h1 : (assignEach [tg] X.env).map (·.2) = [assign tg X.env]) : PS X (.Assign [tg] e pos) (RdS F G call W N (.asg t c)) :=
  (ps_asg he hg (no_swap hn _ _ _) (no_stores hs _) h1).imp fun _ _ _ h => asg_dat h
theorem rs_lc {i : Nat} {elt : C} {tg : T} {it : C} {cond : Option C} {y : Str} {py spos : Pos} {elt' tg' iter : Expr} {ifs : List Expr} {scope : Scope} {own : List (Str × Nat)} (hc : X.calm = true) (hN : X.N.Nodup) (hy : X.N[i]? = some y) (hyl : X.env.scope.names.lookup y = some .local)
    (hsw : swapsWith (.ListComp elt' [⟨tg', iter, ifs, 0⟩] scope pos) (some (.Name y py)) spos.line X.env = pure true) (hi : PI X tg' iter (RdI F G call W it)) (ok : BlkOk X.N X.env.scope scope own) (ho : own.map (·.2) = tg.own)
    (hg : ∀ (s : Shared) (H : Hp) (C : Addr) (cl : List (Str × Addr)) (fp : List Addr), PG (X.blk s H scope (compEnvC scope cl C X.env) fp) tg' (tg.g F.K)) (ht : ∀ (s : Shared) (H : Hp) (C : Addr) (cl : List (Str × Addr)) (fp : List Addr), PTs (X.blk s H scope (compEnvC scope cl C X.env) fp) ifs (RdC F G call cond))
    (he : ∀ (s : Shared) (H : Hp) (C : Addr) (cl : List (Str × Addr)) (fp : List Addr), PE (X.blk s H scope (compEnvC scope cl C X.env) fp) elt' (RdE F G call W0 false elt)) (hs : noSet iter = true) :
    PS X (.Assign [.Name y py] (.ListComp elt' [⟨tg', iter, ifs, 0⟩] scope pos) spos) (RdS F G call W N (.asg (.n i) (.lc elt tg it cond))) :=
  (ps_setLc hc hN hy hyl hsw hi ok hg ht he (no_fold hs _)).imp fun D0 σ H h => by
    rw [ho]
    have h : tAsg (RdE F G call W false (.lc elt tg it cond)) (gName i) D0 σ H := asg_dat h
    exact lc_dat h
theorem rd_lc {bw : Bool} {elt : C} {tg : T} {it : C} {cond : Option C} {elt' tg' iter : Expr} {ifs : List Expr} {scope : Scope} {own : List (Str × Nat)} (hc : X.calm = true) (hN : X.N.Nodup)
    (hi : PI X tg' iter (RdI F G call W it)) (ok : BlkOk X.N X.env.scope scope own) (ho : own.map (·.2) = tg.own)
    (hg : ∀ (s : Shared) (H : Hp) (C : Addr) (cl : List (Str × Addr)) (fp : List Addr), PG (X.blk s H scope (compEnvC scope cl C X.env) fp) tg' (tg.g F.K)) (ht : ∀ (s : Shared) (H : Hp) (C : Addr) (cl : List (Str × Addr)) (fp : List Addr), PTs (X.blk s H scope (compEnvC scope cl C X.env) fp) ifs (RdC F G call cond))
    (he : ∀ (s : Shared) (H : Hp) (C : Addr) (cl : List (Str × Addr)) (fp : List Addr), PE (X.blk s H scope (compEnvC scope cl C X.env) fp) elt' (RdE F G call W0 false elt)) (hs : noSet iter = true) :
    PE X (.ListComp elt' [⟨tg', iter, ifs, 0⟩] scope pos) (RdE F G call W bw (.lc elt tg it cond)) :=
  (pe_lc hc hN hi ok hg ht he (no_fold hs _)).imp fun σ H Q h => by
    rw [ho]
    exact lc_dat h
/-! ### pairs stored from the right -/
theorem setT_two {i j : Nat} {xs : List D} {env env2 : Env} (h : setT (.t [i, j]) (.tup xs, false) env = some env2) : ∃ x y, xs = [x, y] ∧ env2 = (env.set i (some (x, false))).set j (some (y, false)) := by
  have h : (if [i, j].length = xs.length ∧ ∀ k ∈ [i, j], k < env.length then some (envs [i, j] xs env) else none) = some env2 := h
  by_cases hc : [i, j].length = xs.length ∧ ∀ k ∈ [i, j], k < env.length
  · rw [if_pos hc] at h
    obtain rfl := Option.some.inj h
    match xs, hc.1 with
    | [x, y], _ => exact ⟨x, y, rfl, rfl⟩
  · rw [if_neg hc] at h; cases h
theorem setT_three {i j l : Nat} {xs : List D} {env env2 : Env} (h : setT (.t [i, j, l]) (.tup xs, false) env = some env2) : ∃ x y z, xs = [x, y, z] ∧ env2 = ((env.set i (some (x, false))).set j (some (y, false))).set l (some (z, false)) := by
  have h : (if [i, j, l].length = xs.length ∧ ∀ k ∈ [i, j, l], k < env.length then some (envs [i, j, l] xs env) else none) = some env2 := h
  by_cases hc : [i, j, l].length = xs.length ∧ ∀ k ∈ [i, j, l], k < env.length
  · rw [if_pos hc] at h
    obtain rfl := Option.some.inj h
    match xs, hc.1 with
    | [x, y, z], _ => exact ⟨x, y, z, rfl, rfl⟩
  · rw [if_neg hc] at h; cases h
theorem stepS_of {Uo : Addr → Prop} {env env2 : Env} {σ σ2 : SL} {m : Nat → Addr} {n : Nat} {H : Hp} (own2 : ∀ b, OwnAt env2 σ2 b → OwnAt env σ b) : Step (OwnAt env σ) env σ m n H env2 σ2 m n H :=
  ⟨Nat.le_refl _, fun _ _ => rfl, fun l h1 h2 => absurd (Nat.lt_of_le_of_lt h1 h2) (Nat.lt_irrefl _), fun _ _ e _ _ => e, fun _ e => e, fun b z => .inl (own2 b z)⟩
theorem par_dat {is : List Nat} {cs : List C} {D0 : Ends} {σ : SL} {H : Hp} {Q : List V → Hp → Prop} (h : RdS F G call W N (.par is cs) D0 σ H)
    (k : ∀ vs xs Uo m1 env1 env2 st1 H1, setT (.t is) (.tup xs, false) env1 = some env2 → Sim F Uo m1 env1 σ st1 H1 → Reps F (MuOf Uo env1 σ m1 st1.length) m1 st1.length H1 vs xs → (∀ σ2, Sim F Uo m1 env2 σ2 st1 H1 → (∀ b, OwnAt env2 σ2 b → OwnAt env1 σ b) → D0.nx σ2 H1) → Q vs H1) : RdL F G call W false cs σ H Q := by
  obtain ⟨Uo, m, env, st, S, q⟩ := h
  rw [exS] at q
  refine ⟨Uo, m, env, st, S, bindL closedS q fun vs xs m1 env1 st1 H1 p1 S1 r1 _ q1 => ?_⟩
  cases hset : setT (.t is) (.tup xs, false) env1 with
  | none => rw [hset] at q1; exact q1.elim
  | some env2 =>
    rw [hset] at q1
    exact k vs xs Uo m1 env1 env2 st1 H1 hset S1 (r1 rfl) fun σ2 S2 own2 => q1 σ2 m1 H1 (stepS_of (Uo := Uo) own2) S2
theorem rs_par2 {i j : Nat} {x y : Str} {px py pt pt2 : Pos} {kt k2 : Nat} {a b : Expr} {cs : List C} (hc : X.calm = true) (hN : X.N.Nodup) (hi : X.N[i]? = some x) (hj : X.N[j]? = some y) (hij : i ≠ j) (hw : swap2 X.env.scope x px y py a b = true) (ha : PA X [a, b] (RdL F G call W false cs)) :
    PS X (.Assign [.Tuple [.Name x px, .Name y py] kt pt] (.Tuple [a, b] k2 pt2) pos) (RdS F G call W N (.par [i, j] cs)) := by
  have hx : X.env.scope.names.lookup x = some .local := by unfold swap2 at hw; simp only [Bool.and_eq_true, decide_eq_true_eq] at hw; exact hw.1.1.1.1.1.1.1.2
  have hy : X.env.scope.names.lookup y = some .local := by unfold swap2 at hw; simp only [Bool.and_eq_true, decide_eq_true_eq] at hw; exact hw.1.1.1.1.1.1.2
  refine (ps_par hc hN hi hj hij hx hy ha (swap2_ok rfl hw) rfl).imp fun D0 σ H h => par_dat h fun vs xs Uo m1 env1 env2 st1 H1 hset S1 r1 nx => ?_
  obtain ⟨d, e, rfl, rfl⟩ := setT_two hset
  obtain ⟨S2, own2⟩ := sim_sets (is := [i, j]) S1 r1
  match vs, r1 with
  | [v, w], r1 => exact ⟨v, w, rfl, nx _ S2 own2⟩
theorem rs_par3 {i j l : Nat} {x y z : Str} {px py pz pt pt2 : Pos} {kt k2 : Nat} {a b c : Expr} {cs : List C} (hc : X.calm = true) (hN : X.N.Nodup) (hi : X.N[i]? = some x) (hj : X.N[j]? = some y) (hl : X.N[l]? = some z) (hij : i ≠ j) (hil : i ≠ l) (hjl : j ≠ l) (hw : swap3 X.env.scope x px y py z pz a b c = true) (ha : PA X [a, b, c] (RdL F G call W false cs)) :
    PS X (.Assign [.Tuple [.Name x px, .Name y py, .Name z pz] kt pt] (.Tuple [a, b, c] k2 pt2) pos) (RdS F G call W N (.par [i, j, l] cs)) := by
  have hall : X.env.scope.names.lookup x = some .local ∧ X.env.scope.names.lookup y = some .local ∧ X.env.scope.names.lookup z = some .local := by
    unfold swap3 at hw
    simp only [Bool.and_eq_true, decide_eq_true_eq] at hw
    obtain ⟨⟨⟨⟨⟨⟨⟨⟨⟨⟨⟨⟨⟨_, h2⟩, h3⟩, h4⟩, _⟩, _⟩, _⟩, _⟩, _⟩, _⟩, _⟩, _⟩, _⟩, _⟩ := hw
    exact ⟨h2, h3, h4⟩
  refine (ps_par3 hc hN hi hj hl hij hil hjl hall.1 hall.2.1 hall.2.2 ha (swap3_ok rfl hw) rfl).imp fun D0 σ H h => par_dat h fun vs xs Uo m1 env1 env2 st1 H1 hset S1 r1 nx => ?_
  obtain ⟨d, e, f, rfl, rfl⟩ := setT_three hset
  obtain ⟨S2, own2⟩ := sim_sets (is := [i, j, l]) S1 r1
  match vs, r1 with
  | [v, w, u], r1 => exact ⟨v, w, u, rfl, nx _ S2 own2⟩
/-! ### lists that are changed -/
theorem tyV_list {K : PySem.W.Frag} {H : Hp} {a : Addr} {vs : List V} (h : H a = some (.lst vs)) : tyV K "list" (V.ref a) H := .inl ⟨rfl, vs, .inl (.inl h)⟩
theorem szLt {n : Nat} (h : szOk (n + 1) = true) : n < sizeLine := by
  have := of_decide_eq_true h
  rw [sizeLine_eq]; omega
theorem isL_at {Uo : Addr → Prop} {m : Nat → Addr} {env : Env} {σ : SL} {st : Sto} {H : Hp} {i : Nat} (S : Sim F Uo m env σ st H) (h : isL st (getS env i) = true) : ∃ a vs, σ[i]? = some (some (V.ref a)) ∧ H a = some (.lst vs) := by
  cases e : getS env i with
  | none => rw [e] at h; cases h
  | some p =>
    rw [e] at h
    have e := getS_some e
    obtain ⟨d, o⟩ := p
    cases d with
    | lst xs =>
      cases o with
      | false => cases h
      | true =>
        obtain ⟨a, ys, vs, _, h2, h3, _⟩ := S.own i _ e
        exact ⟨a, vs, h2, h3⟩
    | ref l =>
      have h : (match st[l]? with | some (.lst _) => true | _ => false) = true := by cases o <;> exact h
      cases q : st[l]? with
      | none => rw [q] at h; cases h
      | some ob =>
        rw [q] at h
        cases ob with
        | dct _ => cases h
        | lst xs =>
          obtain ⟨vs, h1, _⟩ := S.obj l xs q
          cases o with
          | true => obtain ⟨_, _, _, z, _⟩ := S.own i _ e; cases z
          | false =>
            obtain ⟨v, h2, _, rfl⟩ := S.val i _ e
            exact ⟨_, vs, h2, h1⟩
    | _ => cases o <;> cases h
theorem rs_app {i : Nat} {c : C} {x : Str} {px ap cp : Pos} {e : Expr} (hN : X.N[i]? = some x) (hv : Vis X.env.scope x) (hd : (x == ("__debug__" : Str)) = false) (hcd : (x == ("__classdict__" : Str)) = false) (hs : noStar e = true) (hl : (ap.endLine == cp.line) = true) (he : PE X e (RdE F G call W false c)) :
    PS X (.Expr (.Call (.Attribute (.Name x px) "append" ap) [e] [] cp) pos) (RdS F G call W N (.app i c)) := by
  have key : PE X (.Call (.Attribute (.Name x px) "append" ap) [e] [] cp) (tBM X.K "list" rAppend (tVar i) (tCons (RdE F G call W false c) tNil)) :=
    pe_bm PySem.F.plainAttrs_list PySem.F.slot_list_append PySem.type_list_append mt_append (pe_var hN hv hd hcd) (pa_cons he pa_nil (star_cons hs _)) rfl (by rw [star_cons hs]; rfl) hl (star_cons hs _) rfl
  refine (ps_expr key rfl).imp fun D0 σ H ⟨Uo, m, env, st, S, q⟩ => ?_
  rw [exS] at q
  by_cases hL : isL st (getS env i) = true
  · rw [if_pos hL] at q
    obtain ⟨a, vs, hσ, hH⟩ := isL_at S hL
    refine ⟨V.ref a, hσ, tyV_list hH, Uo, m, env, st, S, bindE closedS q fun y d o m1 env1 st1 H1 p1 S1 r1 q1 => ?_⟩
    have ry := r1.toRep S.uH S1
    have S1 := S1.base
    show rAppend (V.ref a) [y] H1 fun _ H1 => D0.nx σ H1
    dsimp only at q1
    cases e1 : getS env1 i with
    | none => rw [e1] at q1; exact q1.elim
    | some p =>
      rw [e1] at q1
      have e1 := getS_some e1
      obtain ⟨dd, oo⟩ := p
      cases dd with
      | lst xs =>
        cases oo with
        | false => exact q1.elim
        | true =>
          have q1 : PostS F Uo env1 σ m1 st1.length H1 W D0 (if szOk (xs.length + 1) then .ok .nx (env1.set i (some (.lst (xs ++ [d]), true))) st1 else .no) := q1
          by_cases hz : szOk (xs.length + 1) = true
          · rw [if_pos hz] at q1
            obtain ⟨b, ys, ws, h1, h2, h3, h4⟩ := S1.own i _ e1
            cases h1
            rw [hσ] at h2
            cases h2
            refine ⟨a, ws, y, rfl, rfl, h3, by rw [Reps.length h4]; exact szLt hz, ?_⟩
            exact q1 σ m1 _ (step_own e1 hσ h3) (sim_own S1 e1 hσ h3 (Reps.append h4 ⟨ry, trivial⟩))
          · rw [if_neg hz] at q1; exact q1.elim
      | ref l =>
        have q1 : PostS F Uo env1 σ m1 st1.length H1 W D0 (match st1[l]? with
          | some (.lst xs) => if szOk (xs.length + 1) then .ok .nx env1 (st1.set l (.lst (xs ++ [d]))) else .no
          | _ => .no) := by cases oo <;> exact q1
        cases q : st1[l]? with
        | none => rw [q] at q1; exact q1.elim
        | some ob =>
          rw [q] at q1
          cases ob with
          | dct _ => exact q1.elim
          | lst xs =>
            dsimp only at q1
            by_cases hz : szOk (xs.length + 1) = true
            · rw [if_pos hz] at q1
              obtain ⟨ws, h3, h4⟩ := S1.obj l xs q
              have hσ2 : σ[i]? = some (some (V.ref (m1 l))) := by
                cases oo with
                | true => obtain ⟨_, _, _, z, _⟩ := S1.own i _ e1; cases z
                | false => obtain ⟨v, h2, _, rfl⟩ := S1.val i _ e1; exact h2
              rw [hσ] at hσ2
              cases hσ2
              have hl : l < st1.length := by
                by_cases hl : l < st1.length
                · exact hl
                · rw [List.getElem?_eq_none (by omega)] at q; cases q
              refine ⟨_, ws, y, rfl, rfl, h3, by rw [Reps.length h4]; exact szLt hz, ?_⟩
              exact q1 σ m1 _ (by rw [List.length_set]; exact step_sto hl h3) (sim_sto S1 hl h3 (Reps.append h4 ⟨ry, trivial⟩))
            · rw [if_neg hz] at q1; exact q1.elim
      | _ => cases oo <;> exact q1.elim
  · rw [if_neg hL] at q; exact q.elim
theorem setAt_some {xs ys : List D} {i : Int} {y : D} (h : setAt xs i y = some ys) : ∃ j, ixN xs.length i = some j ∧ ys = xs.set j y := by
  unfold setAt at h
  by_cases hc : 0 ≤ i ∧ i < xs.length
  · rw [if_pos hc] at h
    refine ⟨i.toNat, ?_, (Option.some.inj h).symm⟩
    unfold ixN
    rw [if_pos hc.1, if_pos hc.2]
  · rw [if_neg hc] at h; cases h
theorem rs_set {i : Nat} {k c : C} {x : Str} {px sp : Pos} {ek e : Expr} (hK : X.K = F.K) (hP : X.prog = F.P ∧ X.w = F.w) (hu : X.A.units + 64 < cLine) (hN : X.N[i]? = some x) (hv : Vis X.env.scope x) (hd : (x == ("__debug__" : Str)) = false) (hcd : (x == ("__classdict__" : Str)) = false) (hn : noComp e = true) (hsl : noSlice ek = true) (hk : PE X ek (RdE F G call W true k)) (hk2 : PE X ek (RdE F G call W false k)) (he : PE X e (RdE F G call W false c)) :
    PS X (.Assign [.Subscript (.Name x px) ek sp] e pos) (RdS F G call W N (.set i k c)) := by
  have hor : PE X ek (fun σ H Q => RdE F G call W true k σ H Q ∨ RdE F G call W false k σ H Q) := ⟨fun pins s σ H Q I h => h.elim (hk.run pins s σ H Q I) (hk2.run pins s σ H Q I)⟩
  have hset : PSet X (fun o i v H Q => rSetL o i v H Q ∨ rSetDk X.prog X.w F o i v H Q) := fun pins s σ H o i v ov iv u Q I ro ri rv h => h.elim (set_list pins s σ H o i v ov iv u Q I ro ri rv) (set_dk hK hu pins s σ H o i v ov iv u Q I ro ri rv)
  have hg : PG X (.Subscript (.Name x px) ek sp) (gSub (tVar i) (fun σ H Q => RdE F G call W true k σ H Q ∨ RdE F G call W false k σ H Q) (fun o i v H Q => rSetL o i v H Q ∨ rSetDk X.prog X.w F o i v H Q)) := pg_sub (pe_var hN hv hd hcd) hor hset (fun v => by
    cases ek <;> first | rfl | exact absurd hsl Bool.false_ne_true)
  refine (ps_asg (pos := pos) he hg (no_swap hn (some (.Subscript (.Name x px) ek sp)) pos.line X.env) (no_stores (by cases e <;> rfl) _) rfl).imp fun D0 σ H ⟨Uo, m, env, st, S, q⟩ => ?_
  rw [exS] at q
  by_cases hL : isL st (getS env i) = true
  · rw [if_pos hL] at q
    obtain ⟨a0, vs0, hσ, _⟩ := isL_at S hL
    refine ⟨Uo, m, env, st, S, bindE closedS q fun y d o m1 env1 st1 H1 p1 S1 r1 q1 => ⟨V.ref a0, hσ, ?_⟩⟩
    have ry := r1.toRep S.uH S1
    have S1 := S1.base
    refine .inl ⟨Uo, m1, env1, st1, S1, bindE closedS q1 fun j dj oj m2 env2 st2 H2 p2 S2 r2 q2 => .inl ?_⟩
    have rj := r2.toB S2
    have ry := Rep.mov (p2.movE S1) ry
    replace S2 := S2.base
    dsimp only at q2
    cases e2 : getS env2 i with
    | none => rw [e2] at q2; exact q2.elim
    | some p =>
      rw [e2] at q2
      have e2 := getS_some e2
      obtain ⟨dd, oo⟩ := p
      cases dd with
      | lst xs =>
        cases oo with
        | false => cases dj <;> exact q2.elim
        | true =>
          cases dj with
          | int ij =>
            obtain rfl : j = .int ij := rj
            have q2 : PostS F Uo env2 σ m2 st2.length H2 W D0 (match setAt xs ij d with
              | some ys => .ok .nx (env2.set i (some (.lst ys, true))) st2
              | none => .no) := q2
            cases hset : setAt xs ij d with
            | none => rw [hset] at q2; exact q2.elim
            | some ys =>
              rw [hset] at q2
              obtain ⟨jj, hj, rfl⟩ := setAt_some hset
              obtain ⟨a, xs', ws, h1, h2, h3, h4⟩ := S2.own i _ e2
              cases h1
              rw [hσ] at h2
              cases h2
              exact ⟨a0, ws, ij, jj, rfl, rfl, h3, by rw [Reps.length h4]; exact hj, q2 σ m2 _ (step_own e2 hσ h3) (sim_own S2 e2 hσ h3 (Reps.set ry jj h4))⟩
          | _ => exact q2.elim
      | ref l =>
        cases dj with
        | int ij =>
          obtain rfl : j = .int ij := rj
          have q2 : PostS F Uo env2 σ m2 st2.length H2 W D0 (match st2[l]? with
            | some (.lst xs) => match setAt xs ij d with
              | some ys => .ok .nx env2 (st2.set l (.lst ys))
              | none => .no
            | _ => .no) := by cases oo <;> exact q2
          cases q : st2[l]? with
          | none => rw [q] at q2; exact q2.elim
          | some ob =>
            rw [q] at q2
            cases ob with
            | dct _ => exact q2.elim
            | lst xs =>
              dsimp only at q2
              cases hset : setAt xs ij d with
              | none => rw [hset] at q2; exact q2.elim
              | some ys =>
                rw [hset] at q2
                obtain ⟨jj, hj, rfl⟩ := setAt_some hset
                obtain ⟨ws, h3, h4⟩ := S2.obj l xs q
                have hσ2 : σ[i]? = some (some (V.ref (m2 l))) := by
                  cases oo with
                  | true => obtain ⟨_, _, _, z, _⟩ := S2.own i _ e2; cases z
                  | false => obtain ⟨v, h2, _, rfl⟩ := S2.val i _ e2; exact h2
                have hl : l < st2.length := by
                  by_cases hl : l < st2.length
                  · exact hl
                  · rw [List.getElem?_eq_none (by omega)] at q; cases q
                rw [hσ] at hσ2
                cases hσ2
                exact ⟨_, ws, ij, jj, rfl, rfl, h3, by rw [Reps.length h4]; exact hj, q2 σ m2 _ (by rw [List.length_set]; exact step_sto hl h3) (sim_sto S2 hl h3 (Reps.set ry jj h4))⟩
        | _ => cases oo <;> exact q2.elim
      | _ => cases oo <;> cases dj <;> exact q2.elim
  · rw [if_neg hL] at q
    by_cases hD : isDk st (getS env i) = true
    · rw [if_pos hD] at q
      obtain ⟨l0, kvs0, es0, _, _, _, hσ, hH, _⟩ := isDk_at S hD
      refine ⟨Uo, m, env, st, S, bindE closedS q fun y d o m1 env1 st1 H1 p1 S1 r1 q1 => ⟨V.ref (m l0), hσ, ?_⟩⟩
      have ry := r1.toRep S.uH S1
      have S1 := S1.base
      refine .inr ⟨Uo, m1, env1, st1, S1, bindE closedS q1 fun j dj oj m2 env2 st2 H2 p2 S2 r2 q2 => .inr ?_⟩
      have rj := r2.toRep S1.uH S2
      have ry := Rep.mov (p2.movE S1) ry
      replace S2 := S2.base
      dsimp only at q2
      cases e2 : getS env2 i with
      | none => rw [e2] at q2; exact q2.elim
      | some p =>
        rw [e2] at q2
        have e2 := getS_some e2
        obtain ⟨dd, oo⟩ := p
        cases dd with
        | ref l =>
          have q2 : PostS F Uo env2 σ m2 st2.length H2 W D0 (match st2[l]? with
            | some (.dct kvs) => if keyOk dj && szOk kvs.length then .ok .nx env2 (st2.set l (.dct (dkPut kvs dj d))) else .no
            | _ => .no) := by cases oo <;> exact q2
          cases q : st2[l]? with
          | none => rw [q] at q2; exact q2.elim
          | some ob =>
            rw [q] at q2
            cases ob with
            | lst _ => exact q2.elim
            | dct kvs =>
              dsimp only at q2
              by_cases hb : (keyOk dj && szOk kvs.length) = true
              · rw [if_pos hb] at q2
                rw [Bool.and_eq_true] at hb
                obtain ⟨es, k1, k2⟩ := S2.objD l kvs q
                have hσ2 : σ[i]? = some (some (V.ref (m2 l))) ∧ l < st2.length := by
                  cases oo with
                  | true => obtain ⟨_, _, _, z, _⟩ := S2.own i _ e2; cases z
                  | false => obtain ⟨v, h2, h3, rfl⟩ := S2.val i _ e2; exact ⟨h2, h3⟩
                have em : m2 l = m l0 := by
                  have := hσ2.1
                  rw [hσ] at this
                  injection this with this; injection this with this; injection this with this
                  exact this.symm
                have hz : es.length < sizeLine := by
                  have h1 := k2.length
                  have h2 := of_decide_eq_true hb.2
                  rw [sizeLine_eq]; omega
                rw [← em]
                refine ⟨_, es, kvs, dj, _, m2, st2.length, rfl, by rw [hP.1, hP.2]; exact k1, k2, hb.1, rj, hz, fun b hb' => ?_⟩
                rw [hP.1, hP.2]
                exact q2 σ m2 _ (by rw [List.length_set]; exact step_dk hσ2.2 k1) (sim_dk S2 hσ2.2 k1 (k2.put hb.1 (by rw [← hb']; exact rj) ry))
              · rw [if_neg hb] at q2; exact q2.elim
        | _ => cases oo <;> exact q2.elim
    · rw [if_neg hD] at q; exact q.elim
theorem Reps.dropLast {Mu : Addr → Prop} {m : Nat → Addr} {n : Nat} {H : Hp} {vs : List V} {xs : List D} (h : Reps F Mu m n H vs xs) : Reps F Mu m n H vs.dropLast xs.dropLast := by
  rw [List.dropLast_eq_take, List.dropLast_eq_take, Reps.length h]
  exact Reps.take _ h
theorem rs_pop {i : Nat} {t : T} {x : Str} {px ap cp : Pos} {tg : Expr} (hN : X.N[i]? = some x) (hv : Vis X.env.scope x) (hd : (x == ("__debug__" : Str)) = false) (hcd : (x == ("__classdict__" : Str)) = false) (hl : (ap.endLine == cp.line) = true) (hg : PG X tg (t.g F.K)) (hs : noStores tg (.Call (.Attribute (.Name x px) "pop" ap) [] [] cp) = true) (h1 : (assignEach [tg] X.env).map (·.2) = [assign tg X.env]) :
    PS X (.Assign [tg] (.Call (.Attribute (.Name x px) "pop" ap) [] [] cp) pos) (RdS F G call W N (.pop t i)) := by
  have key : PE X (.Call (.Attribute (.Name x px) "pop" ap) [] [] cp) (tBM0 X.K "list" rPop (tVar i)) :=
    pe_bm0 PySem.F.plainAttrs_list PySem.F.slot_list_pop PySem.F.type_list_pop mt_pop (pe_var hN hv hd hcd) rfl hl
  have hsw : ∀ e : Expr, noComp e = true → swapsWithSole [tg] e pos.line X.env = pure false := fun e h => no_swap h _ _ _
  have hss : ∀ e : Expr, noStores tg e = true → swappedStores [tg] e X.env = pure none := fun e h => no_stores h _
  refine (ps_asg key hg (hsw _ rfl) (hss _ hs) h1).imp fun D0 σ H ⟨Uo, m, env, st, S, q⟩ => ?_
  rw [exS] at q
  cases e : getS env i with
  | none => rw [e] at q; exact q.elim
  | some p =>
    rw [e] at q
    have e := getS_some e
    obtain ⟨d, o⟩ := p
    cases d with
    | lst xs =>
      cases o with
      | false => exact q.elim
      | true =>
        dsimp only at q
        cases hy : xs.getLast? with
        | none => rw [hy] at q; exact q.elim
        | some y =>
          rw [hy] at q
          dsimp only at q
          cases ht : setT t (y, false) (env.set i (some (.lst xs.dropLast, true))) with
          | none => rw [ht] at q; exact q.elim
          | some env2 =>
            rw [ht] at q
            obtain ⟨a, xs', vs, h1, h2, h3, h4⟩ := S.own i _ e
            cases h1
            have hlen := Reps.length h4
            rw [List.getLast?_eq_getElem?] at hy
            obtain ⟨v, hv1, hv2⟩ := Reps.get h4 hy
            have S1 := sim_own S e h2 h3 (Reps.dropLast h4)
            have p1 : Step (OwnAt env σ) env σ m st.length H (env.set i (some (.lst xs.dropLast, true))) σ m st.length (upd H a (.lst vs.dropLast)) := step_own e h2 h3
            have rv : Rep F (MuOf Uo (env.set i (some (.lst xs.dropLast, true))) σ m st.length) m st.length (upd H a (.lst vs.dropLast)) v y := Rep.mov (p1.mov S fun _ z => z) hv2
            refine ⟨V.ref a, h2, tyV_list h3, a, vs, v, rfl, rfl, h3, by rw [hlen]; exact hv1, ?_⟩
            exact tg_set S1 rv ht fun σ2 S2 own2 _ => q σ2 m _ (Step.transS p1 (stepS_of (Uo := Uo) own2)) S2
    | _ => cases o <;> exact q.elim
end
end Pi

set_option maxRecDepth 100000
set_option maxHeartbeats 1000000
/-! PiO2: several names stored at once, lists of one's own among the values. -/
namespace Pi
open PySem PySem.Spec L2
abbrev VDO := V × D × Bool
/-- others' own lists, and those that have come -/
def Ga (U : Addr → Prop) (L : List VDO) (b : Addr) : Prop := U b ∨ ∃ d, ((V.ref b, d, true) : VDO) ∈ L
def PV (F : Fx) (Mu : Addr → Prop) (m : Nat → Addr) (n : Nat) (H : Hp) (p : VDO) : Prop :=
  (p.2.2 = true → ∃ a xs vs, p.1 = .ref a ∧ p.2.1 = .lst xs ∧ H a = some (.lst vs) ∧ Reps F Mu m n H vs xs) ∧ (p.2.2 = false → Rep F Mu m n H p.1 p.2.1)
def Apart (p q : VDO) : Prop := p.2.2 = true → q.2.2 = true → p.1 ≠ q.1
def penv (is : List Nat) (L : List VDO) (env : Env) : Env := (is.zip (L.map (·.2))).foldl (fun e q => e.set q.1 (some q.2)) env
section
variable {F : Fx} {Uo : Addr → Prop} {m m1 : Nat → Addr} {st st1 : Sto} {H H1 : Hp}
theorem PV.mov {Mu Mu' : Addr → Prop} {n n1 : Nat} {p : VDO} (M : Mov Mu Mu' m m1 n n1 H H1) (ho : ∀ a xs, p.2.2 = true → p.1 = V.ref a → H a = some (.lst xs) → H1 a = some (.lst xs)) (h : PV F Mu m n H p) : PV F Mu' m1 n1 H1 p :=
  ⟨fun e => let ⟨a, xs, vs, h1, h2, h3, h4⟩ := h.1 e; ⟨a, xs, vs, h1, h2, ho a vs e h1 h3, Reps.mov M h4⟩, fun e => Rep.mov M (h.2 e)⟩
theorem puts : ∀ {is : List Nat} {L : List VDO} {env : Env} {σ : SL}, is.length = L.length → (∀ i ∈ is, i < env.length) → Sim F (Ga Uo L) m env σ st H → (∀ p ∈ L, PV F (MuOf (Ga Uo L) env σ m st.length) m st.length H p) → L.Pairwise Apart → (∀ p ∈ L, p.2.2 = true → ∀ a, p.1 = V.ref a → ¬ Uo a) →
    Sim F Uo m (penv is L env) (slots is (L.map (·.1)) σ) st H ∧ ∀ b, OwnAt (penv is L env) (slots is (L.map (·.1)) σ) b → OwnAt env σ b ∨ ∃ d, ((V.ref b, d, true) : VDO) ∈ L
  | [], [], env, σ, _, _, S, _, _, _ => ⟨S.less fun _ z => .inl z, fun _ z => .inl z⟩
  | i :: is, (v, d, o) :: L, env, σ, hl, hi, S, hp, ha, hu => by
    have ⟨ha1, ha2⟩ := List.pairwise_cons.mp ha
    have hpv := hp (v, d, o) List.mem_cons_self
    have sub : ∀ b, Ga Uo L b → Ga Uo ((v, d, o) :: L) b := fun b z => z.imp id fun ⟨e, z⟩ => ⟨e, List.mem_cons_of_mem _ z⟩
    have key : ∃ (S' : Sim F (Ga Uo L) m (env.set i (some (d, o))) (σ.set i (some v)) st H), ∀ b, OwnAt (env.set i (some (d, o))) (σ.set i (some v)) b → OwnAt env σ b ∨ (o = true ∧ v = V.ref b) := by
      cases o with
      | true =>
        obtain ⟨a, xs, vs, e1, e2, h3, h4⟩ := hpv.1 rfl
        have e1 : v = .ref a := e1
        have e2 : d = .lst xs := e2
        subst e1 e2
        have S1 : Sim F (Plus (Ga Uo L) (Tmp true (V.ref a))) m env σ st H := S.less fun b z => by
          rcases z with z | ⟨_, z⟩
          · exact sub b z
          · cases z; exact .inr ⟨_, List.mem_cons_self⟩
        have nU : ¬ Ga Uo L a := fun z => by
          rcases z with z | ⟨e, z⟩
          · exact hu _ List.mem_cons_self rfl a rfl z
          · exact ha1 _ z rfl rfl rfl
        obtain ⟨S2, own⟩ := sim_take (i := i) S1 nU (hi i List.mem_cons_self) h3 (Reps.mov (Mov.less fun b z => MuOf.sub (fun c z => by
          rcases z with z | ⟨_, z⟩
          · exact sub c z
          · cases z; exact .inr ⟨_, List.mem_cons_self⟩) b z) h4)
        exact ⟨S2, fun b z => (own b z).elim (fun e => .inr ⟨rfl, by rw [e]⟩) .inl⟩
      | false =>
        have S1 : Sim F (Ga Uo L) m env σ st H := S.less sub
        have r : Rep F (MuOf (Ga Uo L) env σ m st.length) m st.length H v d := Rep.mov (Mov.less fun b z => MuOf.sub sub b z) (hpv.2 rfl)
        exact ⟨sim_set S1 r, fun b z => .inl (own_set' (fun _ z => by cases z) z)⟩
    obtain ⟨S', own'⟩ := key
    have M : Mov (MuOf (Ga Uo ((v, d, o) :: L)) env σ m st.length) (MuOf (Ga Uo L) (env.set i (some (d, o))) (σ.set i (some v)) m st.length) m m st.length st.length H H := Mov.less fun b z => by
      rcases z with z | z | z
      · exact .inl (sub b z)
      · rcases own' b z with z | ⟨rfl, rfl⟩
        · exact .inr (.inl z)
        · exact .inl (.inr ⟨d, List.mem_cons_self⟩)
      · exact .inr (.inr z)
    obtain ⟨S2, own2⟩ := puts (is := is) (L := L) (by simpa using hl) (fun j hj => by rw [List.length_set]; exact hi j (List.mem_cons_of_mem _ hj)) S' (fun p q => (hp p (List.mem_cons_of_mem _ q)).mov M fun _ _ _ _ z => z) ha2 (fun p q => hu p (List.mem_cons_of_mem _ q))
    refine ⟨S2, fun b z => ?_⟩
    rcases own2 b z with z | ⟨e, z⟩
    · rcases own' b z with z | ⟨rfl, rfl⟩
      · exact .inl z
      · exact .inr ⟨d, List.mem_cons_self⟩
    · exact .inr ⟨e, List.mem_cons_of_mem _ z⟩
  | [], _ :: _, _, _, hl, _, _, _, _, _ => by cases hl
  | _ :: _, [], _, _, hl, _, _, _, _, _ => by cases hl
end
section
variable {X : Cx} {F : Fx} {G : Gl} {call : Nat → List D → Sto → RC} {W : WX} {N : Nat} {pos : Pos}
/-- one behind the other -/
def rdO (F : Fx) (G : Gl) (call : Nat → List D → Sto → RC) (W : WX) : List C → TA
  | [] => tNil
  | c :: cs => tCons (RdE F G call W false c) (rdO F G call W cs)
/-- the heap, or with one thing more -/
def OneMore (H H' : Hp) : Prop := H' = H ∨ ∃ p u, H p = none ∧ H' = upd H p (.tup u)
theorem pro_go {is : List Nat} {D0 : Ends} {σ : SL} {Uo : Addr → Prop} {env0 : Env} {m0 : Nat → Addr} {n0 : Nat} {H0 : Hp} : ∀ (cs : List C) (L : List VDO) (env : Env) (m : Nat → Addr) (st : Sto) (H : Hp) (Q : List V → Hp → Prop),
    Sim F (Ga Uo L) m env σ st H → (∀ p ∈ L, PV F (MuOf (Ga Uo L) env σ m st.length) m st.length H p) → L.Pairwise Apart → (∀ p ∈ L, p.2.2 = true → ∀ a, p.1 = V.ref a → ¬ Uo a ∧ H0 a = none) → Step noCh env0 σ m0 n0 H0 env σ m st.length H →
    PostS F Uo env0 σ m0 n0 H0 W D0 ((evsO G call cs env st).bind fun ps env st => match putO is (L.map (·.2) ++ ps) env with | some env => .ok .nx env st | none => .no) →
    (∀ vs H2, (∀ H3, OneMore H2 H3 → D0.nx (slots is (L.map (·.1) ++ vs) σ) H3) → is.length = L.length + vs.length → vs.length = cs.length → Q vs H2) → rdO F G call W cs σ H Q
  | [], L, env, m, st, H, Q, S, hp, ha, hu, p, q, k => by
    have q : PostS F Uo env0 σ m0 n0 H0 W D0 (match putO is (L.map (·.2) ++ []) env with | some env => .ok .nx env st | none => .no) := q
    rw [List.append_nil] at q
    by_cases hc : is.length = (L.map (·.2)).length ∧ ∀ i ∈ is, i < env.length
    · have e : putO is (L.map (·.2)) env = some (penv is L env) := if_pos hc
      rw [e] at q
      have hl : is.length = L.length := by rw [hc.1, List.length_map]
      obtain ⟨S2, own2⟩ := puts hl hc.2 S hp ha fun p q z a e => (hu p q z a e).1
      refine k [] H (fun H3 h3 => ?_) (by simpa using hl) rfl
      rw [List.append_nil]
      have st2 : Step (OwnAt env0 σ) env0 σ m0 n0 H0 (penv is L env) (slots is (L.map (·.1)) σ) m st.length H := ⟨p.hn, p.hm, p.new, fun a o e t z => p.fr a o e t (z.imp id fun z => ⟨fun z => z, z.2⟩), p.th, fun b z => by
        rcases own2 b z with z | ⟨d, z⟩
        · exact p.own b z
        · exact .inr (hu _ z rfl b rfl).2⟩
      rcases h3 with rfl | ⟨a, u, h4, rfl⟩
      · exact q _ m _ st2 S2
      · refine q _ m _ ⟨st2.hn, st2.hm, st2.new, fun b o e t z => upd_keep h4 b o (st2.fr b o e t z), fun b z => upd_th _ (st2.th b z), st2.own⟩ (S2.fresh h4)
    · have e : putO is (L.map (·.2)) env = none := if_neg hc
      rw [e] at q
      exact q.elim
  | c :: cs, L, env, m, st, H, Q, S, hp, ha, hu, p, q, k => by
    refine ⟨Ga Uo L, m, env, st, S, ?_⟩
    revert q
    show PostS F Uo env0 σ m0 n0 H0 W D0 (((ev G call false c env st).bind fun x env st => (evsO G call cs env st).bind fun xs env st => .ok (x :: xs) env st).bind _) → _
    cases ev G call false c env st with
    | no => exact fun q => q.elim
    | ex c x env' st' => exact fun q cls dd m' H' p' S' e => q cls dd σ m' H' (p.transE p').wide (S'.less fun _ z => .inl z) e
    | ok x env1 st1 =>
      obtain ⟨d, o⟩ := x
      intro q v m1 H1 p1 S1 r1
      have q : PostS F Uo env0 σ m0 n0 H0 W D0 (((evsO G call cs env1 st1).bind fun xs env st => R.ok ((d, o) :: xs) env st).bind fun ps env st => match putO is (L.map (·.2) ++ ps) env with | some env => .ok .nx env st | none => .no) := q
      have S1 : Sim F (Plus (Ga Uo L) (Tmp o v)) m1 env1 σ st1 H1 := S1
      have e1 : ∀ b, Ga Uo (L ++ [(v, d, o)]) b → Plus (Ga Uo L) (Tmp o v) b := fun b z => by
        rcases z with z | ⟨e, z⟩
        · exact .inl (.inl z)
        · rcases List.mem_append.mp z with z | z
          · exact .inl (.inr ⟨e, z⟩)
          · have z := List.mem_singleton.mp z
            injection z with z1 z2
            injection z2 with z2 z3
            exact .inr ⟨z3.symm, z1.symm⟩
      have e2 : ∀ b, Plus (Ga Uo L) (Tmp o v) b → Ga Uo (L ++ [(v, d, o)]) b := fun b z => by
        rcases z with (z | ⟨e, z⟩) | ⟨rfl, rfl⟩
        · exact .inl z
        · exact .inr ⟨e, List.mem_append_left _ z⟩
        · exact .inr ⟨d, List.mem_append_right _ List.mem_cons_self⟩
      have fresh : ∀ a, Tmp o v a → H a = none := fun a z => by
        obtain ⟨rfl, rfl⟩ := z
        obtain ⟨b, xs, ws, e, _, _, _, h5⟩ := r1.1 rfl
        cases e
        exact h5
      have M0 := p1.movE S
      have M : Mov (MuOf (Ga Uo L) env σ m st.length) (MuOf (Ga Uo (L ++ [(v, d, o)])) env1 σ m1 st1.length) m m1 st.length st1.length H H1 := ⟨M0.hn, M0.hm, M0.kp, fun a z => by
        rcases z with z | z
        · rcases e1 a z with z | z
          · exact M0.mu a (.inl z)
          · exact .inr (fresh a z)
        · exact M0.mu a (.inr z)⟩
      have LM : Mov (MuOf (Plus (Ga Uo L) (Tmp o v)) env1 σ m1 st1.length) (MuOf (Ga Uo (L ++ [(v, d, o)])) env1 σ m1 st1.length) m1 m1 st1.length st1.length H1 H1 := Mov.less fun b z => MuOf.sub e1 b z
      have knownO : ∀ p ∈ L, p.2.2 = true → ∀ a, p.1 = V.ref a → H a ≠ none ∧ ¬ StoAt m st.length a := fun p hpL z a e => by
        have ga : Ga Uo L a := .inr ⟨p.2.1, by
          have : p = (V.ref a, p.2.1, true) := by rw [← e, ← z]
          rw [← this]; exact hpL⟩
        exact ⟨S.uH a ga, fun z2 => S.usto a z2 ga⟩
      have goal := pro_go (is := is) (D0 := D0) cs (L ++ [(v, d, o)]) env1 m1 st1 H1 (fun vs H2 => Q (v :: vs) H2) (S1.less e1) ?_ ?_ ?_ (p.transE p1) ?_ ?_
      · exact goal
      · intro r hr
        rcases List.mem_append.mp hr with hr | hr
        · exact (hp r hr).mov M fun a xs z e h => p1.fr a _ h (fun z => z) (.inr ⟨fun z => z, (knownO r hr z a e).2⟩)
        · rw [List.mem_singleton.mp hr]
          refine ⟨fun z => ?_, fun z => ?_⟩
          · obtain ⟨a, xs, vs, h1, h2, h3, h4, _⟩ := r1.1 z
            exact ⟨a, xs, vs, h1, h2, h3, Reps.mov LM h4⟩
          · exact Rep.mov LM (r1.2.1 z rfl)
      · rw [List.pairwise_append]
        refine ⟨ha, List.pairwise_singleton _ _, fun r hr s hs z1 z2 z3 => ?_⟩
        rw [List.mem_singleton.mp hs] at z2 z3
        obtain ⟨a, xs, vs, h1, h2, h3, h4, h5⟩ := r1.1 z2
        have z3 : r.1 = v := z3
        exact (knownO r hr z1 a (by rw [z3, h1])).1 h5
      · intro r hr z a e
        rcases List.mem_append.mp hr with hr | hr
        · exact hu r hr z a e
        · rw [List.mem_singleton.mp hr] at z e
          have hn : H a = none := fresh a ⟨z, e⟩
          exact ⟨fun z => S.uH a (.inl z) hn, Classical.byContradiction fun z => p.th a z hn⟩
      · have ee : ∀ ps : List (D × Bool), ((L ++ [(v, d, o)]).map (·.2)) ++ ps = L.map (·.2) ++ (d, o) :: ps := fun ps => by simp
        revert q
        cases evsO G call cs env1 st1 with
        | no => exact fun q => q
        | ex c x env' st' => exact fun q => q
        | ok ps env2 st2 =>
          intro q
          show PostS F Uo env0 σ m0 n0 H0 W D0 (match putO is (((L ++ [(v, d, o)]).map (·.2)) ++ ps) env2 with | some env => .ok .nx env st2 | none => .no)
          rw [ee]
          exact q
      · intro vs H2 nx hl hl2
        refine k (v :: vs) H2 (fun H3 h3 => ?_) (by rw [hl]; simp; omega) (by simp [hl2])
        have := nx H3 h3
        have e3 : (L ++ [(v, d, o)]).map (·.1) ++ vs = L.map (·.1) ++ v :: vs := by simp
        rw [e3] at this
        exact this
theorem pro_dat {is : List Nat} {cs : List C} {D0 : Ends} {σ : SL} {H : Hp} {Q : List V → Hp → Prop} (h : RdS F G call W N (.pro is cs) D0 σ H)
    (k : ∀ vs H2, (∀ H3, OneMore H2 H3 → D0.nx (slots is vs σ) H3) → is.length = vs.length → vs.length = cs.length → Q vs H2) : rdO F G call W cs σ H Q := by
  obtain ⟨Uo, m, env, st, S, q⟩ := h
  rw [exS] at q
  refine pro_go (D0 := D0) (is := is) (Uo := Uo) (env0 := env) (m0 := m) (n0 := st.length) (H0 := H) cs [] env m st H Q (S.less fun b z => z.elim id fun ⟨_, z⟩ => by cases z) (fun _ z => by cases z) List.Pairwise.nil (fun _ z => by cases z) Step.refl q fun vs H2 nx hl hl2 => k vs H2 nx (by simpa using hl) hl2
theorem rdO_pa : ∀ {cs : List C} {es : List Expr}, (∀ (i : Nat) (c : C) (e : Expr), cs[i]? = some c → es[i]? = some e → noStar e = true ∧ PE X e (RdE F G call W false c)) → cs.length = es.length → PA X es (rdO F G call W cs)
  | [], [], _, _ => pa_nil
  | c :: cs, e :: es, h, hl => by
    have ⟨h1, h2⟩ := h 0 c e rfl rfl
    exact pa_cons h2 (rdO_pa (fun i c e a b => h (i + 1) c e a b) (by simpa using hl)) (star_cons h1 _)
  | [], _ :: _, _, hl => by cases hl
  | _ :: _, [], _, hl => by cases hl
/-- the stores are not exchanged: a name is no local one -/
def noSw (sc : Scope) (ts es : List Expr) : Bool := ts.length == es.length && ts.any fun
  | .Name x _ => !decide (sc.names.lookup x = some .local)
  | _ => true
theorem filt_lt {α β : Type} {f : α → Option β} : ∀ {xs : List α}, (∃ x ∈ xs, f x = none) → (xs.filterMap f).length < xs.length
  | x :: xs, ⟨y, hy, e⟩ => by
    rw [List.filterMap_cons]
    rcases List.mem_cons.mp hy with rfl | hy
    · rw [e]
      have := List.length_filterMap_le f xs
      simp only [List.length_cons]
      omega
    · have := filt_lt (xs := xs) ⟨y, hy, e⟩
      split
      · simp only [List.length_cons]; omega
      · simp only [List.length_cons]; omega
theorem noSw_ok {sc : Scope} {ts es : List Expr} {kt k2 pt pt2} {env : PySem.Env} (he : env.scope = sc) (h : noSw sc ts es = true) : swappedStores [.Tuple ts kt pt] (.Tuple es k2 pt2) env = pure none := by
  subst he
  unfold noSw at h
  rw [Bool.and_eq_true, List.any_eq_true] at h
  obtain ⟨hl, x, hx, hn⟩ := h
  have key : (ts.filterMap fun
    | .Name id pos => if env.kindOf id == some .local && pos.line == (ts.head?.map (·.pos.line)).getD 0 then some id else none
    | _ => none).length < ts.length := filt_lt ⟨x, hx, by
      cases x with
      | Name y p =>
        have hn : (!decide (env.scope.names.lookup y = some NameKind.local)) = true := hn
        have : ¬ env.scope.names.lookup y = some NameKind.local := by simpa using hn
        have e2 : (env.kindOf y == some NameKind.local) = false := by
          rw [beq_eq_false_iff_ne]
          exact this
        simp [e2]
      | _ => rfl⟩
  unfold swappedStores
  dsimp only
  split
  · rfl
  · split
    · rfl
    · rw [if_pos]
      rw [Bool.or_eq_true, bne_iff_ne]
      exact .inl (Nat.ne_of_lt key)
theorem rs_pro2 {i j : Nat} {x y : Str} {px py pt pt2 : Pos} {kt k2 : Nat} {a b : Expr} {cs : List C} (hc : X.calm = true) (hN : X.N.Nodup) (hi : X.N[i]? = some x) (hj : X.N[j]? = some y) (hij : i ≠ j) (hw : swap2 X.env.scope x px y py a b = true) (ha : PA X [a, b] (rdO F G call W cs)) (hcl : cs.length = 2) :
    PS X (.Assign [.Tuple [.Name x px, .Name y py] kt pt] (.Tuple [a, b] k2 pt2) pos) (RdS F G call W N (.pro [i, j] cs)) := by
  have hw2 := hw
  unfold swap2 at hw2
  simp only [Bool.and_eq_true, decide_eq_true_eq] at hw2
  refine (ps_par hc hN hi hj hij hw2.1.1.1.1.1.1.1.2 hw2.1.1.1.1.1.1.2 ha (swap2_ok rfl hw) rfl).imp fun D0 σ H h => pro_dat h fun vs H2 nx hl hl2 => ?_
  match vs, hl with
  | [v, w], _ => exact ⟨v, w, rfl, nx H2 (.inl rfl)⟩
theorem rs_pro3 {i j l : Nat} {x y z : Str} {px py pz pt pt2 : Pos} {kt k2 : Nat} {a b c : Expr} {cs : List C} (hc : X.calm = true) (hN : X.N.Nodup) (hi : X.N[i]? = some x) (hj : X.N[j]? = some y) (hl : X.N[l]? = some z) (hij : i ≠ j) (hil : i ≠ l) (hjl : j ≠ l) (hw : swap3 X.env.scope x px y py z pz a b c = true) (ha : PA X [a, b, c] (rdO F G call W cs)) (hcl : cs.length = 3) :
    PS X (.Assign [.Tuple [.Name x px, .Name y py, .Name z pz] kt pt] (.Tuple [a, b, c] k2 pt2) pos) (RdS F G call W N (.pro [i, j, l] cs)) := by
  have hall : X.env.scope.names.lookup x = some .local ∧ X.env.scope.names.lookup y = some .local ∧ X.env.scope.names.lookup z = some .local := by
    have hw2 := hw
    unfold swap3 at hw2
    simp only [Bool.and_eq_true, decide_eq_true_eq] at hw2
    obtain ⟨⟨⟨⟨⟨⟨⟨⟨⟨⟨⟨⟨⟨_, h2⟩, h3⟩, h4⟩, _⟩, _⟩, _⟩, _⟩, _⟩, _⟩, _⟩, _⟩, _⟩, _⟩ := hw2
    exact ⟨h2, h3, h4⟩
  refine (ps_par3 hc hN hi hj hl hij hil hjl hall.1 hall.2.1 hall.2.2 ha (swap3_ok rfl hw) rfl).imp fun D0 σ H h => pro_dat h fun vs H2 nx hl hl2 => ?_
  match vs, hl with
  | [v, w, u], _ => exact ⟨v, w, u, rfl, nx H2 (.inl rfl)⟩
theorem rs_proN {is : List Nat} {cs : List C} {ts es : List Expr} {kt k2 : Nat} {pt pt2 : Pos} (hw : noSw X.env.scope ts es = true) (hg : PG X (.Tuple ts kt pt) ((T.t is).g F.K)) (h1 : (assignEach [.Tuple ts kt pt] X.env).map (·.2) = [assign (.Tuple ts kt pt) X.env]) (ha : PA X es (rdO F G call W cs)) (hcl : cs.length ≤ 100) :
    PS X (.Assign [.Tuple ts kt pt] (.Tuple es k2 pt2) pos) (RdS F G call W N (.pro is cs)) :=
  (ps_asg (pe_tup ha) hg (by rfl) (noSw_ok rfl hw) h1).imp fun D0 σ H h => pro_dat h fun vs H2 nx hl hl2 =>
    ⟨by rw [sizeLine_eq]; omega, fun p hp => ⟨p, vs, rfl, .inl (.inl upd_same), hl.symm, tgs_run hl (nx _ (.inr ⟨p, vs, hp, rfl⟩))⟩⟩
end
end Pi

set_option maxRecDepth 100000
set_option maxHeartbeats 1000000
/-! PiU: return, if, for, while, raise. -/
namespace Pi
open PySem PySem.Spec L2

section
variable {X : Cx} {F : Fx} {G : Gl} {call : Nat → List D → Sto → RC} {W : WX} {N : Nat} {pos : Pos}
theorem ret_dat {c : C} {D0 : Ends} {σ : SL} {H : Hp} {Uo : Addr → Prop} {m : Nat → Addr} {env : Env} {st : Sto} (S : Sim F Uo m env σ st H) (q : PostS F Uo env σ m st.length H W D0 ((ev G call false c env st).bind fun x env st => .ok (.ret x.1 x.2) env st)) : RdE F G call W false c σ H D0.rt := by
  refine ⟨Uo, m, env, st, S, ?_⟩
  revert q
  generalize ev G call false c env st = r
  intro q
  rcases r with _ | ⟨⟨d, o⟩, env1, st1⟩ | ⟨c, x, env', st'⟩
  · exact q.elim
  rotate_left
  · exact fun cls dd m' H' p S e => q cls dd σ m' H' p.wide S e
  intro v m1 H1 p1 S1 r1
  have q : PostS F Uo env σ m st.length H W D0 (.ok (.ret d o) env1 st1) := q
  refine q v σ m1 H1 p1.wide S1 (fun e => ?_) fun e => r1.2.1 e rfl
  obtain ⟨a, xs, vs, h1, h2, h3, h4, h5⟩ := r1.1 e
  exact ⟨a, xs, vs, h1, h2, h3, h4, .inl h5⟩
def notV : C → Bool
  | .v _ => false
  | _ => true
theorem rs_ret {c : C} {e : Expr} (hc : notV c = true) (he : PE X e (RdE F G call W false c)) : PS X (.Return (some e) pos) (RdS F G call W N (.ret c)) := (ps_ret he).imp fun D0 σ H ⟨Uo, m, env, st, S, q⟩ => by
  have q : PostS F Uo env σ m st.length H W D0 ((ev G call false c env st).bind fun x env st => .ok (.ret x.1 x.2) env st) := by
    cases c <;> first | exact absurd hc Bool.false_ne_true | (rw [exS] at q <;> first | exact q | (intro i h; cases h))
  exact ret_dat S q
/-- a slot's value, given away -/
theorem rs_retv {i : Nat} {e : Expr} (he : PE X e (tVar i)) : PS X (.Return (some e) pos) (RdS F G call W N (.ret (.v i))) := (ps_ret he).imp fun D0 σ H ⟨Uo, m, env, st, S, q⟩ => by
  rw [exS] at q
  cases e : getS env i with
  | none => rw [e] at q; exact q.elim
  | some p =>
    rw [e] at q
    have e := getS_some e
    obtain ⟨d, o⟩ := p
    have q : PostS F Uo env σ m st.length H W D0 (.ok (.ret d o) (env.set i none) st) := q
    cases o with
    | true =>
      obtain ⟨a, xs, vs, rfl, h2, h3, h4⟩ := S.own i d e
      obtain ⟨S1, mu⟩ := sim_give S e h2
      refine ⟨V.ref a, h2, q (V.ref a) (σ.set i none) m H (stepS_of (Uo := Uo) fun b z => own_set' (fun _ z => by cases z) z) S1 (fun _ => ⟨a, xs, vs, rfl, rfl, h3, Reps.mov (Mov.less mu) h4, .inr ⟨i, _, e, h2⟩⟩) fun e => absurd e (by simp)⟩
    | false =>
      obtain ⟨v, h1, h2⟩ := S.val i d e
      have S1 : Sim F Uo m (env.set i none) (σ.set i none) st H := sim_setS S (fun _ z => by cases z) fun _ z => by cases z
      exact ⟨v, h1, q v (σ.set i none) m H (stepS_of (Uo := Uo) fun b z => own_set' (fun _ z => by cases z) z) S1.plusF (fun e => absurd e (by simp)) fun _ => Rep.plusF (Rep.mov (Mov.less fun b z => mu_set (fun _ z => by cases z) z) h2)⟩
theorem rs_retn : PS X (.Return none pos) (RdS F G call W N .retn) := ps_retN.imp fun D0 σ H ⟨Uo, m, env, st, S, q⟩ => by
  rw [exS] at q
  exact q .non σ m H Step.refl S.plusF (fun e => absurd e (by simp)) fun _ => rfl
theorem rs_if {c : C} {a b : List S} {e : Expr} {ea eb : List Stmt} (hc : PT X e (RdT F G call W c)) (ha : PSs X ea (RdB F G call W N a)) (hb : PSs X eb (RdB F G call W N b)) : PS X (.If e ea eb pos) (RdS F G call W N (.ifs c a b)) := (ps_if hc ha hb).imp fun D0 σ H ⟨Uo, m, env, st, S, q⟩ => by
  rw [exS] at q
  refine ⟨Uo, m, env, st, S, bindG closedS q fun k k' m1 env1 st1 H1 p1 S1 ek q1 => ?_⟩
  subst ek
  cases k with
  | true => rw [if_pos rfl] at q1 ⊢; exact ⟨Uo, m1, env1, st1, S1, q1⟩
  | false => rw [if_neg (by decide)] at q1 ⊢; exact ⟨Uo, m1, env1, st1, S1, q1⟩
theorem rs_raise {c : Nat} {e : Expr} (hc : X.calm = true) (tk : L2N.Takes X W) (he : L2N.PMk X e (fun _ H Q => Q (.ref (F.ga c)) none H)) : PS X (.Raise (some e) none pos) (RdS F G call W N (.raise c none)) := (L2N.ps_raise hc tk he).imp fun D0 σ H ⟨Uo, m, env, st, S, q⟩ => by
  rw [exS] at q
  exact q (.ref (F.ga c)) none σ m H Step.refl S ⟨rfl, rfl⟩

/-- a loop's body, as the interpreter does it -/
def forStep (G : Gl) (call : Nat → List D → Sto → RC) (N : Nat) (t : T) (b : List S) : D → Env → Sto → R Flow := fun x env st => match setT t (x, false) env with
  | some env => exB G call N b env st
  | none => .no
theorem stepS_more {Uo : Addr → Prop} {m : Nat → Addr} {env : Env} {σ : SL} {st : Sto} {H H' : Hp} (S : Sim F Uo m env σ st H) (h : More H H') : Sim F Uo m env σ st H' ∧ Step (OwnAt env σ) env σ m st.length H env σ m st.length H' := let ⟨a, b⟩ := sim_more S h; ⟨a, b.wide⟩
theorem for_dat {t : T} {it : C} {b : List S} {D0 : Ends} {σ : SL} {H : Hp} (h : RdS F G call W N (.for t it b) D0 σ H) : tFor (RdI F G call W it) (t.g F.K) (RdB F G call W N b) D0 σ H := by
  obtain ⟨Uo, m, env, st, S, q⟩ := h
  rw [exS] at q
  refine ⟨Uo, m, env, st, S, ?_⟩
  revert q
  generalize ev G call false it env st = r
  intro q
  rcases r with _ | ⟨⟨d, o⟩, env1, st1⟩ | ⟨c, x, env', st'⟩
  · exact q.elim
  rotate_left
  · exact fun cls dd m' H' p S e => q cls dd σ m' H' p.wide S e
  have q : PostS F Uo env σ m st.length H W D0 (match items d with
    | some xs => forGo (forStep G call N t b) xs env1 st1
    | none => .no) := q
  cases hi : items d with
  | none => rw [hi] at q; exact q.elim
  | some xs =>
    rw [hi] at q
    have q : PostS F Uo env σ m st.length H W D0 (forGo (forStep G call N t b) xs env1 st1) := q
    refine ⟨xs, hi, fun J m1 H1 p1 S1 itv => ?_⟩
    have q := PostS.step p1.wide q
    refine ⟨fun i k σx Hx => k = xs.length - i ∧ i ≤ xs.length ∧ ∃ mi envi sti, Sim F Uo mi envi σx sti Hx ∧ Itv F (MuOf Uo envi σx mi sti.length) mi sti.length Hx J xs ∧ PostS F Uo envi σx mi sti.length Hx W D0 (forGo (forStep G call N t b) (xs.drop i) envi sti),
      ⟨xs.length, by simp, Nat.zero_le _, m1, env1, st1, S1, itv, q⟩, ?_⟩
    rintro i k σx Hx ⟨rfl, hi, mi, envi, sti, Sx, ix, qx⟩
    by_cases hlt : i < xs.length
    · refine .inr ⟨ix.go hlt, _, fun σ' H' hn => ⟨xs.length - (i + 1), by omega, rfl, hlt, hn⟩, fun x H' hy => ?_⟩
      obtain ⟨d, hd, mo, rx⟩ := ix.yld hlt hy
      have hdrop : xs.drop i = d :: xs.drop (i + 1) := by
        rw [List.drop_eq_getElem_cons hlt]
        congr 1
        rw [List.getElem?_eq_getElem hlt] at hd
        exact Option.some.inj hd
      rw [hdrop] at qx
      unfold forGo at qx
      obtain ⟨S', pm⟩ := stepS_more Sx mo
      have qx := PostS.step pm qx
      have ix' := ix.mov (pm.mov Sx fun _ z => z)
      cases hset : setT t (d, false) envi with
      | none =>
        have e : forStep G call N t b d envi sti = .no := by unfold forStep; rw [hset]
        rw [e] at qx
        exact qx.elim
      | some envs =>
        have e : forStep G call N t b d envi sti = exB G call N b envs sti := by unfold forStep; rw [hset]
        rw [e] at qx
        refine tg_set S' rx hset fun σ2 S2 own2 hw => ?_
        have ps : Step (OwnAt envi σx) envi σx mi sti.length H' envs σ2 mi sti.length H' := stepS_of (Uo := Uo) own2
        have qx := PostS.step ps qx
        have ix2 := ix'.mov (ps.mov S' fun _ z => z)
        refine ⟨Uo, mi, envs, sti, S2, PostS.seq qx ?_ ?_ ?_ ?_ rfl⟩
        · exact fun e s σ' m' H'' _ k p S3 => ⟨m', e, s, S3, ix2.mov (p.mov S2 fun _ z => z), PostS.step p k⟩
        · exact fun e s σ' m' H'' k p S3 => k σ' m' H'' p S3
        · exact fun e s σ' m' H'' k p S3 => ⟨m', e, s, S3, ix2.mov (p.mov S2 fun _ z => z), PostS.step p k⟩
        · exact fun d o e s => rfl
    · have ei : i = xs.length := by omega
      subst ei
      rw [List.drop_length] at qx
      exact .inl ⟨ix.stop, qx σx mi Hx Step.refl Sx⟩
theorem rs_for {t : T} {it : C} {b : List S} {tg iter : Expr} {body : List Stmt} (hp : PassesOwn (model X.prog X.w) X.A X.env X.xe) (hc : X.calm = true) (hi : PI X tg iter (RdI F G call W it)) (hg : PG X tg (t.g F.K)) (hb : PSs X body (RdB F G call W N b)) (hs : noSet iter = true) :
    PS X (.For tg iter body [] pos) (RdS F G call W N (.for t it b)) := (ps_for hp hc hi hg hb (no_fold hs _)).imp fun _ _ _ h => for_dat h
theorem while_dat {c : C} {b : List S} {D0 : Ends} {σ : SL} {H : Hp} (h : RdS F G call W N (.while c b) D0 σ H) : tWhile (RdT F G call W c) (RdB F G call W N b) D0 σ H := by
  obtain ⟨Uo, m, env, st, S, q⟩ := h
  rw [exS] at q
  refine ⟨fun k σx Hx => ∃ mi envi sti, Sim F Uo mi envi σx sti Hx ∧ PostS F Uo envi σx mi sti.length Hx W D0 (whileGo (fun env st => truth (ev G call true c env st)) (fun env st => exB G call N b env st) k envi sti), ⟨N, m, env, st, S, q⟩, ?_⟩
  rintro k σx Hx ⟨mi, envi, sti, Sx, qx⟩
  cases k with
  | zero => exact qx.elim
  | succ k =>
    unfold whileGo at qx
    refine ⟨Uo, mi, envi, sti, Sx, bindG closedS qx fun k1 k2 m1 env1 st1 H1 p1 S1 ek q1 => ?_⟩
    subst ek
    cases k1 with
    | false =>
      rw [if_neg (by decide)] at q1 ⊢
      exact q1 σx m1 H1 Step.refl S1
    | true =>
      rw [if_pos rfl] at q1 ⊢
      refine ⟨_, fun σ' H' hn => ⟨k, Nat.lt_succ_self _, hn⟩, Uo, m1, env1, st1, S1, PostS.seq q1 ?_ ?_ ?_ ?_ rfl⟩
      · exact fun e s σ' m' H'' _ k p S3 => ⟨m', e, s, S3, PostS.step p k⟩
      · exact fun e s σ' m' H'' k p S3 => k σ' m' H'' p S3
      · exact fun e s σ' m' H'' k p S3 => ⟨m', e, s, S3, PostS.step p k⟩
      · exact fun d o e s => rfl
theorem rs_while {c : C} {b : List S} {e : Expr} {body : List Stmt} (hp : PassesOwn (model X.prog X.w) X.A X.env X.xe) (hc : PT X e (RdT F G call W c)) (hb : PSs X body (RdB F G call W N b)) : PS X (.While e body [] pos) (RdS F G call W N (.while c b)) := (ps_while hp hc hb).imp fun _ _ _ h => while_dat h
end
end Pi

set_option maxRecDepth 100000
set_option maxHeartbeats 4000000
/-! PiZ: within an except suite: lists walked, tuples unpacked. -/
namespace PySem
open HotX
open PyProof.Rows (IsTup)
section
variable {prog : Program} {w : World} {A : Around} {E : Value → Shared → Prop} {s : Shared}
theorem hz_in1 {x1 : Addr} {h : Heap} (hot : HotAt A x1 h) : HotAt A.in1 x1 h := hot
/-- the stop of a walk, raised beside a handled exception -/
theorem hz_stop {x1 : Addr} {α : Type} {Q : α → Shared → Prop} (hot : HotAt A x1 s.heap)
    (hE : ∀ (e : Addr) (h' : Heap), (∀ b o, s.heap.get? b = some o → h'.get? b = some o) → (∃ o, h'.get? e = some o ∧ o.cls = .type "StopIteration") → E (.ref e) { s with heap := h' }) :
    wpAny (model prog w) A (do let e ← newExc (.type "StopIteration") []; raiseNew e : Sem α) Q E s := by
  obtain ⟨hh, o1, vs1, h1, d1, c1⟩ := hot
  refine wpAny_bind ?_
  simp only [newExc, newTuple]
  refine wpAny_bind (wpAny_newObj_type ?_ (by size_fits))
  refine wpAny_bind (m := firstArgMember _ _) (wpAny_of_eq (a := Value.none) (by first | rfl | (simp only [firstArgMember]; rfl)) ?_)
  refine wpAny_newObj_type ?_ (by size_fits)
  refine raiseNew_hot ⟨hh, o1, vs1, Heap.get?_push_of_some _ (Heap.get?_push_of_some _ h1), d1, c1⟩ (Nat.ne_of_lt (Heap.lt_size (Heap.get?_push_of_some _ h1))) (Heap.get?_push_size _ rfl) rfl (by first | (simp; done) | (simp; omega) | (simp only [Array.size_append]; simp; omega)) ?_
  refine hE _ _ (fun b o e => ?_) ⟨_, Heap.get?_update_self _ (Heap.get?_push_size _ rfl) rfl, rfl⟩
  rw [Heap.get?_update_other _ _ (Nat.ne_of_gt (Heap.lt_size (Heap.get?_push_of_some _ e)))]
  exact Heap.get?_push_of_some _ (Heap.get?_push_of_some _ e)
theorem hz_ne {x1 it : Addr} {o : Obj} {h : Heap} {a b : Value} (hot : HotAt A x1 h) (ho : h.get? it = some o) (hd : o.data = .fields #[a, b]) : x1 ≠ it := fun z => by
  obtain ⟨hh, o1, vs1, h1, d1, c1⟩ := hot
  rw [z, ho] at h1
  cases h1
  rw [hd] at d1
  cases d1
  simp at c1
theorem hz_list_end {it l x1 : Addr} {i : Nat} {items : Array Value} {Q : Option Value → Shared → Prop} (hot : HotAt A x1 s.heap) (hit : s.heap.IsListIter it l i) (hl : s.heap.IsList l items) (hx : items[i]? = none)
    (hQ : ∀ h', Heap.ExtBut it s.heap h' → Q none { s with heap := h' }) : wpAny (model prog w) A (pyNext (.ref it)) Q E s := by
  obtain ⟨o, ho, hc, hd⟩ := id hit
  obtain ⟨ol, hol, _, nl, hdl⟩ := hl
  have hne : x1 ≠ it := hz_ne hot ho hd
  unfold pyNext
  refine wpAny_bind (wpAny_attempt (wpAny_callSpecial?_slot (name := Str.ofString "__next__") hit.typeIs slot_listiter_next
    (wpAny_call_entry slot_listiter_next hit.typeIs entry_listiter_next ?_ (args_listiter_next _))))
  show wpAny _ _ (field (.ref it) 0 >>= _) _ _ s
  refine wpAny_bind (wpAny_field ho hd (x := .ref l) rfl ?_)
  show wpAny _ _ (if (Value.ref l == Value.none) = true then _ else _) _ _ s
  rw [if_neg (show ¬ ((Value.ref l == Value.none) = true) from Bool.false_ne_true)]
  show wpAny _ _ (field (.ref it) 1 >>= _) _ _ s
  refine wpAny_bind (wpAny_field ho hd (x := .int i 0) rfl ?_)
  show wpAny _ _ (seqItems? (.ref l) >>= _) _ _ s
  refine wpAny_bind (wpAny_seqItems hol hdl ?_)
  simp only [Int.toNat_natCast, hx]
  refine wpAny_bind (wpAny_rule (wpAny_bind (wpAny_setField ho hd (by simp) ?_)))
  obtain ⟨hh, o1, vs1, h1, d1, c1⟩ := hot
  refine hz_stop (x1 := x1) ⟨hh, o1, vs1, by rw [Heap.get?_update_other _ _ (Ne.symm hne)]; exact h1, d1, c1⟩ fun e h' k ⟨oe, he, hce⟩ => ?_
  refine wpAny_bind (wpAny_isInstance (T := "StopIteration") (b := true) ⟨oe, he, hce⟩ isSubtype_stop ?_)
  exact wpAny_pure (hQ _ fun b o hb e => k b o (by rw [Heap.get?_update_other _ _ (Ne.symm hb)]; exact e))
theorem hz_tuple_end {it t x1 : Addr} {i : Nat} {items : Array Value} {Q : Option Value → Shared → Prop} (hot : HotAt A x1 s.heap) (hit : s.heap.IsTupleIter it t i) (ht : s.heap.IsTuple t items) (hx : items[i]? = none)
    (hQ : ∀ h', Heap.ExtBut it s.heap h' → Q none { s with heap := h' }) : wpAny (model prog w) A (pyNext (.ref it)) Q E s := by
  obtain ⟨o, ho, hc, hd⟩ := id hit
  obtain ⟨ol, hol, _, nl, hdl⟩ := ht
  have hne : x1 ≠ it := hz_ne hot ho hd
  unfold pyNext
  refine wpAny_bind (wpAny_attempt (wpAny_callSpecial?_slot (name := Str.ofString "__next__") hit.typeIs F.slot_tuple_iterator_next
    (wpAny_call_entry F.slot_tuple_iterator_next hit.typeIs F.entry_tuple_iterator_next ?_ (F.args_tuple_iterator_next_1 _))))
  show wpAny _ _ (field (.ref it) 0 >>= _) _ _ s
  refine wpAny_bind (wpAny_field ho hd (x := .ref t) rfl ?_)
  show wpAny _ _ (if (Value.ref t == Value.none) = true then _ else _) _ _ s
  rw [if_neg (show ¬ ((Value.ref t == Value.none) = true) from Bool.false_ne_true)]
  show wpAny _ _ (field (.ref it) 1 >>= _) _ _ s
  refine wpAny_bind (wpAny_field ho hd (x := .int i 0) rfl ?_)
  show wpAny _ _ (seqItems? (.ref t) >>= _) _ _ s
  refine wpAny_bind (wpAny_seqItems hol hdl ?_)
  simp only [Int.toNat_natCast, hx]
  refine wpAny_bind (wpAny_rule (wpAny_bind (wpAny_setField ho hd (by simp) ?_)))
  obtain ⟨hh, o1, vs1, h1, d1, c1⟩ := hot
  refine hz_stop (x1 := x1) ⟨hh, o1, vs1, by rw [Heap.get?_update_other _ _ (Ne.symm hne)]; exact h1, d1, c1⟩ fun e h' k ⟨oe, he, hce⟩ => ?_
  refine wpAny_bind (wpAny_isInstance (T := "StopIteration") (b := true) ⟨oe, he, hce⟩ isSubtype_stop ?_)
  exact wpAny_pure (hQ _ fun b o hb e => k b o (by rw [Heap.get?_update_other _ _ (Ne.symm hb)]; exact e))
end
end PySem

namespace PySem
open HotX PyProof.Rows
section
variable {prog : Program} {w : World} {A : Around} {E : Value → Shared → Prop} {s : Shared}
theorem hz_same {x1 it : Addr} {h h' : Heap} (hot : HotAt A x1 h) (hne : x1 ≠ it) (k : ∀ b o, b ≠ it → h.get? b = some o → h'.get? b = some o) : HotAt A x1 h' := by
  obtain ⟨hh, o1, vs1, h1, d1, c1⟩ := hot
  exact ⟨hh, o1, vs1, k _ _ hne h1, d1, c1⟩
theorem hz_unpack {t x1 : Addr} {items : Array Value} {Q : List Value → Shared → Prop} (hot : HotAt A x1 s.heap) (ht : IsTup s.heap t items)
    (hQ : ∀ h', Heap.ExtBut s.heap.objs.size s.heap h' → Q items.toList { s with heap := h' }) : wpAny (model prog w) A (unpackItems (.ref t) items.size none) Q E s := by
  have hlt : t ≠ s.heap.objs.size := by obtain ⟨o, ho, _⟩ := ht; exact Nat.ne_of_lt (Heap.lt_size ho)
  have hx : x1 ≠ s.heap.objs.size := by obtain ⟨_, o, _, ho, _⟩ := hot; exact Nat.ne_of_lt (Heap.lt_size ho)
  unfold unpackItems
  refine wpAny_bind ?_
  · unfold notIterableAtAll
    refine wpAny_bind (wpAny_specialOf ht.typeIs slot_tuple_iter.lookup ?_)
    refine wpAny_pure ?_
    simp only [Bool.false_eq_true, if_false]
    refine wpAny_bind (wpAny_holding (iter_tuple ht ?_))
    refine wpAny_bind (wpAny_holding (draw_tuple hlt items.size 0 _ _ ⟨_, Heap.get?_push_size _ rfl, rfl, rfl⟩ (ht.push _) (by omega) fun h₁ hit₁ hs₁ => ?_))
    have hall : List.take items.size (List.drop 0 items.toList) = items.toList := by
      rw [List.drop_zero]; exact List.take_of_length_le (by simp)
    rw [hall]
    rw [if_neg (by simp)]
    have ht₁ : IsTup h₁ t items := (ht.push _).extBut hs₁.extBut hlt
    have hot1 : HotAt A x1 h₁ := hz_same hot hx fun b o hb e => hs₁.extBut b o hb (Heap.get?_push_of_some _ e)
    refine wpAny_bind (wpAny_holding (hz_tuple_end hot1 (show h₁.IsTupleIter _ t _ from hit₁) (show h₁.IsTuple t items from ht₁) (by simp) fun h₂ he₂ => ?_))
    simp only [Option.isSome_none, Bool.false_eq_true, if_false]
    refine wpAny_pure (hQ h₂ fun b o hb e => he₂ b o hb (hs₁.extBut b o hb (Heap.get?_push_of_some _ e)))
theorem hz_assign {env : Env} {elts : List Expr} {k} {pos : Pos} {t x1 : Addr} {items : Array Value} {Q : Unit → Shared → Prop} (hot : HotAt A x1 s.heap) (ht : IsTup s.heap t items)
    (hn : (assignEach elts env).length = items.size) (hstar : (assignEach elts env).findIdx? (·.1) = none)
    (h : ∀ h', Heap.ExtBut s.heap.objs.size s.heap h' → wpAny (model prog w) A (assignInOrder ((assignEach elts env).map (·.2)) items.toList) Q E { s with heap := h' }) :
    wpAny (model prog w) A (assign (.Tuple elts k pos) env (.ref t)) Q E s := by
  rw [assign_Tuple]
  refine wpAny_bind (wpAny_standAt ?_)
  unfold unpack
  rw [hn, hstar]
  exact wpAny_bind (wpAny_holding (hz_unpack hot ht h))
end
end PySem
namespace Pi
open PySem PySem.Spec L2 HotX
/-- wherever this context stands, the handled exception is there -/
def HotI (X : Cx) : Prop := ∀ (pins : List (Addr × Obj)) (σ : SL) (H : Hp) (s : Shared), Inv X pins σ H s → ∃ x1, HotAt X.A x1 s.heap
theorem pg_tupH {X : Cx} {es : List Expr} {k : Nat} {t : TGs} {n : Nat} {pos : Pos} (hot : HotI X) (h : PGs X es t) (hn : (assignEach es X.env).length = n) (hst : (assignEach es X.env).findIdx? (·.1) = none) : PG X (.Tuple es k pos) (gTup X.K n t) := by
  refine ⟨fun pins s σ H v u Q I r hw => ?_⟩
  obtain ⟨a, xs, e1, hq, hl, hw⟩ := hw
  subst e1
  cases r
  obtain ⟨its, rv, ht, hz⟩ := I.tuple hq
  obtain ⟨x1, hx⟩ := hot pins σ H s I
  refine hz_assign hx ht (by simp [hn, ← hl, rv.length]) hst fun h' hx => ?_
  have I1 : Inv X pins σ H { s with heap := h' } := I.kept (t' := s.toks) fun b o e => hx b o (Nat.ne_of_lt (Heap.lt_size e)) e
  exact h.run pins _ σ H xs _ Q I1 (by simpa using rv) hw
/-- a comprehension over a list, within a suite -/
def tLcL (K : PySem.W.Frag) (ti : TE) (g : TG) (tt : TT) (te : TE) (vs : List Nat) : TE := tLc (fun σ H R => ti σ H fun x H1 => ∃ a, x = .ref a ∧ (∃ xs, SqL K H1 a xs) ∧ R (Itl K a) H1) g tt te vs
open PyProof.Rows in
theorem pe_lcH {X : Cx} {elt tg iter : Expr} {ifs : List Expr} {scope : Scope} {own : List (Str × Nat)} {pos : Pos} {ti : TE} {g : TG} {tt : TT} {te : TE}
    (hot : L2H.HotC X) (hN : X.N.Nodup) (hi : PE X iter ti) (ok : BlkOk X.N X.env.scope scope own)
    (hg : ∀ (s : Shared) (H : Hp) (C : Addr) (cl : List (Str × Addr)) (fp : List Addr), HotI (X.blk s H scope (compEnvC scope cl C X.env) fp) → PG (X.blk s H scope (compEnvC scope cl C X.env) fp) tg g)
    (ht : ∀ (s : Shared) (H : Hp) (C : Addr) (cl : List (Str × Addr)) (fp : List Addr), HotI (X.blk s H scope (compEnvC scope cl C X.env) fp) → PTs (X.blk s H scope (compEnvC scope cl C X.env) fp) ifs tt)
    (he : ∀ (s : Shared) (H : Hp) (C : Addr) (cl : List (Str × Addr)) (fp : List Addr), HotI (X.blk s H scope (compEnvC scope cl C X.env) fp) → PE (X.blk s H scope (compEnvC scope cl C X.env) fp) elt te) (hs : ∀ x, foldedSetIterable iter X.env x = pure x) :
    PE X (.ListComp elt [⟨tg, iter, ifs, 0⟩] scope pos) (tLcL X.K ti g tt te (own.map (·.2))) := by
  refine ⟨fun pins s σ H Q I h => ?_⟩
  rw [eval_ListComp]
  have hfree : ∀ y ∈ scope.names, y.2 = .free → ∃ c, X.env.cells.lookup y.1 = some c := fun y hy e => by
    rcases ok.free y hy e with k | k
    · exact I.ok.has _ (.inl k)
    · exact I.ok.has _ (.inr k)
  refine wpAny_comprehension_free (use := none) rfl hs (closure_ok hfree) ok.kind (fun y hy e => by rw [ok.uniq y hy, e])
    (thn (hi.run pins s σ H _ I h) fun xv s1 ⟨x, H1, I1, r1, q1⟩ => ?_)
  obtain ⟨a, ex, ⟨xs, hq⟩, q⟩ := q1
  subst ex
  cases r1
  obtain ⟨its, rv, pl, hz⟩ := I1.list hq
  refine wpAny_pyIter_list pl.isList ?_
  generalize hit : s1.heap.objs.size = it
  generalize hs2 : ({ s1 with heap := s1.heap.push { cls := .type "list_iterator", data := .fields #[.ref a, .int 0 0] } } : Shared) = s2
  have I2 : Inv X pins σ H1 s2 := by rw [← hs2]; exact I1.kept (t' := s1.toks) fun b o e => Heap.get?_push_of_some _ e
  have st2 : s2.heap.IsListIter it a 0 := by rw [← hs2, ← hit]; exact ⟨_, Heap.get?_push_size _ rfl, rfl, rfl⟩
  have f2 : FpOk X pins H1 it := by rw [← hit]; exact I1.fpOk (Nat.le_refl _) (I1.hok.fresh (Nat.le_refl _))
  refine wpAny_newObj_type (newEnv_comp ?_) (by show 0 ≤ sizeLine; decide)
  generalize hD : s2.heap.objs.size = D
  have hDn : H1 D = none := I2.hok.fresh (Nat.le_of_eq hD)
  obtain ⟨W, ⟨m0, w0⟩, turn⟩ := q D hDn
  generalize hs3 : ({ s2 with heap := s2.heap.push { cls := .type "list", data := .seq ([] : List Value).toArray } } : Shared) = s3
  have I3 : Inv X pins σ (upd H1 D (.lst [])) s3 := by
    rw [← hs3]
    refine I2.laid (t' := s2.toks) (fun b o e => Heap.get?_push_of_some _ e) (Nat.le_of_eq hD) ⟨Nat.zero_le _, [], 0, .nil, ?_⟩
    rw [← hD]
    exact Heap.get?_push_size _ rfl
  have h3 : s3.heap = s2.heap.push { cls := .type "list", data := .seq ([] : List Value).toArray } := by rw [← hs3]
  have lit : it < s2.heap.objs.size := by obtain ⟨o, e, _⟩ := st2; exact Heap.lt_size e
  have f3 : ∀ b ∈ [it], FpOk X pins (upd H1 D (.lst [])) b ∧ b < s3.heap.objs.size := fun b hb => by
    obtain rfl : b = it := by simpa using hb
    refine ⟨⟨?_, f2.2⟩, by rw [h3, Heap.size_push]; exact Nat.lt_succ_of_lt lit⟩
    rw [upd_ne (by rw [← hD]; exact Nat.ne_of_lt lit)]
    exact f2.1
  have st3 : s3.heap.IsListIter it a 0 := st2.at fun o e => by rw [h3]; exact Heap.get?_push_of_some _ e
  have I4 := block_start I3 ok hN f3
  -- the handled exception, as it stands ahead of the block
  obtain ⟨p, ⟨hh, v1, e1, c1⟩, hp⟩ := hot
  have P3 := I3.pin p (List.mem_append_left _ hp)
  have blkHot : ∀ (ce : PySem.Env), HotI (X.blk s3 (upd H1 D (.lst [])) scope ce [it]) := fun ce pins' σ' H' s' I' => by
    have kp : s'.heap.get? p.1 = some p.2 := I'.base.keep p.1 p.2 P3.1 P3.2.1 (fun hm => (List.mem_cons.mp (I3.stkSub p.1 hm)).elim P3.2.2.1 P3.2.2.2.1) (fun z => by
      have z : p.1 ∈ [it] := z
      exact (f3 it (by simp)).1.2.2.2.2.2 p (List.mem_append_left _ hp) (by simpa using z))
    exact ⟨p.1, hh, p.2, v1, kp, e1, c1⟩
  have pg := hg s3 (upd H1 D (.lst [])) s3.heap.objs.size (cellsFrom (s3.heap.objs.size + 1) scope.names (cloFrom X.env.cells scope.names [])) [it] (blkHot _)
  have pt := ht s3 (upd H1 D (.lst [])) s3.heap.objs.size (cellsFrom (s3.heap.objs.size + 1) scope.names (cloFrom X.env.cells scope.names [])) [it] (blkHot _)
  have pe := he s3 (upd H1 D (.lst [])) s3.heap.objs.size (cellsFrom (s3.heap.objs.size + 1) scope.names (cloFrom X.env.cells scope.names [])) [it] (blkHot _)
  have bh := blkHot (compEnvC scope (cellsFrom (s3.heap.objs.size + 1) scope.names (cloFrom X.env.cells scope.names [])) s3.heap.objs.size X.env)
  show codeAny _ _ (.compStart (.ListComp elt [⟨tg, iter, ifs, 0⟩] scope pos) 0 (.ref it) (.ref D) (compEnvC scope (cellsFrom (s3.heap.objs.size + 1) scope.names (cloFrom X.env.cells scope.names [])) s3.heap.objs.size X.env)) (compPost (model X.prog X.w) X.A X.xe none (EP X pins σ Q) (.ref D) s3.heap.objs.size) { s3 with heap := pushCells (s3.heap.push { cls := .type "dict", data := .dict #[] }) scope.names }
  generalize hce : compEnvC scope (cellsFrom (s3.heap.objs.size + 1) scope.names (cloFrom X.env.cells scope.names [])) s3.heap.objs.size X.env = ce at I4 pg pt pe bh ⊢
  have cL : ce.locals = s3.heap.objs.size := by subst hce; rfl
  have nfp : (upd H1 D (.lst [])) it = none := (f3 it (by simp)).1.1
  generalize hH3 : upd H1 D (.lst []) = H3 at I3 I4 pg pt pe bh w0 nfp f3
  generalize hs4 : ({ s3 with heap := pushCells (s3.heap.push { cls := .type "dict", data := .dict #[] }) scope.names } : Shared) = s4 at I4 ⊢
  have st4 : s4.heap.IsListIter it a 0 := st3.at fun o e => by rw [← hs4]; exact pushCells_keeps _ _ _ _ (Heap.get?_push_of_some _ e)
  have stat : ∀ {σ' : SL} {H' : Hp} {s' : Shared}, Inv (X.blk s3 H3 scope ce [it]) [] σ' H' s' → H' it = none → FpOk (X.blk s3 H3 scope ce [it]) [] H' it := fun {σ' H' s'} I' hn =>
    ⟨hn, (I'.ok.exf it (by simp)).1, I'.ok.exfs it (by simp), .inl (by simp), fun x c e => (I'.ok.exf it (by simp)).2 x c e, fun p hp => absurd (show p ∈ ([] : List (Addr × Obj)) ++ [] from hp) (by simp)⟩
  have loop : codeAny (model X.prog X.w) X.A (.compLoop (.ListComp elt [⟨tg, iter, ifs, 0⟩] scope pos) 0 (.ref it) (.ref D) ce) (compPost (model X.prog X.w) X.A X.xe none (EP X pins σ Q) (.ref D) s3.heap.objs.size) s4 := by
    refine compLoop_any (fun n s' => ∃ i H', Inv (X.blk s3 H3 scope ce [it]) [] (wipe σ (own.map (·.2))) H' s' ∧ s'.heap.IsListIter it a i ∧ H' it = none ∧ W i n H') ?_ m0 ⟨0, H3, I4, st4, nfp, w0⟩
    rintro n s5 ⟨i, H5, I5, st5, n5, w5⟩
    obtain ⟨g0, g1, g2, g3, g4, g5⟩ := stat I5 n5
    rcases turn i n H5 w5 with ⟨stop, qq⟩ | ⟨go, Nx, hNx, step⟩
    · obtain ⟨ys, hy, hly⟩ := stop
      obtain ⟨its5, rv5, p5, _⟩ := I5.list hy
      have l5 := rv5.length
      obtain ⟨x1, hx1⟩ := bh _ _ _ _ I5
      refine hz_list_end hx1 st5 p5.isList (by simp; omega) fun h' eb => ?_
      have I6 : Inv (X.blk s3 H3 scope ce [it]) [] (wipe σ (own.map (·.2))) H5 { s5 with heap := h' } := I5.turned (t' := s5.toks) (fun b o hb e => eb b o hb e) g0 g1 g3 g4 g5
      have I7 : Inv X pins σ H5 { s5 with heap := h' } := I3.call' (ch := [it]) I6.os I6.base I6.hok I6.bare fun b hb => ⟨(f3 b hb).1.2.2.2.1, (f3 b hb).1.2.1, (f3 b hb).1.2.2.2.2.1, (f3 b hb).1.2.2.2.2.2⟩
      have nC : H5 s3.heap.objs.size = none := by
        have z : H5 ce.locals = none := I6.free
        rw [cL] at z
        exact z
      obtain ⟨m, hn, _⟩ := I6.loc
      have hn : h'.Ns ce.locals m := hn
      rw [cL] at hn
      obtain ⟨k0, k1, k2, k3, k4, k5⟩ := I3.fpOk (Nat.le_refl _) nC
      refine ⟨m, hn, fun h'' sb => ?_⟩
      exact ⟨.ref D, H5, I7.turned (t' := s5.toks) (fun b o hb e => (sb.2 b hb).trans e) k0 k1 k3 k4 k5, rfl, qq⟩
    · obtain ⟨ys, y, hy, hyi⟩ := go
      obtain ⟨its5, rv5, p5, _⟩ := I5.list hy
      obtain ⟨u, hu, ru⟩ := rv5.get hyi
      refine wpAny_pyNext_list_item st5 p5.isList (x := u) (by simpa using hu) fun h' st' sb => ?_
      have I7 : Inv (X.blk s3 H3 scope ce [it]) [] (wipe σ (own.map (·.2))) H5 { s5 with heap := h' } := I5.turned (t' := s5.toks) (fun b o hb e => (sb.2 b hb).trans e) g0 g1 g3 g4 g5
      obtain ⟨oi, ei, ci, di⟩ := id st'
      refine go_of (s := { s5 with heap := h' }) ei ci di (by decide) ?_
      have I7' := I7.pinned (fp := [it]) (fun b hb => by
        obtain rfl : b = it := by simpa using hb
        exact stat I7 n5) (fun b hb => by
        obtain rfl : b = it := by simpa using hb
        exact ⟨oi, ei, fun v z => by rw [di] at z; cases z⟩)
      refine thnF (pg.run _ _ _ H5 y u _ I7' ru (step y H5 ⟨rfl, fun zs hz => by rw [I5.list_inj hz hy]; exact hyi⟩)) fun _ s8 ⟨σ8, H8, I8, hw8, q8⟩ => ?_
      refine thnF (pt.run _ s8 σ8 H8 _ I8 q8) fun b s9 ⟨H9, I9, q9⟩ => ?_
      have fin : ∀ {s' : Shared} {H' : Hp}, Inv (X.blk s3 H3 scope ce [it]) ([] ++ pinsAt [it] h') σ8 H' s' → Nx H' → ∃ m, m < n ∧ ∃ i H', Inv (X.blk s3 H3 scope ce [it]) [] (wipe σ (own.map (·.2))) H' s' ∧ s'.heap.IsListIter it a i ∧ H' it = none ∧ W i m H' := fun {s' H'} I' nx => by
        obtain ⟨m', hm, w'⟩ := hNx H' nx
        have z := I'.pin (it, oi) (List.mem_append_right _ (List.mem_append_right _ (mem_pinsAt (by simp) ei)))
        have hl : (wipe σ (own.map (·.2))).length = σ8.length := by rw [← hw8, wipe_length]
        refine ⟨m', hm, i + 1, H', (I'.unpinned (pins := [])).weak hl (fun j v e => ?_), ⟨oi, z.1, ci, di⟩, z.2.1, w'⟩
        rw [← hw8] at e
        exact (wipe_some e).1
      cases b with
      | false =>
        simp only [Bool.false_eq_true, if_false] at q9 ⊢
        exact fin I9 q9
      | true =>
        simp only [if_true] at q9 ⊢
        refine thnF (pe.run _ s9 σ8 H9 _ I9 q9) fun z s10 ⟨yv, H10, I10, r10, acc, hD10, hz10, nx⟩ => ?_
        exact app_ok (X := X.blk s3 H3 scope ce [it]) I10 hD10 hz10 r10 fun s11 I11 => fin I11 nx
  exact codeAny_compStart_list loop (wpAny_pyIter_listiter st4 loop)
end Pi

set_option maxRecDepth 100000
set_option maxHeartbeats 4000000
/-! Pi3: a lambda is made; a local name without arguments is called; the lambda runs (exceptions with context None). -/
namespace Pi
open PySem PySem.Spec L2
open PyProof.Rows

/-- all but tables stay -/
structure Stays (F : Fx) (H H' : Hp) : Prop where
  kp : ∀ b o, H b = some o → ¬ isTbl o → H' b = some o
  th : ∀ b, H b ≠ none → H' b ≠ none
  tb : LamX.Tabs F.T H'
theorem Stays.refl {F : Fx} {H : Hp} (t : LamX.Tabs F.T H) : Stays F H H := ⟨fun _ _ e _ => e, fun _ e => e, t⟩
/-- the maker of lambdas: its code object and that one's table -/
structure LamAt (X : Cx) (F : Fx) : Prop where
  ex : ∃ c P, X.env.code = .ref c ∧ LamX.TabB X.base X.mg c P ∧ (P, X.env.qual ++ "<lambda>") ∈ F.T ∧ ∀ p ∈ F.T, p.1 = P → p.2 = X.env.qual ++ "<lambda>"

/-! ### the known heap with one more code object -/
section
variable {F : Fx} {H : Hp} {P c : Addr} {q : Str} {old new : Array Value}
def coded (H : Hp) (P c : Addr) (q : Str) (new : Array Value) : Hp := upd (upd H P (.tbl new)) c (LamX.CodeO c q)
theorem coded_tbl (h : P ≠ c) : coded H P c q new P = some (.tbl new) := (upd_ne h).trans upd_same
theorem coded_else {b : Addr} (h : b ≠ P) (h2 : b ≠ c) : coded H P c q new b = H b := (upd_ne h2).trans (upd_ne h)
theorem coded_stays (hT : LamX.Tabs F.T H) (hP : H P = some (.tbl old)) (hc : H c = none) (hq : ∀ p ∈ F.T, p.1 = P → p.2 = q) (ht : TriplesOk new.toList)
    (hn : ∀ (at' : Pos) (cv : Value), codeAmong at' new.toList = some cv → codeAmong at' old.toList = some cv ∨ cv = .ref c) : Stays F H (coded H P c q new) := by
  have apart : P ≠ c := fun z => by rw [z, hc] at hP; cases hP
  have known : ∀ b, H b ≠ none → b ≠ c := fun b h z => h (by rw [z]; exact hc)
  have same : ∀ b o, H b = some o → ¬ isTbl o → coded H P c q new b = some o := by
    intro b o e hb
    rw [coded_else (fun z => ?_) (known b (by rw [e]; simp)), e]
    rw [z, hP] at e
    cases e
    exact hb trivial
  have code : ∀ a w, H a = some (LamX.CodeO a w) → coded H P c q new a = some (LamX.CodeO a w) := fun a w e => same a _ e (by unfold LamX.CodeO isTbl; exact id)
  refine ⟨same, fun b hb => ?_, fun p hp => ?_⟩
  · by_cases z : b = P
    · rw [z, coded_tbl apart]; simp
    · rw [coded_else z (known b hb)]; exact hb
  · obtain ⟨ps, e, tr, all⟩ := hT p hp
    by_cases z : p.1 = P
    · refine ⟨new, by rw [z]; exact coded_tbl apart, ht, fun at' cv f => ?_⟩
      rw [z, hP] at e
      cases e
      rcases hn at' cv f with g | rfl
      · obtain ⟨a, e1, e2⟩ := all at' cv g
        exact ⟨a, e1, code a _ e2⟩
      · exact ⟨c, rfl, by rw [hq p hp z]; exact upd_same⟩
    · refine ⟨ps, by rw [coded_else z (known _ (by rw [e]; simp))]; exact e, tr, fun at' cv f => ?_⟩
      obtain ⟨a, e1, e2⟩ := all at' cv f
      exact ⟨a, e1, code a _ e2⟩
end
/-! ### a lambda is made -/
theorem new_apart {X : Cx} {pins : List (Addr × Obj)} {σ : SL} {H : Hp} {s : Shared} (I : Inv X pins σ H s) {g : Addr} (hg : s.heap.objs.size ≤ g) : g ∉ frs X.stack := by
  intro z
  rcases List.mem_cons.mp (I.stkSub g z) with rfl | z
  · exact absurd I.lt (Nat.not_lt.mpr hg)
  · exact I.nofs hg z
/-- the object of a lambda -/
abbrev lamObj (X : Cx) (params : Arguments) (body : Expr) (scope : Scope) (pm : Value) (c' : Addr) (ctv : Value) : Obj := PySem.W.kla_obj "<lambda>" (X.env.qual ++ "<lambda>") params body scope (cloFrom X.env.cells scope.names []) pm c' ctv
theorem lam_new {X : Cx} {F : Fx} {pins : List (Addr × Obj)} {σ : SL} {H : Hp} {s : Shared} {params : Arguments} {body : Expr} {scope : Scope} {pos : Pos} {E Q : Value → Shared → Prop}
    (I : Inv X pins σ H s) (la : LamAt X F) (hT : LamX.Tabs F.T H) (hdef : defaultsOf params X.env = ([], [])) (L : LamX.LamS X.env.scope scope)
    (then_ : ∀ (g c' : Addr) (pm ctv : Value) (H1 : Hp) (s' : Shared), Inv X pins σ H1 s' → Stays F H H1 → s'.heap.get? g = some (lamObj X params body scope pm c' ctv) → H1 g = none → g ∉ frs X.stack → H1 c' = some (LamX.CodeO c' (X.env.qual ++ "<lambda>")) → Q (.ref g) s') :
    wpAny (model X.prog X.w) X.A (eval (.Lambda params body scope pos) X.env) Q E s := by
  obtain ⟨c, P, code, B, inT, only⟩ := la.ex
  obtain ⟨ps, e, tr, all⟩ := hT _ inT
  have atP := I.hok P _ e
  have free := closure_ok (env := X.env) (L.has I.ok)
  have globs := I.mod.glob.keeps I.bk
  apply PySem.W.kla_eval hdef
  rcases f : codeAmong pos ps.toList with _ | cv
  · refine PySem.W.kla_makeFunction free I.ok.glob globs code (B.code.keeps I.bk) atP tr f B.gP (B.bm.keeps I.bk) ?_
    intro c' ctv h' tk grown low high ⟨_, oc, vs, t, e2, isObj, isFields, named⟩ table
    cases e2
    have unknown : H c' = none := I.hok.fresh low
    have J := LamX.inv_table (t' := tk) (q := X.env.qual ++ "<lambda>") (h' := h'.push (lamObj X params body scope ((X.mg "__name__").getD .none) c' ctv)) I e
      (fun b o ne at_ => Heap.get?_push_of_some _ (grown b o ne at_)) (Heap.get?_push_of_some _ table) low ⟨oc, vs, t, Heap.get?_push_of_some _ isObj, isFields, named⟩
    have list : (ps ++ #[rawInt pos.line, rawInt pos.col, Value.ref c']).toList = ps.toList ++ [rawInt pos.line, rawInt pos.col, .ref c'] := Array.toList_append
    have stays : Stays F H (coded H P c' (X.env.qual ++ "<lambda>") (ps ++ #[rawInt pos.line, rawInt pos.col, .ref c'])) :=
      coded_stays hT e unknown only (by rw [list]; exact PySem.TriplesOk_snoc _ _ _ _ tr) fun at' cv h => LamX.among_app _ tr (by rw [list] at h; exact h)
    have size : s.heap.objs.size ≤ h'.objs.size := by omega
    refine then_ _ c' _ ctv _ _ J stays (Heap.get?_push_size _ rfl) ?_ (new_apart I size) upd_same
    exact (coded_else (Nat.ne_of_gt (Nat.lt_of_lt_of_le (Heap.lt_size atP) size)) (Nat.ne_of_gt high)).trans (I.hok.fresh size)
  · obtain ⟨c', rfl, known⟩ := all pos cv f
    refine PySem.W.kla_makeFunctionHit free I.ok.glob globs code (B.code.keeps I.bk) atP tr f (B.bm.keeps I.bk) ?_
    intro ctv h' tk grown size
    exact then_ _ c' _ ctv H _ (I.kept fun b o at_ => Heap.get?_push_of_some _ (grown b o at_)) (Stays.refl hT) (Heap.get?_push_size _ rfl) (I.hok.fresh size) (new_apart I size) known
/-! ### the lambda runs -/
/-- the context of its body: the hand layer's, but for what is asked of an exception -/
abbrev lamBody (X : Cx) (A : Around) (outer : List PySem.Env) (s : Shared) (H : Hp) (E : XK) (scope : Scope) (g c' : Addr) : Cx := (LamX.lamCx X A outer s H E scope g c').wish fun e s' =>
  wpAny (model X.prog X.w) (A.deeper (LamX.lamEnv X scope s.heap.objs.size g c')) (leaving (LamX.lamEnv X scope s.heap.objs.size g c') e) (fun _ t => L2N.CX X.prog X.w outer H s E e t) (fun e' t => L2N.CX X.prog X.w outer H s E e' t) s'
/-- from any frames: X made it at H, s; it is called at H1, s1 -/
theorem lam_runs {X : Cx} {pins : List (Addr × Obj)} {σ : SL} {H H1 : Hp} {s s1 : Shared} {A : Around} {outer : List PySem.Env} {E : XK} {Q : VK} {g c' : Addr} {pm ctv : Value} {params : Arguments} {body : Expr} {scope : Scope} {k : Nat} {tb : TE}
    (I : Inv X pins σ H s) (L : LamX.LamS X.env.scope scope) (isLam : s1.heap.get? g = some (lamObj X params body scope pm c' ctv))
    (noArgs : bindArgs (PySem.W.kla_fn "<lambda>" (X.env.qual ++ "<lambda>") params body scope (cloFrom X.env.cells scope.names []) pm (.ref c') ctv) ⟨[], []⟩ = pure [])
    (room : Room (k + 1) A) (e0 : Env0 X.prog X.w X.K X.mg X.base A outer s1 H1) (since : Un (frs X.stack) [] H H1 s.heap s1.heap) (lim : s1.heap.NoLimit)
    (known : H1 c' = some (LamX.CodeO c' (X.env.qual ++ "<lambda>"))) (does : Room k (A.deeper (LamX.lamEnv X scope s1.heap.objs.size g c')) → PE (lamBody X A outer s1 H1 E scope g c') body tb) (pre : tb σ H1 Q) :
    codeAny (model X.prog X.w) A (.call (.ref g) ⟨[], []⟩) (CR (L2N.CX X.prog X.w) outer X.prog X.w H1 s1 Q E) s1 := by
  have ⟨⟨oc, vs, t, a1, a2, a3⟩, _, _⟩ := e0.hok c' _ known
  apply PySem.W.kla_callFunE room.depth isLam rfl L.co L.gen rfl ⟨c', oc, vs, t, rfl, a1, a2, a3⟩
  rw [noArgs]
  apply wpAny_pure
  apply wpAny_newFunctionEnv (fun y hy => (L.own y hy).2) (fun y hy => by cases hy) _ L.kind
  intro h2 names but
  have grown : ∀ b o, s1.heap.get? b = some o → h2.get? b = some o := fun b o e => but.extBut b o (fun z => absurd (Heap.lt_size e) (by rw [z]; exact Nat.lt_irrefl _)) (Heap.get?_push_of_some _ e)
  have J := (LamX.lam_start2 (E := E) (scope := scope) (f := g) (c' := c') (tk := s1.toks + ([] : List (Str × Value)).length) I L e0 room.hd since names grown).wish (fun e s' =>
    wpAny (model X.prog X.w) (A.deeper (LamX.lamEnv X scope s1.heap.objs.size g c')) (leaving (LamX.lamEnv X scope s1.heap.objs.size g c') e) (fun _ t => L2N.CX X.prog X.w outer H1 s1 E e t) (fun e' t => L2N.CX X.prog X.w outer H1 s1 E e' t) s')
  refine ⟨lim.fresh _ but, PySem.W.kla_codeExpr (wpAny_mono ((does (room.deeper _)).run _ _ _ _ Q J pre) ?_ fun _ _ z => z)⟩
  intro v t ⟨w, H2, J2, r, q⟩
  exact ⟨w, H2, J2.os, J2.bare, J2.base, J2.hok, r, q⟩
/-! ### a call of what a local name holds, without arguments -/
/-- what is called may stand for itself: at a state of Z that pre tells of, its run is known -/
theorem pe_run0 {Z : Cx} {W : WX} {i : Nat} {a : Str} {p1 p2 : Pos} {g : Addr} {E : XK} {pre : TE} (tk : L2N.Takes Z W) (hW : ∀ cls d (σ : SL) H, σ.length = Z.N.length → E cls d H → W cls d σ H)
    (hN : Z.N[i]? = some a) (hv : Vis Z.env.scope a) (hd : (a == ("__debug__" : Str)) = false) (hcd : (a == ("__classdict__" : Str)) = false)
    (fn : ∀ pins σ H s Q, Inv Z pins σ H s → pre σ H Q → (∃ o dd fd sl, s.heap.get? g = some ⟨o, dd, .func fd, sl⟩) ∧ codeAny (model Z.prog Z.w) Z.A (.call (.ref g) ⟨[], []⟩) (CR (L2N.CX Z.prog Z.w) Z.stack Z.prog Z.w H s Q E) s) :
    PE Z (.Call (.Name a p1) [] [] p2) (fun σ H Q => σ[i]? = some (some (.ref g)) ∧ pre σ H Q) := ⟨by
  intro pins s σ H Q I ⟨slot, h⟩
  apply wpAny_Call_Name_kw
  have named := (pe_var (pos := p1) hN hv hd hcd).run pins s σ H (fun v H1 => v = .ref g ∧ H1 = H) I ⟨_, slot, rfl, rfl⟩
  refine thn named ?_
  rintro u s1 ⟨_, _, I1, r1, rfl, rfl⟩
  cases r1
  obtain ⟨isFn, run⟩ := fn pins σ _ s1 Q I1 h
  refine PySem.W.callWith_F0 isFn (wpAny_call (codeAny_mono run ?_))
  rintro (e | (_ | _ | _ | u)) s2 q
  · exact tk e s2 (L2N.XE.of_call I1 (fun cls d H2 x => hW cls d σ H2 I1.len x) q)
  all_goals first | exact I1.after q | exact False.elim q⟩
end Pi

set_option maxRecDepth 100000
set_option maxHeartbeats 1000000
/-! PiV: the text is held against the code: expressions. -/
namespace Pi
open PySem PySem.Spec L2

/-- what a global name tells -/
inductive GV where
  | fn (i : Nat) | cls (i : Nat) (own : Bool) | cst (d : D) | free
/-- a block's names -/
structure Sc0 where
  N : List Str
  sc : Scope
  fnB : Str → Bool
  hot : Nat := 0
  lam : Bool := false
/-- an exception class of the program without own __init__ -/
def MkOk (X : Cx) (C : Addr) : Prop := ∃ (bmB : List Value) (B newId initId : String), ExcBaseFacts B newId initId bmB ∧ PySem.W.excIn X.K C bmB newId = true ∧ PySem.W.keepIn X.K (.ref C) = true ∧ Raises X (.ref C)
/-- the lambda's parameters and names -/
def lamOk (params : Arguments) (sc scope : Scope) : Bool := (match params with
  | ⟨[], [], none, [], [], none, []⟩ => true
  | _ => false) && LamX.lamSB sc scope
/-- a call of _law_refused with a lambda keeps its reading -/
def RfdR (X : Cx) (F : Fx) (G : Gl) (call : Nat → List D → Sto → RC) (W : WX) (k : Nat) : Prop := ∀ (bw : Bool) (f : Nat) (e : C) (params : Arguments) (body : Expr) (scope : Scope) (p lpos pos : Pos), lamOk params X.env.scope scope = true → L2.Gl X "_law_refused" →
  (∀ (E : XK) (A : Around) (outer : List PySem.Env) (s : Shared) (H : Hp) (g c' : Addr), Room k (A.deeper (LamX.lamEnv X scope s.heap.objs.size g c')) → PE (lamBody X A outer s H E scope g c') body (RdE F G call (fun cls dd _ H' => E cls dd H') false e)) →
  PE X (.Call (.Name "_law_refused" p) [.Lambda params body scope lpos] [] pos) (RdE F G call W bw (.rfd f e))
structure XOk (X : Cx) (F : Fx) (G : Gl) (call : Nat → List D → Sto → RC) (tab : Str → Option GV) (S : Sc0) (W : WX) (k : Nat) : Prop where
  K : X.K = F.K
  pw : X.prog = F.P ∧ X.w = F.w
  N : X.N = S.N
  nd : S.N.Nodup
  sc : X.env.scope = S.sc
  fn : ∀ x, S.fnB x = true → X.fn x = true
  calm : S.hot = 0 → X.calm = true
  un : X.A.units + 64 < cLine
  room : S.hot = 0 → Room k X.A
  rfd : S.lam = true → RfdR X F G call W k
  xi : S.hot = 0 → ∀ i d, G.xi i d = none
  hot1 : S.hot = 1 → L2H.HotC X ∧ ∀ bw W', CallR X (.builtin "isinstance") (rMany F bw W' (bifn G .isinst))
  hot2 : S.hot = 0 ∨ HotI X
  tk : L2N.Takes X W
  po : PassesOwn (model X.prog X.w) X.A X.env X.xe
  fns : Fns X F call G k
  nca : ∀ f ds st, call f ds st ≠ .no → G.ar f = some ds.length
  glob : ∀ x g, tab x = some g → match g with
    | .fn i => X.mg x = some (.ref (F.ga i)) ∧ ∃ n, G.ar i = some n
    | .cls i own => X.mg x = some (.ref (F.ga i)) ∧ (own = true → MkOk X (F.ga i))
    | .cst d => ∃ u v, X.mg x = some u ∧ RelV v u ∧ ∀ Mu m n H, Rep F Mu m n H v d
    | .free => X.mg x = none
/-! ### names -/
def visC (sc : Scope) (x : Str) : Bool := match sc.names.lookup x with
  | some .local | some .cell | some .free => true
  | _ => false
def locC (sc : Scope) (x : Str) : Bool := match sc.names.lookup x with
  | some .local | some .cell => true
  | _ => false
def glC (sc : Scope) (x : Str) : Bool := match sc.names.lookup x with
  | some .globalImplicit => !(x == ("__debug__" : Str))
  | _ => false
def okName (x : Str) : Bool := !(x == ("__debug__" : Str)) && !(x == ("__classdict__" : Str))
def slotC (S : Sc0) (i : Nat) (x : Str) : Bool := decide (S.N[i]? = some x) && visC S.sc x && okName x
def tgtC (S : Sc0) (i : Nat) (x : Str) : Bool := decide (S.N[i]? = some x) && locC S.sc x && (S.fnB x || decide (S.sc.names.lookup x = some .local))
def freeC (tab : Str → Option GV) (S : Sc0) (x : Str) : Bool := glC S.sc x && match tab x with
  | some .free => true
  | _ => false
section
variable {X : Cx} {F : Fx} {G : Gl} {call : Nat → List D → Sto → RC} {tab : Str → Option GV} {S : Sc0} {W : WX} {k : Nat}
theorem visC_ok {sc : Scope} {x : Str} (h : visC sc x = true) : Vis sc x := by
  unfold visC at h
  split at h
  · rename_i e; exact .inl e
  · rename_i e; exact .inr (.inl e)
  · rename_i e; exact .inr (.inr e)
  · cases h
theorem locC_ok {sc : Scope} {x : Str} (h : locC sc x = true) : Loc sc x := by
  unfold locC at h
  split at h
  · rename_i e; exact .inl e
  · rename_i e; exact .inr e
  · cases h
theorem glC_ok (x : XOk X F G call tab S W k) {y : Str} (h : glC S.sc y = true) : L2.Gl X y ∧ (y == ("__debug__" : Str)) = false := by
  unfold glC at h
  split at h
  · rename_i e
    refine ⟨?_, by simpa using h⟩
    show X.env.scope.names.lookup y = _
    rw [x.sc]; exact e
  · cases h
theorem freeC_ok (x : XOk X F G call tab S W k) {y : Str} (h : freeC tab S y = true) : L2.Gl X y ∧ X.mg y = none ∧ (y == ("__debug__" : Str)) = false := by
  unfold freeC at h
  rw [Bool.and_eq_true] at h
  obtain ⟨h1, h2⟩ := h
  obtain ⟨g1, g2⟩ := glC_ok x h1
  split at h2
  · rename_i e; exact ⟨g1, x.glob _ _ e, g2⟩
  · cases h2
theorem okName_ok {x : Str} (h : okName x = true) : (x == ("__debug__" : Str)) = false ∧ (x == ("__classdict__" : Str)) = false := by
  unfold okName at h
  rw [Bool.and_eq_true, Bool.not_eq_true', Bool.not_eq_true'] at h
  exact h
theorem slotC_ok (x : XOk X F G call tab S W k) {i : Nat} {y : Str} (h : slotC S i y = true) : X.N[i]? = some y ∧ Vis X.env.scope y ∧ (y == ("__debug__" : Str)) = false ∧ (y == ("__classdict__" : Str)) = false := by
  unfold slotC at h
  rw [Bool.and_eq_true, Bool.and_eq_true, decide_eq_true_eq] at h
  refine ⟨by rw [x.N]; exact h.1.1, by rw [x.sc]; exact visC_ok h.1.2, okName_ok h.2⟩
theorem pe_slot' (x : XOk X F G call tab S W k) {i : Nat} {y : Str} {p : Pos} (h : slotC S i y = true) : PE X (.Name y p) (tVar i) := let ⟨h1, h2, h3, h4⟩ := slotC_ok x h; pe_var h1 h2 h3 h4
/-! ### targets -/
def chkNames (S : Sc0) : List Nat → List Expr → Bool
  | [], [] => true
  | i :: is, .Name x _ :: es => tgtC S i x && chkNames S is es
  | _, _ => false
def chkT (S : Sc0) : T → Expr → Bool
  | .n i, .Name x _ => tgtC S i x
  | .t is, .Tuple es _ _ => chkNames S is es
  | _, _ => false
theorem tgtC_ok (x : XOk X F G call tab S W k) {i : Nat} {y : Str} {p : Pos} (h : tgtC S i y = true) : PG X (.Name y p) (gName i) := by
  unfold tgtC at h
  rw [Bool.and_eq_true, Bool.and_eq_true, decide_eq_true_eq, Bool.or_eq_true, decide_eq_true_eq] at h
  obtain ⟨⟨h1, h2⟩, h3⟩ := h
  refine pg_name (by rw [x.N]; exact x.nd) (by rw [x.N]; exact h1) (by rw [x.sc]; exact locC_ok h2) (h3.imp (x.fn _) fun z => by rw [x.sc]; exact z)
theorem chkNames_ok (x : XOk X F G call tab S W k) : ∀ {is : List Nat} {es : List Expr}, chkNames S is es = true → PGs X es (tgs is) ∧ (assignEach es X.env).length = is.length ∧ (assignEach es X.env).findIdx? (·.1) = none
  | [], [], _ => ⟨pgs_nil, rfl, rfl⟩
  | i :: is, e :: es, h => by
    cases e with
    | Name y p =>
      have h : (tgtC S i y && chkNames S is es) = true := h
      rw [Bool.and_eq_true] at h
      obtain ⟨h1, h2, h3⟩ := chkNames_ok x h.2
      refine ⟨pgs_cons (tgtC_ok x h.1) h1, ?_, ?_⟩
      · show (assignEach es X.env).length + 1 = _
        rw [h2]; rfl
      · show List.findIdx? _ ((false, _) :: assignEach es X.env) = none
        rw [List.findIdx?_cons]
        simp [h3]
    | _ => cases h
  | [], _ :: _, h => by cases h
  | _ :: _, [], h => by cases h
theorem chkT_ok (x : XOk X F G call tab S W k) {t : T} {e : Expr} (h : chkT S t e = true) : PG X e (t.g F.K) ∧ (assignEach [e] X.env).map (·.2) = [assign e X.env] := by
  cases t with
  | n i =>
    cases e with
    | Name y p => exact ⟨tgtC_ok x h, rfl⟩
    | _ => cases h
  | t is =>
    cases e with
    | Tuple es kk p =>
      obtain ⟨h1, h2, h3⟩ := chkNames_ok x h
      refine ⟨?_, rfl⟩
      rw [show T.g F.K (.t is) = gTup X.K is.length (tgs is) by rw [x.K]; rfl]
      exact x.hot2.elim (fun h => pg_tup (x.calm h) h1 h2 h3) fun h => pg_tupH h h1 h2 h3
    | _ => cases h

/-! ### what is expected of a piece of code -/
def nit : C → Bool
  | .rng _ | .enm _ | .zp _ _ => false
  | _ => true
def needT : C → Bool
  | .enm _ | .zp _ _ => true
  | _ => false
def tupT : Expr → Bool
  | .Tuple .. => true
  | _ => false
structure Good (X : Cx) (F : Fx) (G : Gl) (call : Nat → List D → Sto → RC) (W : WX) (c : C) (e : Expr) : Prop where
  pe : nit c = true → ∀ bw, PE X e (RdE F G call W bw c)
  pt : nit c = true → PT X e (RdT F G call W c)
  pw : (∃ op vs pos, e = .BoolOp op vs pos) → nit c = true → PW X e (RdT F G call W c)
  pi : ∀ tg, (needT c = true → tupT tg = true) → PI X tg e (RdI F G call W c)
theorem good_pe {c : C} {e : Expr} (x : XOk X F G call tab S W k) (hn : nit c = true) (h : ∀ bw, PE X e (RdE F G call W bw c)) (hp : plainTest e = true) : Good X F G call W c e :=
  ⟨fun _ => h, fun _ => rt_val (h true) hp, (fun ⟨_, _, _, z⟩ _ => by rw [z] at hp; cases hp), fun tg _ => ri_seq x.K (h false)⟩
theorem good_pt {c : C} {e : Expr} (x : XOk X F G call tab S W k) (h : ∀ bw, PE X e (RdE F G call W bw c)) (ht : PT X e (RdT F G call W c)) (hw : ∀ op vs pos, e ≠ .BoolOp op vs pos) : Good X F G call W c e :=
  ⟨fun _ => h, fun _ => ht, fun ⟨_, _, _, z⟩ _ => absurd z (hw _ _ _), fun tg _ => ri_seq x.K (h false)⟩
theorem good_pw {c : C} {e : Expr} (x : XOk X F G call tab S W k) (h : ∀ bw, PE X e (RdE F G call W bw c)) (hw : PW X e (RdT F G call W c)) : Good X F G call W c e :=
  ⟨fun _ => h, fun _ => hw.pt, fun _ _ => hw, fun tg _ => ri_seq x.K (h false)⟩
/-- a if t else b, as a test -/
theorem pt_ite {c a b : Expr} {tc ta tb : TT} {pos : Pos} (hc : PT X c tc) (ha : PT X a ta) (hb : PT X b tb) : PT X (.IfExp c a b pos) (fun σ H Q => tc σ H fun k H1 => if k = true then ta σ H1 Q else tb σ H1 Q) := by
  refine ⟨fun pins s σ H Q I h => ?_⟩
  show wpAny _ _ (do if ← isTrue c X.env (eval c X.env) then isTrue a X.env (eval a X.env) else isTrue b X.env (eval b X.env)) _ _ _
  refine wpAny_bind (thn (hc.run pins s σ H _ I h) fun d s1 ⟨H1, I1, q1⟩ => ?_)
  cases d with
  | true => exact ha.run pins s1 σ H1 Q I1 q1
  | false => exact hb.run pins s1 σ H1 Q I1 q1
theorem rt_ite {c a b : C} {ec ea eb : Expr} {pos : Pos} (hc : PT X ec (RdT F G call W c)) (ha : PT X ea (RdT F G call W a)) (hb : PT X eb (RdT F G call W b)) : PT X (.IfExp ec ea eb pos) (RdT F G call W (.ite c a b)) := (pt_ite hc ha hb).imp fun σ H Q ⟨Uo, m, env, st, S, q⟩ => by
  unfold truth at q
  rw [ev] at q
  refine ⟨Uo, m, env, st, S, ?_⟩
  unfold truth
  revert q
  generalize ev G call true c env st = r
  intro q
  cases r with
  | no => exact q.elim
  | ex c x env' st' => exact q
  | ok p env' st' =>
    obtain ⟨d, o⟩ := p
    cases d with
    | bl kk =>
      intro b' m1 H1 p1 S1 e1
      subst e1
      cases b' with
      | true => rw [if_pos rfl]; exact ⟨Uo, m1, env', st', S1, closedG.step _ _ _ _ _ _ _ _ _ p1 q⟩
      | false => rw [if_neg (by decide)]; exact ⟨Uo, m1, env', st', S1, closedG.step _ _ _ _ _ _ _ _ _ p1 q⟩
    | _ => exact q.elim
/-- a value that must be a list -/
theorem asl_lst {bw : Bool} {a : C} {env e : Env} {st s : Sto} {p : D × Bool} (h : ev G call bw (.asl a) env st = .ok p e s) : ∃ xs, p.1 = .lst xs := by
  rw [ev] at h
  cases q : ev G call bw a env st with
  | no => rw [q] at h; cases h
  | ex c x e1 s1 => rw [q] at h; cases h
  | ok x e1 s1 =>
    rw [q] at h
    obtain ⟨d, o⟩ := x
    cases d with
    | lst xs => cases h; exact ⟨xs, rfl⟩
    | _ => cases h
theorem rd_asl {bw : Bool} {a : C} {e : Expr} (ha : PE X e (RdE F G call W bw a)) : PE X e (RdE F G call W bw (.asl a)) := ha.imp fun σ H Q ⟨Uo, m, env, st, S, q⟩ => by
  rw [ev] at q
  refine ⟨Uo, m, env, st, S, ?_⟩
  revert q
  generalize ev G call bw a env st = r
  intro q
  rcases r with _ | ⟨⟨d, o⟩, env1, st1⟩ | ⟨c, x, env', st'⟩
  · exact q
  · cases d with
    | lst xs => exact q
    | _ => exact q.elim
  · exact q
theorem rd_lcH {bw : Bool} {elt : C} {tg : T} {a : C} {cond : Option C} {elt' tg' iter : Expr} {ifs : List Expr} {scope : Scope} {own : List (Str × Nat)} {pos : Pos} (hK : X.K = F.K) (hot : L2H.HotC X) (hN : X.N.Nodup)
    (hi : PE X iter (RdE F G call W false a)) (ok : BlkOk X.N X.env.scope scope own) (ho : own.map (·.2) = tg.own)
    (hg : ∀ (s : Shared) (H : Hp) (C : Addr) (cl : List (Str × Addr)) (fp : List Addr), HotI (X.blk s H scope (compEnvC scope cl C X.env) fp) → PG (X.blk s H scope (compEnvC scope cl C X.env) fp) tg' (tg.g F.K)) (ht : ∀ (s : Shared) (H : Hp) (C : Addr) (cl : List (Str × Addr)) (fp : List Addr), HotI (X.blk s H scope (compEnvC scope cl C X.env) fp) → PTs (X.blk s H scope (compEnvC scope cl C X.env) fp) ifs (RdC F G call cond))
    (he : ∀ (s : Shared) (H : Hp) (C : Addr) (cl : List (Str × Addr)) (fp : List Addr), HotI (X.blk s H scope (compEnvC scope cl C X.env) fp) → PE (X.blk s H scope (compEnvC scope cl C X.env) fp) elt' (RdE F G call W0 false elt)) (hs : noSet iter = true) :
    PE X (.ListComp elt' [⟨tg', iter, ifs, 0⟩] scope pos) (RdE F G call W bw (.lc elt tg (.asl a) cond)) :=
  (pe_lcH hot hN (rd_asl hi) ok hg ht he (no_fold hs _)).imp fun σ H Q h => by
    rw [ho]
    have h := lc_dat h
    unfold tLcL
    obtain ⟨Uo, m, env, st, S, q⟩ := h
    refine ⟨Uo, m, env, st, S, ?_⟩
    revert q
    cases hr : ev G call false (.asl a) env st with
    | no => exact fun q => q
    | ex c x env' st' => exact fun q => q
    | ok p env1 st1 =>
      intro q v m1 H1 p1 S1 r1
      obtain ⟨xs, e, k⟩ := q
      obtain ⟨ys, hy⟩ := asl_lst hr
      have rep := r1.toRep S.uH S1
      rw [hy] at rep e
      cases e
      obtain ⟨b, vs, rfl, hq, hm, hrr⟩ := rep
      exact ⟨b, rfl, ⟨vs, .inl hq⟩, by rw [hK]; exact k _ m1 H1 p1 S1.base (.lst hq hm hrr)⟩
theorem boot_bi (b : Bi) (h : b ≠ .sortset) : bootBuiltins b.name = some b.val ∧ b.name ≠ "__name__" ∧ (b.name == ("__debug__" : Str)) = false := by
  cases b <;> first
    | exact absurd rfl h
    | exact ⟨by decide +kernel, by decide, by decide⟩
end
end Pi

set_option maxRecDepth 100000
set_option maxHeartbeats 4000000
/-! PiW: the check of expressions. -/
namespace Pi
open PySem PySem.Spec L2

/-- the block of a comprehension -/
def subS (S : Sc0) (scope : Scope) : Sc0 := ⟨S.N, relS scope S.sc, fun x => scope.names.lookup x == some .cell, 0, false⟩
def hotS (S : Sc0) (scope : Scope) : Sc0 := ⟨S.N, relS scope S.sc, fun x => scope.names.lookup x == some .cell, 2, false⟩
def cold (S : Sc0) : Bool := decide (S.hot = 0)
def hotBi (S : Sc0) (b : Bi) : Bool := decide (S.hot = 1) && decide (b = .isinst)
def tgtNames : Expr → List Str
  | .Name x _ => [x]
  | .Tuple es _ _ => es.filterMap fun | .Name x _ => some x | _ => none
  | _ => []
section
variable (tab : Str → Option GV)
mutual
def chkE (S : Sc0) : C → Expr → Bool
  | .k d, e => match d, e with
    | .non, .Constant .none _ _ => true
    | .bl b, .Constant (.bool b') _ _ => b == b'
    | .int i, .Constant (.int j) _ _ => decide (i = j)
    | .str s, .Constant (.str t) _ _ => decide (s = t)
    | _, _ => false
  | .g d, e => match e with
    | .Name x _ => match d with
      | .ty t => freeC tab S x && decide (bootBuiltins x = some (.type t)) && !(x == ("__name__" : Str))
      | .gl i => glC S.sc x && (match tab x with | some (.fn j) => decide (i = j) | some (.cls j _) => decide (i = j) | _ => false)
      | .int i => glC S.sc x && (match tab x with | some (.cst (.int j)) => decide (i = j) | _ => false)
      | _ => false
    | _ => false
  | .v i, e => match e with
    | .Name x _ => slotC S i x
    | _ => false
  | .tp cs, e => match e with
    | .Tuple es _ _ => chkL S cs es
    | _ => false
  | .ls cs, e => match e with
    | .List es _ => chkL S cs es
    | _ => false
  | .bin o a b, e => match e with
    | .BinOp x op y _ => decide (op = o.op) && (nit a && chkE S a x) && (nit b && chkE S b y)
    | _ => false
  | .neg a, e => match e with
    | .UnaryOp .USub x _ => nit a && chkE S a x
    | _ => false
  | .not a, e => match e with
    | .UnaryOp .Not x _ => nit a && chkE S a x
    | _ => false
  | .and a b, e => match e with
    | .BoolOp .And (x :: y :: r) pos => (nit a && chkE S a x) && (nit b && (match r with | [] => chkE S b y | z :: r => chkE S b (.BoolOp .And (y :: z :: r) pos)))
    | _ => false
  | .or a b, e => match e with
    | .BoolOp .Or (x :: y :: r) pos => (nit a && chkE S a x) && (nit b && (match r with | [] => chkE S b y | z :: r => chkE S b (.BoolOp .Or (y :: z :: r) pos)))
    | _ => false
  | .ite t a b, e => match e with
    | .IfExp x y z _ => (nit t && chkE S t x) && (nit a && chkE S a y) && (nit b && chkE S b z)
    | _ => false
  | .cmp o a b, e => match e with
    | .Compare x [op] [y] _ => decide (op = o.op) && !behindInMarks op y && (nit a && chkE S a x) && (nit b && chkE S b y)
    | _ => false
  | .chn o p a b c, e => match e with
    | .Compare x [op, op2] [y, z] _ => decide (op = o.op) && decide (op2 = p.op) && !lastMarks [op, op2] [y, z] && (nit a && chkE S a x) && (nit b && chkE S b y) && (nit c && chkE S c z)
    | _ => false
  | .ix a i, e => match e with
    | .Subscript x y _ => noSlice y && (nit a && chkE S a x) && (nit i && chkE S i y)
    | _ => false
  | .sl a lo hi, e => match e with
    | .Subscript x (.Slice l h none _) _ => (nit a && chkE S a x) && chkO S lo l && chkO S hi h
    | _ => false
  | .rev a, e => match e with
    | .Subscript x (.Slice none none (some (.UnaryOp .USub (.Constant (.int i) _ _) _)) _) _ => decide (i = 1) && (nit a && chkE S a x)
    | _ => false
  | .call f cs, e => match e with
    | .Call (.Name x _) (y :: ys) [] _ => (cold S && glC S.sc x) && (match tab x with | some (.fn j) => decide (f = j) | _ => false) && chkL S cs (y :: ys)
    | _ => false
  | .cv i cs, e => match e with
    | .Call (.Name x _) (y :: ys) [] _ => (cold S && slotC S i x) && chkL S cs (y :: ys)
    | _ => false
  | .bi b cs, e => match e with
    | .Call (.Name x _) (y :: ys) [] _ => match b with
      | .sortset => match cs, y, ys with
        | [a], .Call (.Name z _) [w] [] _, [] => cold S && (x == ("sorted" : Str)) && (z == ("set" : Str)) && freeC tab S x && freeC tab S z && noStar w && (nit a && chkE S a w)
        | _, _, _ => false
      | b => (decide (x = b.name) && (cold S || hotBi S b)) && freeC tab S x && chkL S cs (y :: ys)
    | _ => false
  | .me m a cs, e => match e with
    | .Call (.Attribute o n ap) [y] [] cp => match m, cs with
      | .join, [b] => (n == ("join" : Str)) && noStar y && noCall o && (ap.endLine == cp.line) && (nit a && chkE S a o) && (nit b && chkE S b y)
      | _, _ => false
    | _ => false
  | .rng cs, e => match e with
    | .Call (.Name x _) ys [] _ => (x == ("range" : Str)) && freeC tab S x && decide (ys.length ≤ 2) && decide (1 ≤ ys.length) && chkL S cs ys
    | _ => false
  | .enm a, e => match e with
    | .Call (.Name x _) [y] [] _ => (x == ("enumerate" : Str)) && freeC tab S x && noStar y && (nit a && chkE S a y)
    | _ => false
  | .zp a b, e => match e with
    | .Call (.Name x _) [y, z] [] _ => (x == ("zip" : Str)) && freeC tab S x && noStar y && noStar z && (nit a && chkE S a y) && (nit b && chkE S b z)
    | _ => false
  | .lc elt tg it cond, e => match e with
    | .ListComp x [⟨t, i, ifs, ia⟩] scope _ => (cold S && decide (ia = 0) && noSet i && blkC S.N S.sc scope ((tgtNames t).zip tg.own) && decide (((tgtNames t).zip tg.own).map (·.2) = tg.own) && (!needT it || tupT t) && chkE S it i &&
        chkT (subS S scope) tg t && (nit elt && chkE (subS S scope) elt x) && chkC (subS S scope) cond ifs) ||
        (decide (S.hot = 1) && decide (ia = 0) && noSet i && blkC S.N S.sc scope ((tgtNames t).zip tg.own) && decide (((tgtNames t).zip tg.own).map (·.2) = tg.own) && (match it with
          | .asl a => nit a && chkE S a i
          | _ => false) &&
        chkT (hotS S scope) tg t && (nit elt && chkE (hotS S scope) elt x) && chkC (hotS S scope) cond ifs)
    | _ => false
  | .mk a, e => plainTest e && (nit a && chkE S a e)
  | .asl a, e => plainTest e && (nit a && chkE S a e)
  | .lrg a, e => match e with
    | .Call (.Name x _) [.Call (.Name y _) [z] [] _] [] _ => cold S && (x == ("list" : Str)) && (y == ("range" : Str)) && freeC tab S x && freeC tab S y && noStar z && (nit a && chkE S a z)
    | _ => false
  | .rep a k, e => match e with
    | .BinOp x op y _ => decide (op = .Mult) && (nit a && chkE S a x) && (nit k && chkE S k y)
    | _ => false
  | .dnw, e => match e with
    | .Dict [] [] _ => true
    | _ => false
  | .dof a, e => match e with
    | .Call (.Name x _) [y] [] _ => cold S && (x == ("dict" : Str)) && freeC tab S x && noStar y && (nit a && chkE S a y)
    | _ => false
  | .dne a, e => match e with
    | .Compare x [op] [.Dict [] [] _] _ => decide (op = .NotEq) && (nit a && chkE S a x)
    | _ => false
  | .dpp i a, e => match e with
    | .Call (.Attribute (.Name x _) m ap) [y] [] cp => (m == ("pop" : Str)) && slotC S i x && noStar y && (ap.endLine == cp.line) && (nit a && chkE S a y)
    | _ => false
  | .dgt i a b, e => match e with
    | .Call (.Attribute (.Name x _) m ap) [y, z] [] cp => (m == ("get" : Str)) && slotC S i x && noStar y && noStar z && (ap.endLine == cp.line) && (nit a && chkE S a y) && (nit b && chkE S b z)
    | _ => false
  | .rfd _ a, e => match e with
    | .Call (.Name x _) [.Lambda params body scope _] [] _ => (S.lam && cold S) && (x == ("_law_refused" : Str)) && glC S.sc x && lamOk params S.sc scope && (nit a && chkE ⟨S.N, scope, fun _ => false, 0, false⟩ a body)
    | _ => false
def chkL (S : Sc0) : List C → List Expr → Bool
  | [], [] => true
  | c :: cs, e :: es => noStar e && (nit c && chkE S c e) && chkL S cs es
  | _, _ => false
def chkO (S : Sc0) : Option C → Option Expr → Bool
  | none, none => true
  | some c, some e => nit c && chkE S c e
  | _, _ => false
def chkC (S : Sc0) : Option C → List Expr → Bool
  | none, [] => true
  | some c, [e] => nit c && chkE S c e
  | _, _ => false
end
end

theorem and3 {a b c : Bool} (h : (a && b && c) = true) : a = true ∧ b = true ∧ c = true := by
  rw [Bool.and_eq_true, Bool.and_eq_true] at h
  exact ⟨h.1.1, h.1.2, h.2⟩
theorem noT {e : Expr} {op : BoolOp} {vs : List Expr} {pos : Pos} (h : plainTest e = true) : e ≠ .BoolOp op vs pos := fun z => by rw [z] at h; cases h
section
variable {F : Fx} {G : Gl} {call : Nat → List D → Sto → RC} {tab : Str → Option GV} {k : Nat}
theorem xok_blk {X : Cx} {S : Sc0} {W : WX} (x : XOk X F G call tab S W k) (hc : S.hot = 0) (s : Shared) (H : Hp) (scope : Scope) (C : Addr) (cl : List (Str × Addr)) (fp : List Addr) : XOk (X.blk s H scope (compEnvC scope cl C X.env) fp) F G call tab (subS S scope) W0 k where
  K := x.K
  pw := x.pw
  N := x.N
  nd := x.nd
  sc := by
    show relS scope X.env.scope = _
    rw [x.sc]; rfl
  fn := fun y h => h
  calm := fun _ => x.calm hc
  un := x.un
  room := fun _ => x.room hc
  xi := fun _ => x.xi hc
  rfd := fun z => by cases z
  hot1 := fun z => by cases z
  hot2 := .inl rfl
  tk := fun u s' ⟨_, _, _, _, _, _, _, _, _, _, _, _, _, _, _, _, w⟩ => w.elim
  po := PassesOwn.never
  fns := x.fns
  nca := x.nca
  glob := x.glob
theorem xok_hot {X : Cx} {S : Sc0} {W : WX} (x : XOk X F G call tab S W k) (s : Shared) (H : Hp) (scope : Scope) (C : Addr) (cl : List (Str × Addr)) (fp : List Addr) (hh : HotI (X.blk s H scope (compEnvC scope cl C X.env) fp)) : XOk (X.blk s H scope (compEnvC scope cl C X.env) fp) F G call tab (hotS S scope) W0 k where
  K := x.K
  pw := x.pw
  N := x.N
  nd := x.nd
  sc := by
    show relS scope X.env.scope = _
    rw [x.sc]; rfl
  fn := fun y h => h
  calm := fun z => by cases z
  un := x.un
  room := fun z => by cases z
  xi := fun z => by cases z
  rfd := fun z => by cases z
  hot1 := fun z => by cases z
  hot2 := .inr hh
  tk := fun u s' ⟨_, _, _, _, _, _, _, _, _, _, _, _, _, _, _, _, w⟩ => w.elim
  po := PassesOwn.never
  fns := x.fns
  nca := x.nca
  glob := x.glob
theorem xok_lam {X : Cx} {S : Sc0} {W : WX} (x : XOk X F G call tab S W k) (hc : S.hot = 0) (E : XK) (A : Around) (outer : List PySem.Env) (s : Shared) (H : Hp) (scope : Scope) (f c' : Addr) (hr : Room k (A.deeper (LamX.lamEnv X scope s.heap.objs.size f c'))) : XOk (lamBody X A outer s H E scope f c') F G call tab ⟨S.N, scope, fun _ => false, 0, false⟩ (fun cls dd _ H' => E cls dd H') k where
  K := x.K
  pw := x.pw
  N := x.N
  nd := x.nd
  sc := rfl
  fn := fun y h => by cases h
  calm := fun _ => rfl
  un := hr.units
  room := fun _ => hr
  xi := fun _ => x.xi hc
  rfd := fun z => by cases z
  hot1 := fun z => by cases z
  hot2 := .inl rfl
  tk := L2N.takes_of rfl rfl rfl rfl
  po := passes_of rfl
  fns := x.fns
  nca := x.nca
  glob := x.glob
theorem bifF_isi {st : Sto} {ds : List D} : bifF G st .isinst ds = bifn G .isinst ds := by
  unfold bifF
  cases bifn G .isinst ds <;> rfl
theorem cold_ok {S : Sc0} (h : cold S = true) : S.hot = 0 := of_decide_eq_true h
set_option linter.unusedVariables false
mutual
theorem chkE_ok : ∀ (c : C) {X : Cx} {S : Sc0} {W : WX} (x : XOk X F G call tab S W k) (e : Expr), chkE tab S c e = true → Good X F G call W c e
  | .k d, X, S, W, x, e, h => by
    unfold chkE at h
    split at h
    · exact good_pe x rfl (fun _ => rd_k (v := .non) pe_non fun _ _ _ _ => rfl) rfl
    · rename_i b b' _ _
      obtain rfl : b = b' := by simpa using h
      exact good_pe x rfl (fun _ => rd_k (v := .bl b) pe_bl fun _ _ _ _ => rfl) rfl
    · obtain rfl := of_decide_eq_true h
      exact good_pe x rfl (fun _ => rd_k pe_int fun _ _ _ _ => rfl) rfl
    · obtain rfl := of_decide_eq_true h
      exact good_pe x rfl (fun _ => rd_k pe_str fun _ _ _ _ => rfl) rfl
    · cases h
  | .g d, X, S, W, x, e, h => by
    unfold chkE at h
    split at h
    · rename_i y p
      split at h
      · rename_i t
        obtain ⟨h1, h2, h3⟩ := and3 h
        obtain ⟨f1, f2, f3⟩ := freeC_ok x h1
        exact good_pe x rfl (fun _ => rd_g (v := .ty t) (pe_bltn f1 f2 (of_decide_eq_true h2) rfl (by simpa using h3) f3) fun _ _ _ _ => rfl) rfl
      · rename_i i
        rw [Bool.and_eq_true] at h
        obtain ⟨g1, g2⟩ := glC_ok x h.1
        have hm : X.mg y = some (.ref (F.ga i)) := by
          have h2 := h.2
          split at h2
          · rename_i e
            obtain rfl := of_decide_eq_true h2
            exact (x.glob _ _ e).1
          · rename_i e
            obtain rfl := of_decide_eq_true h2
            exact (x.glob _ _ e).1
          · cases h2
        exact good_pe x rfl (fun _ => rd_g (v := .ref (F.ga i)) (pe_glob g1 hm rfl g2) fun _ _ _ _ => rfl) rfl
      · rename_i i
        rw [Bool.and_eq_true] at h
        obtain ⟨g1, g2⟩ := glC_ok x h.1
        have h2 := h.2
        split at h2
        · rename_i e
          obtain rfl := of_decide_eq_true h2
          obtain ⟨u, v, hm, rv, rr⟩ := x.glob _ _ e
          exact good_pe x rfl (fun _ => rd_g (v := v) (pe_glob g1 hm rv g2) rr) rfl
        · cases h2
      · cases h
    · cases h
  | .v i, X, S, W, x, e, h => by
    unfold chkE at h
    split at h
    · exact good_pe x rfl (fun _ => rd_v (pe_slot' x h)) rfl
    · cases h
  | .tp cs, X, S, W, x, e, h => by
    unfold chkE at h
    split at h
    · obtain ⟨h1, h2⟩ := chkL_ok cs x _ h
      exact good_pe x rfl (fun _ => rd_tp (h1 false)) rfl
    · cases h
  | .ls cs, X, S, W, x, e, h => by
    unfold chkE at h
    split at h
    · obtain ⟨h1, h2⟩ := chkL_ok cs x _ h
      exact good_pe x rfl (fun _ => rd_ls (h1 false)) rfl
    · cases h
  | .bin o a b, X, S, W, x, e, h => by
    unfold chkE at h
    split at h
    · obtain ⟨h1, h2, h3⟩ := and3 h
      rw [Bool.and_eq_true] at h2 h3
      obtain rfl := of_decide_eq_true h1
      exact good_pe x rfl (fun _ => rd_bin x.K o ((chkE_ok a x _ h2.2).pe h2.1 true) ((chkE_ok b x _ h3.2).pe h3.1 true)) rfl
    · cases h
  | .rep a b, X, S, W, x, e, h => by
    unfold chkE at h
    split at h
    · obtain ⟨h1, h2, h3⟩ := and3 h
      rw [Bool.and_eq_true] at h2 h3
      obtain rfl := of_decide_eq_true h1
      exact good_pe x rfl (fun _ => rd_rep ((chkE_ok a x _ h2.2).pe h2.1 false) ((chkE_ok b x _ h3.2).pe h3.1 true)) rfl
    · cases h
  | .lrg a, X, S, W, x, e, h => by
    unfold chkE at h
    split at h
    · simp only [Bool.and_eq_true, beq_iff_eq] at h
      obtain ⟨⟨⟨⟨⟨⟨hc, rfl⟩, rfl⟩, h1⟩, h2⟩, h3⟩, h4, h5⟩ := h
      obtain ⟨f1, f2, _⟩ := freeC_ok x h1
      obtain ⟨f3, f4, _⟩ := freeC_ok x h2
      exact good_pe x rfl (fun _ => rd_lrg (x.calm (cold_ok hc)) f1 f2 f3 f4 h3 ((chkE_ok a x _ h5).pe h4 true)) rfl
    · cases h
  | .neg a, X, S, W, x, e, h => by
    unfold chkE at h
    split at h
    · rw [Bool.and_eq_true] at h
      exact good_pe x rfl (fun _ => rd_neg ((chkE_ok a x _ h.2).pe h.1 true)) rfl
    · cases h
  | .not a, X, S, W, x, e, h => by
    unfold chkE at h
    split at h
    · rw [Bool.and_eq_true] at h
      have g := chkE_ok a x _ h.2
      exact good_pt x (fun _ => rd_not (g.pe h.1 true)) (rt_not (g.pt h.1)) fun _ _ _ z => by cases z
    · cases h
  | .and a b, X, S, W, x, e, h => by
    unfold chkE at h
    split at h
    · rename_i ea eb r pos
      rw [Bool.and_eq_true, Bool.and_eq_true, Bool.and_eq_true] at h
      obtain ⟨⟨h1, h2⟩, h3, h4⟩ := h
      have ga := chkE_ok a x _ h2
      split at h4
      · have gb := chkE_ok b x _ h4
        exact good_pw x (fun bw => rd_and (ga.pe h1 true) (pe_one (gb.pe h3 bw))) (rw_and (ga.pt h1) (pw_and1 (gb.pt h3)))
      · have gb := chkE_ok b x _ h4
        exact good_pw x (fun bw => rd_and (ga.pe h1 true) (gb.pe h3 bw)) (rw_and (ga.pt h1) (gb.pw ⟨_, _, _, rfl⟩ h3))
    · cases h
  | .or a b, X, S, W, x, e, h => by
    unfold chkE at h
    split at h
    · rename_i ea eb r pos
      rw [Bool.and_eq_true, Bool.and_eq_true, Bool.and_eq_true] at h
      obtain ⟨⟨h1, h2⟩, h3, h4⟩ := h
      have ga := chkE_ok a x _ h2
      split at h4
      · have gb := chkE_ok b x _ h4
        exact good_pw x (fun bw => rd_or (ga.pe h1 true) (pe_one (gb.pe h3 bw))) (rw_or (ga.pt h1) (pw_or1 (gb.pt h3)))
      · have gb := chkE_ok b x _ h4
        exact good_pw x (fun bw => rd_or (ga.pe h1 true) (gb.pe h3 bw)) (rw_or (ga.pt h1) (gb.pw ⟨_, _, _, rfl⟩ h3))
    · cases h
  | .ite t a b, X, S, W, x, e, h => by
    unfold chkE at h
    split at h
    · obtain ⟨h1, h2, h3⟩ := and3 h
      rw [Bool.and_eq_true] at h1 h2 h3
      have gt := chkE_ok t x _ h1.2
      have ga := chkE_ok a x _ h2.2
      have gb := chkE_ok b x _ h3.2
      exact good_pt x (fun bw => rd_ite (gt.pt h1.1) (ga.pe h2.1 bw) (gb.pe h3.1 bw)) (rt_ite (gt.pt h1.1) (ga.pt h2.1) (gb.pt h3.1)) fun _ _ _ z => by cases z
    · cases h
  | .cmp o a b, X, S, W, x, e, h => by
    unfold chkE at h
    split at h
    · rw [Bool.and_eq_true, Bool.and_eq_true, Bool.and_eq_true, Bool.and_eq_true, Bool.and_eq_true, Bool.not_eq_true', decide_eq_true_eq] at h
      obtain ⟨⟨⟨rfl, h1⟩, h2, h3⟩, h4, h5⟩ := h
      have ga := chkE_ok a x _ h3
      have gb := chkE_ok b x _ h5
      exact good_pt x (fun bw => rd_cmp x.K x.pw x.un o h1 (ga.pe h2 true) (gb.pe h4 true)) (rt_cmp x.K x.pw x.un o h1 (ga.pe h2 true) (gb.pe h4 true)) fun _ _ _ z => by cases z
    · cases h
  | .chn o p a b c, X, S, W, x, e, h => by
    unfold chkE at h
    split at h
    · simp only [Bool.and_eq_true, Bool.not_eq_true', decide_eq_true_eq] at h
      obtain ⟨⟨⟨⟨⟨rfl, rfl⟩, h1⟩, h2, h3⟩, h4, h5⟩, h6, h7⟩ := h
      have ga := chkE_ok a x _ h3
      have gb := chkE_ok b x _ h5
      have gc := chkE_ok c x _ h7
      exact good_pt x (fun bw => rd_chn x.K x.un o p h1 (ga.pe h2 true) (gb.pe h4 true) (gc.pe h6 true)) (rt_chn x.K x.un o p h1 (ga.pe h2 true) (gb.pe h4 true) (gc.pe h6 true)) fun _ _ _ z => by cases z
    · cases h
  | .ix a i, X, S, W, x, e, h => by
    unfold chkE at h
    split at h
    · obtain ⟨h1, h2, h3⟩ := and3 h
      rw [Bool.and_eq_true] at h2 h3
      exact good_pe x rfl (fun _ => rd_ix x.K x.pw x.un (plain_ix h1) ((chkE_ok a x _ h2.2).pe h2.1 true) ((chkE_ok i x _ h3.2).pe h3.1 true)) rfl
    · cases h
  | .sl a lo hi, X, S, W, x, e, h => by
    unfold chkE at h
    split at h
    · obtain ⟨h1, h2, h3⟩ := and3 h
      rw [Bool.and_eq_true] at h1
      exact good_pe x rfl (fun _ => rd_sl x.K ((chkE_ok a x _ h1.2).pe h1.1 true) (chkO_ok lo x _ h2) (chkO_ok hi x _ h3)) rfl
    · cases h
  | .rev a, X, S, W, x, e, h => by
    unfold chkE at h
    split at h
    · rw [Bool.and_eq_true, Bool.and_eq_true] at h
      obtain rfl := of_decide_eq_true h.1
      exact good_pe x rfl (fun _ => rd_rev x.K ((chkE_ok a x _ h.2.2).pe h.2.1 true)) rfl
    · cases h
  | .call f cs, X, S, W, x, e, h => by
    unfold chkE at h
    split at h
    · obtain ⟨h1, h2, h3⟩ := and3 h
      rw [Bool.and_eq_true] at h1
      have hc := cold_ok h1.1
      obtain ⟨g1, g2⟩ := glC_ok x h1.2
      obtain ⟨h4, h5⟩ := chkL_ok cs x _ h3
      rw [List.all_cons, Bool.and_eq_true] at h5
      split at h2
      · rename_i e
        obtain rfl := of_decide_eq_true h2
        obtain ⟨hm, n, hn⟩ := x.glob _ _ e
        exact good_pe x rfl (fun _ => rd_call x.fns hn (x.room hc) x.tk g1 hm g2 x.nca h5.1 h5.2 (h4 false)) rfl
      · cases h2
    · cases h
  | .cv i cs, X, S, W, x, e, h => by
    unfold chkE at h
    split at h
    · rw [Bool.and_eq_true, Bool.and_eq_true] at h
      have hc := cold_ok h.1.1
      obtain ⟨h1, h2, h3, h6⟩ := slotC_ok x h.1.2
      obtain ⟨h4, h5⟩ := chkL_ok cs x _ h.2
      rw [List.all_cons, Bool.and_eq_true] at h5
      exact good_pe x rfl (fun _ => rd_cv x.fns (x.room hc) x.tk h1 h2 h3 h6 x.nca h5.1 h5.2 (h4 false)) rfl
    · cases h
  | .bi b cs, X, S, W, x, e, h => by
    unfold chkE at h
    split at h
    · split at h
      · split at h
        · rename_i a z _ w _
          simp only [Bool.and_eq_true, beq_iff_eq] at h
          obtain ⟨⟨⟨⟨⟨⟨hc, rfl⟩, rfl⟩, h1⟩, h2⟩, h3⟩, h4, h5⟩ := h
          have hc := cold_ok hc
          obtain ⟨f1, f2, _⟩ := freeC_ok x h1
          obtain ⟨f3, f4, _⟩ := freeC_ok x h2
          exact good_pe x rfl (fun _ => rd_sortset x.K x.un (x.calm hc) f1 f2 f3 f4 (fun env => star_cons h3 env) ((chkE_ok a x _ h5).pe h4 true)) rfl
        · cases h
      · rename_i hb
        obtain ⟨h1, h2, h3⟩ := and3 h
        rw [Bool.and_eq_true, Bool.or_eq_true] at h1
        obtain ⟨h0, h1⟩ := h1
        obtain rfl := of_decide_eq_true h0
        obtain ⟨f1, f2, f9⟩ := freeC_ok x h2
        obtain ⟨h4, h5⟩ := chkL_ok cs x _ h3
        rw [List.all_cons, Bool.and_eq_true] at h5
        have hb : b ≠ .sortset := fun z => hb z
        obtain ⟨b1, b2, b3⟩ := boot_bi b hb
        rcases h1 with hc | hc
        · have hc := cold_ok hc
          exact good_pe x rfl (fun _ => rd_bi (x.xi hc) x.K x.pw x.un (x.calm hc) b hb f1 f2 b1 b2 b3 h5.1 h5.2 (h4 true)) rfl
        · unfold hotBi at hc
          rw [Bool.and_eq_true, decide_eq_true_eq, decide_eq_true_eq] at hc
          obtain ⟨hc, rfl⟩ := hc
          refine good_pe x rfl (fun bw => ?_) rfl
          refine (pe_callB ((x.hot1 hc).2 bw W) f1 f2 b1 (h4 true) b2 b3 (star_cons h5.1 _) (star_none h5.2 _ _)).imp fun σ H Q ⟨Uo, m, env, st, S, q⟩ => ?_
          rw [ev] at q
          exact ⟨Uo, m, env, st, S, bindL closedE q fun vs ds m1 env1 st1 H1 p1 S1 _ rb q1 => ⟨σ, Uo, m1, env1, st1, ds, S1, rb, by
            have e : bifF G st1 .isinst ds = bifn G .isinst ds := bifF_isi
            rw [← e]
            exact q1⟩⟩
    · cases h
  | .me m a cs, X, S, W, x, e, h => by
    unfold chkE at h
    split at h
    · split at h
      · rename_i b
        simp only [Bool.and_eq_true, beq_iff_eq] at h
        obtain ⟨⟨⟨⟨⟨rfl, h1⟩, h2⟩, h3⟩, h4, h5⟩, h6, h7⟩ := h
        exact good_pe x rfl (fun _ => rd_join x.K h1 h2 (by simpa using h3) ((chkE_ok a x _ h5).pe h4 true) ((chkE_ok b x _ h7).pe h6 true)) rfl
      · cases h
    · cases h
  | .rng cs, X, S, W, x, e, h => by
    unfold chkE at h
    split at h
    · rename_i ys _
      simp only [Bool.and_eq_true, beq_iff_eq, decide_eq_true_eq] at h
      obtain ⟨⟨⟨⟨rfl, h1⟩, h2⟩, h3⟩, h4⟩ := h
      obtain ⟨f1, f2, _⟩ := freeC_ok x h1
      obtain ⟨h5, h6⟩ := chkL_ok cs x _ h4
      refine ⟨(fun z => by cases z), (fun z => by cases z), (fun _ z => by cases z), fun tg _ => ?_⟩
      match cs, ys, h4, h5, h6 with
      | [c], [y], h4, h5, h6 => exact ri_rng1 f1 f2 (by simpa using h6) (h5 true)
      | [c, c2], [y, y2], h4, h5, h6 =>
        simp at h6
        exact ri_rng2 f1 f2 h6.1 h6.2 (h5 true)
      | _, [], _, _, _ => simp at h3
      | _, _ :: _ :: _ :: _, _, _, _ => simp at h2
      | [], [_], h4, _, _ => cases h4
      | [], [_, _], h4, _, _ => cases h4
      | _ :: _ :: _, [_], h4, _, _ => simp [chkL] at h4
      | [_], [_, _], h4, _, _ => simp [chkL] at h4
      | _ :: _ :: _ :: _, [_, _], h4, _, _ => simp [chkL] at h4
    · cases h
  | .enm a, X, S, W, x, e, h => by
    unfold chkE at h
    split at h
    · simp only [Bool.and_eq_true, beq_iff_eq] at h
      obtain ⟨⟨⟨rfl, h1⟩, h2⟩, h3, h4⟩ := h
      obtain ⟨f1, f2, _⟩ := freeC_ok x h1
      refine ⟨(fun z => by cases z), (fun z => by cases z), (fun _ z => by cases z), fun tg ht => ?_⟩
      have ht := ht rfl
      cases tg with
      | Tuple es kk tp => exact ri_enm x.K f1 f2 h2 ((chkE_ok a x _ h4).pe h3 false)
      | _ => cases ht
    · cases h
  | .zp a b, X, S, W, x, e, h => by
    unfold chkE at h
    split at h
    · simp only [Bool.and_eq_true, beq_iff_eq] at h
      obtain ⟨⟨⟨⟨⟨rfl, h1⟩, h2⟩, h3⟩, h4, h5⟩, h6, h7⟩ := h
      obtain ⟨f1, f2, _⟩ := freeC_ok x h1
      refine ⟨(fun z => by cases z), (fun z => by cases z), (fun _ z => by cases z), fun tg ht => ?_⟩
      have ht := ht rfl
      cases tg with
      | Tuple es kk tp => exact ri_zip x.K f1 f2 h2 h3 ((chkE_ok a x _ h5).pe h4 false) ((chkE_ok b x _ h7).pe h6 false)
      | _ => cases ht
    · cases h
  | .lc elt tg it cond, X, S, W, x, e, h => by
    unfold chkE at h
    split at h
    · rename_i ex t i ifs ia scope _
      rw [Bool.or_eq_true] at h
      rcases h with h | h
      rotate_left
      · simp only [Bool.and_eq_true, decide_eq_true_eq] at h
        obtain ⟨⟨⟨⟨⟨⟨⟨⟨hc, rfl⟩, h1⟩, h2⟩, h3⟩, h4⟩, h6⟩, h7, h8⟩, h9⟩ := h
        cases it with
        | asl a =>
          have h4 : (nit a && chkE tab S a i) = true := h4
          rw [Bool.and_eq_true] at h4
          have hn : X.N.Nodup := by rw [x.N]; exact x.nd
          exact good_pe x rfl (fun bw => rd_lcH x.K (x.hot1 hc).1 hn ((chkE_ok a x _ h4.2).pe h4.1 false) (by rw [x.N, x.sc]; exact blkOk_by h2) h3
            (fun s H C cl fp hh => (chkT_ok (xok_hot x s H scope C cl fp hh) h6).1) (fun s H C cl fp hh => chkC_ok cond (xok_hot x s H scope C cl fp hh) _ h9) (fun s H C cl fp hh => (chkE_ok elt (xok_hot x s H scope C cl fp hh) _ h8).pe h7 false) h1) rfl
        | _ => cases h4
      simp only [Bool.and_eq_true, decide_eq_true_eq, Bool.or_eq_true, Bool.not_eq_true'] at h
      obtain ⟨⟨⟨⟨⟨⟨⟨⟨⟨hc, rfl⟩, h1⟩, h2⟩, h3⟩, h4⟩, h5⟩, h6⟩, h7, h8⟩, h9⟩ := h
      have hc := cold_ok hc
      refine good_pe x rfl (fun bw => rd_lc (x.calm hc) (by rw [x.N]; exact x.nd) ((chkE_ok it x _ h5).pi t fun z => h4.resolve_left (by rw [z]; decide)) (by rw [x.N, x.sc]; exact blkOk_by h2) h3
        (fun s H C cl fp => (chkT_ok (xok_blk x hc s H scope C cl fp) h6).1) (fun s H C cl fp => chkC_ok cond (xok_blk x hc s H scope C cl fp) _ h9) (fun s H C cl fp => (chkE_ok elt (xok_blk x hc s H scope C cl fp) _ h8).pe h7 false) h1) rfl
    · cases h
  | .mk a, X, S, W, x, e, h => by
    unfold chkE at h
    rw [Bool.and_eq_true, Bool.and_eq_true] at h
    have g := chkE_ok a x _ h.2.2
    exact good_pe x rfl (fun _ => rd_mk (g.pe h.2.1 false)) h.1
  | .asl a, X, S, W, x, e, h => by
    unfold chkE at h
    rw [Bool.and_eq_true, Bool.and_eq_true] at h
    have g := chkE_ok a x _ h.2.2
    exact good_pe x rfl (fun bw => rd_asl (g.pe h.2.1 bw)) h.1
  | .dnw, X, S, W, x, e, h => by
    unfold chkE at h
    split at h
    · exact good_pe x rfl (fun _ => rd_dnw x.pw) rfl
    · cases h
  | .dof a, X, S, W, x, e, h => by
    unfold chkE at h
    split at h
    · simp only [Bool.and_eq_true, beq_iff_eq] at h
      obtain ⟨⟨⟨⟨hc, rfl⟩, h1⟩, h3⟩, h4, h5⟩ := h
      obtain ⟨f1, f2, _⟩ := freeC_ok x h1
      exact good_pe x rfl (fun _ => rd_dof x.K x.pw x.un (x.calm (cold_ok hc)) f1 f2 h3 ((chkE_ok a x _ h5).pe h4 true)) rfl
    · cases h
  | .dne a, X, S, W, x, e, h => by
    unfold chkE at h
    split at h
    · rw [Bool.and_eq_true, Bool.and_eq_true, decide_eq_true_eq] at h
      obtain ⟨rfl, h1, h2⟩ := h
      have ga := chkE_ok a x _ h2
      exact good_pt x (fun bw => rd_dne x.K x.pw x.un (ga.pe h1 true)) (rt_dne x.K x.pw x.un (ga.pe h1 true)) fun _ _ _ z => by cases z
    · cases h
  | .dpp i a, X, S, W, x, e, h => by
    unfold chkE at h
    split at h
    · simp only [Bool.and_eq_true, beq_iff_eq] at h
      obtain ⟨⟨⟨⟨rfl, h1⟩, h2⟩, h3⟩, h4, h5⟩ := h
      obtain ⟨s1, s2, s3, s4⟩ := slotC_ok x h1
      exact good_pe x rfl (fun _ => rd_dpp x.K x.pw x.un s1 s2 s3 s4 h2 (by simpa using h3) ((chkE_ok a x _ h5).pe h4 true)) rfl
    · cases h
  | .dgt i a b, X, S, W, x, e, h => by
    unfold chkE at h
    split at h
    · simp only [Bool.and_eq_true, beq_iff_eq] at h
      obtain ⟨⟨⟨⟨⟨⟨rfl, h1⟩, h2⟩, h8⟩, h3⟩, h4, h5⟩, h6, h7⟩ := h
      obtain ⟨s1, s2, s3, s4⟩ := slotC_ok x h1
      exact good_pe x rfl (fun _ => rd_dgt x.K x.pw x.un s1 s2 s3 s4 h2 h8 (by simpa using h3) ((chkE_ok a x _ h5).pe h4 true) ((chkE_ok b x _ h7).pe h6 false)) rfl
    · cases h
  | .rfd f a, X, S, W, x, e, h => by
    unfold chkE at h
    split at h
    · rename_i y p params body scope lpos pos
      simp only [Bool.and_eq_true, beq_iff_eq] at h
      obtain ⟨⟨⟨⟨⟨h1, hc⟩, rfl⟩, h2⟩, h3⟩, h4, h5⟩ := h
      refine good_pe x rfl (fun bw => x.rfd h1 bw f a params body scope p lpos pos (by rw [x.sc]; exact h3) (glC_ok x h2).1 fun E A outer s H g c' hr => ?_) rfl
      exact (chkE_ok a (xok_lam x (cold_ok hc) E A outer s H scope g c' hr) body h5).pe h4 false
    · cases h
theorem chkL_ok : ∀ (cs : List C) {X : Cx} {S : Sc0} {W : WX} (x : XOk X F G call tab S W k) (es : List Expr), chkL tab S cs es = true → (∀ bw, PA X es (RdL F G call W bw cs)) ∧ es.all noStar = true
  | [], X, S, W, x, [], _ => ⟨fun _ => rl_nil, rfl⟩
  | c :: cs, X, S, W, x, e :: es, h => by
    rw [chkL, Bool.and_eq_true, Bool.and_eq_true, Bool.and_eq_true] at h
    obtain ⟨⟨h1, h2, h3⟩, h4⟩ := h
    obtain ⟨h5, h6⟩ := chkL_ok cs x _ h4
    refine ⟨fun bw => rl_cons h1 ((chkE_ok c x _ h3).pe h2 bw) (h5 bw), ?_⟩
    rw [List.all_cons, h1, h6]; rfl
  | [], X, S, W, x, _ :: _, h => by rw [chkL] at h <;> cases h
  | _ :: _, X, S, W, x, [], h => by rw [chkL] at h <;> cases h
theorem chkO_ok : ∀ (o : Option C) {X : Cx} {S : Sc0} {W : WX} (x : XOk X F G call tab S W k) (e : Option Expr), chkO tab S o e = true → PO X e (RdO F G call W o)
  | none, X, S, W, x, none, _ => ro_none
  | some c, X, S, W, x, some e, h => by
    rw [chkO, Bool.and_eq_true] at h
    exact ro_some ((chkE_ok c x _ h.2).pe h.1 true)
  | none, X, S, W, x, some _, h => by rw [chkO] at h <;> cases h
  | some _, X, S, W, x, none, h => by rw [chkO] at h <;> cases h
theorem chkC_ok : ∀ (o : Option C) {X : Cx} {S : Sc0} (x : XOk X F G call tab S W0 k) (e : List Expr), chkC tab S o e = true → PTs X e (RdC F G call o)
  | none, X, S, x, [], _ => pts_nil
  | some c, X, S, x, [e], h => by
    rw [chkC, Bool.and_eq_true] at h
    exact pts_one ((chkE_ok c x _ h.2).pt h.1)
  | none, X, S, x, _ :: _, h => by rw [chkC] at h <;> cases h
  | some _, X, S, x, [], h => by rw [chkC] at h <;> cases h
  | some _, X, S, x, _ :: _ :: _, h => by rw [chkC] at h <;> cases h
end
end
end Pi

set_option maxRecDepth 100000
set_option maxHeartbeats 4000000
/-! PiX: the check of statements. -/
namespace Pi
open PySem PySem.Spec L2

/-- whether a comprehension's value goes to its name ahead of the clearing -/
def swapC (sc : Scope) (y : Str) (py : Pos) : Expr → Bool
  | .ListComp _ _ s p => funKind sc && decide (sc.names.lookup y = some .local) && (py.line == p.line) && !(s.names.any fun q => q.1 == y && (q.2 == .local || q.2 == .cell))
  | _ => false
theorem funKind_ok {sc : Scope} (h : funKind sc = true) : sc.kind = .function := by
  unfold funKind at h
  revert h
  cases sc.kind <;> simp
theorem blockKind_of {env : PySem.Env} {sc : Scope} (he : env.scope = sc) (h : funKind sc = true) : env.blockKind = .function := by
  subst he
  unfold Env.blockKind
  rw [funKind_ok h]; rfl
theorem swapC_ok {env : PySem.Env} {sc : Scope} (he : env.scope = sc) (hk : funKind sc = true) {elt : Expr} {gs : List Comprehension} {s : Scope} {p py : Pos} {y : Str} {l : Nat} : swapsWith (.ListComp elt gs s p) (some (.Name y py)) l env = pure (swapC sc y py (.ListComp elt gs s p)) := by
  have hb := blockKind_of he hk
  subst he
  show (pure (env.blockKind == .function && env.kindOf y == some .local && py.line == (Expr.ListComp elt gs s p).pos.line && !(s.names.any fun (n, k) => n == y && (k == .local || k == .cell))) : Sem Bool) = _
  congr 1
  unfold swapC
  rw [hb, hk]
  congr 1
  congr 1
  show (true && env.kindOf y == some .local) = (true && decide (env.scope.names.lookup y = some .local))
  congr 1
  show (env.scope.names.lookup y == some .local) = _
  generalize env.scope.names.lookup y = z
  cases z with
  | none => rfl
  | some w => cases w <;> rfl
def noSwap (sc : Scope) (tg e : Expr) : Bool := noComp e || (funKind sc && match tg, e with
  | .Name y py, .ListComp a b c d => !swapC sc y py (.ListComp a b c d)
  | _, _ => false)
theorem noSwap_ok {env : PySem.Env} {sc : Scope} (he : env.scope = sc) {tg e : Expr} {l : Nat} (h : noSwap sc tg e = true) : swapsWithSole [tg] e l env = pure false := by
  unfold noSwap at h
  rw [Bool.or_eq_true, Bool.and_eq_true] at h
  rcases h with h | ⟨h1, h2⟩
  · exact no_swap h _ _ _
  · split at h2
    · rename_i y py a b c d
      show swapsWith (.ListComp a b c d) (some (.Name y py)) l env = _
      rw [swapC_ok he h1]
      congr 1
      simpa using h2
    · cases h2
section
variable (tab : Str → Option GV)
mutual
def chkS (S : Sc0) : Pi.S → Stmt → Bool
  | .ex c, s => match s with
    | .Expr e _ => noComp e && (nit c && chkE tab S c e)
    | _ => false
  | .asg t c, s => match s with
    | .Assign [tg] e _ => (noSwap S.sc tg e && noStores tg e && chkT S t tg && (nit c && chkE tab S c e)) ||
      (match t, c, tg, e with
        | .n i, .lc elt tg it cond, .Name y py, .ListComp x [⟨t, ie, ifs, ia⟩] scope p => cold S && decide (ia = 0) && funKind S.sc && decide (S.N[i]? = some y) && swapC S.sc y py (.ListComp x [⟨t, ie, ifs, ia⟩] scope p) &&
          noSet ie && blkC S.N S.sc scope ((tgtNames t).zip tg.own) && decide (((tgtNames t).zip tg.own).map (·.2) = tg.own) && (!needT it || tupT t) && chkE tab S it ie &&
          chkT (subS S scope) tg t && (nit elt && chkE tab (subS S scope) elt x) && chkC tab (subS S scope) cond ifs
        | _, _, _, _ => false)
    | _ => false
  | .par is cs, s => match s with
    | .Assign [.Tuple ts _ _] (.Tuple es _ _) _ => match is, ts, es with
      | [i, j], [.Name x px, .Name y py], [a, b] => cold S && decide (S.N[i]? = some x) && decide (S.N[j]? = some y) && decide (i ≠ j) && swap2 S.sc x px y py a b && chkL tab S cs [a, b]
      | [i, j, l], [.Name x px, .Name y py, .Name z pz], [a, b, c] => cold S && decide (S.N[i]? = some x) && decide (S.N[j]? = some y) && decide (S.N[l]? = some z) && decide (i ≠ j) && decide (i ≠ l) && decide (j ≠ l) && swap3 S.sc x px y py z pz a b c && chkL tab S cs [a, b, c]
      | _, _, _ => false
    | _ => false
  | .pro is cs, s => match s with
    | .Assign [.Tuple ts kt pt] (.Tuple es _ _) _ => cold S && chkL tab S cs es && decide (cs.length ≤ 100) && ((match is, ts, es with
      | [i, j], [.Name x px, .Name y py], [a, b] => decide (S.N[i]? = some x) && decide (S.N[j]? = some y) && decide (i ≠ j) && swap2 S.sc x px y py a b
      | [i, j, l], [.Name x px, .Name y py, .Name z pz], [a, b, c] => decide (S.N[i]? = some x) && decide (S.N[j]? = some y) && decide (S.N[l]? = some z) && decide (i ≠ j) && decide (i ≠ l) && decide (j ≠ l) && swap3 S.sc x px y py z pz a b c
      | _, _, _ => false) || (noSw S.sc ts es && chkT S (.t is) (.Tuple ts kt pt)))
    | _ => false
  | .pop t i, s => match s with
    | .Assign [tg] (.Call (.Attribute (.Name x px) m ap) [] [] cp) _ => (m == ("pop" : Str)) && slotC S i x && (ap.endLine == cp.line) && noStores tg (.Call (.Attribute (.Name x px) m ap) [] [] cp) && chkT S t tg
    | _ => false
  | .app i c, s => match s with
    | .Expr (.Call (.Attribute (.Name x _) m ap) [e] [] cp) _ => (m == ("append" : Str)) && slotC S i x && noStar e && (ap.endLine == cp.line) && (nit c && chkE tab S c e)
    | _ => false
  | .set i k c, s => match s with
    | .Assign [.Subscript (.Name x _) ek _] e _ => slotC S i x && noComp e && noSlice ek && (nit k && chkE tab S k ek) && (nit c && chkE tab S c e)
    | _ => false
  | .ret c, s => match s with
    | .Return (some e) _ => match c with
      | .v i => (match e with | .Name x _ => slotC S i x | _ => false)
      | c => notV c && (nit c && chkE tab S c e)
    | _ => false
  | .retn, s => match s with
    | .Return none _ => true
    | _ => false
  | .ifs c a b, s => match s with
    | .If e ea eb _ => (nit c && chkE tab S c e) && chkB S a ea && chkB S b eb
    | _ => false
  | .for t it b, s => match s with
    | .For tg iter body [] _ => cold S && noSet iter && (!needT it || tupT tg) && chkE tab S it iter && chkT S t tg && chkB S b body
    | _ => false
  | .while c b, s => match s with
    | .While e body [] _ => (nit c && chkE tab S c e) && chkB S b body
    | _ => false
  | .raise c o, s => match o, s with
    | none, .Raise (some (.Call (.Name x _) [.Constant (.str _) _ _] [] _)) none _ => (cold S && glC S.sc x) && (match tab x with | some (.cls j true) => decide (c = j) | _ => false)
    | _, _ => false
  | .pass, s => match s with
    | .Pass _ => true
    | _ => false
  | .brk, s => match s with
    | .Break _ => true
    | _ => false
  | .cont, s => match s with
    | .Continue _ => true
    | _ => false
def chkB (S : Sc0) : List Pi.S → List Stmt → Bool
  | [], [] => true
  | s :: ss, e :: es => chkS S s e && chkB S ss es
  | _, _ => false
end
end
section
variable {F : Fx} {G : Gl} {call : Nat → List D → Sto → RC} {tab : Str → Option GV} {k N : Nat} {X : Cx} {S : Sc0} {W : WX}
theorem rs_asg' {t : T} {c : C} {tg e : Expr} {pos : Pos} (x : XOk X F G call tab S W k) (hn : noSwap S.sc tg e = true) (hs : noStores tg e = true) (he : PE X e (RdE F G call W false c)) (hg : PG X tg (t.g F.K)) (h1 : (assignEach [tg] X.env).map (·.2) = [assign tg X.env]) : PS X (.Assign [tg] e pos) (RdS F G call W N (.asg t c)) :=
  (ps_asg he hg (noSwap_ok x.sc hn) (no_stores hs _) h1).imp fun _ _ _ h => asg_dat h
theorem chkL_O (x : XOk X F G call tab S W k) : ∀ {cs : List C} {es : List Expr}, chkL tab S cs es = true → PA X es (rdO F G call W cs) ∧ cs.length = es.length
  | [], [], _ => ⟨pa_nil, rfl⟩
  | c :: cs, e :: es, h => by
    have h : (noStar e && (nit c && chkE tab S c e) && chkL tab S cs es) = true := by
      unfold chkL at h
      exact h
    rw [Bool.and_eq_true, Bool.and_eq_true, Bool.and_eq_true] at h
    obtain ⟨⟨h1, h2, h3⟩, h4⟩ := h
    obtain ⟨h5, h6⟩ := chkL_O x h4
    exact ⟨pa_cons ((chkE_ok c x _ h3).pe h2 false) h5 (star_cons h1 _), by rw [List.length_cons, List.length_cons, h6]⟩
  | [], _ :: _, h => by
    unfold chkL at h
    cases h
  | _ :: _, [], h => by
    unfold chkL at h
    cases h
mutual
theorem chkS_ok (x : XOk X F G call tab S W k) : ∀ (s : Pi.S) (e : Stmt), chkS tab S s e = true → PS X e (RdS F G call W N s)
  | .ex c, e, h => by
    unfold chkS at h
    split at h
    · rw [Bool.and_eq_true, Bool.and_eq_true] at h
      exact rs_ex h.1 ((chkE_ok c x _ h.2.2).pe h.2.1 false)
    · cases h
  | .asg t c, e, h => by
    unfold chkS at h
    split at h
    · rename_i tg e pos
      rw [Bool.or_eq_true] at h
      rcases h with h | h
      · rw [Bool.and_eq_true, Bool.and_eq_true, Bool.and_eq_true, Bool.and_eq_true] at h
        obtain ⟨⟨⟨h1, h2⟩, h3⟩, h4, h5⟩ := h
        obtain ⟨g1, g2⟩ := chkT_ok x h3
        exact rs_asg' x h1 h2 ((chkE_ok c x _ h5).pe h4 false) g1 g2
      · split at h
        · rename_i i elt tg' it cond y py ex t ie ifs ia scope p
          simp only [Bool.and_eq_true, decide_eq_true_eq, Bool.or_eq_true, Bool.not_eq_true'] at h
          obtain ⟨⟨⟨⟨⟨⟨⟨⟨⟨⟨⟨⟨hc, rfl⟩, hk⟩, hy⟩, hsw⟩, h1⟩, h2⟩, h3⟩, h4⟩, h5⟩, h6⟩, h7, h8⟩, h9⟩ := h
          have hc := cold_ok hc
          have hl : S.sc.names.lookup y = some .local := by
            have hsw := hsw
            unfold swapC at hsw
            simp only [Bool.and_eq_true, decide_eq_true_eq] at hsw
            exact hsw.1.1.2
          exact rs_lc (x.calm hc) (by rw [x.N]; exact x.nd) (by rw [x.N]; exact hy) (by rw [x.sc]; exact hl) (by rw [swapC_ok x.sc hk, hsw]) ((chkE_ok _ x _ h5).pi _ fun z => h4.resolve_left (by rw [z]; decide)) (by rw [x.N, x.sc]; exact blkOk_by h2) h3
            (fun s H C cl fp => (chkT_ok (xok_blk x hc s H _ C cl fp) h6).1) (fun s H C cl fp => chkC_ok _ (xok_blk x hc s H _ C cl fp) _ h9) (fun s H C cl fp => (chkE_ok _ (xok_blk x hc s H _ C cl fp) _ h8).pe h7 false) h1
        · cases h
    · cases h
  | .par is cs, e, h => by
    unfold chkS at h
    split at h
    · split at h
      · simp only [Bool.and_eq_true, decide_eq_true_eq] at h
        obtain ⟨⟨⟨⟨⟨hc, h1⟩, h2⟩, h3⟩, h4⟩, h5⟩ := h
        exact rs_par2 (x.calm (cold_ok hc)) (by rw [x.N]; exact x.nd) (by rw [x.N]; exact h1) (by rw [x.N]; exact h2) h3 (by rw [x.sc]; exact h4) ((chkL_ok cs x _ h5).1 false)
      · simp only [Bool.and_eq_true, decide_eq_true_eq] at h
        obtain ⟨⟨⟨⟨⟨⟨⟨⟨hc, h1⟩, h2⟩, h2'⟩, h3⟩, h3'⟩, h3''⟩, h4⟩, h5⟩ := h
        exact rs_par3 (x.calm (cold_ok hc)) (by rw [x.N]; exact x.nd) (by rw [x.N]; exact h1) (by rw [x.N]; exact h2) (by rw [x.N]; exact h2') h3 h3' h3'' (by rw [x.sc]; exact h4) ((chkL_ok cs x _ h5).1 false)
      · cases h
    · cases h
  | .pro is cs, e, h => by
    unfold chkS at h
    split at h
    · rename_i ts kt pt es _ _ _
      rw [Bool.and_eq_true, Bool.and_eq_true, Bool.and_eq_true, decide_eq_true_eq, Bool.or_eq_true] at h
      obtain ⟨⟨⟨hc, h5⟩, hcl⟩, h⟩ := h
      obtain ⟨hpa, hlen⟩ := chkL_O x h5
      rcases h with h | h
      · split at h
        · simp only [Bool.and_eq_true, decide_eq_true_eq] at h
          obtain ⟨⟨⟨h1, h2⟩, h3⟩, h4⟩ := h
          exact rs_pro2 (x.calm (cold_ok hc)) (by rw [x.N]; exact x.nd) (by rw [x.N]; exact h1) (by rw [x.N]; exact h2) h3 (by rw [x.sc]; exact h4) hpa hlen
        · simp only [Bool.and_eq_true, decide_eq_true_eq] at h
          obtain ⟨⟨⟨⟨⟨⟨h1, h2⟩, h2'⟩, h3⟩, h3'⟩, h3''⟩, h4⟩ := h
          exact rs_pro3 (x.calm (cold_ok hc)) (by rw [x.N]; exact x.nd) (by rw [x.N]; exact h1) (by rw [x.N]; exact h2) (by rw [x.N]; exact h2') h3 h3' h3'' (by rw [x.sc]; exact h4) hpa hlen
        · cases h
      · rw [Bool.and_eq_true] at h
        obtain ⟨g1, g2⟩ := chkT_ok x h.2
        exact rs_proN (by rw [x.sc]; exact h.1) g1 g2 hpa hcl
    · cases h
  | .pop t i, e, h => by
    unfold chkS at h
    split at h
    · simp only [Bool.and_eq_true, beq_iff_eq] at h
      obtain ⟨⟨⟨⟨rfl, h1⟩, h2⟩, h3⟩, h4⟩ := h
      obtain ⟨s1, s2, s3, s4⟩ := slotC_ok x h1
      obtain ⟨g1, g2⟩ := chkT_ok x h4
      exact rs_pop s1 s2 s3 s4 (by simpa using h2) g1 h3 g2
    · cases h
  | .app i c, e, h => by
    unfold chkS at h
    split at h
    · simp only [Bool.and_eq_true, beq_iff_eq] at h
      obtain ⟨⟨⟨⟨rfl, h1⟩, h2⟩, h3⟩, h4, h5⟩ := h
      obtain ⟨s1, s2, s3, s4⟩ := slotC_ok x h1
      exact rs_app s1 s2 s3 s4 h2 (by simpa using h3) ((chkE_ok c x _ h5).pe h4 false)
    · cases h
  | .set i kk c, e, h => by
    unfold chkS at h
    split at h
    · simp only [Bool.and_eq_true] at h
      obtain ⟨⟨⟨⟨h1, h2⟩, h3⟩, h4, h5⟩, h6, h7⟩ := h
      obtain ⟨s1, s2, s3, s4⟩ := slotC_ok x h1
      exact rs_set x.K x.pw x.un s1 s2 s3 s4 h2 h3 ((chkE_ok kk x _ h5).pe h4 true) ((chkE_ok kk x _ h5).pe h4 false) ((chkE_ok c x _ h7).pe h6 false)
    · cases h
  | .ret c, e, h => by
    unfold chkS at h
    split at h
    · split at h
      · split at h
        · exact rs_retv (pe_slot' x h)
        · cases h
      · rw [Bool.and_eq_true, Bool.and_eq_true] at h
        exact rs_ret h.1 ((chkE_ok c x _ h.2.2).pe h.2.1 false)
    · cases h
  | .retn, e, h => by
    unfold chkS at h
    split at h
    · exact rs_retn
    · cases h
  | .ifs c a b, e, h => by
    unfold chkS at h
    split at h
    · simp only [Bool.and_eq_true] at h
      obtain ⟨⟨⟨h1, h2⟩, h3⟩, h4⟩ := h
      exact rs_if ((chkE_ok c x _ h2).pt h1) (chkB_ok x a _ h3) (chkB_ok x b _ h4)
    · cases h
  | .for t it b, e, h => by
    unfold chkS at h
    split at h
    · simp only [Bool.and_eq_true, Bool.or_eq_true, Bool.not_eq_true'] at h
      obtain ⟨⟨⟨⟨⟨hc, h1⟩, h2⟩, h3⟩, h4⟩, h5⟩ := h
      exact rs_for x.po (x.calm (cold_ok hc)) ((chkE_ok it x _ h3).pi _ fun z => h2.resolve_left (by rw [z]; decide)) (chkT_ok x h4).1 (chkB_ok x b _ h5) h1
    · cases h
  | .while c b, e, h => by
    unfold chkS at h
    split at h
    · simp only [Bool.and_eq_true] at h
      obtain ⟨⟨h1, h2⟩, h3⟩ := h
      exact rs_while x.po ((chkE_ok c x _ h2).pt h1) (chkB_ok x b _ h3)
    · cases h
  | .raise c o, e, h => by
    unfold chkS at h
    split at h
    · rw [Bool.and_eq_true, Bool.and_eq_true] at h
      have hc := cold_ok h.1.1
      obtain ⟨g1, g2⟩ := glC_ok x h.1.2
      have h2 := h.2
      split at h2
      · rename_i e
        obtain rfl := of_decide_eq_true h2
        obtain ⟨hm, hmk⟩ := x.glob _ _ e
        obtain ⟨bmB, B, newId, initId, f1, f2, f3, f4⟩ := hmk rfl
        exact rs_raise (x.calm hc) x.tk (L2N.pmk_own f1 f2 hm f3 f4 g1 g2)
      · cases h2
    · cases h
  | .pass, e, h => by
    unfold chkS at h
    split at h
    · exact rs_pass
    · cases h
  | .brk, e, h => by
    unfold chkS at h
    split at h
    · exact rs_brk
    · cases h
  | .cont, e, h => by
    unfold chkS at h
    split at h
    · exact rs_cont
    · cases h
theorem chkB_ok (x : XOk X F G call tab S W k) : ∀ (ss : List Pi.S) (es : List Stmt), chkB tab S ss es = true → PSs X es (RdB F G call W N ss)
  | [], [], _ => rs_nil
  | s :: ss, e :: es, h => by
    rw [chkB, Bool.and_eq_true] at h
    exact rs_cons (chkS_ok x s e h.1) (chkB_ok x ss es h.2)
  | [], _ :: _, h => by rw [chkB] at h <;> cases h
  | _ :: _, [], h => by rw [chkB] at h <;> cases h
end
end
end Pi

set_option maxRecDepth 100000
set_option maxHeartbeats 4000000
/-! PiY: functions. -/
namespace Pi
open PySem PySem.Spec L2

theorem lookup_zip : ∀ {ns : List Str} {us : List Value} {n : Str}, n ∈ ns → us.length = ns.length → ((ns.zip us).lookup n).isSome = true
  | [], _, _, h, _ => by cases h
  | m :: ns, [], _, _, hl => by cases hl
  | m :: ns, u :: us, n, h, hl => by
    rw [List.zip_cons_cons, List.lookup_cons]
    by_cases e : n = m
    · subst e; simp
    · have e2 : (n == m) = false := by simpa using e
      rw [e2]
      exact lookup_zip ((List.mem_cons.mp h).resolve_left e) (by simpa using hl)
theorem filterMap_zip : ∀ {ns : List Str} {us : List Value} (pre : List (Str × Value)), (∀ n ∈ ns, pre.lookup n = none) → ns.Nodup → us.length = ns.length → ns.filterMap (fun n => ((pre ++ ns.zip us).lookup n).map (n, ·)) = ns.zip us
  | [], [], _, _, _, _ => rfl
  | [], _ :: _, _, _, _, h => by cases h
  | _ :: _, [], _, _, _, h => by cases h
  | n :: ns, u :: us, pre, hp, hn, hl => by
    rw [List.nodup_cons] at hn
    have app : ∀ {l : List (Str × Value)} {l2 : List (Str × Value)} {x : Str}, l.lookup x = none → (l ++ l2).lookup x = l2.lookup x := by
      intro l l2 x h
      rw [List.lookup_append, h]; rfl
    have e0 : (pre ++ (n :: ns).zip (u :: us)).lookup n = some u := by
      rw [app (hp n List.mem_cons_self), List.zip_cons_cons, List.lookup_cons]
      simp
    rw [List.filterMap_cons, e0]
    simp only [Option.map_some]
    rw [List.zip_cons_cons]
    congr 1
    have ih := filterMap_zip (ns := ns) (us := us) (pre ++ [(n, u)]) (fun x hx => by
      rw [app (hp x (List.mem_cons_of_mem _ hx)), List.lookup_cons]
      have e : (x == n) = false := by
        have : x ≠ n := fun z => hn.1 (by rw [← z]; exact hx)
        simpa using this
      rw [e]; rfl) hn.2 (by simpa using hl)
    rw [List.append_assoc] at ih
    exact ih
theorem bind_plain {name qual : Str} {as : List Arg} {body : List Stmt} {scope : Scope} {kV doc pm cdv ct : Value} {an : Option Addr} {us : List Value} (hd : (as.map (·.arg)).Nodup) (hl : us.length = (as.map (·.arg)).length) :
    bindArgs (PySem.W.fnOf name qual ⟨[], as, none, [], [], none, []⟩ body scope .none kV doc pm an cdv ct) ⟨us, []⟩ = pure ((as.map (·.arg)).zip us) := by
  have key := filterMap_zip (ns := as.map (·.arg)) (us := us) [] (fun _ _ => rfl) hd hl
  have miss : (as.map (·.arg)).filter (fun n => (((as.map (·.arg)).zip us).lookup n).isNone) = [] := by
    rw [List.filter_eq_nil_iff]
    intro n hn
    have := lookup_zip hn hl
    simp [Option.isNone_iff_eq_none, Option.isSome_iff_ne_none] at this ⊢
    exact this
  unfold bindArgs PySem.W.fnOf
  have hs : seqItems? Value.none = pure none := rfl
  have hl' : us.length = as.length := by simpa using hl
  simp only [List.nil_append] at key
  simp only [hs, pure_bind, List.map_nil, List.nil_append, List.append_nil, List.forIn_pure_yield_eq_foldl, List.foldl_nil, List.forIn_nil, Option.getD_none, List.length_map, List.length_nil, hl', Nat.lt_irrefl, List.drop_nil, Nat.sub_zero, decide_false, Bool.false_and, if_false, gt_iff_lt, Bool.false_eq_true, ite_false, List.take_length, false_and, List.zip_nil_right]
  have e1 : List.take as.length (as.map fun x => x.arg) = as.map fun x => x.arg := by
    rw [List.take_of_length_le]; simp
  rw [e1, miss, key]
  rfl
/-- parameters without more -/
def plainArgs (p : Arguments) : Bool := match p with
  | ⟨[], as, none, [], [], none, []⟩ => decide (as.map (·.arg)).Nodup
  | _ => false
def argNames (p : Arguments) : List Str := p.args.map (·.arg)
theorem plain_bind {p : Arguments} (h : plainArgs p = true) {name qual : Str} {body : List Stmt} {scope : Scope} {kV doc pm cdv ct : Value} {an : Option Addr} {us : List Value} (hl : us.length = (argNames p).length) :
    bindArgs (PySem.W.fnOf name qual p body scope .none kV doc pm an cdv ct) ⟨us, []⟩ = pure ((argNames p).zip us) := by
  unfold plainArgs at h
  split at h
  · exact bind_plain (of_decide_eq_true h) hl
  · cases h

/-! ### a function's start and end -/
section
variable {F : Fx} {Uo : Addr → Prop} {m m1 : Nat → Addr} {H H1 : Hp} {st st1 : Sto}
def env0 (k : Nat) (ds : List D) : Env := ds.map (fun d => some (d, false)) ++ List.replicate (k - ds.length) none
theorem env0_get {k : Nat} {ds : List D} {i : Nat} {p : D × Bool} (h : (env0 k ds)[i]? = some (some p)) : p.2 = false ∧ ds[i]? = some p.1 := by
  unfold env0 at h
  by_cases hi : i < ds.length
  · rw [List.getElem?_append_left (by simpa using hi), List.getElem?_map] at h
    cases e : ds[i]? with
    | none => rw [e] at h; cases h
    | some d => rw [e] at h; cases h; exact ⟨rfl, rfl⟩
  · rw [List.getElem?_append_right (by simpa using hi), List.getElem?_replicate] at h
    split at h <;> cases h
theorem own0 {k : Nat} {ds : List D} {σ : SL} {b : Addr} : ¬ OwnAt (env0 k ds) σ b := fun ⟨i, d, h, _⟩ => by
  have := (env0_get h).1
  cases this
theorem mu0 {k n : Nat} {ds : List D} {σ : SL} {b : Addr} (h : MuOf Uo (env0 k ds) σ m n b) : MuOf Uo [] [] m n b := h.imp id fun z => z.elim (fun z => absurd z own0) .inr
theorem sim_start {N : List Str} {ds : List D} {vs : List V} (S : Sim F Uo m [] [] st H) (r : Reps F (MuOf Uo [] [] m st.length) m st.length H vs ds) (hN : N.length = k) : Sim F Uo m (env0 k ds) (L2.start N vs) st H := by
  have hl := Reps.length r
  have L : Mov (MuOf Uo [] [] m st.length) (MuOf Uo (env0 k ds) (L2.start N vs) m st.length) m m st.length st.length H H := Mov.less fun _ z => mu0 z
  exact {
    len := by unfold env0 L2.start; simp [hl, hN]
    inj := S.inj
    obj := fun l xs e => let ⟨vs, h1, h2⟩ := S.obj l xs e; ⟨vs, h1, Reps.mov L h2⟩
    objD := fun l kvs e => let ⟨es, h1, h2⟩ := S.objD l kvs e; ⟨es, h1, DRel.mov L h2⟩
    val := fun i d e => by
      have h := (env0_get e).2
      obtain ⟨v, h1, h2⟩ := Reps.get r h
      have hi : i < vs.length := by
        by_cases hi : i < vs.length
        · exact hi
        · rw [List.getElem?_eq_none (by omega)] at h1; cases h1
      refine ⟨v, ?_, Rep.mov L h2⟩
      unfold L2.start
      rw [List.getElem?_append_left (by simpa using hi), List.getElem?_map, h1]; rfl
    own := fun i d e => by have := (env0_get e).1; cases this
    sep := fun i j a d e h => by have := (env0_get h).1; cases this
    osto := fun b hb => absurd hb own0
    usto := S.usto
    uH := S.uH
    tab := S.tab }
theorem sim_end {env : Env} {σ : SL} {T : Addr → Prop} (S : Sim F (Plus Uo T) m env σ st H) : Sim F (Plus Uo T) m [] [] st H := by
  have L : Mov (MuOf (Plus Uo T) env σ m st.length) (MuOf (Plus Uo T) [] [] m st.length) m m st.length st.length H H := Mov.less fun b z => z.imp id fun z => z.elim (fun z => absurd z own_nil) .inr
  exact {
    len := rfl
    inj := S.inj
    obj := fun l xs e => let ⟨vs, h1, h2⟩ := S.obj l xs e; ⟨vs, h1, Reps.mov L h2⟩
    objD := fun l kvs e => let ⟨es, h1, h2⟩ := S.objD l kvs e; ⟨es, h1, DRel.mov L h2⟩
    val := fun i d e => by simp at e
    own := fun i d e => by simp at e
    sep := fun i j a d e h => by simp at h
    osto := fun b hb => absurd hb own_nil
    usto := S.usto
    uH := S.uH
    tab := S.tab }
theorem step_end {k : Nat} {ds : List D} {env : Env} {σ0 σ : SL} (p : Step (OwnAt (env0 k ds) σ0) (env0 k ds) σ0 m st.length H env σ m1 st1.length H1) : Step noCh [] [] m st.length H [] [] m1 st1.length H1 :=
  ⟨p.hn, p.hm, p.new, fun a o e ht h => p.fr a o e ht (h.imp id fun z => ⟨own0, z.2⟩), p.th, fun b hb => absurd hb own_nil⟩
/-- the promise of a call, as the body's -/
theorem body_of {G : Gl} {fns : List Fn} {W n f : Nat} {fn : Fn} {N : List Str} {ds : List D} {vs : List V} {Q : VK} {E : XK} (hf : fns[f]? = some fn) (hN : N.length = fn.ns) (S : Sim F Uo m [] [] st H) (r : Reps F (MuOf Uo [] [] m st.length) m st.length H vs ds)
    (q : PostE F Uo [] [] m st.length H (fun cls dd _ H' => E cls dd H') false Q (ofCall (callN G fns W (n + 1) f ds st) [])) :
    ds.length = fn.np ∧ RdB F G (callN G fns W n) (fun cls dd _ H' => E cls dd H') W fn.body { nx := fun _ H' => Q .non H', rt := Q } (L2.start N vs) H := by
  unfold callN at q
  rw [hf] at q
  dsimp only at q
  by_cases hl : ds.length = fn.np
  · rw [if_pos hl] at q
    refine ⟨hl, Uo, m, env0 fn.ns ds, st, sim_start S r hN, ?_⟩
    have e0 : ds.map (fun d => some (d, false)) ++ List.replicate (fn.ns - fn.np) none = env0 fn.ns ds := by unfold env0; rw [hl]
    rw [e0] at q
    revert q
    generalize exB G (callN G fns W n) W fn.body (env0 fn.ns ds) st = z
    intro q
    cases z with
    | no => exact q
    | ex c x env' st' =>
      intro cls dd σ' m' H' p S' e
      have S1 : Sim F (Plus Uo fun _ => False) m' env' σ' st' H' := S'.less fun a z => z.elim id fun z => z.elim
      exact q cls dd m' H' (step_end p) (sim_end S1).base e
    | ok fl env' st' =>
      cases fl with
      | nx =>
        intro σ' m' H' p S'
        exact q .non m' H' (step_end p) (sim_end S'.plusF) ⟨fun e => absurd e (by simp), fun _ _ => rfl, fun _ _ => rfl⟩
      | brk => exact q.elim
      | ct => exact q.elim
      | ret d o =>
        intro v σ' m' H' p S' r1 r2
        have L : Mov (MuOf (Plus Uo (Tmp o v)) env' σ' m' st'.length) (MuOf (Plus Uo (Tmp o v)) [] [] m' st'.length) m' m' st'.length st'.length H' H' := Mov.less fun b z => z.imp id fun z => z.elim (fun z => absurd z own_nil) .inr
        refine q v m' H' (step_end p) (sim_end S') ⟨fun e => ?_, fun e _ => Rep.mov L (r2 e), fun e z => absurd z (by simp)⟩
        obtain ⟨a, xs, vs, h1, h2, h3, h4, h5⟩ := r1 e
        exact ⟨a, xs, vs, h1, h2, h3, Reps.mov L h4, h5.resolve_right own0⟩
  · rw [if_neg hl] at q; exact q.elim
end

/-! ### all functions -/
/-- a function of the text and its code -/
structure FM where
  N : List Str
  lam : Bool
  name : Str
  params : Arguments
  body : List Stmt
  scope : Scope
def FM.sc (f : FM) : Sc0 := ⟨f.N, f.scope, fun _ => true, 0, f.lam⟩
/-- the text holds the code -/
def FM.chk (tab : Str → Option GV) (f : FM) (fn : Fn) : Bool := C8.scC f.N (argNames f.params) f.scope && plainArgs f.params && decide ((argNames f.params).length = fn.np) && decide (f.N.length = fn.ns) && chkB tab f.sc fn.body f.body
/-- what the global names tell, at a written part -/
def MkK (K : PySem.W.Frag) (C : Addr) : Prop := ∃ (bmB : List Value) (B newId initId : String), ExcBaseFacts B newId initId bmB ∧ PySem.W.excIn K C bmB newId = true ∧ PySem.W.keepIn K (.ref C) = true ∧ PySem.W.subIn K (.ref C) (.type "BaseException") = some true ∧ PySem.W.typeIn K (.ref C) = some (.type "type")
def GlobOk (F : Fx) (G : Gl) (tab : Str → Option GV) (mg : Str → Option Value) : Prop := ∀ x g, tab x = some g → match g with
  | .fn i => mg x = some (.ref (F.ga i)) ∧ ∃ n, G.ar i = some n
  | .cls i own => mg x = some (.ref (F.ga i)) ∧ (own = true → MkK F.K (F.ga i))
  | .cst d => ∃ u v, mg x = some u ∧ RelV v u ∧ ∀ Mu m n H, Rep F Mu m n H v d
  | .free => mg x = none
/-- the functions' code at the level n -/
def FnsAt (P : Program) (w : World) (mg : Str → Option Value) (base : Heap) (F : Fx) (G : Gl) (call : Nat → List D → Sto → RC) (k : Nat) : Prop :=
  ∀ f n, G.ar f = some n → ∃ fd ps, FnOk P w F.K mg base (L2N.CX P w) k (F.ga f) fd ps (spOf F call f n) ∧ Binds F.K fd ps [] ∧ PySem.W.keepIn F.K (.ref (F.ga f)) = true
theorem spOf_no {F : Fx} {call : Nat → List D → Sto → RC} {f k : Nat} (h : ∀ ds st, call f ds st = .no) (vs : List V) (H : Hp) (Q : VK) (E : XK) : ¬ spOf F call f k vs H Q E := fun ⟨Uo, m, ds, st, _, _, _, q⟩ => by
  rw [h] at q; exact q
theorem callN_len {G : Gl} {fns : List Fn} {W n f : Nat} {ds : List D} {st : Sto} (h : callN G fns W n f ds st ≠ .no) : ∃ fn, fns[f]? = some fn ∧ ds.length = fn.np := by
  cases n with
  | zero => exact absurd rfl h
  | succ n =>
    unfold callN at h
    cases e : fns[f]? with
    | none => rw [e] at h; exact absurd rfl h
    | some fn =>
      rw [e] at h
      refine ⟨fn, rfl, ?_⟩
      by_cases hl : ds.length = fn.np
      · exact hl
      · dsimp only at h
        rw [if_neg hl] at h; exact absurd rfl h
end Pi

set_option maxRecDepth 100000
set_option maxHeartbeats 4000000
/-! Pi1: _law_error within the except suite. -/
namespace Pi
open PySem PySem.Spec L2
open HotX (HotAt)
open PyProof.Rows

/-- a def's call beside a handled exception p -/
theorem run_hot {CX : CXT} {P : Program} {w : World} {K : PySem.W.Frag} {mg : Str → Option Value} {base : Heap} {k : Nat} {f : Addr} {name qual : Str} {params : Arguments} {body : List Stmt} {scope : Scope} {dV kV doc pm cdv ct oc : Value} {an od : Option Addr}
    {osl : Array (Option Value)} {N ps : List Str} (lk : K.lookup f = some ⟨oc, od, .func (PySem.W.fnOf name qual params body scope dV kV doc pm an cdv ct), osl⟩) (hcd : PySem.W.codeIn K cdv qual = true) (S : FnScope N ps scope)
    {A : Around} {outer : List PySem.Env} {s : Shared} {H : Hp} {args : Args} {us : List Value} {vs : List V} {Q : VK} {E : XK} {p : Addr × Obj} (hr : L2H.RoomH (k + 1) A) (hpin : L2H.PinOk outer H s p) (e0 : Env0 P w K mg base A outer s H) (hb : BindsTo s (PySem.W.fnOf name qual params body scope dV kV doc pm an cdv ct) args (ps.zip us)) (r : Vals vs us) (hl : vs.length = ps.length)
    (hbody : L2H.RoomH k (A.deeper (envOfC qual scope s.heap.objs.size f cdv)) → ∃ t, PSs (L2H.cxH CX P w K mg base N qual scope f cdv A outer s H E p) body t ∧ t { nx := fun _ H' => Q .non H', rt := Q } (L2.start N vs) H) :
    codeAny (model P w) A (.call (.ref f) args) (CR CX outer P w H s Q E) s := by
  have kin : K.In s.heap := e0.mod.kin.keeps fun b o e => (e0.bs b o e).1
  have lim : s.heap.NoLimit := e0.mod.nolimit.keeps fun b o e => (e0.bs b o e).1
  have kinds : ∀ y ∈ ps.zip us, scope.names.lookup y.1 = some .local ∨ (scope.names.lookup y.1 = some .cell ∧ ((cellsFrom (s.heap.objs.size + 1) scope.names []).lookup y.1).isSome = true) := fun ⟨n, v⟩ hy => by
    rcases S.par n (List.of_mem_zip hy).1 with q | q
    · exact .inl q
    · exact .inr ⟨q, PySem.W.cellsFrom_some _ _ _ (.inl q)⟩
  refine codeAny_call_function hr.depth (kin _ _ lk) rfl S.co S.gen rfl (PySem.W.codeRec_of kin hcd) (hb _ _ _ _ ?_)
  refine wpAny_newFunctionEnv_cells S.kind kinds fun env he s1 x => ?_
  subst he
  refine ⟨lim.keeps x.toInCall.keep, codeAny_func ?_⟩
  obtain ⟨t, ht, hq⟩ := hbody (hr.deeper _)
  have J := L2H.inv_startH (CX := CX) (E := E) S hpin e0 hl r x
  refine wpAny_mono (ht.run [] s1 (L2.start N vs) H _ J hq) (fun fl s' hs => ?_) fun e s' hs => hs
  cases fl with
  | ret u => obtain ⟨v, σ', H', J', rv, q⟩ := hs; exact ⟨v, H', J'.os, J'.bare, J'.base, J'.hok, rv, q⟩
  | next => obtain ⟨σ', H', J', q⟩ := hs; exact ⟨V.non, H', J'.os, J'.bare, J'.base, J'.hok, rfl, q⟩
  | brk => obtain ⟨_, _, _, q⟩ := hs; exact False.elim q
  | cont => obtain ⟨_, _, _, q⟩ := hs; exact False.elim q

/-- what the classes of exceptions tell -/
structure ErrK (F : Fx) (G : Gl) (cls : Nat → Bool) : Prop where
  exc : ∀ c, cls c = true → ExcC F.K (F.ga c)
  kit : ∀ c d, cls c = true → cls d = true → PySem.W.kitOne F.K (.ref (F.ga c)) (.ref (F.ga d)) = some (G.sub c d)
/-- the parts for the run over an exception of the class c at a: the exception is the thing 0, the others one further -/
def shF (F : Fx) (a : Addr) : Fx := { F with ga := fun i => match i with
  | 0 => a
  | i + 1 => F.ga i }
def shG (G : Gl) (cls : Nat → Bool) (c : Nat) : Gl := { G with ar := fun _ => none, xi := fun i d => match i, d with
  | 0, d + 1 => if cls d then some (G.sub c d) else none
  | _, _ => none }
def shT (tab : Str → Option GV) : Str → Option GV := fun x => match tab x with
  | some (.cls i _) => some (.cls (i + 1) false)
  | some .free => some .free
  | _ => none
def noCall0 : Nat → List D → Sto → RC := fun _ _ _ => .no
theorem isH_dat {X : Cx} {F : Fx} {G : Gl} {cls : Nat → Bool} {c : Nat} {a : Addr} {oe : Obj} {bw : Bool} {W : WX} (hK : X.K = F.K) (ek : ErrK F G cls) (hc : cls c = true) (hp : (a, oe) ∈ X.pn) (hz : Zc (.ref (F.ga c)) none oe) (hf : ∃ vs, oe.data = .fields vs) :
    CallR X (.builtin "isinstance") (rMany (shF F a) bw W (bifn (shG G cls c) .isinst)) := by
  intro pins s σ H xs us Q I r h
  obtain ⟨σ0, Uo, m, env, st, ds, S, rs, hp'⟩ := h
  generalize e : bifn (shG G cls c) .isinst ds = z at hp'
  unfold bifn at e
  split at e <;> first
    | (rename_i hb; cases hb)
    | skip
  · rename_i x t
    obtain ⟨v, w, rfl, ra, rb⟩ := RepBs.two rs
    cases q : isInst (shG G cls c) x t with
    | none => rw [q] at e; subst e; exact hp'.elim
    | some k =>
      rw [q] at e
      subst e
      cases t with
      | ty t => exact isi_dat (F := shF F a) (by rw [hK]; rfl) I r ra rb q (hp'.here S rfl)
      | gl d =>
        cases x with
        | exc _ _ => exact ra.elim
        | gl i =>
          have q : (shG G cls c).xi i d = some k := q
          cases i with
          | succ i => cases q
          | zero =>
            cases d with
            | zero => cases q
            | succ d =>
              have q : (if cls d then some (G.sub c d) else none) = some k := q
              by_cases hd : cls d = true
              · rw [if_pos hd] at q
                cases q
                obtain rfl : v = .ref a := ra
                obtain rfl : w = .ref (F.ga d) := rb
                have C := ek.exc c hc
                have kk := ek.kit c d hc hd
                rw [← hK] at C kk
                obtain ⟨u1, u2, rfl, r1, r2⟩ := Vals.two r
                cases r1
                cases r2
                obtain ⟨hget, _⟩ := I.pin (a, oe) (List.mem_append.mpr (.inl hp))
                obtain ⟨vs, hv⟩ := hf
                have J : PySem.W.InstAt s.heap a oe (F.ga c) none := by
                  obtain ⟨oc, od, oda, osl⟩ := oe
                  obtain ⟨h1, h2⟩ := hz
                  dsimp only at h1 h2 hv
                  subst h1 h2 hv
                  exact ⟨hget, rfl, rfl, trivial⟩
                exact PySem.W.kia_one (PySem.W.handS_kitx_exc C.hg C.hk C.hs C.hd C.ha C.hn C.ht C.hm) I.kIn J kk (fun z => nomatch z) fun tk => ⟨.bl _, H, I.kept (t' := tk) fun _ _ z => z, rfl, hp'.here S rfl⟩
              · rw [if_neg hd] at q; cases q
        | _ => cases q
      | _ => cases x <;> cases q
  · subst e; exact hp'.elim
end Pi

set_option maxRecDepth 100000
set_option maxHeartbeats 4000000
/-! Pi2: the call of _law_error. -/
namespace Pi
open PySem PySem.Spec L2
open HotX (HotAt)
open PyProof.Rows

/-- _law_error's text holds its code -/
def FM.chkH (tab : Str → Option GV) (f : FM) (fn : Fn) : Bool := C8.scC f.N (argNames f.params) f.scope && plainArgs f.params && decide ((argNames f.params).length = 1) && decide (f.N.length = fn.ns) && chkB (shT tab) ⟨f.N, f.scope, fun _ => true, 1, false⟩ fn.body f.body
/-- .. and tells w of the class c -/
def errSays (G : Gl) (cls : Nat → Bool) (fn : Fn) (c : Nat) (w : Str) : Prop := ∃ env' st', exB (shG G cls c) noCall0 0 fn.body (env0 fn.ns [.gl 0]) [] = .ok (.ret (.str w) false) env' st'

theorem hotc_i {X : Cx} (h : L2H.HotC X) : HotI X := fun _ _ _ _ I => h.at I
theorem pe_err {Z : Cx} {F : Fx} {G : Gl} {cls : Nat → Bool} {tab : Str → Option GV} {fm : FM} {fn : Fn} {f a : Addr} {oe : Obj} {pn : List (Addr × Obj)} {c i k : Nat} {w : Str} {x y : Str} {p p2 pos : Pos} {fd : FuncData} {W : WX} (hK : Z.K = F.K) (hPw : Z.prog = F.P ∧ Z.w = F.w) (hgl : GlobOk F G tab Z.mg) (ek : ErrK F G cls)
    (fD : FunD F.K fm.name fm.name fm.params fm.body fm.scope [] [] f fd) (hch : fm.chkH tab fn = true) (hw : errSays G cls fn c w) (hc : cls c = true) (hz : L2N.Zn (.ref (F.ga c)) none oe) (hf : ∃ vs, oe.data = .fields vs) (hr : Room (k + 1) Z.A)
    (hg : L2.Gl Z x) (hm : Z.mg x = some (.ref f)) (hdx : (x == ("__debug__" : Str)) = false) (hN : Z.N[i]? = some y) (hv : Vis Z.env.scope y) (hd : (y == ("__debug__" : Str)) = false) (hcd : (y == ("__classdict__" : Str)) = false) :
    PE (Z.suite a ((a, oe) :: pn)) (.Call (.Name x p) [.Name y p2] [] pos) (fun σ H Q => σ[i]? = some (some (.ref a)) ∧ LamX.Tabs F.T H ∧ ∀ H', (∀ b o, H b = some o → ¬ isTbl o → H' b = some o) → (∀ b, H b ≠ none → H' b ≠ none) → LamX.Tabs F.T H' → Q (.str w) H') := by
  refine ⟨fun pins s σ H Q I h => ?_⟩
  obtain ⟨hs, hT, h⟩ := h
  unfold FM.chkH at hch
  simp only [Bool.and_eq_true, decide_eq_true_eq] at hch
  obtain ⟨⟨⟨⟨h1, h2⟩, h3⟩, h4⟩, h5⟩ := hch
  have S := C8.fnScope_by h1
  have hot : L2H.Hot1 (Z.suite a ((a, oe) :: pn)).A (a, oe) := ⟨rfl, let ⟨vs, e⟩ := hf; ⟨vs, e, hz.2.2 vs e⟩⟩
  refine wpAny_Call_Name_kw (ld_glob (X := Z.suite a ((a, oe) :: pn)) I hg hm ?_ hdx)
  have ha : PA (Z.suite a ((a, oe) :: pn)) [.Name y p2] (tCons (tVar i) tNil) := pa_cons (pe_var hN hv hd hcd) pa_nil
  refine PySem.W.callWith_K (h₀ := Z.base) I.ok.mod.kin (show PySem.W.keepIn Z.K (.ref f) = true by rw [hK]; exact fD.kp) (thn (ha.run pos pins s σ H (fun vs H1 => vs = [V.ref a] ∧ H1 = H) I ⟨_, hs, rfl, rfl⟩) fun us s1 ⟨vs, H1, I1, r, q1⟩ => ⟨I1.kIn, ?_⟩) rfl rfl
  obtain ⟨rfl, rfl⟩ := q1
  have P1 := I1.pin (a, oe) (List.mem_append_left _ (List.mem_cons_self))
  have hpin : L2H.PinOk (Z.suite a ((a, oe) :: pn)).stack H1 s1 (a, oe) := ⟨P1.1, P1.2.1, fun hm => (List.mem_cons.mp (I1.stkSub a hm)).elim P1.2.2.1 P1.2.2.2.1, P1.2.2.2.2⟩
  have hb : Binds F.K fd (argNames fm.params) [] := fD.bindsN fun _ _ _ _ _ _ us hl => plain_bind h2 hl
  obtain ⟨oc, od, dV, kV, doc, pm, an, cdv, ct, osl, rfl, lk, hcode, _, _⟩ := fD.ex
  have hlu : us.length = (argNames fm.params).length := by rw [← r.length, h3]; rfl
  have hb1 := hb s1 us (by rw [← hK]; exact I1.kIn) (by rw [List.append_nil]; exact hlu)
  rw [List.append_nil] at hb1
  have rc : codeAny (model Z.prog Z.w) (Z.suite a ((a, oe) :: pn)).A (.call (.ref f) ⟨us, []⟩) (CR (fun _ _ _ _ _ _ => False) (Z.suite a ((a, oe) :: pn)).stack Z.prog Z.w H1 s1 Q (fun _ _ _ => False)) s1 := by
    refine run_hot (p := (a, oe)) (K := Z.K) (mg := Z.mg) (base := Z.base) (k := k) (N := fm.N) (ps := argNames fm.params) (by rw [hK]; exact lk) (by rw [hK]; exact hcode) S (L2H.roomH_mark hr _) hpin I1.env0 hb1 r (by rw [h3]; rfl) fun hrh => ?_
    obtain ⟨env', st', hev⟩ := hw
    refine ⟨RdB (shF F a) (shG G cls c) noCall0 (fun _ _ _ _ => False) 0 fn.body, ?_, ?_⟩
    · have hhc : L2H.HotC (L2H.cxH (fun _ _ _ _ _ _ => False) Z.prog Z.w Z.K Z.mg Z.base fm.N fm.name fm.scope f cdv (Z.suite a ((a, oe) :: pn)).A (Z.suite a ((a, oe) :: pn)).stack s1 H1 (fun _ _ _ => False) (a, oe)) := ⟨(a, oe), hot, List.mem_cons_self⟩
      refine chkB_ok (k := k) (tab := shT tab) (S := ⟨fm.N, fm.scope, fun _ => true, 1, false⟩) ?_ _ _ h5
      exact {
        K := hK
        pw := hPw
        N := rfl
        nd := S.nd
        sc := rfl
        fn := fun _ _ => rfl
        calm := fun z => by cases z
        un := by
          have := hrh.un
          show ((Z.suite a ((a, oe) :: pn)).A.deeper (envOfC fm.name fm.scope s1.heap.objs.size f cdv)).units + 64 < cLine
          omega
        room := fun z => by cases z
        xi := fun z => by cases z
        rfd := fun z => by cases z
        hot1 := fun _ => ⟨hhc, fun bw W' => isH_dat hK ek hc List.mem_cons_self hz.zc hf⟩
        hot2 := .inr (hotc_i hhc)
        tk := fun u s' ⟨_, _, _, _, _, _, _, _, _, _, _, _, _, _, _, _, z⟩ => z.elim
        po := passes_of rfl
        fns := fun f n z => by cases z
        nca := fun f ds st z => absurd rfl z
        glob := fun x g e => by
          unfold shT at e
          cases q : tab x with
          | none => rw [q] at e; cases e
          | some g0 =>
            rw [q] at e
            have z := hgl x g0 q
            cases g0 with
            | fn _ => cases e
            | cst _ => cases e
            | free => cases e; exact z
            | cls j own =>
              cases e
              exact ⟨z.1, fun z => by cases z⟩ }
    · refine ⟨fun _ => False, fun _ => 0, env0 fn.ns [.gl 0], [], ?_, ?_⟩
      · refine sim_start (F := shF F a) (Uo := fun _ => False) (m := fun _ => 0) (ds := [.gl 0]) (vs := [.ref a]) ?_ ⟨rfl, trivial⟩ h4
        exact {
          len := rfl
          inj := fun i j hi => absurd hi (by simp)
          obj := fun l xs e => by simp at e
          objD := fun l kvs e => by simp at e
          val := fun i d e => by simp at e
          own := fun i d e => by simp at e
          sep := fun i j a d e h => by simp at h
          osto := fun b hb => absurd hb own_nil
          usto := fun b ⟨l, hl, _⟩ => absurd hl (by simp)
          uH := fun a z => z.elim
          tab := hT }
      · rw [hev]
        intro v σ' m' H' pst S' _ r2
        obtain rfl : v = .str w := r2 rfl
        exact h H' (fun b o e ht => pst.fr b o e ht (.inr ⟨own0, fun ⟨l, hl, _⟩ => absurd hl (by simp)⟩)) pst.th S'.tab
  refine wpAny_call (codeAny_mono rc fun r s' hq => ?_)
  cases r with
  | error e => exact False.elim hq
  | ok fl =>
    cases fl with
    | ret u => exact I1.after (X := Z.suite a ((a, oe) :: pn)) hq
    | next => exact False.elim hq
    | brk => exact False.elim hq
    | cont => exact False.elim hq
end Pi

set_option maxRecDepth 100000
set_option maxHeartbeats 4000000
/-! Pi4: _law_refused with a lambda. -/
namespace Pi
open PySem PySem.Spec L2
open HotX (HotAt)
open PyProof.Rows

section
variable {F : Fx} {Uo : Addr → Prop} {env : Env} {σ : SL} {m : Nat → Addr} {n : Nat} {H H' : Hp} {st : Sto}
theorem imm_tbl {o : HO} (h : imm o) : ¬ isTbl o := by cases o <;> first | exact fun z => z | exact h.elim
theorem Stays.mov {Mu : Addr → Prop} (k : Stays F H H') : Mov Mu Mu m m n n H H' := ⟨Nat.le_refl _, fun _ _ => rfl, fun a o e h => k.kp a o e (by
  rcases h with h | ⟨⟨xs, rfl⟩, _⟩
  · exact imm_tbl h
  · exact fun z => z), fun _ z => .inl z⟩
theorem Stays.step {Ch : Addr → Prop} (k : Stays F H H') : Step Ch env σ m n H env σ m n H' := ⟨Nat.le_refl _, fun _ _ => rfl, fun l h1 h2 => absurd (Nat.lt_of_le_of_lt h1 h2) (Nat.lt_irrefl _), fun a o e ht _ => k.kp a o e ht, k.th, fun _ z => .inl z⟩
theorem Stays.sim (k : Stays F H H') (S : Sim F Uo m env σ st H) : Sim F Uo m env σ st H' where
  len := S.len
  inj := S.inj
  obj := fun l xs e => let ⟨vs, h1, h2⟩ := S.obj l xs e; ⟨vs, k.kp _ _ h1 (fun z => z), Reps.mov k.mov h2⟩
  objD := fun l kvs e => let ⟨es, h1, h2⟩ := S.objD l kvs e; ⟨es, k.kp _ _ h1 (fun z => z), DRel.mov k.mov h2⟩
  val := fun i d e => let ⟨v, h1, h2⟩ := S.val i d e; ⟨v, h1, Rep.mov k.mov h2⟩
  own := fun i d e => let ⟨a, xs, vs, h1, h2, h3, h4⟩ := S.own i d e; ⟨a, xs, vs, h1, h2, k.kp _ _ h3 (fun z => z), Reps.mov k.mov h4⟩
  sep := S.sep
  osto := S.osto
  usto := S.usto
  uH := fun a z => k.th a (S.uH a z)
  tab := k.tb
end

/-- _law_refused's text -/
def refC (tab : Str → Option GV) (le pl : Nat) (fm : FM) : Bool := C8.scC fm.N (argNames fm.params) fm.scope && plainArgs fm.params && match fm.N, fm.body with
  | [a, e], [.Try [.Expr (.Call (.Name a' _) [] [] _) _] [.ExceptHandler (some (.Name xp _)) (some e') [.Return (some (.Call (.Name xl _) [.Name e'' _] [] _)) _] _] [] [] _, .Return (some (.Constant (.str z) _ _)) _] =>
    decide (argNames fm.params = [a]) && decide (a' = a) && decide (e' = e) && decide (e'' = e) && decide (z = Str.ofString "") && visC fm.scope a && decide (fm.scope.names.lookup e = some .local) && okName a && okName e && glC fm.scope xl && glC fm.scope xp &&
      (match tab xl with | some (.cls j _) => decide (j = le) | _ => false) && (match tab xp with | some (.cls j _) => decide (j = pl) | _ => false)
  | _, _ => false

structure ErrAll (F : Fx) (G : Gl) (tab : Str → Option GV) (cls : Nat → Bool) (le pl lr : Nat) (em rm : FM) (en : Fn) : Prop where
  ek : ErrK F G cls
  top : ∀ c, cls c = true → PySem.W.exmOne F.K (.ref (F.ga c)) (.ref (F.ga pl)) = some true
  words : ∀ c w, G.words c = some w → cls c = true ∧ errSays G cls en c w
  fe : ∃ fd, FunD F.K em.name em.name em.params em.body em.scope [] [] (F.ga le) fd
  ce : em.chkH tab en = true
  fr : ∃ fd, FunD F.K rm.name rm.name rm.params rm.body rm.scope [] [] (F.ga lr) fd
  cr : refC tab le pl rm = true
  lr : tab "_law_refused" = some (.cls lr false)

abbrev refZ (X : Cx) (N : List Str) (name : Str) (sc : Scope) (g : Addr) (cdv : Value) (s' : Shared) (H1 : Hp) : Cx := cxOf (L2N.CX X.prog X.w) X.prog X.w X.K X.mg X.base N name sc g cdv X.A X.stack s' H1 (fun _ _ _ => False)
theorem takes_no {X : Cx} : L2N.Takes X W0 := fun u s' h => by
  obtain ⟨_, _, _, _, _, _, _, _, _, _, _, _, _, _, _, _, z⟩ := h
  exact z.elim
def tsR (F : Fx) (G : Gl) : Addr → Value → Option Addr → TS := fun a cls d D σ0 H0 => ∃ c w, cls = .ref (F.ga c) ∧ d = none ∧ G.words c = some w ∧ σ0[1]? = some (some (.ref a)) ∧ LamX.Tabs F.T H0 ∧ ∀ H'', Stays F H0 H'' → D.rt (.str w) H''
def tbR (F : Fx) (G : Gl) (call : Nat → List D → Sto → RC) (e : C) (σ : SL) (n : Nat) (g c' : Addr) (q : Str) : WX → TS := fun W' D σ0 H0 => ∃ Ech : XK, (∀ cls d (σ' : SL) H', σ'.length = n → Ech cls d H' → W' cls d σ' H') ∧ σ0[0]? = some (some (.ref g)) ∧ H0 c' = some (LamX.CodeO c' q) ∧
  RdE F G call (fun cls dd _ H' => Ech cls dd H') false e σ H0 (fun _ H'' => D.nx σ0 H'')
theorem glC_raw {sc : Scope} {y : Str} (h : glC sc y = true) : sc.names.lookup y = some .globalImplicit ∧ (y == ("__debug__" : Str)) = false := by
  unfold glC at h
  split at h
  · rename_i e; exact ⟨e, by simpa using h⟩
  · cases h
theorem rfd_ok {X : Cx} {F : Fx} {G : Gl} {call : Nat → List D → Sto → RC} {tab : Str → Option GV} {cls : Nat → Bool} {le pl lr : Nat} {em rm : FM} {en : Fn} {W : WX} {k : Nat} (hK : X.K = F.K) (hPw : X.prog = F.P ∧ X.w = F.w) (hgl : GlobOk F G tab X.mg) (ea : ErrAll F G tab cls le pl lr em rm en) (la : LamAt X F) (hr : Room (k + 2) X.A) : RfdR X F G call W k := by
  intro bw f e params body scope p lpos pos hlo hg hbody
  unfold lamOk at hlo
  rw [Bool.and_eq_true] at hlo
  obtain ⟨hpar, hls⟩ := hlo
  have L := LamX.lamS_by hls
  have hdef : defaultsOf params X.env = ([], []) := by
    split at hpar
    · rfl
    · cases hpar
  have hbind : ∀ (q : Str) (cl : List (Str × Addr)) (pm cv ctv : Value), bindArgs (PySem.W.kla_fn "<lambda>" q params body scope cl pm cv ctv) ⟨[], []⟩ = pure [] := by
    split at hpar
    · intro q cl pm cv ctv; rfl
    · cases hpar
  have hm := (hgl _ _ ea.lr).1
  obtain ⟨fdr, fR⟩ := ea.fr
  obtain ⟨fde, fE⟩ := ea.fe
  have hcr := ea.cr
  unfold refC at hcr
  rw [Bool.and_eq_true, Bool.and_eq_true] at hcr
  obtain ⟨⟨sc1, sc2⟩, hcr⟩ := hcr
  have SR := C8.fnScope_by sc1
  have bR : Binds F.K fdr (argNames rm.params) [] := fR.bindsN fun _ _ _ _ _ _ us hl => plain_bind sc2 hl
  obtain ⟨oc, od, dV, kV, doc, pm, an, cdv, ct, osl, rfl, lk, hcdR, _, _⟩ := fR.ex
  split at hcr
  rotate_left
  · cases hcr
  rename_i a en' a' q1 q2 q3 xp q4 e' xl q5 e'' q6 q7 q8 q9 q10 z kz q11 q12 hN hB
  simp only [Bool.and_eq_true, decide_eq_true_eq] at hcr
  obtain ⟨⟨⟨⟨⟨⟨⟨⟨⟨⟨⟨⟨hps, rfl⟩, rfl⟩, rfl⟩, rfl⟩, hva⟩, hle⟩, hna⟩, hne⟩, hgl1⟩, hgp⟩, ht1⟩, ht2⟩ := hcr
  have hmE : X.mg xl = some (.ref (F.ga le)) := by
    split at ht1
    · rename_i e1
      obtain rfl := of_decide_eq_true ht1
      exact (hgl _ _ e1).1
    · cases ht1
  have hmP : X.mg xp = some (.ref (F.ga pl)) := by
    split at ht2
    · rename_i e1
      obtain rfl := of_decide_eq_true ht2
      exact (hgl _ _ e1).1
    · cases ht2
  obtain ⟨gE1, gE2⟩ := glC_raw hgl1
  obtain ⟨gP1, gP2⟩ := glC_raw hgp
  obtain ⟨na1, na2⟩ := okName_ok hna
  obtain ⟨ne1, ne2⟩ := okName_ok hne
  refine ⟨fun pins s σ H Q I h => ?_⟩
  obtain ⟨Uo, m, env, st, S, q⟩ := h
  rw [ev] at q
  refine wpAny_Call_Name_kw (ld_glob I hg hm ?_ (by decide))
  refine PySem.W.callWith_K (h₀ := X.base) I.ok.mod.kin (show PySem.W.keepIn X.K (.ref (F.ga lr)) = true by rw [hK]; exact fR.kp) ?_ (by rfl) (by rfl)
  show wpAny _ _ (spliced ((false, eval (.Lambda params body scope lpos) X.env) :: backTo pos (starEach [] X.env))) _ _ s
  refine Calls.spliced_cons (lam_new I la S.tab hdef L fun g c' pm' ctv H1 s' I1 K1 hf hfn hfr hco => ?_)
  refine Calls.spliced_nil ⟨I1.kIn, ?_⟩
  have S1 := K1.sim S
  have hN0 : rm.N[0]? = some a' := by rw [hN]; rfl
  have hN1 : rm.N[1]? = some e'' := by rw [hN]; rfl
  have hNl : rm.N.length = 2 := by rw [hN]; rfl
  have b1 := bR s' [.ref g] (by rw [← hK]; exact I1.kIn) (by rw [hps]; rfl)
  rw [List.append_nil] at b1
  have rc : codeAny (model X.prog X.w) X.A (.call (.ref (F.ga lr)) ⟨[.ref g], []⟩) (CR (L2N.CX X.prog X.w) X.stack X.prog X.w H1 s' Q (fun _ _ _ => False)) s' := by
    refine LamX.run_ofS (K := X.K) (mg := X.mg) (base := X.base) (k := k + 1) (N := rm.N) (ps := argNames rm.params) (us := [.ref g]) (vs := [.ref g]) (by rw [hK]; exact lk) (by rw [hK]; exact hcdR) SR hr I1.env0 b1 (.cons rfl .nil) (by rw [hps]; rfl) fun hr' => ?_
    have t1 : PS (refZ X rm.N rm.name rm.scope (F.ga lr) cdv s' H1) (.Try [.Expr (.Call (.Name a' q1) [] [] q2) q3] [.ExceptHandler (some (.Name xp q4)) (some e'') [.Return (some (.Call (.Name xl q5) [.Name e'' q6] [] q7)) q8] q9] [] [] q10)
        (fun D σ0 H0 => tbR F G call e σ rm.N.length g c' (X.env.qual ++ "<lambda>") (wAs X.K (.ref (F.ga pl)) 1 (tsR F G) W0 D) D σ0 H0) := by
      refine L2N.ps_try_as (X := refZ X rm.N rm.name rm.scope (F.ga lr) cdv s' H1) (tb := tbR F G call e σ rm.N.length g c' (X.env.qual ++ "<lambda>")) (ts := tsR F G) rfl rfl SR.nd hN1 hle ⟨gP1, gP2, .inl hmP⟩ takes_no (fun W' pn xe tk' _ => ?_) (fun a oe cls d pn hz hf' => ?_)
      · refine ⟨fun pinsZ sZ σZ HZ D IZ ⟨Ech, hW, z1, z2, z3⟩ => ?_⟩
        have hp := pe_run0 (Z := (refZ X rm.N rm.name rm.scope (F.ga lr) cdv s' H1).tr pn xe) (W := W') (E := Ech) (i := 0) (g := g) (p1 := q1) (p2 := q2) (pre := fun _ H0 Q => H0 c' = some (LamX.CodeO c' (X.env.qual ++ "<lambda>")) ∧ RdE F G call (fun cls dd _ H' => Ech cls dd H') false e σ H0 Q)
          tk' hW hN0 (visC_ok hva) na1 na2 (fun pins0 σ0 H0 s0 Q0 I0 ⟨known, pre⟩ => by
            have isLam := I0.base.keep g _ hf hfn hfr (fun z => nomatch (show g ∈ ([] : List Addr) from z))
            have run := lam_runs (X := X) (A := X.A.deeper (envOfC rm.name rm.scope s'.heap.objs.size (F.ga lr) cdv)) (outer := envOfC rm.name rm.scope s'.heap.objs.size (F.ga lr) cdv :: X.stack) (E := Ech) (Q := Q0) I1 L isLam (hbind _ _ _ _ _) hr' I0.env0 I0.base I0.nolimit known (fun hr2 => hbody Ech _ _ _ _ g c' hr2) pre
            exact ⟨⟨_, _, _, _, isLam⟩, run⟩)
        exact (pss_one (ps_expr (pos := q3) hp rfl)).run pinsZ sZ σZ HZ D IZ ⟨z1, z2, z3⟩
      · refine ⟨fun pinsZ sZ σZ HZ D IZ ⟨c, w, e1, e2, hw, z1, z2, z3⟩ => ?_⟩
        subst e1 e2
        obtain ⟨w1, w2⟩ := ea.words c w hw
        have hp := pe_err (a := a) (Z := refZ X rm.N rm.name rm.scope (F.ga lr) cdv s' H1) (W := W0) (pn := pn) (i := 1) (x := xl) (y := e'') (p := q5) (p2 := q6) (pos := q7) (k := k) hK hPw hgl ea.ek fE ea.ce w2 w1 hz hf' hr' gE1 hmE gE2 hN1 (.inl hle) ne1 ne2
        exact (pss_one (ps_ret (pos := q8) hp)).run pinsZ sZ σZ HZ D IZ ⟨z1, z2, fun H' k1 k2 k3 => z3 H' ⟨k1, k2, k3⟩⟩
    refine ⟨_, by rw [hB]; exact pss_cons t1 (pss_one (ps_ret pe_str)), ?_⟩
    refine ⟨fun cls dd H' => ∃ c w, cls = .ref (F.ga c) ∧ dd = none ∧ G.words c = some w ∧ LamX.Tabs F.T H' ∧ ∀ H'', Stays F H' H'' → Q (.str w) H'', fun cls d σ' H' hl ⟨c, w, e1, e2, hw, hT, hq⟩ => ?_, ?_, hco, Uo, m, env, st, S1, ?_⟩
    · subst e1 e2
      refine ⟨true, by rw [hK]; exact ea.top c (ea.words c w hw).1, fun _ a _ => ⟨c, w, rfl, rfl, hw, List.getElem?_set_self (by rw [hl, hNl]; decide), hT, hq⟩, fun z => by cases z⟩
    · rw [show L2.start rm.N [V.ref g] = [some (V.ref g)] ++ List.replicate (rm.N.length - 1) none from rfl]; rfl
    · revert q
      generalize ev G call false e env st = r
      intro q
      rcases r with _ | ⟨⟨d, o⟩, env1, st1⟩ | ⟨c, x, env1, st1⟩
      · exact q.elim
      · intro v m' H' p S2 _
        exact q (.str (Str.ofString "")) m' H' (K1.step.transE p) S2.base.plusF ⟨fun e => absurd e (by simp), fun _ _ => rfl, fun _ _ => rfl⟩
      · intro cls dd m' H' p S2 hx
        cases x with
        | non =>
          have q : PostE F Uo env σ m st.length H W bw Q (lift ((G.words c).map fun w => (D.str w, false)) env1 st1) := q
          cases hw : G.words c with
          | none => rw [hw] at q; exact q.elim
          | some w =>
            rw [hw] at q
            refine ⟨c, w, hx.1, hx.2, hw, S2.tab, fun H'' k2 => ?_⟩
            exact q (.str w) m' H'' ((K1.step.transE p).transE k2.step) (k2.sim S2).plusF ⟨fun e => absurd e (by simp), fun _ _ => rfl, fun _ _ => rfl⟩
        | _ => exact q.elim
  refine wpAny_call (codeAny_mono rc fun r s2 hq => ?_)
  cases r with
  | error e =>
    obtain ⟨_, _, _, _, _, _, _, _, _, _, _, _, z⟩ := hq
    exact z.elim
  | ok fl =>
    cases fl with
    | ret u => exact I1.after hq
    | next => exact False.elim hq
    | brk => exact False.elim hq
    | cont => exact False.elim hq
end Pi

set_option maxRecDepth 100000
set_option maxHeartbeats 4000000
/-! Pi5: all functions keep their promises. -/
namespace Pi
open PySem PySem.Spec L2
open PyProof.Rows
/-- a maker of lambdas, as the written part and the base have it -/
def LamFact (base : Heap) (mg : Str → Option Value) (F : Fx) (fm : FM) (f : Nat) : Prop := ∃ (c P : Addr) (od : Option Addr) (oc : Value) (osl : Array (Option Value)) (fd : FuncData), F.K.lookup (F.ga f) = some ⟨oc, od, .func fd, osl⟩ ∧ fd.code = .ref c ∧ LamX.TabB base mg c P ∧
  (P, (envOfC fm.name fm.scope 0 0 .none).qual ++ "<lambda>") ∈ F.T ∧ ∀ p ∈ F.T, p.1 = P → p.2 = (envOfC fm.name fm.scope 0 0 .none).qual ++ "<lambda>"
theorem fns_ok {P : Program} {w : World} {mg : Str → Option Value} {base : Heap} {F : Fx} {G : Gl} {tab : Str → Option GV} {fns : List Fn} {ms : List FM} {Wl c : Nat} (hF : P = F.P ∧ w = F.w) (hg : GlobOk F G tab mg) (hxi : ∀ i d, G.xi i d = none)
    (har : ∀ f n, G.ar f = some n ↔ ∃ fn, fns[f]? = some fn ∧ fn.np = n)
    (hm : ∀ f fn, fns[f]? = some fn → ∃ fm, ms[f]? = some fm ∧ (∃ fd, FunD F.K fm.name fm.name fm.params fm.body fm.scope [] [] (F.ga f) fd) ∧ fm.chk tab fn = true ∧ (fm.lam = true → LamFact base mg F fm f))
    (hrf : ∀ (f : Nat) (fm : FM), ms[f]? = some fm → fm.lam = true → ∃ cls le pl lr em rm en, ErrAll F G tab cls le pl lr em rm en) :
    ∀ n, FnsAt P w mg base F G (callN G fns Wl n) (3 * n + c)
  | 0 => fun f k hk => by
    obtain ⟨fn, hf, hn⟩ := (har f k).mp hk
    obtain ⟨fm, hfm, ⟨fd, fD⟩, hc, _⟩ := hm f fn hf
    unfold FM.chk at hc
    simp only [Bool.and_eq_true, decide_eq_true_eq] at hc
    obtain ⟨⟨⟨⟨h1, h2⟩, h3⟩, h4⟩, h5⟩ := hc
    have no : ∀ vs H Q E, ¬ spOf F (callN G fns Wl 0) f k vs H Q E := spOf_no fun _ _ => rfl
    exact ⟨fd, argNames fm.params, ⟨fun vs H Q E z => absurd z (no _ _ _ _), fun A outer s H args us vs Q E _ _ _ _ z => absurd z (no _ _ _ _)⟩, fD.bindsN fun _ _ _ _ _ _ us hl => plain_bind h2 hl, fD.kp⟩
  | n + 1 => fun f k hk => by
    obtain ⟨fn, hf, hn⟩ := (har f k).mp hk
    obtain ⟨fm, hfm, ⟨fd, fD⟩, hc, hlam⟩ := hm f fn hf
    unfold FM.chk at hc
    simp only [Bool.and_eq_true, decide_eq_true_eq] at hc
    obtain ⟨⟨⟨⟨h1, h2⟩, h3⟩, h4⟩, h5⟩ := hc
    have ih := fns_ok (P := P) (w := w) (base := base) (Wl := Wl) (c := c) hF hg hxi har hm hrf n
    have S := C8.fnScope_by h1
    refine ⟨fd, argNames fm.params, ?_, fD.bindsN fun _ _ _ _ _ _ us hl => plain_bind h2 hl, fD.kp⟩
    have e : 3 * (n + 1) + c = 3 * n + c + 2 + 1 := by omega
    rw [e]
    obtain ⟨oc, od, dV, kV, doc, pm, an, cdv, ct, osl, efd, lk, hcode, _, _⟩ := fD.ex
    subst efd
    refine fn_of lk hcode S (fun vs H Q E ⟨_, _, _, _, _, _, hl, _⟩ => by rw [hl, h3, hn]) fun A outer s H vs Q E hr hsp => ?_
    obtain ⟨Uo, m, ds, st, Sm, r, hl, q⟩ := hsp
    obtain ⟨_, rb⟩ := body_of hf h4 Sm r q
    refine ⟨_, chkB_ok (k := 3 * n + c) (tab := tab) (S := fm.sc) (W := fun cls dd _ H' => E cls dd H') ?_ _ _ h5, rb⟩
    exact {
      K := rfl
      pw := hF
      N := rfl
      nd := S.nd
      sc := rfl
      fn := fun _ _ => rfl
      calm := fun _ => rfl
      un := hr.units
      room := fun _ => hr.mono (Nat.le_add_right _ _)
      rfd := fun hl => by
        obtain ⟨cls, le, pl, lr, em, rm, en, ea⟩ := hrf f fm hfm hl
        obtain ⟨c0, P0, od0, oc0, osl0, fd0, l1, l2, l3, l4, l5⟩ := hlam hl
        rw [lk] at l1
        cases l1
        exact rfd_ok rfl hF hg ea ⟨⟨c0, P0, l2, l3, l4, l5⟩⟩ hr
      xi := fun _ => hxi
      hot1 := fun z => by cases z
      hot2 := .inl rfl
      tk := L2N.takes_of rfl rfl rfl rfl
      po := passes_of rfl
      fns := ih
      nca := fun f ds st z => by
        obtain ⟨fn, e1, e2⟩ := callN_len z
        exact (har f _).mpr ⟨fn, e1, e2.symm⟩
      glob := fun x g e => by
        have z := hg x g e
        cases g with
        | fn i => exact z
        | cls i own =>
          refine ⟨z.1, fun ho => ?_⟩
          obtain ⟨bmB, B, newId, initId, q1, q2, q3, q4, q5⟩ := z.2 ho
          exact ⟨bmB, B, newId, initId, q1, q2, q3, raises_own q4 q5⟩
        | cst d => exact z
        | free => exact z }
end Pi

set_option maxRecDepth 100000
set_option maxHeartbeats 4000000
/-! Pi6: the head's facts give what the functions need. -/
namespace Pi
open PySem PySem.Spec L2
open PyProof.Rows
/-- the level above, for one function object -/
theorem law_fn {P : Program} {w : World} {mg : Str → Option Value} {base : Heap} {F : Fx} {G : Gl} {tab : Str → Option GV} {fns : List Fn} {ms : List FM} {Wl c : Nat} (hF : P = F.P ∧ w = F.w) (hg : GlobOk F G tab mg) (hxi : ∀ i d, G.xi i d = none)
    (har : ∀ f n, G.ar f = some n ↔ ∃ fn, fns[f]? = some fn ∧ fn.np = n)
    (hm : ∀ f fn, fns[f]? = some fn → ∃ fm, ms[f]? = some fm ∧ (∃ fd, FunD F.K fm.name fm.name fm.params fm.body fm.scope [] [] (F.ga f) fd) ∧ fm.chk tab fn = true ∧ (fm.lam = true → LamFact base mg F fm f))
    (hrf : ∀ (f : Nat) (fm : FM), ms[f]? = some fm → fm.lam = true → ∃ cls le pl lr em rm en, ErrAll F G tab cls le pl lr em rm en)
    {n f : Nat} {fn : Fn} {fm : FM} {fd : FuncData} (hf : fns[f]? = some fn) (hfm : ms[f]? = some fm) (fD : FunD F.K fm.name fm.name fm.params fm.body fm.scope [] [] (F.ga f) fd) (hc : fm.chk tab fn = true) (hlam : fm.lam = true → LamFact base mg F fm f) :
    FnOk P w F.K mg base (L2N.CX P w) (3 * (n + 1) + c) (F.ga f) fd (argNames fm.params) (spOf F (callN G fns Wl (n + 1)) f fn.np) := by
  unfold FM.chk at hc
  simp only [Bool.and_eq_true, decide_eq_true_eq] at hc
  obtain ⟨⟨⟨⟨h1, h2⟩, h3⟩, h4⟩, h5⟩ := hc
  have ih := fns_ok (P := P) (w := w) (base := base) (Wl := Wl) (c := c) hF hg hxi har hm hrf n
  have S := C8.fnScope_by h1
  have e : 3 * (n + 1) + c = 3 * n + c + 2 + 1 := by omega
  rw [e]
  obtain ⟨oc, od, dV, kV, doc, pm, an, cdv, ct, osl, efd, lk, hcode, _, _⟩ := fD.ex
  subst efd
  refine fn_of lk hcode S (fun vs H Q E ⟨_, _, _, _, _, _, hl, _⟩ => by rw [hl, h3]) fun A outer s H vs Q E hr hsp => ?_
  obtain ⟨Uo, m, ds, st, Sm, r, hl, q⟩ := hsp
  obtain ⟨_, rb⟩ := body_of hf h4 Sm r q
  refine ⟨_, chkB_ok (k := 3 * n + c) (tab := tab) (S := fm.sc) (W := fun cls dd _ H' => E cls dd H') ?_ _ _ h5, rb⟩
  exact {
    K := rfl
    pw := hF
    N := rfl
    nd := S.nd
    sc := rfl
    fn := fun _ _ => rfl
    calm := fun _ => rfl
    un := hr.units
    room := fun _ => hr.mono (Nat.le_add_right _ _)
    rfd := fun hl => by
      obtain ⟨cls, le, pl, lr, em, rm, en, ea⟩ := hrf f fm hfm hl
      obtain ⟨c0, P0, od0, oc0, osl0, fd0, l1, l2, l3, l4, l5⟩ := hlam hl
      rw [lk] at l1
      cases l1
      exact rfd_ok rfl hF hg ea ⟨⟨c0, P0, l2, l3, l4, l5⟩⟩ hr
    xi := fun _ => hxi
    hot1 := fun z => by cases z
    hot2 := .inl rfl
    tk := L2N.takes_of rfl rfl rfl rfl
    po := passes_of rfl
    fns := ih
    nca := fun f ds st z => by
      obtain ⟨fn, e1, e2⟩ := callN_len z
      exact (har f _).mpr ⟨fn, e1, e2.symm⟩
    glob := fun x g e => by
      have z := hg x g e
      cases g with
      | fn i => exact z
      | cls i own =>
        refine ⟨z.1, fun ho => ?_⟩
        obtain ⟨bmB, B, newId, initId, q1, q2, q3, q4, q5⟩ := z.2 ho
        exact ⟨bmB, B, newId, initId, q1, q2, q3, raises_own q4 q5⟩
      | cst d => exact z
      | free => exact z }

/-! ### the claim's data -/
structure Cd where
  fns : List Fn
  ms : List FM
  tabL : List (Str × GV)
  free : List Str
  names : List Str
  em : FM
  en : Fn
  rm : FM
  le : Nat
  lr : Nat
  pl : Nat
  cl : List Nat
  words : List (Nat × Str)
  law : Nat
def Cd.tab (c : Cd) (x : Str) : Option GV := if c.free.contains x then some .free else c.tabL.lookup x
def Cd.nm (c : Cd) (i : Nat) : Str := c.names.getD i ""
def Cd.cls (c : Cd) (i : Nat) : Bool := c.cl.contains i
def Cd.G (c : Cd) : Gl := ⟨fun i j => i == j || j == c.pl, fun f => (c.fns[f]?).map (·.np), fun _ _ => none, fun i => c.words.lookup i⟩
def Cd.lams (c : Cd) : List FM := c.ms.filter (·.lam)
def Cd.tf (c : Cd) : List He.Defn := c.lams.map fun m => (m.name, none)
def lamQ (m : FM) : Str := (envOfC m.name m.scope 0 0 .none).qual ++ "<lambda>"
def Cd.T (c : Cd) (K : PySem.W.Frag) : List (Addr × Str) := c.lams.map fun m => ((He.cT K (m.name, none)).2, lamQ m)
def Cd.F (c : Cd) (K : PySem.W.Frag) (P : Program) (w : World) : Fx := ⟨K, fun i => He.ga K (c.nm i), fun _ => "", c.T K, P, w⟩
def fmD (m : FM) : He.DefD := ⟨(m.name, none), m.name, m.name, m.params, m.body, m.scope, [], []⟩
def Cd.fn (c : Cd) : List He.DefD := (c.ms ++ [c.em, c.rm]).map fmD
def tabFa : Str × GV → List He.Fa
  | (x, .fn _) => [.glo x]
  | (x, .cls _ own) => .glo x :: (if own then [.exc x] else [])
  | (x, .cst (.int i)) => [.int x i]
  | _ => []
def Cd.fa (c : Cd) : List He.Fa := c.tabL.flatMap tabFa ++ c.free.map He.Fa.free ++ c.cl.map fun i => He.Fa.exm (c.nm i) (c.nm c.pl) true
def excB (K : PySem.W.Frag) (D : Addr) : Bool := decide (PySem.W.findIn K (.ref D) "__getattribute__" = some (some (.builtin "BaseException.__getattribute__"))) && (decide (PySem.W.findIn K (.ref D) "__getattr__" = some none) && (decide (PySem.W.subIn K (.ref D) (.type "BaseException") = some true) &&
  (PySem.W.hasDictIn K D && (decide (PySem.W.findIn K (.ref D) "__class__" = some (some (.builtin "object.__class__"))) && (decide (PySem.W.specialIn K (.builtin "object.__class__") "__get__" = some (some (.builtin "getset_descriptor.__get__"))) && (decide (PySem.W.takesIn K (.builtin "object.__class__") = some true) && decide (PySem.W.mroIn K D (.type "object") = some true)))))))
theorem excB_ok {K : PySem.W.Frag} {D : Addr} (h : excB K D = true) : ExcC K D := by
  unfold excB at h
  simp only [Bool.and_eq_true, decide_eq_true_eq] at h
  obtain ⟨h1, h2, h3, h4, h5, h6, h7, h8⟩ := h
  exact ⟨h1, h2, h3, h4, h5, h6, h7, h8⟩
def Cd.ex (c : Cd) (K : PySem.W.Frag) : Bool := (c.cl.all fun i => excB K (He.ga K (c.nm i)) && c.cl.all fun j => decide (PySem.W.kitOne K (.ref (He.ga K (c.nm i))) (.ref (He.ga K (c.nm j))) = some (c.G.sub i j))) &&
  decide ((c.lams.map fun m => (He.cT K (m.name, none)).2).Nodup)
/-- the data fit together, and the texts hold the code -/
def Cd.okT (c : Cd) : Bool := c.tabL.all fun q => match q.2 with
  | .fn i => decide (c.names[i]? = some q.1) && decide (i < c.fns.length)
  | .cls i _ => decide (c.names[i]? = some q.1)
  | .cst (.int _) => true
  | _ => false
def Cd.okM (c : Cd) : Bool := decide (c.ms.length = c.fns.length) && (List.range c.ms.length).all fun i => match c.ms[i]?, c.fns[i]? with
  | some m, some fn => decide (c.names[i]? = some m.name) && m.chk c.tab fn
  | _, _ => false
def Cd.okE (c : Cd) : Bool := decide (c.names[c.le]? = some c.em.name) && decide (c.names[c.lr]? = some c.rm.name) && c.em.chkH c.tab c.en && refC c.tab c.le c.pl c.rm && (match c.tab "_law_refused" with
  | some (.cls j false) => decide (j = c.lr)
  | _ => false) && (c.words.all fun q => c.cl.contains q.1)
/-- what _law_error tells -/
def Cd.Says (c : Cd) : Prop := ∀ i w, c.words.lookup i = some w → errSays c.G c.cls c.en i w

section
variable {c : Cd} {K : PySem.W.Frag} {mg : Str → Option Value} {h : Heap} {w : World}
theorem lookup_mem' {α : Type} {x : Str} {g : α} : ∀ {l : List (Str × α)}, l.lookup x = some g → (x, g) ∈ l
  | [], h => by cases h
  | (y, u) :: r, h => by
    rw [List.lookup_cons] at h
    by_cases e : x = y
    · subst e
      simp at h
      rw [h]; exact List.mem_cons_self
    · have e2 : (x == y) = false := by simpa using e
      rw [e2] at h
      exact List.mem_cons_of_mem _ (lookup_mem' h)
theorem nm_of {i : Nat} {x : Str} (h : c.names[i]? = some x) : c.nm i = x := by
  unfold Cd.nm
  rw [List.getD_eq_getElem?_getD, h]; rfl
theorem glob_ok {P : Program} {w : World} (X : K.In h) (hG : h.Ns mainGlobals mg) (s : He.SaysD c.fa c.fn K) (hT : c.okT = true) (hM : c.okM = true) : GlobOk (c.F K P w) c.G c.tab mg := by
  intro x g e
  have inFa : ∀ {q : Str × GV} {f : He.Fa}, q ∈ c.tabL → f ∈ tabFa q → f ∈ c.fa := fun hq hf => List.mem_append_left _ (List.mem_append_left _ (List.mem_flatMap.mpr ⟨_, hq, hf⟩))
  unfold Cd.tab at e
  split at e
  · rename_i hx
    cases e
    refine He.free_ok X hG (s.facts ?_)
    exact List.mem_append_left _ (List.mem_append_right _ (List.mem_map.mpr ⟨x, by simpa using hx, rfl⟩))
  · have hm := lookup_mem' e
    have hq := List.all_eq_true.mp hT _ hm
    cases g with
    | fn i =>
      simp only [Bool.and_eq_true, decide_eq_true_eq] at hq
      refine ⟨?_, ?_⟩
      · have := He.glo_ok X hG (s.facts (inFa (f := .glo x) hm List.mem_cons_self))
        rw [this]
        show _ = some (Value.ref (He.ga K (c.nm i)))
        rw [nm_of hq.1]
      · refine ⟨(c.fns[i]'hq.2).np, ?_⟩
        show (c.fns[i]?).map (·.np) = _
        rw [List.getElem?_eq_getElem hq.2]; rfl
    | cls i own =>
      simp only [decide_eq_true_eq] at hq
      refine ⟨?_, fun ho => ?_⟩
      · have := He.glo_ok X hG (s.facts (inFa (f := .glo x) hm List.mem_cons_self))
        rw [this]
        show _ = some (Value.ref (He.ga K (c.nm i)))
        rw [nm_of hq]
      · subst ho
        obtain ⟨h1, h2, h3, h4⟩ := He.exc_ok (s.facts (inFa (f := .exc x) hm (by simp [tabFa])))
        show MkK K (He.ga K (c.nm i))
        rw [nm_of hq]
        exact ⟨_, _, _, _, PySem.F.excBase_ValueError, h1, h2, h3, h4⟩
    | cst d =>
      cases d with
      | int i =>
        obtain ⟨t, ht⟩ := He.int_ok X hG (s.facts (inFa (f := .int x i) hm List.mem_cons_self))
        exact ⟨_, .int i, ht, ⟨t, rfl⟩, fun _ _ _ _ => rfl⟩
      | _ => cases hq
    | free => cases hq
theorem funD_of (s : He.SaysD c.fa c.fn K) {m : FM} (hm : m ∈ c.ms ++ [c.em, c.rm]) : ∃ fd, FunD K m.name m.name m.params m.body m.scope [] [] (He.ga K m.name) fd := s.defs (d := fmD m) (List.mem_map.mpr ⟨m, hm, rfl⟩)
theorem okM_at (hM : c.okM = true) {f : Nat} {fn : Fn} (hf : c.fns[f]? = some fn) : ∃ fm, c.ms[f]? = some fm ∧ c.names[f]? = some fm.name ∧ fm.chk c.tab fn = true := by
  unfold Cd.okM at hM
  rw [Bool.and_eq_true] at hM
  obtain ⟨h1, h2⟩ := hM
  have h1 := of_decide_eq_true h1
  have hl : f < c.fns.length := (List.getElem?_eq_some_iff.mp hf).1
  have h3 := List.all_eq_true.mp h2 f (List.mem_range.mpr (by omega))
  rw [hf] at h3
  cases e : c.ms[f]? with
  | none => rw [e] at h3; cases h3
  | some m =>
    rw [e] at h3
    simp only [Bool.and_eq_true, decide_eq_true_eq] at h3
    exact ⟨m, rfl, h3.1, h3.2⟩
theorem errAll_ok {P : Program} {w : World} (s : He.SaysD c.fa c.fn K) (hx : c.ex K = true) (hE : c.okE = true) (hW : c.Says) : ErrAll (c.F K P w) c.G c.tab c.cls c.le c.pl c.lr c.em c.rm c.en := by
  unfold Cd.okE at hE
  simp only [Bool.and_eq_true, decide_eq_true_eq] at hE
  obtain ⟨⟨⟨⟨⟨e1, e2⟩, e3⟩, e4⟩, e5⟩, e6⟩ := hE
  unfold Cd.ex at hx
  rw [Bool.and_eq_true] at hx
  have hx1 := List.all_eq_true.mp hx.1
  refine ⟨⟨fun i hi => ?_, fun i j hi hj => ?_⟩, fun i hi => ?_, fun i w hw => ⟨?_, hW i w hw⟩, ?_, e3, ?_, e4, ?_⟩
  · have := hx1 i (by simpa [Cd.cls] using hi)
    rw [Bool.and_eq_true] at this
    exact excB_ok this.1
  · have := hx1 i (by simpa [Cd.cls] using hi)
    rw [Bool.and_eq_true] at this
    exact of_decide_eq_true (List.all_eq_true.mp this.2 j (by simpa [Cd.cls] using hj))
  · refine He.exm_ok (s.facts ?_)
    exact List.mem_append_right _ (List.mem_map.mpr ⟨i, by simpa [Cd.cls] using hi, rfl⟩)
  · have key : ∀ {l : List (Nat × Str)}, l.lookup i = some w → (i, w) ∈ l := by
      intro l
      induction l with
      | nil => intro h; cases h
      | cons q r ih =>
        intro h
        obtain ⟨y, u⟩ := q
        rw [List.lookup_cons] at h
        by_cases e : i = y
        · subst e
          simp at h
          rw [h]; exact List.mem_cons_self
        · have e2 : (i == y) = false := by simpa using e
          rw [e2] at h
          exact List.mem_cons_of_mem _ (ih h)
    exact List.all_eq_true.mp e6 _ (key hw)
  · obtain ⟨fd, h⟩ := funD_of s (m := c.em) (by simp)
    refine ⟨fd, ?_⟩
    show FunD K _ _ _ _ _ _ _ (He.ga K (c.nm c.le)) fd
    rw [nm_of e1]; exact h
  · obtain ⟨fd, h⟩ := funD_of s (m := c.rm) (by simp)
    refine ⟨fd, ?_⟩
    show FunD K _ _ _ _ _ _ _ (He.ga K (c.nm c.lr)) fd
    rw [nm_of e2]; exact h
  · revert e5
    cases c.tab "_law_refused" with
    | none => intro z; cases z
    | some g =>
      cases g with
      | cls j own =>
        cases own with
        | false => intro z; rw [of_decide_eq_true z]
        | true => intro z; cases z
      | _ => intro z; cases z
theorem nodup_inj {α β : Type} {f : α → β} : ∀ {l : List α}, (l.map f).Nodup → ∀ {x y : α}, x ∈ l → y ∈ l → f x = f y → x = y
  | [], _, _, _, h, _, _ => by cases h
  | a :: l, hn, x, y, hx, hy, e => by
    rw [List.map_cons, List.nodup_cons] at hn
    rcases List.mem_cons.mp hx with ex | hx
    · rcases List.mem_cons.mp hy with ey | hy
      · rw [ex, ey]
      · exact absurd (List.mem_map.mpr ⟨y, hy, by rw [← e, ex]⟩) hn.1
    · rcases List.mem_cons.mp hy with ey | hy
      · exact absurd (List.mem_map.mpr ⟨x, hx, by rw [e, ey]⟩) hn.1
      · exact nodup_inj hn.2 hx hy e
theorem lamFact_ok {P : Program} {w : World} (s : He.SaysD c.fa c.fn K) (hx : c.ex K = true) {base : Heap} (TB : ∀ p ∈ c.tf.map (He.cT K), LamX.TabB base mg p.1 p.2) {f : Nat} {m : FM} (hn : c.names[f]? = some m.name) (hm : m ∈ c.ms) (hl : m.lam = true) : LamFact base mg (c.F K P w) m f := by
  obtain ⟨fd, fD⟩ := funD_of s (m := m) (List.mem_append_left _ hm)
  obtain ⟨oc, od, dV, kV, doc, pm, an, cdv, ct, osl, rfl, lk, hcode, _, _⟩ := fD.ex
  obtain ⟨cc, rfl⟩ := He.codeIn_ref hcode
  have hm' : m ∈ c.lams := List.mem_filter.mpr ⟨hm, hl⟩
  have ec : He.codeOf K (m.name, none) = cc := He.codeOf_eq (p := (m.name, none)) lk rfl
  have hT := TB (He.cT K (m.name, none)) (List.mem_map.mpr ⟨_, List.mem_map.mpr ⟨m, hm', rfl⟩, rfl⟩)
  refine ⟨cc, (He.cT K (m.name, none)).2, od, oc, osl, PySem.W.fnOf m.name m.name m.params m.body m.scope dV kV doc pm an (.ref cc) ct, ?_, rfl, ?_, ?_, ?_⟩
  · show K.lookup (He.ga K (c.nm f)) = _
    rw [nm_of hn]; exact lk
  · have e1 : (He.cT K (m.name, none)).1 = cc := ec
    rw [← e1]; exact hT
  · exact List.mem_map.mpr ⟨m, hm', rfl⟩
  · intro p hp e
    obtain ⟨m2, h2, rfl⟩ := List.mem_map.mp hp
    unfold Cd.ex at hx
    rw [Bool.and_eq_true] at hx
    have := nodup_inj (of_decide_eq_true hx.2) h2 hm' e
    subst this
    rfl
/-- the law's script, as what it is -/
inductive Scr : List Int → D → Prop where
  | lst (ns : List Int) : Scr ns (.lst (ns.map .int))
  | scr (ns : List Int) : Scr ns (.scr (ns.map .int))
theorem reps_scr {F : Fx} {Mu : Addr → Prop} {m : Nat → Addr} {n : Nat} {H : Hp} : ∀ ns : List Int, Reps F Mu m n H (ns.map V.int) (ns.map D.int)
  | [] => trivial
  | _ :: r => ⟨rfl, reps_scr r⟩
def saysB (c : Cd) (q : Nat × Str) : Bool := match exB (shG c.G c.cls q.1) noCall0 0 c.en.body (env0 c.en.ns [.gl 0]) [] with
  | .ok (.ret (.str w) false) _ _ => decide (w = q.2)
  | _ => false
def Cd.okW (c : Cd) : Bool := c.words.all (saysB c)
theorem okW_says (h : c.okW = true) : c.Says := by
  intro i w hw
  have key : ∀ {l : List (Nat × Str)}, l.lookup i = some w → (i, w) ∈ l := by
    intro l
    induction l with
    | nil => intro h; cases h
    | cons q r ih =>
      intro h
      obtain ⟨y, u⟩ := q
      rw [List.lookup_cons] at h
      by_cases e : i = y
      · subst e
        simp at h
        rw [h]; exact List.mem_cons_self
      · have e2 : (i == y) = false := by simpa using e
        rw [e2] at h
        exact List.mem_cons_of_mem _ (ih h)
  have := List.all_eq_true.mp h _ (key hw)
  unfold saysB at this
  unfold errSays
  split at this
  · rename_i z env st e
    obtain rfl := of_decide_eq_true this
    exact ⟨_, _, e⟩
  · cases this
/-- the head's facts, the code and the plain law give the law's promise -/
theorem law_at {l : PySem.W.OpenLaw} {lev Wl n k0 : Nat} {x : Str} {fa : Addr} {fnL : Fn} {mL : FM} (X : K.In h) (hG : h.Ns mainGlobals mg) (s : He.SaysX c.fa c.fn [] c.tf c.ex w h K) (hT : c.okT = true) (hM : c.okM = true) (hE : c.okE = true) (hW : c.Says)
    (hfn : c.fns[c.law]? = some fnL) (hnp : fnL.np = 1) (hmL : c.ms[c.law]? = some mL) (hxs : argNames mL.params = [x]) (hfa : mg mL.name = some (.ref fa))
    (htab : c.tab mL.name = some (.fn c.law))
    (plain : ∀ (ns : List Int) (d : D), ns.length ≤ n → (∀ z ∈ ns, Builtin.Int.intBits z ≤ 1048576) → Scr ns d → ∃ o st, callN c.G c.fns Wl (lev + 1) c.law [d] [] = .ok (.bl true) o st) :
    LamX.LawAtS l w K (L2N.CX l.prog w) (3 * (lev + 1) + k0) n x mg fa h := by
  have sd := s.t.d
  have gl := glob_ok (P := l.prog) (w := w) X hG sd hT hM
  obtain ⟨m2, e2, hnm, hchk⟩ := okM_at hM hfn
  rw [hmL] at e2
  cases e2
  have hmm : mL ∈ c.ms := List.mem_of_getElem? hmL
  have hga : (c.F K l.prog w).ga c.law = He.ga K mL.name := by
    show He.ga K (c.nm c.law) = _
    rw [nm_of hnm]
  obtain ⟨fd, fD⟩ := funD_of sd (m := mL) (List.mem_append_left _ hmm)
  have hfa2 : fa = He.ga K mL.name := by
    have := (gl _ _ htab).1
    rw [hfa] at this
    cases this
    exact hga
  subst hfa2
  have hpl : plainArgs mL.params = true := by
    have hchk := hchk
    unfold FM.chk at hchk
    simp only [Bool.and_eq_true] at hchk
    exact hchk.1.1.1.2
  refine ⟨fd, c.tf.map (He.cT K), spOf (c.F K l.prog w) (callN c.G c.fns Wl (lev + 1)) c.law fnL.np, ?_, ?_, ?_, ?_, ?_, ?_⟩
  · intro p hp
    obtain ⟨q, hq, rfl⟩ := List.mem_map.mp hp
    exact s.empty q hq
  · intro p hp
    obtain ⟨q, hq, rfl⟩ := List.mem_map.mp hp
    exact s.out q hq
  · intro p hp
    obtain ⟨q, hq, rfl⟩ := List.mem_map.mp hp
    exact PySem.W.codeHd_of_K X (s.hd q hq)
  · intro s0 u
    have := FunD.bindsA (ps := argNames mL.params) fD (fun _ _ _ _ _ _ us hl => plain_bind hpl hl) s0 [u] (by rw [hxs]; rfl)
    rw [hxs] at this
    exact this
  · intro H a ns hlen hbits hH hS
    have tabs : LamX.Tabs (c.F K l.prog w).T H := by
      intro p hp
      obtain ⟨m, hm, rfl⟩ := List.mem_map.mp hp
      exact LamX.TabS.nil (hH _ (List.mem_map.mpr ⟨_, List.mem_map.mpr ⟨m, hm, rfl⟩, rfl⟩))
    have no : ∀ b, ¬ MuOf (fun _ => False) [] [] (fun _ => 0) 0 b := by
      intro b z
      rcases z with z | z | z
      · exact z
      · exact own_nil z
      · obtain ⟨l, z, _⟩ := z
        exact absurd z (Nat.not_lt_zero _)
    have hd : ∃ d, Scr ns d ∧ Rep (c.F K l.prog w) (MuOf (fun _ => False) [] [] (fun _ => 0) 0) (fun _ => 0) 0 H (.ref a) d := by
      rcases hS with hS | ⟨o, its, n, h1, h2, h3, h4, h5, h6⟩
      · exact ⟨_, .lst ns, a, _, rfl, hS, no a, reps_scr ns⟩
      · exact ⟨_, .scr ns, a, _, rfl, ⟨o, its, n, h1, h2, h3, h4, h5, h6⟩, reps_scr ns⟩
    obtain ⟨d, hscr, hrep⟩ := hd
    obtain ⟨o, st', hcall⟩ := plain ns d hlen hbits hscr
    refine ⟨fun _ => False, fun _ => 0, [d], [], ?_, ⟨hrep, trivial⟩, by rw [hnp]; rfl, ?_⟩
    · exact {
        len := rfl
        inj := fun i j z => absurd z (Nat.not_lt_zero _)
        obj := fun l xs z => by simp at z
        objD := fun l kvs z => by simp at z
        val := fun i d z => by simp at z
        own := fun i d z => by simp at z
        sep := fun i j a d e z => by simp at z
        osto := fun b z => absurd z own_nil
        usto := fun b ⟨l, z, _⟩ => absurd z (Nat.not_lt_zero _)
        uH := fun a z => z.elim
        tab := tabs }
    · rw [hcall]
      intro v m' H' _ _ hv
      obtain ⟨v1, v2, _⟩ := hv
      cases o with
      | true =>
        obtain ⟨_, _, _, _, z, _⟩ := v1 rfl
        cases z
      | false => exact v2 rfl rfl
  · intro base hKb hns hTB
    have hfn' := law_fn (P := l.prog) (w := w) (mg := mg) (base := base) (F := c.F K l.prog w) (G := c.G) (tab := c.tab) (fns := c.fns) (ms := c.ms) (Wl := Wl) (c := k0) ⟨rfl, rfl⟩ gl (fun _ _ => rfl)
      (fun f n => by
        show (c.fns[f]?).map (·.np) = some n ↔ _
        rw [Option.map_eq_some_iff])
      (fun f fn hf => by
        obtain ⟨fm, q1, q2, q3⟩ := okM_at hM hf
        refine ⟨fm, q1, ?_, q3, fun hl => lamFact_ok sd s.more hTB q2 (List.mem_of_getElem? q1) hl⟩
        show ∃ fd, FunD K _ _ _ _ _ _ _ (He.ga K (c.nm f)) fd
        rw [nm_of q2]
        exact funD_of sd (List.mem_append_left _ (List.mem_of_getElem? q1)))
      (fun f fm _ _ => ⟨_, _, _, _, _, _, _, errAll_ok sd s.more hE hW⟩)
      (n := lev) (f := c.law) (fn := fnL) (fm := mL) (fd := fd) hfn hmL (by rw [hga]; exact fD) hchk (fun hl => lamFact_ok sd s.more hTB hnm hmm hl)
    rw [hga, hxs] at hfn'
    exact hfn'
end
end Pi

set_option maxRecDepth 100000
set_option maxHeartbeats 0
/-! K11c: the code of the law and of the program's functions, held against the text. -/
namespace K11
open PySem PySem.Spec Pi
def body : List Stmt := PySem.Challenge.pw_cutpleats_k11_strips_folded_cut_and_open.main.body
def ent (n : Str) (g : GV) : Str × GV := (n, g)
def fmOf (N : List Str) (lam : Bool) : Stmt → FM
  | .FunctionDef name args b _ _ _ sc _ _ _ => ⟨N, lam, name, args, b, sc⟩
  | _ => ⟨N, lam, "", ⟨[], [], none, [], [], none, []⟩, [], default⟩
def c_is_within : Fn := ⟨3, 3, [
 .ret (.and (.bi .isinst [.v 0, .g (.ty "int")]) (.and (.not (.bi .isinst [.v 0, .g (.ty "bool")])) (.chn .le .le (.v 1) (.v 0) (.v 2))))]⟩
def c_is_pair : Fn := ⟨1, 1, [
 .ret (.and (.bi .isinst [.v 0, .g (.ty "tuple")]) (.cmp .eq (.bi .len [.v 0]) (.k (.int 2))))]⟩
def c_is_lot : Fn := ⟨3, 6, [
 .ifs (.or (.not (.bi .isinst [.v 0, .g (.ty "tuple")])) (.not (.bi .all [.lc (.call 1 [.v 3]) (.n 3) (.v 0) none]))) [
  .ret (.k (.bl false))] [],
 .ifs (.not (.bi .all [.lc (.and (.call 0 [.v 4, .k (.int 0), .bin .sub (.v 1) (.k (.int 1))]) (.call 0 [.v 5, .k (.int 0), .bin .sub (.v 2) (.k (.int 1))])) (.t [4, 5]) (.v 0) none])) [
  .ret (.k (.bl false))] [],
 .ret (.cmp .eq (.bi .list [.v 0]) (.bi .sortset [.v 0]))]⟩
def c_is_round : Fn := ⟨3, 3, [
 .ifs (.or (.not (.bi .isinst [.v 0, .g (.ty "tuple")])) (.or (.cmp .ne (.bi .len [.v 0]) (.k (.int 3))) (.not (.call 0 [.ix (.v 0) (.k (.int 0)), .k (.int 2), .k (.int 3)])))) [
  .ret (.k (.bl false))] [],
 .ret (.and (.call 2 [.ix (.v 0) (.k (.int 1)), .v 1, .v 2]) (.call 2 [.ix (.v 0) (.k (.int 2)), .v 1, .v 2]))]⟩
def c_is_right_script : Fn := ⟨1, 7, [
 .ifs (.or (.not (.bi .isinst [.v 0, .g (.ty "tuple")])) (.cmp .ne (.bi .len [.v 0]) (.k (.int 5)))) [
  .ret (.k (.bl false))] [],
 .asg (.t [1, 2, 3, 4, 5]) (.v 0),
 .ifs (.or (.not (.call 0 [.v 1, .k (.int 1), .k (.int 3)])) (.not (.call 0 [.v 2, .k (.int 1), .k (.int 3)]))) [
  .ret (.k (.bl false))] [],
 .ifs (.or (.not (.call 1 [.v 3])) (.or (.not (.call 2 [.ix (.v 3) (.k (.int 0)), .v 1, .v 2])) (.not (.call 2 [.ix (.v 3) (.k (.int 1)), .v 1, .v 2])))) [
  .ret (.k (.bl false))] [],
 .ifs (.or (.not (.bi .isinst [.v 4, .g (.ty "tuple")])) (.not (.chn .le .le (.k (.int 1)) (.bi .len [.v 4]) (.k (.int 3))))) [
  .ret (.k (.bl false))] [],
 .ret (.and (.bi .all [.lc (.call 3 [.v 6, .v 1, .v 2]) (.n 6) (.v 4) none]) (.call 2 [.v 5, .v 1, .v 2]))]⟩
def c_need_script : Fn := ⟨1, 1, [
 .ifs (.not (.call 4 [.v 0])) [
  .raise 34 none] []]⟩
def c_need_rounds : Fn := ⟨2, 2, [
 .ifs (.not (.call 0 [.v 0, .k (.int 0), .v 1])) [
  .raise 35 none] []]⟩
def c_parts_at : Fn := ⟨2, 3, [
 .asg (.n 2) (.ix (.v 0) (.k (.int 3))),
 .ret (.ix (.ix (.v 2) (.bin .mod (.bin .sub (.v 1) (.k (.int 1))) (.bi .len [.v 2]))) (.k (.int 0)))]⟩
def c_folds_in : Fn := ⟨2, 4, [
 .asg (.n 2) (.k (.int 1)),
 .for (.n 3) (.rng [.k (.int 1), .bin .add (.v 1) (.k (.int 1))]) [
  .asg (.n 2) (.bin .mul (.v 2) (.call 7 [.v 0, .v 3]))],
 .ret (.v 2)]⟩
def c_folded : Fn := ⟨2, 6, [
 .asg (.n 2) (.bin .fdiv (.bi .len [.v 0]) (.v 1)),
 .asg (.n 3) (.ls []),
 .for (.n 4) (.rng [.v 2]) [
  .asg (.n 5) (.bin .add (.ix (.v 0) (.v 4)) (.rev (.ix (.v 0) (.bin .sub (.bin .sub (.bin .mul (.k (.int 2)) (.v 2)) (.k (.int 1))) (.v 4))))),
  .app 3 (.ite (.cmp .eq (.v 1) (.k (.int 3))) (.bin .add (.v 5) (.ix (.v 0) (.bin .add (.bin .mul (.k (.int 2)) (.v 2)) (.v 4)))) (.v 5))],
 .ret (.v 3)]⟩
def c_cut_at : Fn := ⟨3, 8, [
 .asg (.n 3) (.ls []),
 .for (.t [4, 5]) (.v 1) [
  .asg (.n 6) (.ite (.cmp .eq (.v 2) (.k (.str "left"))) (.ix (.v 0) (.v 5)) (.ix (.v 0) (.bin .sub (.bin .sub (.bi .len [.v 0]) (.k (.int 1))) (.v 5)))),
  .asg (.n 3) (.bin .add (.v 3) (.lc (.tp [.v 4, .v 7]) (.n 7) (.v 6) none))],
 .ret (.v 3)]⟩
def c_cut_cells : Fn := ⟨2, 15, [
 .asg (.t [5, 6, 7, 8, 9]) (.v 0),
 .asg (.n 2) (.lc (.tp [.v 10]) (.n 10) (.rng [.bin .mul (.v 6) (.call 8 [.v 0, .v 1])]) none),
 .asg (.n 3) (.bin .add (.call 10 [.v 2, .ix (.v 7) (.k (.int 0)), .k (.str "left")]) (.call 10 [.v 2, .ix (.v 7) (.k (.int 1)), .k (.str "right")])),
 .for (.n 4) (.rng [.v 1]) [
  .asg (.t [11, 12, 13]) (.ix (.v 8) (.bin .mod (.v 4) (.bi .len [.v 8]))),
  .asg (.n 2) (.call 9 [.v 2, .v 11]),
  .asg (.n 3) (.bin .add (.bin .add (.v 3) (.call 10 [.v 2, .v 12, .k (.str "left")])) (.call 10 [.v 2, .v 13, .k (.str "right")]))],
 .ret (.dof (.lc (.tp [.v 14, .k (.bl true)]) (.n 14) (.bin .add (.v 3) (.call 10 [.v 2, .v 9, .k (.str "left")])) none))]⟩
def c_rows_of : Fn := ⟨3, 6, [
 .asg (.n 3) (.ls []),
 .for (.n 4) (.rng [.v 0]) [
  .app 3 (.me .join (.k (.str "")) [.lc (.ite (.cmp .isin (.tp [.v 4, .v 5]) (.v 2)) (.k (.str ".")) (.k (.str "#"))) (.n 5) (.rng [.v 1]) none])],
 .ret (.bi .tuple [.v 3])]⟩
def c_opened_rows : Fn := ⟨2, 2, [
 .ret (.call 12 [.ix (.v 0) (.k (.int 0)), .bin .mul (.ix (.v 0) (.k (.int 1))) (.call 8 [.v 0, .v 1]), .call 11 [.v 0, .v 1]])]⟩
def c_around : Fn := ⟨1, 3, [
 .asg (.t [1, 2]) (.v 0),
 .ret (.ls [.tp [.bin .sub (.v 1) (.k (.int 1)), .v 2], .tp [.v 1, .bin .sub (.v 2) (.k (.int 1))], .tp [.v 1, .bin .add (.v 2) (.k (.int 1))], .tp [.bin .add (.v 1) (.k (.int 1)), .v 2]])]⟩
def c_pieces_of : Fn := ⟨1, 12, [
 .asg (.n 1) (.dnw),
 .for (.t [5, 6]) (.enm (.v 0)) [
  .for (.t [8, 9]) (.enm (.v 6)) [
   .ifs (.cmp .eq (.v 9) (.k (.str "#"))) [
    .set 1 (.tp [.v 8, .v 5]) (.k (.bl true))] []]],
 .asg (.n 2) (.ls []),
 .asg (.n 3) (.dnw),
 .for (.n 4) (.bi .sorted [.v 1]) [
  .asg (.n 6) (.ite (.cmp .notin (.v 4) (.v 3)) (.ls [.v 4]) (.ls [])),
  .asg (.n 7) (.ls []),
  .set 3 (.v 4) (.k (.bl true)),
  .while (.cmp .ne (.v 6) (.ls [])) [
   .pop (.n 10) 6,
   .app 7 (.v 10),
   .for (.n 11) (.call 14 [.v 10]) [
    .ifs (.and (.cmp .isin (.v 11) (.v 1)) (.cmp .notin (.v 11) (.v 3))) [
     .set 3 (.v 11) (.k (.bl true)),
     .app 6 (.v 11)] []]],
  .ifs (.cmp .ne (.v 7) (.ls [])) [
   .app 2 (.bi .tuple [.bi .sorted [.v 7]])] []],
 .ret (.v 2)]⟩
def c_opened : Fn := ⟨2, 2, [
 .ex (.call 5 [.v 0]),
 .ex (.call 6 [.v 1, .g (.int 4)]),
 .ret (.call 13 [.v 0, .v 1])]⟩
def c_pieces : Fn := ⟨2, 2, [
 .ex (.call 5 [.v 0]),
 .ex (.call 6 [.v 1, .g (.int 4)]),
 .ret (.call 15 [.call 13 [.v 0, .v 1]])]⟩
def c_law_source : Fn := ⟨2, 4, [
 .asg (.n 2) (.k (.int 0)),
 .ifs (.cmp .gt (.bi .len [.v 0]) (.v 1)) [
  .asg (.n 2) (.bi .int [.ix (.v 0) (.v 1)])] [],
 .asg (.n 3) (.bin .mod (.bin .add (.bin .add (.bin .mul (.v 2) (.k (.int 16807))) (.bin .mul (.k (.int 60919)) (.v 1))) (.k (.int 31))) (.k (.int 2147481173))),
 .asg (.n 3) (.bin .add (.bin .add (.bin .mod (.bin .mul (.v 3) (.v 3)) (.k (.int 2147481151))) (.bin .mul (.k (.int 2)) (.v 1))) (.k (.int 5))),
 .ret (.mk (.ls [.ite (.cmp .ge (.v 2) (.bin .pow (.k (.int 10)) (.k (.int 18)))) (.v 2) (.k (.int 0)), .v 3]))]⟩
def c_law_pick : Fn := ⟨2, 3, [
 .ifs (.cmp .gt (.ix (.v 0) (.k (.int 0))) (.k (.int 0))) [
  .asg (.n 2) (.bin .mod (.bi .int [.ix (.v 0) (.k (.int 0))]) (.v 1)),
  .set 0 (.k (.int 0)) (.bin .fdiv (.bi .int [.ix (.v 0) (.k (.int 0))]) (.v 1)),
  .ret (.v 2)] [],
 .set 0 (.k (.int 1)) (.bin .mod (.bi .int [.bin .add (.bin .mul (.ix (.v 0) (.k (.int 1))) (.k (.int 44497))) (.k (.int 9973))]) (.k (.int 2147483647))),
 .ret (.bin .mod (.bin .fdiv (.bin .mod (.bi .int [.bin .mul (.ix (.v 0) (.k (.int 1))) (.ix (.v 0) (.k (.int 1)))]) (.k (.int 2147483399))) (.k (.int 11))) (.v 1))]⟩
def c_law_chosen : Fn := ⟨2, 2, [
 .ret (.ix (.v 1) (.call 19 [.v 0, .bi .len [.v 1]]))]⟩
def c_law_error : Fn := ⟨1, 4, [
 .asg (.n 1) (.ls [.tp [.k (.str "script"), .bi .isinst [.v 0, .g (.gl 35)]], .tp [.k (.str "number"), .bi .isinst [.v 0, .g (.gl 36)]]]),
 .asg (.n 1) (.bin .add (.v 1) (.ls [.tp [.k (.str "word"), .bi .isinst [.v 0, .g (.gl 37)]], .tp [.k (.str "row"), .bi .isinst [.v 0, .g (.gl 38)]]])),
 .asg (.n 1) (.bin .add (.v 1) (.ls [.tp [.k (.str "column"), .bi .isinst [.v 0, .g (.gl 39)]], .tp [.k (.str "snip"), .bi .isinst [.v 0, .g (.gl 40)]]])),
 .asg (.n 1) (.bin .add (.v 1) (.ls [.tp [.k (.str "seen"), .bi .isinst [.v 0, .g (.gl 41)]], .tp [.k (.str "unlike"), .bi .isinst [.v 0, .g (.gl 42)]]])),
 .asg (.n 1) (.bin .add (.v 1) (.ls [.tp [.k (.str "flat"), .bi .isinst [.v 0, .g (.gl 43)]], .tp [.k (.str "undo"), .bi .isinst [.v 0, .g (.gl 44)]]])),
 .asg (.n 1) (.bin .add (.v 1) (.ls [.tp [.k (.str "many"), .bi .isinst [.v 0, .g (.gl 45)]], .tp [.k (.str "text"), .bi .isinst [.v 0, .g (.gl 46)]]])),
 .ret (.me .join (.k (.str " ")) [.lc (.v 2) (.t [2, 3]) (.asl (.v 1)) (some (.v 3))])]⟩
def c_law_by_two : Fn := ⟨3, 3, [
 .ret (.rfd 0 (.cv 0 [.v 1, .v 2]))]⟩
def c_law_drawn_lot : Fn := ⟨3, 7, [
 .asg (.n 3) (.call 20 [.v 0, .ls [.k (.int 2), .k (.int 3), .k (.int 4), .k (.int 9), .k (.int 9)]]),
 .asg (.n 4) (.ls []),
 .for (.n 5) (.rng [.v 1]) [
  .for (.n 6) (.rng [.v 2]) [
   .ifs (.cmp .eq (.call 19 [.v 0, .v 3]) (.k (.int 0))) [
    .app 4 (.tp [.v 5, .v 6])] []]],
 .ret (.bi .tuple [.v 4])]⟩
def c_law_script : Fn := ⟨2, 10, [
 .par [3, 4] [.call 20 [.v 0, .ls [.k (.int 1), .k (.int 2), .k (.int 2), .k (.int 3), .k (.int 3), .k (.int 3)]], .call 20 [.v 0, .ls [.k (.int 1), .k (.int 2), .k (.int 2), .k (.int 3)]]],
 .asg (.t [5, 6, 7]) (.tp [.tp [.tp [], .tp []], .tp [], .tp []]),
 .ifs (.cmp .eq (.call 19 [.v 0, .k (.int 3)]) (.k (.int 0))) [
  .asg (.n 8) (.call 22 [.v 0, .v 3, .v 4]),
  .asg (.n 5) (.tp [.v 8, .call 22 [.v 0, .v 3, .v 4]])] [],
 .for (.n 2) (.rng [.bin .add (.k (.int 1)) (.call 19 [.v 0, .v 1])]) [
  .par [9, 8] [.call 20 [.v 0, .ls [.k (.int 2), .k (.int 2), .k (.int 3)]], .call 22 [.v 0, .v 3, .v 4]],
  .asg (.n 7) (.bin .add (.v 7) (.tp [.tp [.v 9, .v 8, .call 22 [.v 0, .v 3, .v 4]]]))],
 .ifs (.cmp .eq (.call 19 [.v 0, .k (.int 2)]) (.k (.int 0))) [
  .asg (.n 6) (.call 22 [.v 0, .v 3, .v 4])] [],
 .ret (.tp [.v 3, .v 4, .v 5, .v 7, .v 6])]⟩
def c_law_folds_into : Fn := ⟨2, 2, [
 .ret (.ix (.ix (.ix (.v 0) (.k (.int 3))) (.bin .mod (.bin .sub (.v 1) (.k (.int 1))) (.bi .len [.ix (.v 0) (.k (.int 3))]))) (.k (.int 0)))]⟩
def c_law_columns : Fn := ⟨2, 4, [
 .asg (.n 2) (.ix (.v 0) (.k (.int 1))),
 .for (.n 3) (.rng [.v 1]) [
  .asg (.n 2) (.bin .mul (.v 2) (.call 24 [.v 0, .bin .add (.v 3) (.k (.int 1))]))],
 .ret (.v 2)]⟩
def c_law_wave : Fn := ⟨2, 3, [
 .asg (.n 2) (.bin .mod (.v 0) (.bin .mul (.k (.int 2)) (.v 1))),
 .ret (.ite (.cmp .lt (.v 2) (.v 1)) (.v 2) (.bin .sub (.bin .sub (.bin .mul (.k (.int 2)) (.v 1)) (.k (.int 1))) (.v 2)))]⟩
def c_law_gone : Fn := ⟨4, 15, [
 .asg (.t [6, 7, 8, 9, 10]) (.v 0),
 .asg (.n 4) (.call 25 [.v 0, .v 1]),
 .ifs (.or (.cmp .isin (.tp [.v 2, .v 3]) (.ix (.v 8) (.k (.int 0)))) (.cmp .isin (.tp [.v 2, .bin .sub (.bin .sub (.v 4) (.k (.int 1))) (.v 3)]) (.ix (.v 8) (.k (.int 1))))) [
  .ret (.k (.bl true))] [],
 .for (.n 5) (.rng [.k (.int 1), .bin .add (.v 1) (.k (.int 1))]) [
  .asg (.t [12, 13, 14]) (.ix (.v 9) (.bin .mod (.bin .sub (.v 5) (.k (.int 1))) (.bi .len [.v 9]))),
  .asg (.n 4) (.bin .fdiv (.v 4) (.v 12)),
  .asg (.n 11) (.call 26 [.v 3, .v 4]),
  .ifs (.or (.cmp .isin (.tp [.v 2, .v 11]) (.v 13)) (.cmp .isin (.tp [.v 2, .bin .sub (.bin .sub (.v 4) (.k (.int 1))) (.v 11)]) (.v 14))) [
   .ret (.k (.bl true))] []],
 .ret (.cmp .isin (.tp [.v 2, .call 26 [.v 3, .v 7]]) (.v 10))]⟩
def c_law_open : Fn := ⟨2, 7, [
 .pro [3, 4] [.call 25 [.v 0, .v 1], .ls []],
 .for (.n 2) (.rng [.ix (.v 0) (.k (.int 0))]) [
  .asg (.n 5) (.lc (.ite (.call 27 [.v 0, .v 1, .v 2, .v 6]) (.k (.str ".")) (.k (.str "#"))) (.n 6) (.rng [.v 3]) none),
  .app 4 (.me .join (.k (.str "")) [.v 5])],
 .ret (.bi .tuple [.v 4])]⟩
def c_law_heaped : Fn := ⟨1, 8, [
 .pro [2, 3] [.dnw, .ls []],
 .for (.n 1) (.rng [.bi .len [.v 0]]) [
  .for (.n 4) (.rng [.bi .len [.ix (.v 0) (.k (.int 0))]]) [
   .ifs (.cmp .eq (.ix (.ix (.v 0) (.v 1)) (.v 4)) (.k (.str "#"))) [
    .set 2 (.tp [.v 4, .v 1]) (.k (.bl true))] []]],
 .while (.dne (.v 2)) [
  .pro [5, 6] [.ls [.ix (.bi .list [.v 2]) (.k (.int 0))], .ls []],
  .ex (.dpp 2 (.ix (.v 5) (.k (.int 0)))),
  .while (.cmp .ne (.v 5) (.ls [])) [
   .pop (.t [4, 1]) 5,
   .app 6 (.tp [.v 4, .v 1]),
   .for (.n 7) (.ls [.tp [.bin .sub (.v 4) (.k (.int 1)), .v 1], .tp [.bin .add (.v 4) (.k (.int 1)), .v 1], .tp [.v 4, .bin .sub (.v 1) (.k (.int 1))], .tp [.v 4, .bin .add (.v 1) (.k (.int 1))]]) [
    .ifs (.cmp .isin (.v 7) (.v 2)) [
     .ex (.dpp 2 (.v 7)),
     .app 5 (.v 7)] []]],
  .app 3 (.bi .tuple [.bi .sorted [.v 6]])],
 .ret (.bi .sorted [.v 3])]⟩
def c_law : Fn := ⟨1, 12, [
 .for (.n 1) (.rng [.bi .max2 [.k (.int 4), .bi .min2 [.k (.int 12), .bi .len [.v 0]]]]) [
  .asg (.n 2) (.call 18 [.v 0, .v 1]),
  .asg (.n 3) (.call 23 [.v 2, .k (.int 3)]),
  .for (.n 4) (.rng [.k (.int 5)]) [
   .ifs (.cmp .gt (.call 25 [.v 3, .v 4]) (.k (.int 90))) [
    .cont] [],
   .asg (.n 8) (.call 28 [.v 3, .v 4]),
   .ifs (.cmp .ne (.call 16 [.v 3, .v 4]) (.v 8)) [
    .ret (.k (.bl false))] [],
   .for (.n 9) (.rng [.k (.int 2)]) [
    .asg (.n 11) (.call 17 [.v 3, .v 4]),
    .ifs (.or (.not (.bi .isinst [.v 11, .g (.ty "list")])) (.cmp .ne (.v 11) (.call 29 [.v 8]))) [
     .ret (.k (.bl false))] [],
    .app 11 (.k (.str "odd"))]],
  .for (.n 5) (.ls [.g (.gl 16), .g (.gl 17)]) [
   .for (.n 10) (.ls [.k .non, .bi .list [.v 3], .sl (.v 3) none (some (.k (.int 4))), .k (.int 5)]) [
    .ifs (.cmp .ne (.call 21 [.v 5, .v 10, .k .non]) (.k (.str "script"))) [
     .ret (.k (.bl false))] []],
   .for (.n 10) (.ls [.neg (.k (.int 1)), .k (.int 5), .k (.bl true), .k .non, .k (.str "0")]) [
    .ifs (.cmp .ne (.call 21 [.v 5, .v 3, .v 10]) (.k (.str "number"))) [
     .ret (.k (.bl false))] []]]],
 .asg (.t [6, 7]) (.tp [.tp [.k (.int 1), .k (.int 2), .tp [.tp [], .tp []], .tp [.tp [.k (.int 3), .tp [], .tp [.tp [.k (.int 0), .k (.int 0)]]]], .tp []], .tp [.tp [.k (.int 2), .tp [], .tp [.tp [.k (.int 0), .k (.int 0)]]], .tp [.k (.int 2), .tp [], .tp [.tp [.k (.int 1), .k (.int 0)]]]]]),
 .ifs (.or (.cmp .ne (.call 16 [.v 6, .k (.int 1)]) (.tp [.k (.str "#..##.")])) (.cmp .ne (.call 16 [.v 6, .k (.int 2)]) (.tp [.k (.str "#..##..##..##..##.")]))) [
  .ret (.k (.bl false))] [],
 .ifs (.cmp .ne (.call 16 [.tp [.k (.int 1), .k (.int 3), .tp [.tp [], .tp []], .tp [.tp [.k (.int 3), .tp [], .tp []]], .tp [.tp [.k (.int 0), .k (.int 1)]]], .k (.int 2)]) (.tp [.bin .mul (.k (.str "#.#")) (.k (.int 9))])) [
  .ret (.k (.bl false))] [],
 .ret (.cmp .eq (.call 16 [.tp [.k (.int 2), .k (.int 1), .tp [.tp [], .tp []], .v 7, .tp []], .k (.int 3)]) (.tp [.k (.str "........"), .k (.str "#..##..#")]))]⟩
def fns : List Fn := [c_is_within, c_is_pair, c_is_lot, c_is_round, c_is_right_script, c_need_script, c_need_rounds, c_parts_at, c_folds_in, c_folded, c_cut_at, c_cut_cells, c_rows_of, c_opened_rows, c_around, c_pieces_of, c_opened, c_pieces, c_law_source, c_law_pick, c_law_chosen, c_law_by_two, c_law_drawn_lot, c_law_script, c_law_folds_into, c_law_columns, c_law_wave, c_law_gone, c_law_open, c_law_heaped, c_law]
def ms : List FM := [
 (fmOf ["value", "low", "high"] false (body.getD 15 (.Pass ⟨0,0,0,0⟩))),
 (fmOf ["value"] false (body.getD 16 (.Pass ⟨0,0,0,0⟩))),
 (fmOf ["value", "rows", "length", "cell", "row", "far"] false (body.getD 17 (.Pass ⟨0,0,0,0⟩))),
 (fmOf ["value", "rows", "length"] false (body.getD 18 (.Pass ⟨0,0,0,0⟩))),
 (fmOf ["value", "rows", "length", "before", "rounds", "after", "one"] false (body.getD 19 (.Pass ⟨0,0,0,0⟩))),
 (fmOf ["value"] false (body.getD 20 (.Pass ⟨0,0,0,0⟩))),
 (fmOf ["value", "most"] false (body.getD 21 (.Pass ⟨0,0,0,0⟩))),
 (fmOf ["script", "number", "rounds"] false (body.getD 22 (.Pass ⟨0,0,0,0⟩))),
 (fmOf ["script", "n", "found", "number"] false (body.getD 23 (.Pass ⟨0,0,0,0⟩))),
 (fmOf ["packet", "parts", "width", "found", "at", "layers"] false (body.getD 26 (.Pass ⟨0,0,0,0⟩))),
 (fmOf ["packet", "lot", "side", "found", "row", "far", "layers", "column"] false (body.getD 27 (.Pass ⟨0,0,0,0⟩))),
 (fmOf ["script", "n", "packet", "found", "number", "rows", "length", "before", "rounds", "after", "column", "parts", "left", "right", "cell"] false (body.getD 28 (.Pass ⟨0,0,0,0⟩))),
 (fmOf ["rows", "columns", "cut", "found", "row", "column"] false (body.getD 29 (.Pass ⟨0,0,0,0⟩))),
 (fmOf ["script", "n"] false (body.getD 30 (.Pass ⟨0,0,0,0⟩))),
 (fmOf ["cell", "column", "row"] false (body.getD 31 (.Pass ⟨0,0,0,0⟩))),
 (fmOf ["rows", "cells", "found", "known", "first", "row", "line", "piece", "column", "sign", "cell", "there"] false (body.getD 32 (.Pass ⟨0,0,0,0⟩))),
 (fmOf ["script", "n"] false (body.getD 33 (.Pass ⟨0,0,0,0⟩))),
 (fmOf ["script", "n"] false (body.getD 34 (.Pass ⟨0,0,0,0⟩))),
 (fmOf ["script", "k", "number", "start"] false (body.getD 36 (.Pass ⟨0,0,0,0⟩))),
 (fmOf ["source", "many", "found"] false (body.getD 37 (.Pass ⟨0,0,0,0⟩))),
 (fmOf ["source", "things"] false (body.getD 38 (.Pass ⟨0,0,0,0⟩))),
 (fmOf ["call", "one", "other"] true (body.getD 41 (.Pass ⟨0,0,0,0⟩))),
 (fmOf ["source", "rows", "length", "rare", "found", "row", "far"] false (body.getD 42 (.Pass ⟨0,0,0,0⟩))),
 (fmOf ["source", "most", "turn", "rows", "length", "ends_so", "last_so", "rounds", "first", "parts"] false (body.getD 43 (.Pass ⟨0,0,0,0⟩))),
 (fmOf ["script", "number"] false (body.getD 44 (.Pass ⟨0,0,0,0⟩))),
 (fmOf ["script", "n", "found", "number"] false (body.getD 45 (.Pass ⟨0,0,0,0⟩))),
 (fmOf ["place", "width", "inner"] false (body.getD 46 (.Pass ⟨0,0,0,0⟩))),
 (fmOf ["script", "n", "row", "column", "width", "number", "rows", "length", "ends_so", "rounds", "last_so", "here", "parts", "left", "right"] false (body.getD 47 (.Pass ⟨0,0,0,0⟩))),
 (fmOf ["script", "n", "row", "wide", "found", "signs", "column"] false (body.getD 48 (.Pass ⟨0,0,0,0⟩))),
 (fmOf ["lines", "row", "left", "found", "column", "grown", "piece", "there"] false (body.getD 49 (.Pass ⟨0,0,0,0⟩))),
 (fmOf ["script", "k", "source", "some", "n", "call", "thirds", "tops", "due", "again", "odd", "told"] false (body.getD 50 (.Pass ⟨0,0,0,0⟩)))]
def m_law_error : FM := (fmOf ["e", "some", "word_so", "good"] false (body.getD 39 (.Pass ⟨0,0,0,0⟩)))
def m_law_refused : FM := (fmOf ["call", "e"] false (body.getD 40 (.Pass ⟨0,0,0,0⟩)))
def tabL : List (Str × GV) := [
 ent "is_within" (.fn 0),
 ent "is_pair" (.fn 1),
 ent "is_lot" (.fn 2),
 ent "is_round" (.fn 3),
 ent "is_right_script" (.fn 4),
 ent "need_script" (.fn 5),
 ent "need_rounds" (.fn 6),
 ent "parts_at" (.fn 7),
 ent "folds_in" (.fn 8),
 ent "folded" (.fn 9),
 ent "cut_at" (.fn 10),
 ent "cut_cells" (.fn 11),
 ent "rows_of" (.fn 12),
 ent "opened_rows" (.fn 13),
 ent "around" (.fn 14),
 ent "pieces_of" (.fn 15),
 ent "opened" (.fn 16),
 ent "pieces" (.fn 17),
 ent "_law_source" (.fn 18),
 ent "_law_pick" (.fn 19),
 ent "_law_chosen" (.fn 20),
 ent "_law_by_two" (.fn 21),
 ent "_law_drawn_lot" (.fn 22),
 ent "_law_script" (.fn 23),
 ent "_law_folds_into" (.fn 24),
 ent "_law_columns" (.fn 25),
 ent "_law_wave" (.fn 26),
 ent "_law_gone" (.fn 27),
 ent "_law_open" (.fn 28),
 ent "_law_heaped" (.fn 29),
 ent "law" (.fn 30),
 ent "_law_error" (.cls 31 false),
 ent "_law_refused" (.cls 32 false),
 ent "PleatError" (.cls 33 true),
 ent "InvalidScript" (.cls 34 true),
 ent "InvalidNumber" (.cls 35 true),
 ent "InvalidWord" (.cls 36 true),
 ent "InvalidRow" (.cls 37 true),
 ent "InvalidColumn" (.cls 38 true),
 ent "InvalidSnip" (.cls 39 true),
 ent "InvalidSeen" (.cls 40 true),
 ent "Unlike" (.cls 41 true),
 ent "NothingFolded" (.cls 42 true),
 ent "NothingToUndo" (.cls 43 true),
 ent "TooMany" (.cls 44 false),
 ent "InvalidText" (.cls 45 false),
 ent "MOST_OPENED" (.cst (.int 4))]
def freeL : List Str := ["all", "bool", "dict", "enumerate", "int", "isinstance", "len", "list", "max", "min", "range", "set", "sorted", "str", "tuple"]
def tab (x : Str) : Option GV := if freeL.contains x then some .free else tabL.lookup x
def nmsL : List Str := [("is_within" : Str), ("is_pair" : Str), ("is_lot" : Str), ("is_round" : Str), ("is_right_script" : Str), ("need_script" : Str), ("need_rounds" : Str), ("parts_at" : Str), ("folds_in" : Str), ("folded" : Str), ("cut_at" : Str), ("cut_cells" : Str), ("rows_of" : Str), ("opened_rows" : Str), ("around" : Str), ("pieces_of" : Str), ("opened" : Str), ("pieces" : Str), ("_law_source" : Str), ("_law_pick" : Str)] ++ [("_law_chosen" : Str), ("_law_by_two" : Str), ("_law_drawn_lot" : Str), ("_law_script" : Str), ("_law_folds_into" : Str), ("_law_columns" : Str), ("_law_wave" : Str), ("_law_gone" : Str), ("_law_open" : Str), ("_law_heaped" : Str), ("law" : Str), ("_law_error" : Str), ("_law_refused" : Str), ("PleatError" : Str), ("InvalidScript" : Str), ("InvalidNumber" : Str), ("InvalidWord" : Str), ("InvalidRow" : Str), ("InvalidColumn" : Str), ("InvalidSnip" : Str)] ++ [("InvalidSeen" : Str), ("Unlike" : Str), ("NothingFolded" : Str), ("NothingToUndo" : Str), ("TooMany" : Str), ("InvalidText" : Str)]
def cd : Pi.Cd := ⟨fns, ms, tabL, freeL, nmsL, m_law_error, c_law_error, m_law_refused, 31, 32, 33, [33, 34, 35, 36, 37, 38, 39, 40, 41, 42, 43, 44, 45], [(34, "script"), (35, "number"), (36, "word"), (37, "row"), (38, "column"), (39, "snip"), (40, "seen"), (41, "unlike"), (42, "flat"), (43, "undo")], 30⟩
/- place of law in the body: 50 -/

theorem okT : cd.okT = true := by kernel_rfl
theorem okM : cd.okM = true := by kernel_rfl
theorem okW : cd.okW = true := by kernel_rfl
theorem okE : cd.okE = true := by kernel_rfl
end K11

set_option maxRecDepth 100000
set_option maxHeartbeats 0
/-! Ev: rules of the interpreter, step by step. -/
namespace Pi.EvR
open PySem
open PySem
section
variable {G : Gl} {cl : Nat → List D → Sto → RC} {W : Nat} {bw : Bool} {env env1 env2 env3 : Env} {st st1 st2 st3 : Sto} {a b c : C} {d x y z : D} {o o1 o2 o3 : Bool} {ss : List S}
theorem e_not {q : Bool} (h : ev G cl true a env st = .ok (.bl q, o) env1 st1) : ev G cl bw (.not a) env st = .ok (.bl (!q), false) env1 st1 := by
  conv => lhs; unfold ev
  rw [h]; rfl
theorem e_and {p q : Bool} (h : ev G cl true a env st = .ok (.bl p, o) env1 st1) (h2 : p = true → ev G cl bw b env1 st1 = .ok (.bl q, false) env1 st1) : ev G cl bw (.and a b) env st = .ok (.bl (p && q), false) env1 st1 := by
  conv => lhs; unfold ev
  rw [h]
  cases p with
  | false => rfl
  | true => exact h2 rfl
theorem e_or {p q : Bool} (h : ev G cl true a env st = .ok (.bl p, o) env1 st1) (h2 : p = false → ev G cl bw b env1 st1 = .ok (.bl q, false) env1 st1) : ev G cl bw (.or a b) env st = .ok (.bl (p || q), false) env1 st1 := by
  conv => lhs; unfold ev
  rw [h]
  cases p with
  | true => rfl
  | false => exact h2 rfl
theorem e_iteT (h : ev G cl true a env st = .ok (.bl true, o) env1 st1) : ev G cl bw (.ite a b c) env st = ev G cl bw b env1 st1 := by
  conv => lhs; unfold ev
  rw [h]; rfl
theorem e_iteF (h : ev G cl true a env st = .ok (.bl false, o) env1 st1) : ev G cl bw (.ite a b c) env st = ev G cl bw c env1 st1 := by
  conv => lhs; unfold ev
  rw [h]; rfl
theorem e_cmp {k : COp} {q : Bool} (h : ev G cl true a env st = .ok (x, o) env1 st1) (h2 : ev G cl true b env1 st1 = .ok (y, o2) env2 st2) (h3 : cmpop k x y = some q) : ev G cl bw (.cmp k a b) env st = .ok (.bl q, false) env2 st2 := by
  conv => lhs; unfold ev
  rw [h]
  show (ev G cl true b env1 st1).bind _ = _
  rw [h2]
  show lift ((cmpF st2 k x y).map _) env2 st2 = _
  have e : cmpF st2 k x y = some q := by unfold cmpF; rw [h3]
  rw [e]; rfl
/-- .. of dicts of the store -/
theorem e_cmpD {k : COp} {q : Bool} (h : ev G cl true a env st = .ok (x, o) env1 st1) (h2 : ev G cl true b env1 st1 = .ok (y, o2) env2 st2) (h3 : cmpF st2 k x y = some q) : ev G cl bw (.cmp k a b) env st = .ok (.bl q, false) env2 st2 := by
  conv => lhs; unfold ev
  rw [h]
  show (ev G cl true b env1 st1).bind _ = _
  rw [h2]
  show lift ((cmpF st2 k x y).map _) env2 st2 = _
  rw [h3]; rfl
theorem e_chn {k k2 : COp} {p q : Bool} (h : ev G cl true a env st = .ok (x, o) env1 st1) (h2 : ev G cl true b env1 st1 = .ok (y, o2) env2 st2) (h3 : cmpop k x y = some p) (h4 : p = true → ev G cl true c env2 st2 = .ok (z, o3) env2 st2) (h5 : p = true → cmpop k2 y z = some q) : ev G cl bw (.chn k k2 a b c) env st = .ok (.bl (p && q), false) env2 st2 := by
  conv => lhs; unfold ev
  rw [h]
  show (ev G cl true b env1 st1).bind _ = _
  rw [h2]
  show (match cmpop k x y with
    | some true => _
    | some false => _
    | none => _) = _
  rw [h3]
  cases p with
  | false => rfl
  | true =>
    show (ev G cl true c env2 st2).bind _ = _
    rw [h4 rfl]
    show lift ((cmpop k2 y z).map _) env2 st2 = _
    rw [h5 rfl]; rfl
theorem e_bin {k : BOp} {q : D × Bool} (h : ev G cl true a env st = .ok (x, o) env1 st1) (h2 : ev G cl true b env1 st1 = .ok (y, o2) env2 st2) (h3 : binop k x y = some q) : ev G cl bw (.bin k a b) env st = .ok q env2 st2 := by
  conv => lhs; unfold ev
  rw [h]
  show (ev G cl true b env1 st1).bind _ = _
  rw [h2]
  show lift (binop k x y) env2 st2 = _
  rw [h3]; rfl
theorem e_ix {q : D × Bool} (h : ev G cl true a env st = .ok (x, o) env1 st1) (h2 : ev G cl true b env1 st1 = .ok (y, o2) env2 st2) (h3 : ixF st2 x y = some q) : ev G cl bw (.ix a b) env st = .ok q env2 st2 := by
  conv => lhs; unfold ev
  rw [h]
  show (ev G cl true b env1 st1).bind _ = _
  rw [h2]
  show lift (ixF st2 x y) env2 st2 = _
  rw [h3]; rfl
theorem e_sl {lo hi : Option C} {l u : Option Int} {q : D × Bool} (h : ev G cl true a env st = .ok (x, o) env1 st1) (h2 : evo G cl lo env1 st1 = .ok l env2 st2) (h3 : evo G cl hi env2 st2 = .ok u env3 st3) (h4 : slice x l u = some q) : ev G cl bw (.sl a lo hi) env st = .ok q env3 st3 := by
  conv => lhs; unfold ev
  rw [h]
  show (evo G cl lo env1 st1).bind _ = _
  rw [h2]
  show (evo G cl hi env2 st2).bind _ = _
  rw [h3]
  show lift (slice x l u) env3 st3 = _
  rw [h4]; rfl
theorem e_call {f : Nat} {es : List C} {ds : List D} (h : evs G cl false es env st = .ok ds env1 st1) (h2 : cl f ds st1 = .ok d o st2) : ev G cl bw (.call f es) env st = .ok (d, o) env1 st2 := by
  conv => lhs; unfold ev
  rw [h]
  show ofCall (cl f ds st1) env1 = _
  rw [h2]; rfl
theorem e_callx {f c : Nat} {es : List C} {ds : List D} (h : evs G cl false es env st = .ok ds env1 st1) (h2 : cl f ds st1 = .ex c d st2) : ev G cl bw (.call f es) env st = .ex c d env1 st2 := by
  conv => lhs; unfold ev
  rw [h]
  show ofCall (cl f ds st1) env1 = _
  rw [h2]; rfl
theorem e_bi {k : Bi} {es : List C} {ds : List D} {q : D × Bool} (h : evs G cl true es env st = .ok ds env1 st1) (h2 : bifn G k ds = some q) : ev G cl bw (.bi k es) env st = .ok q env1 st1 := by
  conv => lhs; unfold ev
  rw [h]
  show lift (bifF G st1 k ds) env1 st1 = _
  have e : bifF G st1 k ds = some q := by unfold bifF; rw [h2]
  rw [e]; rfl
theorem e_biD {k : Bi} {es : List C} {ds : List D} {q : D × Bool} (h : evs G cl true es env st = .ok ds env1 st1) (h2 : bifF G st1 k ds = some q) : ev G cl bw (.bi k es) env st = .ok q env1 st1 := by
  conv => lhs; unfold ev
  rw [h]
  show lift (bifF G st1 k ds) env1 st1 = _
  rw [h2]; rfl
theorem e_rng {es : List C} {ds : List D} (h : evs G cl true es env st = .ok ds env1 st1) (h2 : rangeOf ds = some d) : ev G cl bw (.rng es) env st = .ok (d, false) env1 st1 := by
  conv => lhs; unfold ev
  rw [h]
  show lift ((rangeOf ds).map _) env1 st1 = _
  rw [h2]; rfl
theorem e_enm (h : ev G cl false a env st = .ok (x, o) env1 st1) (h2 : enumOf x = some d) : ev G cl bw (.enm a) env st = .ok (d, false) env1 st1 := by
  conv => lhs; unfold ev
  rw [h]
  show lift ((enumOf x).map _) env1 st1 = _
  rw [h2]; rfl
theorem e_zp (h : ev G cl false a env st = .ok (x, o) env1 st1) (h2 : ev G cl false b env1 st1 = .ok (y, o2) env2 st2) (h3 : zipOf x y = some d) : ev G cl bw (.zp a b) env st = .ok (d, false) env2 st2 := by
  conv => lhs; unfold ev
  rw [h]
  show (ev G cl false b env1 st1).bind _ = _
  rw [h2]
  show lift ((zipOf x y).map _) env2 st2 = _
  rw [h3]; rfl
theorem e_tp {es : List C} {ds : List D} (h : evs G cl false es env st = .ok ds env1 st1) (h2 : szOk ds.length = true) : ev G cl bw (.tp es) env st = .ok (.tup ds, false) env1 st1 := by
  conv => lhs; unfold ev
  rw [h]
  show (if szOk ds.length = true then _ else _) = _
  rw [if_pos h2]
theorem e_ls {es : List C} {ds : List D} (h : evs G cl false es env st = .ok ds env1 st1) (h2 : szOk ds.length = true) : ev G cl bw (.ls es) env st = .ok (.lst ds, true) env1 st1 := by
  conv => lhs; unfold ev
  rw [h]
  show (if szOk ds.length = true then _ else _) = _
  rw [if_pos h2]
theorem es_nil : evs G cl bw [] env st = .ok [] env st := rfl
theorem es_cons {es : List C} {ds : List D} (h : ev G cl bw a env st = .ok (x, o) env1 st1) (h2 : evs G cl bw es env1 st1 = .ok ds env2 st2) : evs G cl bw (a :: es) env st = .ok (x :: ds) env2 st2 := by
  conv => lhs; unfold evs
  rw [h]
  show (evs G cl bw es env1 st1).bind _ = _
  rw [h2]; rfl
theorem eo_some {i : Int} (h : ev G cl true a env st = .ok (.int i, o) env1 st1) : evo G cl (some a) env st = .ok (some i) env1 st1 := by
  conv => lhs; unfold evo
  rw [h]; rfl
theorem t_of {q : Bool} (h : ev G cl true a env st = .ok (.bl q, o) env1 st1) : truth (ev G cl true a env st) = .ok q env1 st1 := by
  rw [h]; rfl
theorem b_nx {s : S} (h : exS G cl W s env st = .ok .nx env1 st1) : exB G cl W (s :: ss) env st = exB G cl W ss env1 st1 := by
  conv => lhs; unfold exB
  rw [h]; rfl
theorem b_rt {s : S} (h : exS G cl W s env st = .ok (.ret d o) env1 st1) : exB G cl W (s :: ss) env st = .ok (.ret d o) env1 st1 := by
  conv => lhs; unfold exB
  rw [h]; rfl
theorem b_exc {s : S} {k : Nat} (h : exS G cl W s env st = .ex k d env1 st1) : exB G cl W (s :: ss) env st = .ex k d env1 st1 := by
  conv => lhs; unfold exB
  rw [h]; rfl
theorem b_asg {t : T} {p : D × Bool} (h : ev G cl false c env st = .ok p env1 st1) (hs : setT t p env1 = some env2) : exB G cl W (.asg t c :: ss) env st = exB G cl W ss env2 st1 := b_nx (by
  conv => lhs; unfold exS
  rw [h]
  show (match setT t p env1 with | some env => R.ok Flow.nx env st1 | none => R.no) = _
  rw [hs])
theorem b_par {is : List Nat} {es : List C} {ds : List D} (h : evs G cl false es env st = .ok ds env1 st1) (hs : setT (.t is) (.tup ds, false) env1 = some env2) : exB G cl W (.par is es :: ss) env st = exB G cl W ss env2 st1 := b_nx (by
  conv => lhs; unfold exS
  rw [h]
  show (match setT (.t is) (.tup ds, false) env1 with | some env => R.ok Flow.nx env st1 | none => R.no) = _
  rw [hs])
theorem b_expr {p : D × Bool} (h : ev G cl false c env st = .ok p env1 st1) : exB G cl W (.ex c :: ss) env st = exB G cl W ss env1 st1 := b_nx (by
  conv => lhs; unfold exS
  rw [h]; rfl)
theorem b_exprx {k : Nat} (h : ev G cl false c env st = .ex k d env1 st1) : exB G cl W (.ex c :: ss) env st = .ex k d env1 st1 := b_exc (by
  conv => lhs; unfold exS
  rw [h]; rfl)
theorem s_if {q : Bool} {p r : List S} (h : ev G cl true a env st = .ok (.bl q, o) env1 st1) : exS G cl W (.ifs a p r) env st = if q then exB G cl W p env1 st1 else exB G cl W r env1 st1 := by
  conv => lhs; unfold exS
  rw [t_of h]; rfl
theorem b_ifF {q : Bool} {p : List S} (h : ev G cl true a env st = .ok (.bl q, o) env1 st1) (hq : q = false) : exB G cl W (.ifs a p [] :: ss) env st = exB G cl W ss env1 st1 := b_nx (by
  rw [s_if h, hq]; rfl)
theorem b_ifFe {q : Bool} {p r : List S} (h : ev G cl true a env st = .ok (.bl q, o) env1 st1) (hq : q = false) (hr : exB G cl W r env1 st1 = .ok .nx env2 st2) : exB G cl W (.ifs a p r :: ss) env st = exB G cl W ss env2 st2 := b_nx (by
  rw [s_if h, hq]; exact hr)
theorem b_ifT {q : Bool} {p r : List S} (h : ev G cl true a env st = .ok (.bl q, o) env1 st1) (hq : q = true) (hr : exB G cl W p env1 st1 = .ok .nx env2 st2) : exB G cl W (.ifs a p r :: ss) env st = exB G cl W ss env2 st2 := b_nx (by
  rw [s_if h, hq]; exact hr)
theorem b_ifR {q : Bool} {p r : List S} (h : ev G cl true a env st = .ok (.bl q, o) env1 st1) (hq : q = true) (hr : exB G cl W p env1 st1 = .ok (.ret d o2) env2 st2) : exB G cl W (.ifs a p r :: ss) env st = .ok (.ret d o2) env2 st2 := b_rt (by
  rw [s_if h, hq]; exact hr)
theorem b_ifX {q : Bool} {k : Nat} {p r : List S} (h : ev G cl true a env st = .ok (.bl q, o) env1 st1) (hq : q = true) (hr : exB G cl W p env1 st1 = .ex k d env2 st2) : exB G cl W (.ifs a p r :: ss) env st = .ex k d env2 st2 := b_exc (by
  rw [s_if h, hq]; exact hr)
/-- a value that is returned is no name's -/
def notV : C → Bool
  | .v _ => false
  | _ => true
theorem b_ret (hn : notV c = true) (h : ev G cl false c env st = .ok (d, o) env1 st1) : exB G cl W (.ret c :: ss) env st = .ok (.ret d o) env1 st1 := b_rt (by
  have e : exS G cl W (.ret c) env st = (ev G cl false c env st).bind fun x env st => .ok (.ret x.1 x.2) env st := by
    cases c <;> first | rfl | cases hn
  rw [e, h]; rfl)
theorem b_retx {k : Nat} (hn : notV c = true) (h : ev G cl false c env st = .ex k d env1 st1) : exB G cl W (.ret c :: ss) env st = .ex k d env1 st1 := b_exc (by
  have e : exS G cl W (.ret c) env st = (ev G cl false c env st).bind fun x env st => .ok (.ret x.1 x.2) env st := by
    cases c <;> first | rfl | cases hn
  rw [e, h]; rfl)
theorem b_retv {i : Nat} (h : getS env i = some (d, o)) : exB G cl W (.ret (.v i) :: ss) env st = .ok (.ret d o) (env.set i none) st := b_rt (by
  conv => lhs; unfold exS
  rw [h])
abbrev fStep (G : Gl) (cl : Nat → List D → Sto → RC) (W : Nat) (t : T) (b : List S) : D → Env → Sto → R Flow := fun x env st => match setT t (x, false) env with
      | some env => exB G cl W b env st
      | none => .no
theorem s_for {t : T} {b : List S} {xs : List D} (hit : ev G cl false c env st = .ok (x, o) env1 st1) (hx : items x = some xs) : exS G cl W (.for t c b) env st = forGo (fStep G cl W t b) xs env1 st1 := by
  conv => lhs; unfold exS
  rw [hit]
  show (match items x with
    | some xs => _
    | none => R.no) = _
  rw [hx] <;> rfl
abbrev lStep (G : Gl) (cl : Nat → List D → Sto → RC) (elt : C) (tg : T) (cond : Option C) : D → Env → Sto → R (Option D) := fun x env st => match setT tg (x, false) env with
        | none => .no
        | some env => match cond with
          | none => (ev G cl false elt env st).calm.bind fun y env st => .ok (some y.1) (clear env tg.own) st
          | some c => (truth (ev G cl true c env st)).calm.bind fun b env st => if b then (ev G cl false elt env st).calm.bind fun y env st => .ok (some y.1) (clear env tg.own) st
            else .ok none (clear env tg.own) st
theorem e_lc {elt it : C} {tg : T} {cond : Option C} {xs ys : List D} (hit : ev G cl false it env st = .ok (x, o) env1 st1) (hx : items x = some xs) (hz : szOk xs.length = true)
    (hl : lcGo (lStep G cl elt tg cond) xs (clear env1 tg.own) st1 = .ok ys env2 st2) (he : restore env1 env2 tg.own = env3) : ev G cl bw (.lc elt tg it cond) env st = .ok (.lst ys, true) env3 st2 := by
  subst he
  conv => lhs; unfold ev
  rw [hit]
  show (match items x with
    | none => R.no
    | some xs => _) = _
  rw [hx]
  dsimp only
  have key : ∀ stp, stp = lStep G cl elt tg cond → ((lcGo stp xs (clear env1 tg.own) st1).bind fun ys env st => if szOk xs.length = true then R.ok (D.lst ys, true) (restore env1 env tg.own) st else .no) = .ok (.lst ys, true) (restore env1 env2 tg.own) st2 := by
    rintro _ rfl
    rw [hl]
    show (if szOk xs.length = true then _ else _) = _
    rw [if_pos hz]
  cases cond <;> exact key _ rfl
/-- a comprehension that changes nothing: each item by itself -/
theorem lc_map {elt : C} {tg : T} {env0 : Env} {f : D → D} {xs : List D} (hs : ∀ x ∈ xs, ∃ e1 o, setT tg (x, false) env0 = some e1 ∧ ev G cl false elt e1 st = .ok (f x, o) e1 st ∧ clear e1 tg.own = env0) : lcGo (lStep G cl elt tg none) xs env0 st = .ok (xs.map f) env0 st := by
  induction xs with
  | nil => rfl
  | cons x xs ih =>
    obtain ⟨e1, o, h1, h2, h3⟩ := hs x List.mem_cons_self
    show (lStep G cl elt tg none x env0 st).bind _ = _
    have : lStep G cl elt tg none x env0 st = .ok (some (f x)) env0 st := by
      unfold lStep
      rw [h1]
      dsimp only
      rw [h2]
      show R.ok _ (clear e1 tg.own) st = _
      rw [h3]
    rw [this]
    show (lcGo (lStep G cl elt tg none) xs env0 st).bind _ = _
    rw [ih fun y hy => hs y (List.mem_cons_of_mem _ hy)]; rfl
theorem lc_filter {elt k : C} {tg : T} {env0 : Env} {f : D → D} {p : D → Bool} {xs : List D} (hs : ∀ x ∈ xs, ∃ e1 o o2, setT tg (x, false) env0 = some e1 ∧ ev G cl true k e1 st = .ok (.bl (p x), o2) e1 st ∧ (p x = true → ev G cl false elt e1 st = .ok (f x, o) e1 st) ∧ clear e1 tg.own = env0) : lcGo (lStep G cl elt tg (some k)) xs env0 st = .ok ((xs.filter p).map f) env0 st := by
  induction xs with
  | nil => rfl
  | cons x xs ih =>
    obtain ⟨e1, o, o2, h1, h2, h4, h3⟩ := hs x List.mem_cons_self
    show (lStep G cl elt tg (some k) x env0 st).bind _ = _
    have : lStep G cl elt tg (some k) x env0 st = .ok (if p x then some (f x) else none) env0 st := by
      unfold lStep
      rw [h1]
      dsimp only
      rw [t_of h2]
      cases hp : p x with
      | false =>
        show R.ok _ (clear e1 tg.own) st = _
        rw [h3]; rfl
      | true =>
        show (ev G cl false elt e1 st).calm.bind _ = _
        rw [h4 hp]
        show R.ok _ (clear e1 tg.own) st = _
        rw [h3]; rfl
    rw [this]
    show (lcGo (lStep G cl elt tg (some k)) xs env0 st).bind _ = _
    rw [ih fun y hy => hs y (List.mem_cons_of_mem _ hy)]
    cases hp : p x <;> simp [R.bind, hp]
/-- a walk whose turns change one slot's value by a fold -/
theorem for_fold {t : T} {b : List S} {α : Type} {E : α → Env} {g : α → D → α} {xs : List D} {s : α} (hs : ∀ x ∈ xs, ∀ s, fStep G cl W t b x (E s) st = .ok .nx (E (g s x)) st) : forGo (fStep G cl W t b) xs (E s) st = .ok .nx (E (xs.foldl g s)) st := by
  induction xs generalizing s with
  | nil => rfl
  | cons x xs ih =>
    show (fStep G cl W t b x (E s) st).bind _ = _
    rw [hs x List.mem_cons_self s]
    exact ih fun y hy => hs y (List.mem_cons_of_mem _ hy)
end
theorem for_all {body : D → Env → Sto → R Flow} {P : D → Bool} {E : Slot → Env} {st : Sto} : ∀ {xs : List D} {s : Slot}, (∀ x ∈ xs, ∀ s, (P x = true → body x (E s) st = .ok .nx (E (some (x, false))) st) ∧ (P x = false → ∃ e, body x (E s) st = .ok (.ret (.bl false) false) e st)) →
    (xs.all P = true → ∃ s', forGo body xs (E s) st = .ok .nx (E s') st) ∧ (xs.all P = false → ∃ e, forGo body xs (E s) st = .ok (.ret (.bl false) false) e st)
  | [], s, _ => ⟨fun _ => ⟨s, rfl⟩, fun h => by cases h⟩
  | x :: xs, s, h => by
    obtain ⟨h1, h2⟩ := h x List.mem_cons_self s
    obtain ⟨i1, i2⟩ := for_all (xs := xs) (s := some (x, false)) (fun y hy => h y (List.mem_cons_of_mem _ hy))
    rw [List.all_cons]
    cases hp : P x with
    | false =>
      refine ⟨(fun z => by cases z), fun _ => ?_⟩
      obtain ⟨e, he⟩ := h2 hp
      refine ⟨e, ?_⟩
      show (body x (E s) st).bind _ = _
      rw [he]; rfl
    | true =>
      have hb := h1 hp
      rw [Bool.true_and]
      refine ⟨fun z => ?_, fun z => ?_⟩
      · obtain ⟨s', h⟩ := i1 z
        refine ⟨s', ?_⟩
        show (body x (E s) st).bind _ = _
        rw [hb]; exact h
      · obtain ⟨s', h⟩ := i2 z
        refine ⟨s', ?_⟩
        show (body x (E s) st).bind _ = _
        rw [hb]; exact h
/-- what a call gives -/
def fnl : R Flow → RC
  | .no => .no
  | .ok (.ret d o) _ st => .ok d o st
  | .ok .nx _ st => .ok .non false st
  | .ok _ _ _ => .no
  | .ex c x _ st => .ex c x st
theorem call_fn {G : Gl} {fns : List Fn} {W n f : Nat} {fn : Fn} {ds : List D} {st : Sto} (h : fns[f]? = some fn) (hl : ds.length = fn.np) : callN G fns W (n + 1) f ds st = fnl (exB G (callN G fns W n) W fn.body (ds.map (fun d => some (d, false)) ++ List.replicate (fn.ns - fn.np) none) st) := by
  show callN _ _ _ _ _ _ _ = _
  conv => lhs; unfold callN
  rw [h]
  dsimp only
  rw [if_pos hl]
  generalize exB G (callN G fns W n) W fn.body (ds.map (fun d => some (d, false)) ++ List.replicate (fn.ns - fn.np) none) st = r
  cases r with
  | no => rfl
  | ok a e s => cases a <;> rfl
  | ex c x e s => rfl
/-- a call whose block ends in a return -/
theorem call_ret {G : Gl} {fns : List Fn} {W n f : Nat} {fn : Fn} {ds : List D} {st st1 : Sto} {env1 : Env} {d : D} {o : Bool} (h : fns[f]? = some fn) (hl : ds.length = fn.np) (hb : exB G (callN G fns W n) W fn.body (ds.map (fun d => some (d, false)) ++ List.replicate (fn.ns - fn.np) none) st = .ok (.ret d o) env1 st1) : callN G fns W (n + 1) f ds st = .ok d o st1 := by
  rw [call_fn h hl, hb]; rfl
theorem call_nx {G : Gl} {fns : List Fn} {W n f : Nat} {fn : Fn} {ds : List D} {st st1 : Sto} {env1 : Env} (h : fns[f]? = some fn) (hl : ds.length = fn.np) (hb : exB G (callN G fns W n) W fn.body (ds.map (fun d => some (d, false)) ++ List.replicate (fn.ns - fn.np) none) st = .ok .nx env1 st1) : callN G fns W (n + 1) f ds st = .ok .non false st1 := by
  rw [call_fn h hl, hb]; rfl
theorem call_exc {G : Gl} {fns : List Fn} {W n f k : Nat} {fn : Fn} {ds : List D} {st st1 : Sto} {env1 : Env} {d : D} (h : fns[f]? = some fn) (hl : ds.length = fn.np) (hb : exB G (callN G fns W n) W fn.body (ds.map (fun d => some (d, false)) ++ List.replicate (fn.ns - fn.np) none) st = .ex k d env1 st1) : callN G fns W (n + 1) f ds st = .ex k d st1 := by
  rw [call_fn h hl, hb]; rfl
end Pi.EvR

set_option maxRecDepth 100000
/-! K11s: sorts of lists without repeats; floods over a list of cells. -/
namespace K11
open PySem Pi

/-! ### sorts -/
structure SLt {α : Type} (lt : α → α → Bool) : Prop where
  irr : ∀ a, lt a a = false
  tr : ∀ a b c, lt a b = true → lt b c = true → lt a c = true
  tri : ∀ a b, lt a b = false → lt b a = false → a = b
section
variable {α : Type} {lt : α → α → Bool}
def insG (lt : α → α → Bool) (x : α) : List α → List α
  | [] => [x]
  | y :: ys => if lt y x then y :: insG lt x ys else x :: y :: ys
def sortG (lt : α → α → Bool) : List α → List α
  | [] => []
  | x :: xs => insG lt x (sortG lt xs)
theorem insG_map {f : α → D} (h : ∀ a b, dlt (f a) (f b) = lt a b) (x : α) : ∀ ys : List α, insB (f x) (ys.map f) = (insG lt x ys).map f
  | [] => rfl
  | y :: ys => by
    show (if dlt (f y) (f x) then f y :: insB (f x) (ys.map f) else f x :: f y :: ys.map f) = _
    unfold insG
    rw [h, insG_map h x ys]
    split <;> rfl
theorem sortG_map {f : α → D} (h : ∀ a b, dlt (f a) (f b) = lt a b) : ∀ xs : List α, isort (xs.map f) = (sortG lt xs).map f
  | [] => rfl
  | x :: xs => by
    show insB (f x) (isort (xs.map f)) = (insG lt x (sortG lt xs)).map f
    rw [sortG_map h xs, insG_map h]
theorem mem_insG {x a : α} : ∀ {ys : List α}, a ∈ insG lt x ys ↔ a = x ∨ a ∈ ys
  | [] => by simp [insG]
  | y :: ys => by
    unfold insG
    split
    · rw [List.mem_cons, mem_insG, List.mem_cons]
      constructor
      · rintro (h | h | h)
        · exact .inr (.inl h)
        · exact .inl h
        · exact .inr (.inr h)
      · rintro (h | h | h)
        · exact .inr (.inl h)
        · exact .inl h
        · exact .inr (.inr h)
    · rw [List.mem_cons]
theorem mem_sortG {a : α} : ∀ {xs : List α}, a ∈ sortG lt xs ↔ a ∈ xs
  | [] => Iff.rfl
  | x :: xs => by
    unfold sortG
    rw [mem_insG, mem_sortG, List.mem_cons]
theorem insG_pw (o : SLt lt) {x : α} : ∀ {ys : List α}, ys.Pairwise (fun a b => lt a b = true) → x ∉ ys → (insG lt x ys).Pairwise (fun a b => lt a b = true)
  | [], _, _ => by simp [insG]
  | y :: ys, h, hx => by
    rw [List.pairwise_cons] at h
    unfold insG
    split
    · rename_i hl
      rw [List.pairwise_cons]
      refine ⟨fun b hb => ?_, insG_pw o h.2 fun z => hx (List.mem_cons_of_mem _ z)⟩
      rcases mem_insG.mp hb with rfl | hb
      · exact hl
      · exact h.1 b hb
    · rename_i hl
      have hne : x ≠ y := fun z => hx (by rw [z]; exact List.mem_cons_self)
      have hxy : lt x y = true := by
        cases e : lt x y with
        | true => rfl
        | false => exact absurd (o.tri x y e (by simpa using hl)) hne
      rw [List.pairwise_cons]
      refine ⟨fun b hb => ?_, List.pairwise_cons.mpr h⟩
      rcases List.mem_cons.mp hb with rfl | hb
      · exact hxy
      · exact o.tr _ _ _ hxy (h.1 b hb)
theorem sortG_pw (o : SLt lt) : ∀ {xs : List α}, xs.Nodup → (sortG lt xs).Pairwise (fun a b => lt a b = true)
  | [], _ => .nil
  | x :: xs, h => by
    rw [List.nodup_cons] at h
    exact insG_pw o (sortG_pw o h.2) fun z => h.1 (mem_sortG.mp z)
/-- two ascending lists with the same members are one -/
theorem pw_unique (o : SLt lt) : ∀ {xs ys : List α}, xs.Pairwise (fun a b => lt a b = true) → ys.Pairwise (fun a b => lt a b = true) → (∀ a, a ∈ xs ↔ a ∈ ys) → xs = ys
  | [], [], _, _, _ => rfl
  | [], y :: ys, _, _, h => absurd ((h y).mpr List.mem_cons_self) (fun z => nomatch z)
  | x :: xs, [], _, _, h => absurd ((h x).mp List.mem_cons_self) (fun z => nomatch z)
  | x :: xs, y :: ys, hx, hy, h => by
    rw [List.pairwise_cons] at hx hy
    have e : x = y := by
      rcases List.mem_cons.mp ((h x).mp List.mem_cons_self) with e | e
      · exact e
      · rcases List.mem_cons.mp ((h y).mpr List.mem_cons_self) with e' | e'
        · exact e'.symm
        · have a := o.tr _ _ _ (hy.1 x e) (hx.1 y e')
          rw [o.irr] at a
          cases a
    subst e
    congr 1
    refine pw_unique o hx.2 hy.2 fun a => ⟨fun ha => ?_, fun ha => ?_⟩
    · rcases List.mem_cons.mp ((h a).mp (List.mem_cons_of_mem _ ha)) with rfl | z
      · have := hx.1 _ ha
        rw [o.irr] at this; cases this
      · exact z
    · rcases List.mem_cons.mp ((h a).mpr (List.mem_cons_of_mem _ ha)) with rfl | z
      · have := hy.1 _ ha
        rw [o.irr] at this; cases this
      · exact z
theorem sortG_id (o : SLt lt) {xs : List α} (h : xs.Pairwise (fun a b => lt a b = true)) : sortG lt xs = xs := by
  have nd : xs.Nodup := h.imp fun {a b} hab z => by
    rw [z, o.irr] at hab; cases hab
  exact pw_unique o (sortG_pw o nd) h fun a => mem_sortG
/-- lists in the order of their items -/
def ltL (lt : α → α → Bool) [BEq α] : List α → List α → Bool
  | [], [] => false
  | [], _ :: _ => true
  | _ :: _, [] => false
  | x :: xs, y :: ys => if x == y then ltL lt xs ys else lt x y
end

/-! ### cells -/
abbrev Cell := Int × Int
def ltC (a b : Cell) : Bool := decide (a.1 < b.1) || (a.1 == b.1 && decide (a.2 < b.2))
theorem ltC_s : SLt ltC where
  irr := fun a => by simp [ltC]
  tr := fun a b c h1 h2 => by
    simp only [ltC, Bool.or_eq_true, Bool.and_eq_true, decide_eq_true_eq, beq_iff_eq] at *
    omega
  tri := fun a b h1 h2 => by
    simp only [ltC, Bool.or_eq_false_iff, Bool.and_eq_false_iff, decide_eq_false_iff_not, beq_eq_false_iff_ne] at *
    obtain ⟨a1, a2⟩ := a
    obtain ⟨b1, b2⟩ := b
    simp only at h1 h2
    have e1 : a1 = b1 := by omega
    have e2 : a2 = b2 := by omega
    rw [e1, e2]
theorem ltL_irr : ∀ xs : List Cell, ltL ltC xs xs = false
  | [] => rfl
  | x :: xs => by
    unfold ltL
    rw [if_pos (by simp)]
    exact ltL_irr xs
theorem ltL_tr : ∀ xs ys zs : List Cell, ltL ltC xs ys = true → ltL ltC ys zs = true → ltL ltC xs zs = true
  | [], [], _, h, _ => by cases h
  | [], _ :: _, [], _, h => by cases h
  | [], _ :: _, _ :: _, _, _ => rfl
  | _ :: _, [], _, h, _ => by cases h
  | _ :: _, _ :: _, [], _, h => by cases h
  | x :: xs, y :: ys, z :: zs, h1, h2 => by
    unfold ltL at h1 h2 ⊢
    by_cases e1 : x = y
    · subst e1
      rw [if_pos (by simp)] at h1
      by_cases e2 : x = z
      · subst e2
        rw [if_pos (by simp)] at h2 ⊢
        exact ltL_tr xs ys zs h1 h2
      · rw [if_neg (by simpa using e2)] at h2 ⊢
        exact h2
    · rw [if_neg (by simpa using e1)] at h1
      by_cases e2 : y = z
      · subst e2
        rw [if_neg (by simpa using e1)]
        exact h1
      · rw [if_neg (by simpa using e2)] at h2
        have h3 := ltC_s.tr _ _ _ h1 h2
        rw [if_neg (by
          intro e
          have e : x = z := by simpa using e
          subst e
          rw [ltC_s.irr] at h3
          cases h3)]
        exact h3
theorem ltL_tri : ∀ xs ys : List Cell, ltL ltC xs ys = false → ltL ltC ys xs = false → xs = ys
  | [], [], _, _ => rfl
  | [], _ :: _, h, _ => by cases h
  | _ :: _, [], _, h => by cases h
  | x :: xs, y :: ys, h1, h2 => by
    unfold ltL at h1 h2
    by_cases e : x = y
    · subst e
      rw [if_pos (by simp)] at h1 h2
      rw [ltL_tri xs ys h1 h2]
    · rw [if_neg (by simpa using e)] at h1
      rw [if_neg (by simpa using fun z : y = x => e z.symm)] at h2
      exact absurd (ltC_s.tri x y h1 h2) e
theorem ltL_s : SLt (ltL ltC) := ⟨ltL_irr, ltL_tr, ltL_tri⟩
def cellD (c : Cell) : D := .tup [.int c.1, .int c.2]
def pieceD (cs : List Cell) : D := .tup (cs.map cellD)
theorem deq_cell (a b : Cell) : deq (cellD a) (cellD b) = (a == b) := by
  obtain ⟨a1, a2⟩ := a
  obtain ⟨b1, b2⟩ := b
  show ((a1 == b1) && ((a2 == b2) && true)) = ((a1, a2) == (b1, b2))
  rw [Bool.and_true]; rfl
theorem dlt_cell (a b : Cell) : dlt (cellD a) (cellD b) = ltC a b := by
  obtain ⟨a1, a2⟩ := a
  obtain ⟨b1, b2⟩ := b
  show (if (a1 == b1) = true then (if (a2 == b2) = true then false else decide (a2 < b2)) else decide (a1 < b1)) = (decide (a1 < b1) || (a1 == b1 && decide (a2 < b2)))
  by_cases e : a1 = b1
  · subst e
    by_cases e2 : a2 = b2
    · subst e2; simp
    · simp [e2]
  · simp [e]
theorem dlts_cells : ∀ xs ys : List Cell, dlts (xs.map cellD) (ys.map cellD) = ltL ltC xs ys
  | [], [] => rfl
  | [], _ :: _ => rfl
  | _ :: _, [] => rfl
  | x :: xs, y :: ys => by
    show (if deq (cellD x) (cellD y) then dlts (xs.map cellD) (ys.map cellD) else dlt (cellD x) (cellD y)) = _
    rw [deq_cell, dlt_cell, dlts_cells xs ys]
    rfl
theorem dlt_piece (xs ys : List Cell) : dlt (pieceD xs) (pieceD ys) = ltL ltC xs ys := dlts_cells xs ys

/-! ### a flood -/
section
variable (nb : Cell → List Cell)
/-- the neighbours of a cell that are still left: (left, todo) -/
def spread : List Cell → List Cell → List Cell → List Cell × List Cell
  | [], av, td => (av, td)
  | t :: ts, av, td => if t ∈ av then spread ts (av.filter fun x => x != t) (td ++ [t]) else spread ts av td
/-- todo is emptied from the end; (left, piece) -/
def flood : Nat → List Cell → List Cell → List Cell → List Cell × List Cell
  | 0, av, _, pc => (av, pc)
  | n + 1, av, td, pc => match td.getLast? with
    | none => (av, pc)
    | some c => flood n (spread (nb c) av td.dropLast).1 (spread (nb c) av td.dropLast).2 (pc ++ [c])
/-- reached from f within cells -/
inductive Rch (cells : List Cell) (f : Cell) : Cell → Prop
  | base : Rch cells f f
  | step {a b : Cell} : Rch cells f a → b ∈ nb a → b ∈ cells → Rch cells f b
end
section
variable {nb : Cell → List Cell}
theorem spread_spec : ∀ (ts av td : List Cell), av.Nodup →
    (spread ts av td).1.Nodup ∧ (∀ x, x ∈ (spread ts av td).1 ↔ x ∈ av ∧ x ∉ ts) ∧ (∃ ad, (spread ts av td).2 = td ++ ad ∧ ad.Nodup ∧ (∀ x, x ∈ ad ↔ x ∈ av ∧ x ∈ ts) ∧ ad.length + (spread ts av td).1.length = av.length)
  | [], av, td, h => ⟨h, fun x => ⟨fun z => ⟨z, fun y => nomatch y⟩, fun z => z.1⟩, [], by simp [spread], .nil, fun x => by simp, by simp [spread]⟩
  | t :: ts, av, td, h => by
    unfold spread
    by_cases ht : t ∈ av
    · rw [if_pos ht]
      have h2 : (av.filter fun x => x != t).Nodup := h.filter _
      obtain ⟨k1, k2, ad, k3, k4, k5, k6⟩ := spread_spec ts (av.filter fun x => x != t) (td ++ [t]) h2
      refine ⟨k1, fun x => ?_, t :: ad, by rw [k3, List.append_assoc]; rfl, ?_, fun x => ?_, ?_⟩
      · rw [k2, List.mem_filter, List.mem_cons]
        constructor
        · rintro ⟨⟨a, b⟩, c⟩
          have b : x ≠ t := by simpa using b
          exact ⟨a, fun z => z.elim b c⟩
        · rintro ⟨a, b⟩
          exact ⟨⟨a, by simpa using fun z : x = t => b (.inl z)⟩, fun z => b (.inr z)⟩
      · rw [List.nodup_cons]
        refine ⟨fun z => ?_, k4⟩
        have := ((k5 t).mp z).1
        rw [List.mem_filter] at this
        simp at this
      · rw [List.mem_cons, k5, List.mem_filter, List.mem_cons]
        constructor
        · rintro (rfl | ⟨⟨a, _⟩, c⟩)
          · exact ⟨ht, .inl rfl⟩
          · exact ⟨a, .inr c⟩
        · rintro ⟨a, b⟩
          by_cases e : x = t
          · exact .inl e
          · exact .inr ⟨⟨a, by simpa using e⟩, b.resolve_left e⟩
      · have e : (av.filter fun x => x != t).length + 1 = av.length := by
          clear k1 k2 k3 k4 k5 k6 h2
          induction av with
          | nil => exact nomatch ht
          | cons a av ih =>
            rw [List.nodup_cons] at h
            by_cases ea : a = t
            · subst ea
              have : (av.filter fun x => x != a) = av := List.filter_eq_self.mpr fun x hx => by
                have : x ≠ a := fun z => h.1 (z ▸ hx)
                simpa using this
              rw [List.filter_cons, if_neg (by simp), this]; rfl
            · rw [List.filter_cons, if_pos (by simpa using ea), List.length_cons, List.length_cons, ih h.2 ((List.mem_cons.mp ht).resolve_left fun z => ea z.symm)]
        rw [List.length_cons]
        omega
    · rw [if_neg ht]
      obtain ⟨k1, k2, ad, k3, k4, k5, k6⟩ := spread_spec ts av td h
      refine ⟨k1, fun x => ?_, ad, k3, k4, fun x => ?_, k6⟩
      · rw [k2, List.mem_cons]
        exact ⟨fun ⟨a, b⟩ => ⟨a, fun z => z.elim (fun z => ht (z ▸ a)) b⟩, fun ⟨a, b⟩ => ⟨a, fun z => b (.inr z)⟩⟩
      · rw [k5, List.mem_cons]
        exact ⟨fun ⟨a, b⟩ => ⟨a, .inr b⟩, fun ⟨a, b⟩ => ⟨a, b.resolve_left fun z => ht (z ▸ a)⟩⟩
/-- what holds between the turns of a flood -/
structure FInv (nb : Cell → List Cell) (U : List Cell) (f : Cell) (av td pc : List Cell) : Prop where
  nd : av.Nodup
  nd2 : (pc ++ td).Nodup
  dj : ∀ x ∈ av, x ∉ pc ++ td
  mem : ∀ x, x ∈ U ↔ x ∈ av ∨ x ∈ pc ++ td
  rch : ∀ x ∈ pc ++ td, Rch nb U f x
  cl : ∀ c ∈ pc, ∀ t ∈ nb c, t ∉ av
  f : f ∈ pc ++ td
theorem flood_spec {U : List Cell} {f : Cell} : ∀ (n : Nat) (av td pc : List Cell), FInv nb U f av td pc → td.length + av.length ≤ n →
    FInv nb U f (flood nb n av td pc).1 [] (flood nb n av td pc).2
  | 0, av, td, pc, I, h => by
    have e : td = [] := List.eq_nil_of_length_eq_zero (by omega)
    subst e
    exact I
  | n + 1, av, td, pc, I, h => by
    unfold flood
    cases hl : td.getLast? with
    | none =>
      have e : td = [] := List.getLast?_eq_none_iff.mp hl
      subst e
      exact I
    | some c =>
      have htd : td = td.dropLast ++ [c] := by
        have hne : td ≠ [] := fun z => by rw [z] at hl; cases hl
        have := List.dropLast_concat_getLast hne
        rw [List.getLast?_eq_some_getLast hne] at hl
        cases hl
        exact this.symm
      have hlen : td.length = td.dropLast.length + 1 := by
        have := congrArg List.length htd
        rwa [List.length_append] at this
      obtain ⟨k1, k2, ad, k3, k4, k5, k6⟩ := spread_spec (nb c) av td.dropLast I.nd
      have hc : c ∈ pc ++ td := by rw [htd]; simp
      have same : ∀ x, x ∈ pc ++ [c] ++ td.dropLast ↔ x ∈ pc ++ td := fun x => by
        conv => rhs; rw [htd]
        simp only [List.mem_append, List.mem_singleton]
        constructor
        · rintro ((h | h) | h)
          · exact .inl h
          · exact .inr (.inr h)
          · exact .inr (.inl h)
        · rintro (h | h | h)
          · exact .inl (.inl h)
          · exact .inr h
          · exact .inl (.inr h)
      have nds : (pc ++ [c] ++ td.dropLast).Nodup := by
        have p : (pc ++ [c] ++ td.dropLast).Perm (pc ++ td) := by
          conv => rhs; rw [htd]
          rw [List.append_assoc]
          exact List.Perm.append_left pc List.perm_append_comm
        exact p.nodup_iff.mpr I.nd2
      refine flood_spec n _ _ _ ?_ ?_
      · rw [k3]
        have hm : ∀ x, x ∈ pc ++ [c] ++ (td.dropLast ++ ad) ↔ x ∈ pc ++ td ∨ x ∈ ad := fun x => by
          rw [← List.append_assoc, List.mem_append, same]
        refine ⟨k1, ?_, fun x hx => ?_, fun x => ?_, fun x hx => ?_, fun a ha t ht => ?_, (hm f).mpr (.inl I.f)⟩
        · rw [← List.append_assoc, List.nodup_append]
          refine ⟨nds, k4, fun a ha b hb e => ?_⟩
          subst e
          exact I.dj a ((k5 a).mp hb).1 ((same a).mp ha)
        · rw [hm]
          obtain ⟨a, b⟩ := (k2 x).mp hx
          exact fun z => z.elim (I.dj x a) fun z => b ((k5 x).mp z).2
        · rw [hm, I.mem]
          constructor
          · rintro (h | h)
            · by_cases e : x ∈ nb c
              · exact .inr (.inr ((k5 x).mpr ⟨h, e⟩))
              · exact .inl ((k2 x).mpr ⟨h, e⟩)
            · exact .inr (.inl h)
          · rintro (h | h | h)
            · exact .inl ((k2 x).mp h).1
            · exact .inr h
            · exact .inl ((k5 x).mp h).1
        · rcases (hm x).mp hx with h | h
          · exact I.rch x h
          · obtain ⟨a, b⟩ := (k5 x).mp h
            exact .step (I.rch c hc) b ((I.mem x).mpr (.inl a))
        · rcases List.mem_append.mp ha with ha | ha
          · exact fun z => I.cl a ha t ht ((k2 t).mp z).1
          · obtain rfl := List.mem_singleton.mp ha
            exact fun z => ((k2 t).mp z).2 ht
      · rw [k3, List.length_append]
        omega
/-- a whole flood: the piece is what is reached -/
theorem flood_all {av : List Cell} {f : Cell} {n : Nat} (nd : av.Nodup) (hf : f ∉ av) (hn : av.length + 1 ≤ n) :
    (flood nb n av [f] []).2.Nodup ∧ (∀ x, x ∈ (flood nb n av [f] []).2 ↔ Rch nb (f :: av) f x) ∧ (flood nb n av [f] []).1.Nodup ∧ ∀ x, x ∈ (flood nb n av [f] []).1 ↔ x ∈ f :: av ∧ x ∉ (flood nb n av [f] []).2 := by
  have I0 : FInv nb (f :: av) f av [f] [] := ⟨nd, by simp, fun x hx z => hf (by
    have : x = f := by simpa using z
    exact this ▸ hx), fun x => by rw [List.mem_cons]; simp; exact ⟨Or.symm, Or.symm⟩, fun x hx => by
      have : x = f := by simpa using hx
      rw [this]; exact .base, fun c hc => (nomatch hc), by simp⟩
  have I := flood_spec n av [f] [] I0 (by simp; omega)
  generalize flood nb n av [f] [] = r at I ⊢
  have nd2 := I.nd2
  rw [List.append_nil] at nd2
  have hf2 := I.f
  rw [List.append_nil] at hf2
  refine ⟨nd2, fun x => ⟨fun h => I.rch x (by rw [List.append_nil]; exact h), fun h => ?_⟩, I.nd, fun x => ?_⟩
  · induction h with
    | base => exact hf2
    | @step a b _ h2 h3 ih =>
      rcases (I.mem b).mp h3 with z | z
      · exact absurd z (I.cl a ih b h2)
      · rw [List.append_nil] at z; exact z
  · have m := I.mem x
    have d := I.dj x
    rw [List.append_nil] at m d
    exact ⟨fun h => ⟨m.mpr (.inl h), d h⟩, fun h => (m.mp h.1).resolve_right h.2⟩
end
end K11

set_option maxRecDepth 100000
/-! K11t: all pieces, two ways. -/
namespace K11
open PySem Pi
section
variable (nb : Cell → List Cell)
/-- one piece is taken: (what is left, the piece, sorted) -/
def take1 (n : Nat) (left : List Cell) (f : Cell) : List Cell × List Cell := ((flood nb n (left.filter fun x => x != f) [f] []).1, sortG ltC (flood nb n (left.filter fun x => x != f) [f] []).2)
/-- the first one that is left, again and again -/
def outL (n : Nat) : Nat → List Cell → List (List Cell) → List (List Cell)
  | 0, _, found => found
  | k + 1, left, found => match left with
    | [] => found
    | f :: _ => outL n k (take1 nb n left f).1 (found ++ [(take1 nb n left f).2])
/-- from some firsts, where they are left -/
def outP (n : Nat) : List Cell → List Cell → List (List Cell) → List (List Cell)
  | [], _, found => found
  | f :: fs, left, found => if f ∈ left then outP n fs (take1 nb n left f).1 (found ++ [(take1 nb n left f).2]) else outP n fs left found
structure IsComp (U : List Cell) (p : List Cell) : Prop where
  pw : p.Pairwise fun a b => ltC a b = true
  ex : ∃ f ∈ U, ∀ x, x ∈ p ↔ Rch nb U f x
structure OInv (U left : List Cell) (found : List (List Cell)) : Prop where
  nd : left.Nodup
  sub : ∀ x ∈ left, x ∈ U
  cl : ∀ x ∈ left, ∀ t ∈ nb x, t ∈ U → t ∈ left
  comp : ∀ p ∈ found, IsComp nb U p
  out : ∀ p ∈ found, ∀ x ∈ p, x ∉ left
  all : ∀ x ∈ U, x ∉ left → ∃ p ∈ found, x ∈ p
  fnd : found.Nodup
end
section
variable {nb : Cell → List Cell} {U left : List Cell} {found : List (List Cell)}
theorem Rch.mem {f x : Cell} (hf : f ∈ U) (h : Rch nb U f x) : x ∈ U := by
  cases h with
  | base => exact hf
  | step _ _ h => exact h
theorem Rch.trans {f g x : Cell} (h : Rch nb U f g) (k : Rch nb U g x) : Rch nb U f x := by
  induction k with
  | base => exact h
  | step _ h2 h3 ih => exact .step ih h2 h3
theorem Rch.symm (hs : ∀ a b, b ∈ nb a → a ∈ nb b) {f x : Cell} (hf : f ∈ U) (h : Rch nb U f x) : Rch nb U x f := by
  induction h with
  | base => exact .base
  | @step a b h1 h2 h3 ih => exact Rch.trans (.step .base (hs _ _ h2) (h1.mem hf)) ih
theorem nd_len : ∀ {xs ys : List Cell}, xs.Nodup → (∀ x ∈ xs, x ∈ ys) → xs.length ≤ ys.length
  | [], _, _, _ => Nat.zero_le _
  | x :: xs, ys, h, k => by
    rw [List.nodup_cons] at h
    have hx := k x List.mem_cons_self
    have ih := nd_len (xs := xs) (ys := ys.erase x) h.2 fun y hy => (List.mem_erase_of_ne (fun z : y = x => h.1 (z ▸ hy))).mpr (k y (List.mem_cons_of_mem _ hy))
    rw [List.length_erase_of_mem hx] at ih
    have := List.length_pos_of_mem hx
    rw [List.length_cons]
    omega
theorem take1_spec (hs : ∀ a b, b ∈ nb a → a ∈ nb b) {n : Nat} {f : Cell} (O : OInv nb U left found) (hf : f ∈ left) (hn : left.length + 1 ≤ n) :
    OInv nb U (take1 nb n left f).1 (found ++ [(take1 nb n left f).2]) ∧ (∀ x, x ∈ (take1 nb n left f).2 ↔ Rch nb U f x) ∧ (∀ x ∈ (take1 nb n left f).1, x ∈ left ∧ x ≠ f) ∧ (take1 nb n left f).1.length + 1 ≤ left.length := by
  have nd1 : (left.filter fun x => x != f).Nodup := O.nd.filter _
  have hf1 : f ∉ left.filter fun x => x != f := fun z => by
    rw [List.mem_filter] at z
    simp at z
  have m1 : ∀ x, x ∈ f :: (left.filter fun x => x != f) ↔ x ∈ left := fun x => by
    rw [List.mem_cons, List.mem_filter]
    constructor
    · rintro (rfl | h)
      · exact hf
      · exact h.1
    · intro h
      by_cases e : x = f
      · exact .inl e
      · exact .inr ⟨h, by simpa using e⟩
  have len1 : (left.filter fun x => x != f).length ≤ left.length := List.length_filter_le _ _
  obtain ⟨a1, a2, a3, a4⟩ := flood_all (nb := nb) (n := n) nd1 hf1 (by omega)
  generalize hr : flood nb n (left.filter fun x => x != f) [f] [] = r at a1 a2 a3 a4
  have hU : f ∈ U := O.sub f hf
  have rch : ∀ x, Rch nb (f :: (left.filter fun x => x != f)) f x ↔ Rch nb U f x := fun x => by
    constructor
    · intro h
      induction h with
      | base => exact .base
      | step _ h2 h3 ih => exact .step ih h2 (O.sub _ ((m1 _).mp h3))
    · intro h
      have key : Rch nb (f :: (left.filter fun x => x != f)) f x ∧ x ∈ left := by
        induction h with
        | base => exact ⟨.base, hf⟩
        | step _ h2 h3 ih =>
          have := O.cl _ ih.2 _ h2 h3
          exact ⟨.step ih.1 h2 ((m1 _).mpr this), this⟩
      exact key.1
  have a2' : ∀ x, x ∈ r.2 ↔ Rch nb U f x := fun x => (a2 x).trans (rch x)
  have a4' : ∀ x, x ∈ r.1 ↔ x ∈ left ∧ x ∉ r.2 := fun x => by rw [a4, m1]
  have t1 : (take1 nb n left f).1 = r.1 := by unfold take1; rw [hr]
  have t2 : (take1 nb n left f).2 = sortG ltC r.2 := by unfold take1; rw [hr]
  rw [t1, t2]
  have ms : ∀ x, x ∈ sortG ltC r.2 ↔ Rch nb U f x := fun x => mem_sortG.trans (a2' x)
  have fr : f ∈ r.2 := (a2' f).mpr .base
  refine ⟨⟨a3, fun x hx => O.sub x ((a4' x).mp hx).1, fun x hx t ht hU' => ?_, fun p hp => ?_, fun p hp x hx => ?_, fun x hx hn' => ?_, ?_⟩, ms, fun x hx => ⟨((a4' x).mp hx).1, fun z => ((a4' x).mp hx).2 (z ▸ fr)⟩, ?_⟩
  · obtain ⟨b1, b2⟩ := (a4' x).mp hx
    refine (a4' t).mpr ⟨O.cl x b1 t ht hU', fun z => b2 ((a2' x).mpr ?_)⟩
    exact .step ((a2' t).mp z) (hs _ _ ht) (O.sub x b1)
  · rcases List.mem_append.mp hp with hp | hp
    · exact O.comp p hp
    · obtain rfl := List.mem_singleton.mp hp
      exact ⟨sortG_pw ltC_s a1, f, hU, ms⟩
  · rcases List.mem_append.mp hp with hp | hp
    · exact fun z => O.out p hp x hx ((a4' x).mp z).1
    · obtain rfl := List.mem_singleton.mp hp
      exact fun z => ((a4' x).mp z).2 (mem_sortG.mp hx)
  · by_cases e : x ∈ r.2
    · exact ⟨_, List.mem_append_right _ (List.mem_singleton.mpr rfl), mem_sortG.mpr e⟩
    · have : x ∉ left := fun z => hn' ((a4' x).mpr ⟨z, e⟩)
      obtain ⟨p, hp, hx'⟩ := O.all x hx this
      exact ⟨p, List.mem_append_left _ hp, hx'⟩
  · rw [List.nodup_append]
    refine ⟨O.fnd, by simp, fun p hp q hq e => ?_⟩
    obtain rfl := List.mem_singleton.mp hq
    subst e
    exact O.out _ hp f (mem_sortG.mpr fr) hf
  · have : r.1.length + 1 ≤ left.length := by
      have h1 : (f :: r.1).Nodup := List.nodup_cons.mpr ⟨fun z => ((a4' f).mp z).2 fr, a3⟩
      have h2 : ∀ x ∈ f :: r.1, x ∈ left := fun x hx => by
        rcases List.mem_cons.mp hx with rfl | hx
        · exact hf
        · exact ((a4' x).mp hx).1
      have := nd_len h1 h2
      simpa using this
    exact this
theorem outL_spec (hs : ∀ a b, b ∈ nb a → a ∈ nb b) {n : Nat} : ∀ (k : Nat) (left : List Cell) (found : List (List Cell)), OInv nb U left found → left.length + 1 ≤ n → left.length ≤ k → OInv nb U [] (outL nb n k left found)
  | 0, left, found, O, _, hk => by
    have e : left = [] := List.eq_nil_of_length_eq_zero (by omega)
    subst e
    exact O
  | k + 1, [], found, O, _, _ => O
  | k + 1, f :: ls, found, O, hn, hk => by
    obtain ⟨O1, _, _, hl⟩ := take1_spec hs O List.mem_cons_self hn
    exact outL_spec hs k _ _ O1 (by omega) (by omega)
/-- ascending heads -/
theorem outP_spec (hs : ∀ a b, b ∈ nb a → a ∈ nb b) {n : Nat} : ∀ (fs left : List Cell) (found : List (List Cell)), OInv nb U left found → left.length + 1 ≤ n → fs.Pairwise (fun a b => ltC a b = true) → (∀ x ∈ left, x ∈ fs) →
    found.Pairwise (fun a b => ltL ltC a b = true) → (∀ p ∈ found, ∃ h t, p = h :: t ∧ ∀ f ∈ fs, ltC h f = true) → OInv nb U [] (outP nb n fs left found) ∧ (outP nb n fs left found).Pairwise (fun a b => ltL ltC a b = true)
  | [], left, found, O, _, _, hl, pw, _ => by
    have e : left = [] := List.eq_nil_iff_forall_not_mem.mpr fun x hx => nomatch hl x hx
    subst e
    exact ⟨O, pw⟩
  | f :: fs, left, found, O, hn, hfs, hl, pw, hh => by
    rw [List.pairwise_cons] at hfs
    unfold outP
    by_cases hf : f ∈ left
    · rw [if_pos hf]
      obtain ⟨O1, ms, hsub, hlen⟩ := take1_spec hs O hf hn
      -- the head of the piece is f
      have hp := O1.comp _ (List.mem_append_right _ (List.mem_singleton.mpr rfl))
      have hin : f ∈ (take1 nb n left f).2 := (ms f).mpr .base
      have hge : ∀ x ∈ (take1 nb n left f).2, x = f ∨ ltC f x = true := fun x hx => by
        have hxl : x ∈ left := by
          have h := (ms x).mp hx
          clear hx
          induction h with
          | base => exact hf
          | step _ h2 h3 ih => exact O.cl _ ih _ h2 h3
        rcases List.mem_cons.mp (hl x hxl) with e | e
        · exact .inl e
        · exact .inr (hfs.1 x e)
      have hhead : ∃ t, (take1 nb n left f).2 = f :: t := by
        have pwp := hp.pw
        revert hin hge pwp
        generalize (take1 nb n left f).2 = p
        intro hin hge pwp
        cases p with
        | nil => exact nomatch hin
        | cons h t =>
          rw [List.pairwise_cons] at pwp
          rcases hge h List.mem_cons_self with e | e
          · exact ⟨t, by rw [e]⟩
          · rcases List.mem_cons.mp hin with e2 | e2
            · exact ⟨t, by rw [e2]⟩
            · have := ltC_s.tr _ _ _ e (pwp.1 f e2)
              rw [ltC_s.irr] at this
              cases this
      obtain ⟨t, et⟩ := hhead
      refine outP_spec hs fs _ _ O1 (by omega) hfs.2 (fun x hx => ?_) ?_ (fun p hp' => ?_)
      · obtain ⟨h1, h2⟩ := hsub x hx
        exact (List.mem_cons.mp (hl x h1)).resolve_left h2
      · rw [List.pairwise_append]
        refine ⟨pw, by simp, fun p hp' q hq => ?_⟩
        obtain rfl := List.mem_singleton.mp hq
        obtain ⟨h, t', e, hlt⟩ := hh p hp'
        have hhf := hlt f List.mem_cons_self
        rw [e, et]
        unfold ltL
        rw [if_neg (by
          intro z
          have z : h = f := by simpa using z
          rw [z, ltC_s.irr] at hhf
          cases hhf)]
        exact hhf
      · rcases List.mem_append.mp hp' with hp' | hp'
        · obtain ⟨h, t', e, hlt⟩ := hh p hp'
          exact ⟨h, t', e, fun g hg => hlt g (List.mem_cons_of_mem _ hg)⟩
        · obtain rfl := List.mem_singleton.mp hp'
          exact ⟨f, t, et, hfs.1⟩
    · rw [if_neg hf]
      exact outP_spec hs fs left found O hn hfs.2 (fun x hx => (List.mem_cons.mp (hl x hx)).resolve_left fun z => hf (z ▸ hx)) pw fun p hp =>
        let ⟨h, t, e, hlt⟩ := hh p hp; ⟨h, t, e, fun g hg => hlt g (List.mem_cons_of_mem _ hg)⟩
/-- what is found is all pieces -/
theorem all_comps {xs ys : List (List Cell)} (hs : ∀ a b, b ∈ nb a → a ∈ nb b) (O : OInv nb U [] xs) (O2 : OInv nb U [] ys) : ∀ p, p ∈ xs → p ∈ ys := fun p hp => by
  obtain ⟨pw, f, hf, hm⟩ := O.comp p hp
  obtain ⟨q, hq, hfq⟩ := O2.all f hf (fun z => nomatch z)
  obtain ⟨pw2, g, hg, hm2⟩ := O2.comp q hq
  have hgf := (hm2 f).mp hfq
  have e : p = q := pw_unique ltC_s pw pw2 fun x => by
    rw [hm, hm2]
    exact ⟨fun h => hgf.trans h, fun h => ((hgf.symm hs hg).trans h)⟩
  rw [e]; exact hq
/-- both ways give the same pieces -/
theorem two_ways (hs : ∀ a b, b ∈ nb a → a ∈ nb b) {V : List Cell} {n k : Nat} (nd : U.Nodup) (hV : V.Pairwise fun a b => ltC a b = true) (hm : ∀ x, x ∈ U ↔ x ∈ V) (hn : U.length + 1 ≤ n) (hk : U.length ≤ k) :
    sortG (ltL ltC) (outL nb n k U []) = outP nb n V U [] := by
  have O0 : OInv nb U U [] := ⟨nd, fun _ h => h, fun _ _ _ _ h => h, (fun _ h => nomatch h), (fun _ h => nomatch h), fun x h1 h2 => absurd h1 h2, .nil⟩
  have O1 := outL_spec hs k U [] O0 hn hk
  obtain ⟨O2, pw⟩ := outP_spec hs V U [] O0 hn hV (fun x hx => (hm x).mp hx) .nil (fun _ h => nomatch h)
  exact pw_unique ltL_s (sortG_pw ltL_s O1.fnd) pw fun p => by
    rw [mem_sortG]
    exact ⟨all_comps hs O1 O2 p, all_comps hs O2 O1 p⟩
end
end K11

set_option maxRecDepth 100000
/-! K11q: the two ways with neighbours in different orders. -/
namespace K11
open PySem Pi
section
variable {nb nb' : Cell → List Cell} {U : List Cell}
theorem rch_same (hn : ∀ a b, b ∈ nb a → b ∈ nb' a) {f x : Cell} (h : Rch nb U f x) : Rch nb' U f x := by
  induction h with
  | base => exact .base
  | step _ h2 h3 ih => exact .step ih (hn _ _ h2) h3
theorem comp_same (hn : ∀ a b, b ∈ nb a ↔ b ∈ nb' a) {p : List Cell} (h : IsComp nb U p) : IsComp nb' U p := by
  obtain ⟨pw, f, hf, hm⟩ := h
  exact ⟨pw, f, hf, fun x => (hm x).trans ⟨rch_same fun a b => (hn a b).mp, rch_same fun a b => (hn a b).mpr⟩⟩
theorem inv_same (hn : ∀ a b, b ∈ nb a ↔ b ∈ nb' a) {left : List Cell} {found : List (List Cell)} (O : OInv nb U left found) : OInv nb' U left found :=
  ⟨O.nd, O.sub, fun x hx t ht => O.cl x hx t ((hn x t).mpr ht), fun p hp => comp_same hn (O.comp p hp), O.out, O.all, O.fnd⟩
/-- the law's way with nb, the program's with nb' -/
theorem two_waysD (hn : ∀ a b, b ∈ nb a ↔ b ∈ nb' a) (hs : ∀ a b, b ∈ nb a → a ∈ nb b) {V : List Cell} {n n' k : Nat} (nd : U.Nodup) (hV : V.Pairwise fun a b => ltC a b = true) (hm : ∀ x, x ∈ U ↔ x ∈ V) (h1 : U.length + 1 ≤ n) (h2 : U.length + 1 ≤ n') (hk : U.length ≤ k) :
    sortG (ltL ltC) (outL nb n k U []) = outP nb' n' V U [] := by
  have O0 : OInv nb U U [] := ⟨nd, fun _ h => h, fun _ _ _ _ h => h, (fun _ h => nomatch h), (fun _ h => nomatch h), fun x h1 h2 => absurd h1 h2, .nil⟩
  have hs' : ∀ a b, b ∈ nb' a → a ∈ nb' b := fun a b h => (hn b a).mp (hs a b ((hn a b).mpr h))
  have O1 := inv_same hn (outL_spec hs k U [] O0 h1 hk)
  obtain ⟨O2, pw⟩ := outP_spec hs' (n := n') V U [] (inv_same hn O0) h2 hV (fun x hx => (hm x).mp hx) .nil (fun _ h => nomatch h)
  exact pw_unique ltL_s (sortG_pw ltL_s O1.fnd) pw fun p => by
    rw [mem_sortG]
    exact ⟨all_comps hs' O1 O2 p, all_comps hs' O2 O1 p⟩
end
end K11

set_option maxRecDepth 100000
set_option maxHeartbeats 0
/-! K11a: turned by port.py from the texts L1 to L19 of k01. -/
namespace K11
open PySem Pi Pi.EvR
abbrev call (n : Nat) : Nat → List D → Pi.Sto → RC := callN cd.G cd.fns 300 n
/-- what a call gives -/
def fin : R Pi.Flow → RC
  | .no => .no
  | .ok (.ret d o) _ st => .ok d o st
  | .ok .nx _ st => .ok .non false st
  | .ok _ _ _ => .no
  | .ex c x _ st => .ex c x st
theorem call_at {n f : Nat} {fn : Fn} {ds : List D} {st : Pi.Sto} (h : cd.fns[f]? = some fn) (hl : ds.length = fn.np) : call (n + 1) f ds st = fin (exB cd.G (call n) 300 fn.body (ds.map (fun d => some (d, false)) ++ List.replicate (fn.ns - fn.np) none) st) := by
  show callN _ _ _ _ _ _ _ = _
  conv => lhs; unfold callN
  rw [h]
  dsimp only
  rw [if_pos hl]
  generalize exB cd.G (call n) 300 fn.body (ds.map (fun d => some (d, false)) ++ List.replicate (fn.ns - fn.np) none) st = r
  cases r with
  | no => rfl
  | ok a e s => cases a <;> rfl
  | ex c x e s => rfl
def within (v : D) (lo hi : Int) : Bool := match v with
  | .int i => decide (lo ≤ i) && decide (i ≤ hi)
  | _ => false
theorem f0 {n : Nat} {v : D} {lo hi : Int} {st : Pi.Sto} (hv : v.pl = true) : call (n + 1) 0 [v, .int lo, .int hi] st = .ok (.bl (within v lo hi)) false st := by
  rw [call_at (fn := c_is_within) rfl rfl]
  cases v with
  | int i =>
    have e : exB cd.G (call n) 300 c_is_within.body ([D.int i, .int lo, .int hi].map (fun d => some (d, false)) ++ List.replicate (c_is_within.ns - c_is_within.np) none) st = (match (some (!decide (i < lo)) : Option Bool) with
      | some true => R.ok (Pi.Flow.ret (.bl (!decide (hi < i))) false) [some (D.int i, false), some (D.int lo, false), some (D.int hi, false)] st
      | some false => R.ok (Pi.Flow.ret (.bl false) false) [some (D.int i, false), some (D.int lo, false), some (D.int hi, false)] st
      | none => R.no) := by
      simp [c_is_within, exB, exS, ev, cmpF, bifF, evs, R.bind, getS, lift, bifn, isInst, dbl, cmpop, D.pl, D.dep, dlt, alk]
      by_cases h : i < lo <;> simp [h]
    rw [e]
    unfold within
    by_cases h : i < lo
    · have h2 : ¬ lo ≤ i := by omega
      simp [h, h2, fin]
    · have h2 : lo ≤ i := by omega
      simp [h, h2, fin]
      by_cases h3 : hi < i
      · have : ¬ i ≤ hi := by omega
        simp [h3, this]
      · have : i ≤ hi := by omega
        simp [h3, this]
  | bl i => rfl
  | non => rfl
  | str => rfl
  | tup => rfl
  | lst => rfl
  | _ => cases hv
theorem ix20 : L2.ixN 2 0 = some 0 := by rfl
theorem ix21 : L2.ixN 2 1 = some 1 := by rfl
/-- the l-th thing of the store is a source -/
def Src (st : Pi.Sto) (l : Nat) : Prop := ∃ a b : Int, st[l]? = some (.lst [.int a, .int b]) ∧ 0 ≤ a ∧ 0 ≤ b ∧ b < 4294967296
def Same (st st' : Pi.Sto) : Prop := st'.length = st.length
theorem big11 : (11 : Int) < bigD := by
  unfold bigD
  omega
theorem f19w {n l : Nat} {many : Int} {st : Pi.Sto} (hs : Src st l) (h1 : 0 < many) (h2 : many < bigD) : ∃ (r : Int) (st' : Pi.Sto), call (n + 1) 19 [.ref l, .int many] st = .ok (.int r) false st' ∧ 0 ≤ r ∧ r < many ∧ Src st' l ∧ Same st st' := by
  obtain ⟨a, b, hl, ha, hb, hb2⟩ := hs
  have hlen : l < st.length := (List.getElem?_eq_some_iff.mp hl).1
  have E : ∀ x : Int, D.pl (.int x) = true := fun _ => rfl
  rw [call_at (fn := c_law_pick) rfl rfl]
  by_cases h : 0 < a
  · refine ⟨a % many, st.set l (.lst [.int (a / many), .int b]), ?_, Int.emod_nonneg _ (by omega), Int.emod_lt_of_pos _ h1, ⟨a / many, b, by simp [hlen], Int.ediv_nonneg ha (by omega), hb, hb2⟩, by simp [Same]⟩
    simp [c_law_pick, exB, exS, ev, cmpF, bifF, evs, R.bind, getS, lift, bifn, cmpop, D.pl, D.dep, dlt, alk, fin, ixF, hl, index, atIx, L2.atI, ix20, ix21, truth, dbl, h, h1, h2, binop, setT, isL, setAt]
  · refine ⟨(((b * 44497 + 9973) % 2147483647) * ((b * 44497 + 9973) % 2147483647)) % 2147483399 / 11 % many, st.set l (.lst [.int a, .int ((b * 44497 + 9973) % 2147483647)]), ?_, Int.emod_nonneg _ (by omega), Int.emod_lt_of_pos _ h1, ⟨a, _, by simp [hlen], ha, Int.emod_nonneg (b * 44497 + 9973) (b := 2147483647) (by omega), by
      have := Int.emod_lt_of_pos (b * 44497 + 9973) (b := 2147483647) (by omega)
      omega⟩, by simp [Same]⟩
    have b1 : bigOk ((b * 44497 + 9973) % 2147483647) = true := by
      have := Int.emod_lt_of_pos (b * 44497 + 9973) (b := 2147483647) (by omega)
      have := Int.emod_nonneg (b * 44497 + 9973) (b := 2147483647) (by omega)
      simp [bigOk]
      constructor <;> omega
    have hset : (st.set l (.lst [.int a, .int ((b * 44497 + 9973) % 2147483647)]))[l]? = some (.lst [.int a, .int ((b * 44497 + 9973) % 2147483647)]) := by rw [List.getElem?_set_self hlen]
    have b2 : bigOk 44497 = true := by decide
    simp [c_law_pick, exB, exS, ev, cmpF, bifF, evs, R.bind, getS, lift, bifn, cmpop, D.pl, D.dep, dlt, alk, fin, ixF, hl, index, atIx, L2.atI, ix20, ix21, truth, dbl, h, h1, h2, binop, setT, isL, setAt, b1, b2, hset, big11]
theorem f19 {n l : Nat} {many : Int} {st : Pi.Sto} (hs : Src st l) (h1 : 0 < many) (h2 : many < 1073741824) : ∃ (r : Int) (st' : Pi.Sto), call (n + 1) 19 [.ref l, .int many] st = .ok (.int r) false st' ∧ 0 ≤ r ∧ r < many ∧ Src st' l ∧ Same st st' :=
  f19w hs h1 (by
    unfold bigD
    omega)
theorem ixN_of {n : Nat} {i : Int} (h0 : 0 ≤ i) (h1 : i < n) : L2.ixN n i = some i.toNat := by
  unfold L2.ixN
  simp [h0, h1]
  try omega
theorem atIx_of {xs : List D} {i : Int} (h0 : 0 ≤ i) (h1 : i < xs.length) : atIx xs i = xs[i.toNat]? := by
  unfold atIx L2.atI
  rw [ixN_of h0 h1]; rfl
theorem atIx_mem {xs : List D} {i : Int} (h0 : 0 ≤ i) (h1 : i < xs.length) : ∃ d ∈ xs, atIx xs i = some d := by
  rw [atIx_of h0 h1]
  have : i.toNat < xs.length := by omega
  exact ⟨xs[i.toNat], List.getElem_mem this, List.getElem?_eq_getElem this⟩
theorem f20 {n l : Nat} {xs : List D} {st : Pi.Sto} (hs : Src st l) (h1 : xs ≠ []) (h2 : xs.length < 1000) : ∃ (d : D) (st' : Pi.Sto), call (n + 2) 20 [.ref l, .lst xs] st = .ok d false st' ∧ d ∈ xs ∧ Src st' l ∧ Same st st' := by
  have hp : 0 < xs.length := List.length_pos_iff.mpr h1
  obtain ⟨r, st', e, r0, r1, s1, s2⟩ := f19 (n := n) hs (many := xs.length) (by omega) (by omega)
  obtain ⟨d, hd, ed⟩ := atIx_mem r0 r1
  refine ⟨d, st', ?_, hd, s1, s2⟩
  rw [call_at (fn := c_law_chosen) rfl rfl]
  simp [c_law_chosen, exB, exS, ev, cmpF, bifF, evs, R.bind, getS, lift, bifn, fin, ixF, e, ofCall, index, ed]
theorem lcGo_inv {step : D → Pi.Env → Pi.Sto → R (Option D)} {I : Pi.Sto → Prop} {P : D → Prop} {env : Pi.Env} : ∀ {xs : List D} {st : Pi.Sto}, I st → (∀ x ∈ xs, ∀ st, I st → ∃ y st', step x env st = .ok (some y) env st' ∧ I st' ∧ P y) →
    ∃ ys st', lcGo step xs env st = .ok ys env st' ∧ I st' ∧ ys.length = xs.length ∧ ∀ y ∈ ys, P y
  | [], st, h, _ => ⟨[], st, rfl, h, rfl, fun _ z => by cases z⟩
  | x :: xs, st, h, hs => by
    obtain ⟨y, st1, e1, i1, p1⟩ := hs x List.mem_cons_self st h
    obtain ⟨ys, st2, e2, i2, l2, p2⟩ := lcGo_inv (xs := xs) i1 fun x hx => hs x (List.mem_cons_of_mem _ hx)
    refine ⟨y :: ys, st2, ?_, i2, by simp [l2], fun z hz => ?_⟩
    · show (step x env st).bind _ = _
      rw [e1]
      show (lcGo step xs env st1).bind _ = _
      rw [e2]; rfl
    · rcases List.mem_cons.mp hz with rfl | hz
      · exact p1
      · exact p2 z hz
theorem lcGo_pure {step : D → Pi.Env → Pi.Sto → R (Option D)} {f : D → Option D} {env : Pi.Env} {st : Pi.Sto} : ∀ {xs : List D}, (∀ x ∈ xs, step x env st = .ok (f x) env st) → lcGo step xs env st = .ok (xs.filterMap f) env st
  | [], _ => rfl
  | x :: xs, hs => by
    show (step x env st).bind _ = _
    rw [hs x List.mem_cons_self]
    show (lcGo step xs env st).bind _ = _
    rw [lcGo_pure (xs := xs) fun x hx => hs x (List.mem_cons_of_mem _ hx)]
    show R.ok _ env st = _
    cases e : f x <;> simp [List.filterMap_cons, e]
theorem forGo_inv {body : D → Pi.Env → Pi.Sto → R Pi.Flow} {I : List D → Pi.Env → Pi.Sto → Prop} : ∀ {xs : List D} {env : Pi.Env} {st : Pi.Sto}, I xs env st → (∀ x xs env st, I (x :: xs) env st → ∃ env' st', (body x env st = .ok .nx env' st' ∨ body x env st = .ok .ct env' st') ∧ I xs env' st') →
    ∃ env' st', forGo body xs env st = .ok .nx env' st' ∧ I [] env' st'
  | [], env, st, h, _ => ⟨env, st, rfl, h⟩
  | x :: xs, env, st, h, hs => by
    obtain ⟨e1, s1, hb, i1⟩ := hs x xs env st h
    obtain ⟨e2, s2, hf, i2⟩ := forGo_inv (xs := xs) i1 hs
    refine ⟨e2, s2, ?_, i2⟩
    show (body x env st).bind _ = _
    rcases hb with hb | hb <;> rw [hb] <;> exact hf
mutual
/-- the widest tuple or list -/
def wid : D → Nat
  | .tup xs | .lst xs => max xs.length (wids xs)
  | _ => 0
def wids : List D → Nat
  | [] => 0
  | x :: xs => max (wid x) (wids xs)
end
/-- plain, not wide, not deep -/
structure Vk (w k : Nat) (d : D) : Prop where
  pl : d.pl = true
  wd : wid d ≤ w
  dp : d.dep ≤ k
theorem pls_all : ∀ {xs : List D}, (∀ x ∈ xs, x.pl = true) → D.pls xs = true
  | [], _ => rfl
  | x :: xs, h => by
    show (D.pl x && D.pls xs) = true
    rw [h x List.mem_cons_self, pls_all fun y hy => h y (List.mem_cons_of_mem _ hy)]; rfl
theorem wids_le {w : Nat} : ∀ {xs : List D}, (∀ x ∈ xs, wid x ≤ w) → wids xs ≤ w
  | [], _ => Nat.zero_le _
  | x :: xs, h => by
    show max (wid x) (wids xs) ≤ w
    have := h x List.mem_cons_self
    have := wids_le (xs := xs) fun y hy => h y (List.mem_cons_of_mem _ hy)
    omega
theorem deps_le {w : Nat} : ∀ {xs : List D}, (∀ x ∈ xs, x.dep ≤ w) → D.deps xs ≤ w
  | [], _ => Nat.zero_le _
  | x :: xs, h => by
    show max (D.dep x) (D.deps xs) ≤ w
    have := h x List.mem_cons_self
    have := deps_le (xs := xs) fun y hy => h y (List.mem_cons_of_mem _ hy)
    omega
theorem Vk.tup {w k : Nat} {xs : List D} (h : ∀ x ∈ xs, Vk w k x) (hl : xs.length ≤ w) : Vk w (k + 1) (.tup xs) := ⟨pls_all fun x hx => (h x hx).pl, by
  show max xs.length (wids xs) ≤ w
  have := wids_le fun x hx => (h x hx).wd
  omega, by
  show D.deps xs + 1 ≤ k + 1
  have := deps_le fun x hx => (h x hx).dp
  omega⟩
theorem Vk.lst {w k : Nat} {xs : List D} (h : ∀ x ∈ xs, Vk w k x) (hl : xs.length ≤ w) : Vk w (k + 1) (.lst xs) := ⟨pls_all fun x hx => (h x hx).pl, by
  show max xs.length (wids xs) ≤ w
  have := wids_le fun x hx => (h x hx).wd
  omega, by
  show D.deps xs + 1 ≤ k + 1
  have := deps_le fun x hx => (h x hx).dp
  omega⟩
theorem Vk.mono {w k w' k' : Nat} {d : D} (h : Vk w k d) (hw : w ≤ w') (hk : k ≤ k') : Vk w' k' d := ⟨h.pl, Nat.le_trans h.wd hw, Nat.le_trans h.dp hk⟩
section
variable {cl : Nat → List D → Pi.Sto → RC} {W : Nat} {s : S} {ss : List S} {env env1 env2 : Pi.Env} {st st1 : Pi.Sto}
theorem xb_nx (h : exS cd.G cl W s env st = .ok .nx env1 st1) : exB cd.G cl W (s :: ss) env st = exB cd.G cl W ss env1 st1 := by
  conv => lhs; unfold exB
  rw [h]; rfl
theorem xb_ret {d : D} {o : Bool} (h : exS cd.G cl W s env st = .ok (.ret d o) env1 st1) : exB cd.G cl W (s :: ss) env st = .ok (.ret d o) env1 st1 := by
  conv => lhs; unfold exB
  rw [h]; rfl
theorem xb_ex {c : Nat} {d : D} (h : exS cd.G cl W s env st = .ex c d env1 st1) : exB cd.G cl W (s :: ss) env st = .ex c d env1 st1 := by
  conv => lhs; unfold exB
  rw [h]; rfl
theorem xs_asg {t : T} {c : C} {x : D × Bool} (h : ev cd.G cl false c env st = .ok x env1 st1) (hs : setT t x env1 = some env2) : exS cd.G cl W (.asg t c) env st = .ok .nx env2 st1 := by
  conv => lhs; unfold exS
  rw [h]
  show (match setT t x env1 with | some env => R.ok Pi.Flow.nx env st1 | none => R.no) = _
  rw [hs]
end
theorem rangeD_len : ∀ (n : Nat) (lo : Int), (rangeD lo n).length = n
  | 0, _ => rfl
  | n + 1, lo => by show (rangeD (lo + 1) n).length + 1 = n + 1; rw [rangeD_len n]
abbrev lcStep (cl : Nat → List D → Pi.Sto → RC) (elt : C) (tg : T) (cond : Option C) : D → Pi.Env → Pi.Sto → R (Option D) := fun x env st => match setT tg (x, false) env with
        | none => .no
        | some env => match cond with
          | none => (ev cd.G cl false elt env st).calm.bind fun y env st => .ok (some y.1) (clear env tg.own) st
          | some c => (truth (ev cd.G cl true c env st)).calm.bind fun b env st => if b then (ev cd.G cl false elt env st).calm.bind fun y env st => .ok (some y.1) (clear env tg.own) st
            else .ok none (clear env tg.own) st
theorem ev_lc {cl : Nat → List D → Pi.Sto → RC} {bw o : Bool} {elt it : C} {tg : T} {cond : Option C} {env env1 env2 : Pi.Env} {st st1 st2 : Pi.Sto} {x : D} {xs ys : List D} (hit : ev cd.G cl false it env st = .ok (x, o) env1 st1) (hx : items x = some xs) (hz : szOk xs.length = true)
    (hl : lcGo (lcStep cl elt tg cond) xs (clear env1 tg.own) st1 = .ok ys env2 st2) : ev cd.G cl bw (.lc elt tg it cond) env st = .ok (.lst ys, true) (restore env1 env2 tg.own) st2 := by
  conv => lhs; unfold ev
  rw [hit]
  show (match items x with
    | none => R.no
    | some xs => _) = _
  rw [hx]
  dsimp only
  have key : ∀ stp, stp = lcStep cl elt tg cond → ((lcGo stp xs (clear env1 tg.own) st1).bind fun ys env st => if szOk xs.length = true then R.ok (D.lst ys, true) (restore env1 env tg.own) st else .no) = .ok (.lst ys, true) (restore env1 env2 tg.own) st2 := by
    rintro _ rfl
    rw [hl]
    show (if szOk xs.length = true then _ else _) = _
    rw [if_pos hz]
  cases cond <;> exact key _ rfl
theorem sIx_of {n d : Nat} {i : Int} (h : 0 ≤ i) : HT.sIx n d (some i) = min i.toNat n := by
  show (if i < 0 then (i + (n : Int)).toNat else min i.toNat n) = _
  rw [if_neg (by omega)]
theorem cut_lo {xs : List D} {i : Int} (h : 0 ≤ i) : cutBy xs none (some i) = xs.take i.toNat := by
  unfold cutBy
  rw [sIx_of h]
  show (xs.drop 0).take (min i.toNat xs.length - 0) = _
  simp [List.take_eq_take_iff]
theorem cut_hi {xs : List D} {i : Int} (h : 0 ≤ i) : cutBy xs (some i) none = xs.drop i.toNat := by
  unfold cutBy
  rw [sIx_of h]
  show (xs.drop (min i.toNat xs.length)).take (xs.length - min i.toNat xs.length) = _
  by_cases hh : i.toNat ≤ xs.length
  · rw [Nat.min_eq_left hh]
    rw [List.take_of_length_le (by simp)]
  · rw [Nat.min_eq_right (by omega)]
    simp
    omega
theorem cut_mid {xs : List D} {i j : Int} (h : 0 ≤ i) (hj : i ≤ j) : cutBy xs (some i) (some j) = (xs.drop i.toNat).take (j.toNat - i.toNat) := by
  unfold cutBy
  rw [sIx_of h, sIx_of (Int.le_trans h hj)]
  by_cases hh : i.toNat ≤ xs.length
  · rw [Nat.min_eq_left hh]
    by_cases h2 : j.toNat ≤ xs.length
    · rw [Nat.min_eq_left h2]
    · rw [Nat.min_eq_right (by omega), List.take_of_length_le (by simp), List.take_of_length_le (by simp; omega)]
  · dsimp only
    rw [Nat.min_eq_right (show xs.length ≤ i.toNat by omega), List.drop_eq_nil_of_le (Nat.le_refl _), List.drop_eq_nil_of_le (show xs.length ≤ i.toNat by omega)]
    simp
/-- a variant's form -/
def Tl (d : D) : Prop := (∃ ys, d = .tup ys) ∨ ∃ ys, d = .lst ys
theorem Vk.inv {w k : Nat} {xs : List D} (h : Vk w k (.tup xs)) : ∃ j, k = j + 1 ∧ xs.length ≤ w ∧ ∀ x ∈ xs, Vk w j x := by
  obtain ⟨h1, h2, h3⟩ := h
  have h1 : D.pls xs = true := h1
  have h2 : max xs.length (wids xs) ≤ w := h2
  have h3 : D.deps xs + 1 ≤ k := h3
  refine ⟨k - 1, by omega, by omega, fun x hx => ?_⟩
  have key : ∀ {xs : List D}, x ∈ xs → D.pls xs = true → wids xs ≤ w → D.deps xs ≤ k - 1 → Vk w (k - 1) x := by
    intro xs
    induction xs with
    | nil => intro h; cases h
    | cons y ys ih =>
      intro hx a b c
      have a : (D.pl y && D.pls ys) = true := a
      rw [Bool.and_eq_true] at a
      have b : max (wid y) (wids ys) ≤ w := b
      have c : max (D.dep y) (D.deps ys) ≤ k - 1 := c
      rcases List.mem_cons.mp hx with rfl | hx
      · exact ⟨a.1, by omega, by omega⟩
      · exact ih hx a.2 (by omega) (by omega)
  exact key hx h1 (by omega) (by omega)
theorem mk_vk {w k : Nat} {ys : List D} (h : ∀ y ∈ ys, Vk w k y) (hl : ys.length ≤ w) : Vk w (k + 1) (.tup ys) := Vk.tup h hl
theorem deqs_nil {xs : List D} (h : xs ≠ []) : deqs xs [] = false := by
  cases xs with
  | nil => exact absurd rfl h
  | cons x xs => rfl
def isTup : D → Bool
  | .tup _ => true
  | _ => false
theorem isTup_ok {x : D} (h : x.pl = true) : isInst cd.G x (.ty "tuple") = some (isTup x) := by
  cases x <;> first | rfl | cases h
theorem xs_ifs {cl : Nat → List D → Pi.Sto → RC} {W : Nat} {t : C} {a b : List S} {env env1 : Pi.Env} {st st1 : Pi.Sto} {c : Bool} (h : truth (ev cd.G cl true t env st) = .ok c env1 st1) : exS cd.G cl W (.ifs t a b) env st = if c then exB cd.G cl W a env1 st1 else exB cd.G cl W b env1 st1 := by
  conv => lhs; unfold exS
  rw [h]; rfl
theorem xb_if_no {cl : Nat → List D → Pi.Sto → RC} {W : Nat} {t : C} {a : List S} {ss : List S} {env env1 : Pi.Env} {st st1 : Pi.Sto} {c : Bool} (h : truth (ev cd.G cl true t env st) = .ok c env1 st1) (hc : c = false) : exB cd.G cl W (.ifs t a [] :: ss) env st = exB cd.G cl W ss env1 st1 := by
  subst hc
  exact xb_nx (xs_ifs h)
theorem xb_if_ret {cl : Nat → List D → Pi.Sto → RC} {W : Nat} {t : C} {a b : List S} {ss : List S} {env env1 env2 : Pi.Env} {st st1 st2 : Pi.Sto} {c : Bool} {d : D} {o : Bool} (h : truth (ev cd.G cl true t env st) = .ok c env1 st1) (hc : c = true) (hr : exB cd.G cl W a env1 st1 = .ok (.ret d o) env2 st2) : exB cd.G cl W (.ifs t a b :: ss) env st = .ok (.ret d o) env2 st2 := by
  subst hc
  exact xb_ret ((xs_ifs h).trans hr)
theorem mem_take_drop {xs : List D} {n m : Nat} {z : D} (h : z ∈ xs.take n ++ xs.drop m) : z ∈ xs := by
  rcases List.mem_append.mp h with h | h
  · exact List.mem_of_mem_take h
  · exact List.mem_of_mem_drop h
def wideB (v : D) (lo hi : Int) : Bool := match v with
  | .tup xs => decide (lo ≤ xs.length) && decide (xs.length ≤ hi)
  | _ => false
def pairB (v : D) : Bool := match v with
  | .tup xs => xs.length == 2
  | _ => false
theorem f1 {n : Nat} {v : D} {st : Pi.Sto} (hv : v.pl = true) : call (n + 1) 1 [v] st = .ok (.bl (pairB v)) false st := by
  rw [call_at (fn := c_is_pair) rfl rfl]
  cases v with
  | tup xs =>
    unfold pairB
    have e : ((xs.length : Int) == 2) = (xs.length == 2) := by
      rw [Bool.eq_iff_iff, beq_iff_eq, beq_iff_eq]
      omega
    simp [c_is_pair, exB, exS, ev, cmpF, bifF, evs, R.bind, getS, lift, bifn, isInst, dbl, cmpop, D.pl, D.dep, deq, fin, e]
  | bl i => rfl
  | non => rfl
  | str => rfl
  | int => rfl
  | lst => rfl
  | _ => cases hv
abbrev forStep (cl : Nat → List D → Pi.Sto → RC) (W : Nat) (t : T) (b : List S) : D → Pi.Env → Pi.Sto → R Pi.Flow := fun x env st => match setT t (x, false) env with
      | some env => exB cd.G cl W b env st
      | none => .no
theorem xs_for {cl : Nat → List D → Pi.Sto → RC} {W : Nat} {t : T} {it : C} {b : List S} {env env1 : Pi.Env} {st st1 : Pi.Sto} {x : D} {xs : List D} {o : Bool} (hit : ev cd.G cl false it env st = .ok (x, o) env1 st1) (hx : items x = some xs) : exS cd.G cl W (.for t it b) env st = forGo (forStep cl W t b) xs env1 st1 := by
  conv => lhs; unfold exS
  rw [hit]
  show (match items x with
    | some xs => _
    | none => R.no) = _
  rw [hx] <;> rfl
def cD (p : Int × Int) : D := .tup [.int p.1, .int p.2]
def plt (p q : Int × Int) : Prop := p.1 < q.1 ∨ (p.1 = q.1 ∧ p.2 < q.2)
/-- a lot: cells within, in order, each once -/
structure Lot (rows len : Int) (ps : List (Int × Int)) : Prop where
  ord : ps.Pairwise plt
  rng : ∀ p ∈ ps, 0 ≤ p.1 ∧ p.1 < rows ∧ 0 ≤ p.2 ∧ p.2 < len
theorem Lot.nil {rows len : Int} : Lot rows len [] := ⟨List.Pairwise.nil, fun _ h => by cases h⟩
theorem Lot.snoc {rows len i j : Int} {ps : List (Int × Int)} (h : Lot rows len ps) (hl : ∀ p ∈ ps, plt p (i, j)) (hi : 0 ≤ i ∧ i < rows ∧ 0 ≤ j ∧ j < len) : Lot rows len (ps ++ [(i, j)]) := ⟨by
  rw [List.pairwise_append]
  exact ⟨h.ord, List.pairwise_singleton _ _, fun p hp q hq => by rw [List.mem_singleton.mp hq]; exact hl p hp⟩, fun p hp => by
  rcases List.mem_append.mp hp with hp | hp
  · exact h.rng p hp
  · rw [List.mem_singleton.mp hp]; exact hi⟩
theorem rangeD_cons {lo hi : Int} (h : lo < hi) : rangeD lo (hi - lo).toNat = .int lo :: rangeD (lo + 1) (hi - (lo + 1)).toNat := by
  have e : (hi - lo).toNat = (hi - (lo + 1)).toNat + 1 := by omega
  rw [e]; rfl
theorem rangeD_nil {lo hi : Int} (h : hi ≤ lo) : rangeD lo (hi - lo).toNat = [] := by
  have e : (hi - lo).toNat = 0 := by omega
  rw [e]; rfl
def envL (l : Nat) (rows len rare : Int) (ps : List (Int × Int)) (s5 s6 : Slot) : Pi.Env := [some (.ref l, false), some (.int rows, false), some (.int len, false), some (.int rare, false), some (.lst (ps.map cD), true), s5, s6]
abbrev inB : List S := [.ifs (.cmp .eq (.call 19 [.v 0, .v 3]) (.k (.int 0))) [.app 4 (.tp [.v 5, .v 6])] []]
theorem lot_inner {n l : Nat} {rows len rare i : Int} (h1 : 0 < rare) (h2 : rare < 1000) (hi : 0 ≤ i ∧ i < rows) : ∀ (k : Nat) (j : Int) (ps : List (Int × Int)) (s6 : Slot) (st : Pi.Sto), (len - j).toNat = k → 0 ≤ j → Src st l → Lot rows len ps → (∀ p ∈ ps, plt p (i, j)) → ps.length + k ≤ 100 →
    ∃ ps' s6' st', forGo (forStep (call (n + 1)) 300 (.n 6) inB) (rangeD j (len - j).toNat) (envL l rows len rare ps (some (.int i, false)) s6) st = .ok .nx (envL l rows len rare ps' (some (.int i, false)) s6') st' ∧ Src st' l ∧ Same st st' ∧ Lot rows len ps' ∧ (∀ p ∈ ps', p.1 ≤ i) ∧ ps'.length ≤ ps.length + k
  | 0, j, ps, s6, st, hk, hj, hs, hl, hp, hb => by
    rw [rangeD_nil (by omega)]
    exact ⟨ps, s6, st, rfl, hs, rfl, hl, fun p h => by rcases hp p h with z | ⟨z, _⟩ <;> simp at z <;> omega, Nat.le_refl _⟩
  | k + 1, j, ps, s6, st, hk, hj, hs, hl, hp, hb => by
    have hjl : j < len := by omega
    rw [rangeD_cons hjl]
    obtain ⟨r, st1, e1, r0, r1, s1, q1⟩ := f19 (n := n) hs h1 (by omega : rare < 1073741824)
    have e1 : callN cd.G cd.fns 300 (n + 1) 19 [.ref l, .int rare] st = _ := e1
    by_cases hr : r = 0
    · have step : forStep (call (n + 1)) 300 (.n 6) inB (.int j) (envL l rows len rare ps (some (.int i, false)) s6) st = .ok .nx (envL l rows len rare (ps ++ [(i, j)]) (some (.int i, false)) (some (.int j, false))) st1 := by
        simp [forStep, inB, envL, setT, exB, exS, ev, cmpF, bifF, evs, R.bind, lift, getS, ofCall, e1, hr, truth, cmpop, D.pl, D.dep, deq, dbl, isL, szOk, cD, (show ps.length + 1 ≤ 1000000 by omega)]
      obtain ⟨ps', s6', st', e2, s2, q2, l2, p2, b2⟩ := lot_inner (n := n) h1 h2 hi k (j + 1) (ps ++ [(i, j)]) (some (.int j, false)) st1 (by omega) (by omega) s1 (hl.snoc hp ⟨hi.1, hi.2, hj, hjl⟩) (fun p h => by
        rcases List.mem_append.mp h with h | h
        · rcases hp p h with z | ⟨z, z2⟩
          · exact .inl z
          · exact .inr ⟨z, by simp at z2 ⊢; omega⟩
        · rw [List.mem_singleton.mp h]; exact .inr ⟨rfl, by simp; omega⟩) (by simp; omega)
      refine ⟨ps', s6', st', ?_, s2, q2.trans q1, l2, p2, by simp at b2; omega⟩
      show (forStep _ _ _ _ _ _ _).bind _ = _
      rw [step]
      exact e2
    · have hr' : (r == 0) = false := by simpa using hr
      have step : forStep (call (n + 1)) 300 (.n 6) inB (.int j) (envL l rows len rare ps (some (.int i, false)) s6) st = .ok .nx (envL l rows len rare ps (some (.int i, false)) (some (.int j, false))) st1 := by
        simp [forStep, inB, envL, setT, exB, exS, ev, cmpF, bifF, evs, R.bind, lift, getS, ofCall, e1, hr', truth, cmpop, D.pl, D.dep, deq, dbl]
      obtain ⟨ps', s6', st', e2, s2, q2, l2, p2, b2⟩ := lot_inner (n := n) h1 h2 hi k (j + 1) ps (some (.int j, false)) st1 (by omega) (by omega) s1 hl (fun p h => by
        rcases hp p h with z | ⟨z, z2⟩
        · exact .inl z
        · exact .inr ⟨z, by simp at z2 ⊢; omega⟩) (by omega)
      refine ⟨ps', s6', st', ?_, s2, q2.trans q1, l2, p2, by omega⟩
      show (forStep _ _ _ _ _ _ _).bind _ = _
      rw [step]
      exact e2
theorem lot_outer {n l : Nat} {rows len rare : Int} (h1 : 0 < rare) (h2 : rare < 1000) (hlen : 0 ≤ len ∧ len ≤ 3) : ∀ (k : Nat) (i : Int) (ps : List (Int × Int)) (s5 s6 : Slot) (st : Pi.Sto), (rows - i).toNat = k → 0 ≤ i → Src st l → Lot rows len ps → (∀ p ∈ ps, p.1 < i) → ps.length + 3 * k ≤ 90 →
    ∃ ps' s5' s6' st', forGo (forStep (call (n + 1)) 300 (.n 5) [.for (.n 6) (.rng [.v 2]) inB]) (rangeD i (rows - i).toNat) (envL l rows len rare ps s5 s6) st = .ok .nx (envL l rows len rare ps' s5' s6') st' ∧ Src st' l ∧ Same st st' ∧ Lot rows len ps' ∧ ps'.length ≤ ps.length + 3 * k
  | 0, i, ps, s5, s6, st, hk, hi, hs, hl, hp, hb => by
    rw [rangeD_nil (by omega)]
    exact ⟨ps, s5, s6, st, rfl, hs, rfl, hl, by omega⟩
  | k + 1, i, ps, s5, s6, st, hk, hi, hs, hl, hp, hb => by
    have hir : i < rows := by omega
    rw [rangeD_cons hir]
    obtain ⟨ps1, s61, st1, e1, s1, q1, l1, p1, b1⟩ := lot_inner (n := n) (i := i) h1 h2 ⟨hi, hir⟩ (len - 0).toNat 0 ps s6 st rfl (by omega) hs hl (fun p h => .inl (hp p h)) (by omega)
    obtain ⟨ps', s5', s6', st', e2, s2, q2, l2, b2⟩ := lot_outer (n := n) h1 h2 hlen k (i + 1) ps1 (some (.int i, false)) s61 st1 (by omega) (by omega) s1 l1 (fun p h => by have := p1 p h; omega) (by omega)
    refine ⟨ps', s5', s6', st', ?_, s2, q2.trans q1, l2, by omega⟩
    have step : forStep (call (n + 1)) 300 (.n 5) [.for (.n 6) (.rng [.v 2]) inB] (.int i) (envL l rows len rare ps s5 s6) st = .ok .nx (envL l rows len rare ps1 (some (.int i, false)) s61) st1 := by
      show exB cd.G (call (n + 1)) 300 [.for (.n 6) (.rng [.v 2]) inB] (envL l rows len rare ps (some (.int i, false)) s6) st = _
      refine (xb_nx ((xs_for (x := .lst (rangeD 0 (len - 0).toNat)) (o := false) (env1 := envL l rows len rare ps (some (.int i, false)) s6) (st1 := st) ?_ rfl).trans e1)).trans rfl
      have hsm : small len = true := by
        simp [small]; constructor <;> omega
      simp [envL, ev, cmpF, bifF, evs, R.bind, getS, lift, rangeOf, hsm]
    show (forStep _ _ _ _ _ _ _).bind _ = _
    rw [step]
    exact e2
theorem f22 {n l : Nat} {rows len : Int} {st : Pi.Sto} (hr : 0 ≤ rows ∧ rows ≤ 3) (hlen : 0 ≤ len ∧ len ≤ 3) (hs : Src st l) : ∃ (ps : List (Int × Int)) (st' : Pi.Sto), call (n + 3) 22 [.ref l, .int rows, .int len] st = .ok (.tup (ps.map cD)) false st' ∧ Lot rows len ps ∧ ps.length ≤ 9 ∧ Src st' l ∧ Same st st' := by
  obtain ⟨d, st1, e1, hd, s1, q1⟩ := f20 (n := n) hs (xs := [.int 2, .int 3, .int 4, .int 9, .int 9]) (by simp) (by simp)
  obtain ⟨rare, rfl, r1, r2⟩ : ∃ rare : Int, d = .int rare ∧ 0 < rare ∧ rare < 1000 := by
    simp at hd
    rcases hd with rfl | rfl | rfl | rfl <;> exact ⟨_, rfl, by omega, by omega⟩
  obtain ⟨ps, s5, s6, st2, e2, s2, q2, l2, b2⟩ := lot_outer (n := n + 1) r1 r2 hlen (rows - 0).toNat 0 [] none none st1 rfl (by omega) s1 Lot.nil (fun p h => by cases h) (by simp; omega)
  have e1 : callN cd.G cd.fns 300 (n + 2) 20 [.ref l, .lst [.int 2, .int 3, .int 4, .int 9, .int 9]] st = _ := e1
  refine ⟨ps, st2, ?_, l2, by simp at b2; omega, s2, q2.trans q1⟩
  rw [call_at (fn := c_law_drawn_lot) rfl rfl]
  show fin (exB cd.G (call (n + 2)) 300 c_law_drawn_lot.body [some (.ref l, false), some (.int rows, false), some (.int len, false), none, none, none, none] st) = _
  unfold c_law_drawn_lot
  dsimp only
  rw [xb_nx (env1 := [some (.ref l, false), some (.int rows, false), some (.int len, false), some (.int rare, false), none, none, none]) (st1 := st1) (by simp [exS, ev, cmpF, bifF, evs, R.bind, lift, setT, getS, ofCall, e1, szOk])]
  rw [xb_nx (env1 := envL l rows len rare [] none none) (st1 := st1) (by simp [exS, ev, cmpF, bifF, evs, R.bind, lift, setT, szOk, envL])]
  rw [xb_nx ((xs_for (x := .lst (rangeD 0 (rows - 0).toNat)) (o := false) (env1 := envL l rows len rare [] none none) (st1 := st1) (by
    have hsm : small rows = true := by
      simp [small]; constructor <;> omega
    simp [envL, ev, cmpF, bifF, evs, R.bind, getS, lift, rangeOf, hsm]) rfl).trans e2)]
  simp [exB, exS, ev, cmpF, bifF, evs, R.bind, lift, getS, bifn, envL, fin]
abbrev Cs := List (Int × Int)
def lotD (ps : Cs) : D := .tup (ps.map cD)
def rdD (r : Int × Cs × Cs) : D := .tup [.int r.1, lotD r.2.1, lotD r.2.2]
structure Scp where
  rows : Int
  len : Int
  b1 : Cs
  b2 : Cs
  rds : List (Int × Cs × Cs)
  aft : Cs
def Scp.d (s : Scp) : D := .tup [.int s.rows, .int s.len, .tup [lotD s.b1, lotD s.b2], .tup (s.rds.map rdD), lotD s.aft]
structure LotOk (rows len : Int) (ps : Cs) : Prop where
  lot : Lot rows len ps
  few : ps.length ≤ 9
structure Scp.Ok (s : Scp) : Prop where
  rows : 1 ≤ s.rows ∧ s.rows ≤ 3
  len : 1 ≤ s.len ∧ s.len ≤ 3
  b1 : LotOk s.rows s.len s.b1
  b2 : LotOk s.rows s.len s.b2
  rds : ∀ r ∈ s.rds, (2 ≤ r.1 ∧ r.1 ≤ 3) ∧ LotOk s.rows s.len r.2.1 ∧ LotOk s.rows s.len r.2.2
  some : 1 ≤ s.rds.length
  few : s.rds.length ≤ 3
  aft : LotOk s.rows s.len s.aft
theorem LotOk.nil {rows len : Int} : LotOk rows len [] := ⟨Lot.nil, Nat.zero_le _⟩
def envS (l : Nat) (most rows len : Int) (e5 : D) (rds : List (Int × Cs × Cs)) (s2 s8 s9 : Slot) : Pi.Env := [some (.ref l, false), some (.int most, false), s2, some (.int rows, false), some (.int len, false), some (e5, false), some (.tup [], false), some (.tup (rds.map rdD), false), s8, s9]
abbrev rdB : List S := [.par [9, 8] [.call 20 [.v 0, .ls [.k (.int 2), .k (.int 2), .k (.int 3)]], .call 22 [.v 0, .v 3, .v 4]],
  .asg (.n 7) (.bin .add (.v 7) (.tp [.tp [.v 9, .v 8, .call 22 [.v 0, .v 3, .v 4]]]))]
def RdOk (rows len : Int) (r : Int × Cs × Cs) : Prop := (2 ≤ r.1 ∧ r.1 ≤ 3) ∧ LotOk rows len r.2.1 ∧ LotOk rows len r.2.2
theorem rd_loop {n l : Nat} {most rows len : Int} {e5 : D} (hr : 1 ≤ rows ∧ rows ≤ 3) (hl : 1 ≤ len ∧ len ≤ 3) : ∀ (k : Nat) (i hi : Int) (rds : List (Int × Cs × Cs)) (s2 s8 s9 : Slot) (st : Pi.Sto), (hi - i).toNat = k → Src st l → (∀ r ∈ rds, RdOk rows len r) → rds.length + k ≤ 100 →
    ∃ rds' s2' s8' s9' st', forGo (forStep (call (n + 3)) 300 (.n 2) rdB) (rangeD i (hi - i).toNat) (envS l most rows len e5 rds s2 s8 s9) st = .ok .nx (envS l most rows len e5 rds' s2' s8' s9') st' ∧ Src st' l ∧ Same st st' ∧ (∀ r ∈ rds', RdOk rows len r) ∧ rds'.length = rds.length + k
  | 0, i, hi, rds, s2, s8, s9, st, hk, hs, hok, hb => by
    rw [rangeD_nil (by omega)]
    exact ⟨rds, s2, s8, s9, st, rfl, hs, rfl, hok, rfl⟩
  | k + 1, i, hi, rds, s2, s8, s9, st, hk, hs, hok, hb => by
    rw [rangeD_cons (by omega)]
    obtain ⟨d, st1, e1, hd, s1, q1⟩ := f20 (n := n + 1) hs (xs := [.int 2, .int 2, .int 3]) (by simp) (by simp)
    obtain ⟨pt, rfl, p1, p2⟩ : ∃ pt : Int, d = .int pt ∧ 2 ≤ pt ∧ pt ≤ 3 := by
      simp at hd
      rcases hd with rfl | rfl <;> exact ⟨_, rfl, by omega, by omega⟩
    obtain ⟨a, st2, e2, la, fa, s2', q2⟩ := f22 (n := n) (rows := rows) (len := len) (by omega) (by omega) s1
    obtain ⟨b, st3, e3, lb, fb, s3', q3⟩ := f22 (n := n) (rows := rows) (len := len) (by omega) (by omega) s2'
    have e1 : callN cd.G cd.fns 300 (n + 3) 20 [.ref l, .lst [.int 2, .int 2, .int 3]] st = _ := e1
    have e2 : callN cd.G cd.fns 300 (n + 3) 22 [.ref l, .int rows, .int len] st1 = _ := e2
    have e3 : callN cd.G cd.fns 300 (n + 3) 22 [.ref l, .int rows, .int len] st2 = _ := e3
    obtain ⟨rds', t2, t8, t9, st', e4, s4, q4, ok4, n4⟩ := rd_loop (n := n) (most := most) (e5 := e5) hr hl k (i + 1) hi (rds ++ [(pt, a, b)]) (some (.int i, false)) (some (lotD a, false)) (some (.int pt, false)) st3 (by omega) s3' (fun r h => by
      rcases List.mem_append.mp h with h | h
      · exact hok r h
      · rw [List.mem_singleton.mp h]; exact ⟨⟨p1, p2⟩, ⟨la, fa⟩, ⟨lb, fb⟩⟩) (by simp; omega)
    refine ⟨rds', t2, t8, t9, st', ?_, s4, q4.trans (q3.trans (q2.trans q1)), ok4, by simp at n4; omega⟩
    have step : forStep (call (n + 3)) 300 (.n 2) rdB (.int i) (envS l most rows len e5 rds s2 s8 s9) st = .ok .nx (envS l most rows len e5 (rds ++ [(pt, a, b)]) (some (.int i, false)) (some (lotD a, false)) (some (.int pt, false))) st3 := by
      simp [forStep, rdB, envS, setT, exB, exS, ev, cmpF, bifF, evs, R.bind, lift, getS, ofCall, e1, e2, e3, binop, szOk, rdD, lotD, (show rds.length + 1 ≤ 1000000 by omega)]
    show (forStep _ _ _ _ _ _ _).bind _ = _
    rw [step]
    exact e4
theorem f23 {n l : Nat} {most : Int} {st : Pi.Sto} (hm : 0 < most ∧ most ≤ 3) (hs : Src st l) : ∃ (s : Scp) (st' : Pi.Sto), call (n + 4) 23 [.ref l, .int most] st = .ok s.d false st' ∧ s.Ok ∧ Src st' l ∧ Same st st' := by
  obtain ⟨dr, st1, e1, hd1, s1, q1⟩ := f20 (n := n + 1) hs (xs := [.int 1, .int 2, .int 2, .int 3, .int 3, .int 3]) (by simp) (by simp)
  obtain ⟨rows, rfl, a1, a2⟩ : ∃ r : Int, dr = .int r ∧ 1 ≤ r ∧ r ≤ 3 := by
    simp at hd1
    rcases hd1 with rfl | rfl | rfl <;> exact ⟨_, rfl, by omega, by omega⟩
  obtain ⟨dl, st2, e2, hd2, s2, q2⟩ := f20 (n := n + 1) s1 (xs := [.int 1, .int 2, .int 2, .int 3]) (by simp) (by simp)
  obtain ⟨len, rfl, b1, b2⟩ : ∃ r : Int, dl = .int r ∧ 1 ≤ r ∧ r ≤ 3 := by
    simp at hd2
    rcases hd2 with rfl | rfl | rfl <;> exact ⟨_, rfl, by omega, by omega⟩
  obtain ⟨c3, st3, e3, _, _, s3, q3⟩ := f19 (n := n + 2) s2 (many := 3) (by omega) (by omega)
  have e1 : callN cd.G cd.fns 300 (n + 3) 20 [.ref l, .lst [.int 1, .int 2, .int 2, .int 3, .int 3, .int 3]] st = _ := e1
  have e2 : callN cd.G cd.fns 300 (n + 3) 20 [.ref l, .lst [.int 1, .int 2, .int 2, .int 3]] st1 = _ := e2
  have e3 : callN cd.G cd.fns 300 (n + 3) 19 [.ref l, .int 3] st2 = _ := e3
  -- the ends
  obtain ⟨x1, x2, s8, st4, e4, lx1, lx2, s4, q4⟩ : ∃ (x1 x2 : Cs) (s8 : Slot) (st4 : Pi.Sto), exS cd.G (call (n + 3)) 300 (.ifs (.cmp .eq (.call 19 [.v 0, .k (.int 3)]) (.k (.int 0))) [
  .asg (.n 8) (.call 22 [.v 0, .v 3, .v 4]),
  .asg (.n 5) (.tp [.v 8, .call 22 [.v 0, .v 3, .v 4]])] []) (envS l most rows len (.tup [.tup [], .tup []]) [] none none none) st2 = .ok .nx (envS l most rows len (.tup [lotD x1, lotD x2]) [] none s8 none) st4 ∧ LotOk rows len x1 ∧ LotOk rows len x2 ∧ Src st4 l ∧ Same st3 st4 := by
    by_cases h : c3 = 0
    · obtain ⟨x1, t1, g1, l1, m1, r1, w1⟩ := f22 (n := n) (rows := rows) (len := len) (by omega) (by omega) s3
      obtain ⟨x2, t2, g2, l2, m2, r2, w2⟩ := f22 (n := n) (rows := rows) (len := len) (by omega) (by omega) r1
      have g1 : callN cd.G cd.fns 300 (n + 3) 22 [.ref l, .int rows, .int len] st3 = _ := g1
      have g2 : callN cd.G cd.fns 300 (n + 3) 22 [.ref l, .int rows, .int len] t1 = _ := g2
      refine ⟨x1, x2, some (lotD x1, false), t2, ?_, ⟨l1, m1⟩, ⟨l2, m2⟩, r2, w2.trans w1⟩
      simp [envS, setT, exB, exS, ev, cmpF, bifF, evs, R.bind, lift, getS, ofCall, e3, g1, g2, truth, cmpop, D.pl, D.dep, deq, dbl, szOk, h, lotD]
    · have h' : (c3 == 0) = false := by simpa using h
      refine ⟨[], [], none, st3, ?_, LotOk.nil, LotOk.nil, s3, rfl⟩
      simp [envS, setT, exB, exS, ev, cmpF, bifF, evs, R.bind, lift, getS, ofCall, e3, truth, cmpop, D.pl, D.dep, deq, dbl, szOk, h', lotD]
  obtain ⟨r5, st5, e5, p5, p5', s5, q5⟩ := f19 (n := n + 2) s4 (many := most) (by omega) (by omega)
  have e5 : callN cd.G cd.fns 300 (n + 3) 19 [.ref l, .int most] st4 = _ := e5
  obtain ⟨rds, t2, t8, t9, st6, e6, s6, q6, ok6, n6⟩ := rd_loop (n := n) (most := most) (e5 := .tup [lotD x1, lotD x2]) ⟨a1, a2⟩ ⟨b1, b2⟩ (1 + r5 - 0).toNat 0 (1 + r5) [] none s8 none st5 rfl s5 (fun r h => by cases h) (by simp; omega)
  obtain ⟨r7, st7, e7, _, _, s7, q7⟩ := f19 (n := n + 2) s6 (many := 2) (by omega) (by omega)
  have e7 : callN cd.G cd.fns 300 (n + 3) 19 [.ref l, .int 2] st6 = _ := e7
  have nl : rds.length = (1 + r5 - 0).toNat := by simpa using n6
  have smr : small (1 + r5) = true := by
    simp [small]; constructor <;> omega
  have start : call (n + 4) 23 [.ref l, .int most] st = fin (exB cd.G (call (n + 3)) 300 (c_law_script.body.drop 4) (envS l most rows len (.tup [lotD x1, lotD x2]) rds t2 t8 t9) st6) := by
    rw [call_at (fn := c_law_script) rfl rfl]
    show fin (exB cd.G (call (n + 3)) 300 c_law_script.body [some (.ref l, false), some (.int most, false), none, none, none, none, none, none, none, none] st) = _
    unfold c_law_script
    dsimp only [List.drop]
    rw [xb_nx (env1 := [some (.ref l, false), some (.int most, false), none, some (.int rows, false), some (.int len, false), none, none, none, none, none]) (st1 := st2) (by simp [exS, ev, cmpF, bifF, evs, R.bind, lift, setT, getS, ofCall, e1, e2, szOk])]
    rw [xb_nx (env1 := envS l most rows len (.tup [.tup [], .tup []]) [] none none none) (st1 := st2) (by simp [exS, ev, cmpF, bifF, evs, R.bind, lift, setT, getS, szOk, envS])]
    rw [xb_nx e4]
    rw [xb_nx ((xs_for (x := .lst (rangeD 0 (1 + r5 - 0).toNat)) (o := false) (env1 := envS l most rows len (.tup [lotD x1, lotD x2]) [] none s8 none) (st1 := st5) (by
      simp [envS, ev, cmpF, bifF, evs, R.bind, getS, lift, rangeOf, ofCall, e5, binop, smr]) rfl).trans e6)]
  rw [start]
  by_cases h : r7 = 0
  · obtain ⟨y, t1, g1, l1, m1, w1, v1⟩ := f22 (n := n) (rows := rows) (len := len) (by omega) (by omega) s7
    have g1 : callN cd.G cd.fns 300 (n + 3) 22 [.ref l, .int rows, .int len] st7 = _ := g1
    refine ⟨⟨rows, len, x1, x2, rds, y⟩, t1, ?_, ⟨⟨a1, a2⟩, ⟨b1, b2⟩, lx1, lx2, ok6, by simp; omega, by simp; omega, ⟨l1, m1⟩⟩, w1, v1.trans (q7.trans (q6.trans (q5.trans (q4.trans (q3.trans (q2.trans q1))))))⟩
    simp [c_law_script, envS, setT, exB, exS, ev, cmpF, bifF, evs, R.bind, lift, getS, ofCall, e7, g1, truth, cmpop, D.pl, D.dep, deq, dbl, szOk, h, lotD, fin, Scp.d]
  · have h' : (r7 == 0) = false := by simpa using h
    refine ⟨⟨rows, len, x1, x2, rds, []⟩, st7, ?_, ⟨⟨a1, a2⟩, ⟨b1, b2⟩, lx1, lx2, ok6, by simp; omega, by simp; omega, LotOk.nil⟩, s7, q7.trans (q6.trans (q5.trans (q4.trans (q3.trans (q2.trans q1)))))⟩
    simp [c_law_script, envS, setT, exB, exS, ev, cmpF, bifF, evs, R.bind, lift, getS, ofCall, e7, truth, cmpop, D.pl, D.dep, deq, dbl, szOk, h', lotD, fin, Scp.d]
def pltB (p q : Int × Int) : Bool := decide (p.1 < q.1) || (decide (p.1 = q.1) && decide (p.2 < q.2))
theorem pltB_iff {p q : Int × Int} : pltB p q = true ↔ plt p q := by
  unfold pltB plt
  simp only [Bool.or_eq_true, Bool.and_eq_true, decide_eq_true_eq]
theorem plt_trans {p q r : Int × Int} (h : plt p q) (h2 : plt q r) : plt p r := by
  unfold plt at *
  omega
theorem plt_irr {p : Int × Int} : ¬ plt p p := by
  unfold plt
  omega
theorem plt_tri {p q : Int × Int} (h : ¬ plt p q) (h2 : p ≠ q) : plt q p := by
  unfold plt at *
  have : ¬ (p.1 = q.1 ∧ p.2 = q.2) := fun z => h2 (Prod.ext z.1 z.2)
  omega
def incB : Cs → Bool
  | [] => true
  | p :: r => (match r with | [] => true | q :: _ => pltB p q) && incB r
theorem incB_iff : ∀ {ps : Cs}, incB ps = true ↔ ps.Pairwise plt
  | [] => ⟨fun _ => List.Pairwise.nil, fun _ => rfl⟩
  | [p] => ⟨fun _ => List.pairwise_singleton _ _, fun _ => rfl⟩
  | p :: q :: r => by
    show (pltB p q && incB (q :: r)) = true ↔ _
    rw [Bool.and_eq_true, incB_iff, pltB_iff, List.pairwise_cons (a := p)]
    constructor
    · rintro ⟨h1, h2⟩
      refine ⟨fun x hx => ?_, h2⟩
      rcases List.mem_cons.mp hx with rfl | hx
      · exact h1
      · exact plt_trans h1 ((List.pairwise_cons.mp h2).1 x hx)
    · rintro ⟨h1, h2⟩
      exact ⟨h1 q List.mem_cons_self, h2⟩
def insC (p : Int × Int) : Cs → Cs
  | [] => [p]
  | q :: qs => if pltB q p then q :: insC p qs else p :: q :: qs
def sortC : Cs → Cs
  | [] => []
  | p :: ps => insC p (sortC ps)
def dedC : Cs → Cs → Cs
  | _, [] => []
  | seen, p :: ps => if p ∈ seen then dedC seen ps else p :: dedC (p :: seen) ps
theorem mem_insC {p x : Int × Int} : ∀ {qs : Cs}, x ∈ insC p qs ↔ x = p ∨ x ∈ qs
  | [] => by simp [insC]
  | q :: qs => by
    unfold insC
    split
    · rw [List.mem_cons, mem_insC, List.mem_cons]
      constructor
      · rintro (h | h | h) <;> simp [h]
      · rintro (h | h | h) <;> simp [h]
    · simp
theorem mem_sortC {x : Int × Int} : ∀ {qs : Cs}, x ∈ sortC qs ↔ x ∈ qs
  | [] => by simp [sortC]
  | q :: qs => by
    show x ∈ insC q (sortC qs) ↔ _
    rw [mem_insC, mem_sortC, List.mem_cons]
theorem insC_ord {p : Int × Int} : ∀ {qs : Cs}, qs.Pairwise plt → p ∉ qs → (insC p qs).Pairwise plt
  | [], _, _ => List.pairwise_singleton _ _
  | q :: qs, h, hp => by
    unfold insC
    have ⟨h1, h2⟩ := List.pairwise_cons.mp h
    split
    · rename_i hq
      rw [List.pairwise_cons]
      refine ⟨fun x hx => ?_, insC_ord h2 fun z => hp (List.mem_cons_of_mem _ z)⟩
      rcases mem_insC.mp hx with rfl | hx
      · exact pltB_iff.mp hq
      · exact h1 x hx
    · rename_i hq
      have hq : ¬ plt q p := fun z => hq (pltB_iff.mpr z)
      have hpq : plt p q := plt_tri hq fun z => hp (by rw [z]; exact List.mem_cons_self)
      rw [List.pairwise_cons]
      refine ⟨fun x hx => ?_, h⟩
      rcases List.mem_cons.mp hx with rfl | hx
      · exact hpq
      · exact plt_trans hpq (h1 x hx)
theorem sortC_ord : ∀ {qs : Cs}, qs.Nodup → (sortC qs).Pairwise plt
  | [], _ => List.Pairwise.nil
  | q :: qs, h => by
    have ⟨h1, h2⟩ := List.nodup_cons.mp h
    exact insC_ord (sortC_ord h2) fun z => h1 (mem_sortC.mp z)
theorem dedC_mem {x : Int × Int} : ∀ {qs seen : Cs}, x ∈ dedC seen qs → x ∉ seen ∧ x ∈ qs
  | [], seen, h => by cases h
  | q :: qs, seen, h => by
    unfold dedC at h
    split at h
    · have := dedC_mem h
      exact ⟨this.1, List.mem_cons_of_mem _ this.2⟩
    · rename_i hq
      rcases List.mem_cons.mp h with rfl | h
      · exact ⟨hq, List.mem_cons_self⟩
      · have := dedC_mem h
        exact ⟨fun z => this.1 (List.mem_cons_of_mem _ z), List.mem_cons_of_mem _ this.2⟩
theorem dedC_nodup : ∀ {qs seen : Cs}, (dedC seen qs).Nodup
  | [], seen => List.nodup_nil
  | q :: qs, seen => by
    unfold dedC
    split
    · exact dedC_nodup
    · rw [List.nodup_cons]
      exact ⟨fun h => (dedC_mem h).1 List.mem_cons_self, dedC_nodup⟩
theorem dedC_id : ∀ {qs seen : Cs}, qs.Nodup → (∀ q ∈ qs, q ∉ seen) → dedC seen qs = qs
  | [], seen, _, _ => rfl
  | q :: qs, seen, h, hs => by
    have ⟨h1, h2⟩ := List.nodup_cons.mp h
    unfold dedC
    rw [if_neg (hs q List.mem_cons_self), dedC_id h2 fun x hx z => ?_]
    rcases List.mem_cons.mp z with rfl | z
    · exact h1 hx
    · exact hs x (List.mem_cons_of_mem _ hx) z
theorem sortC_id : ∀ {qs : Cs}, qs.Pairwise plt → sortC qs = qs
  | [], _ => rfl
  | [q], _ => rfl
  | q :: r :: qs, h => by
    have ⟨h1, h2⟩ := List.pairwise_cons.mp h
    show insC q (sortC (r :: qs)) = _
    rw [sortC_id h2]
    unfold insC
    rw [if_neg fun z => plt_irr (plt_trans (pltB_iff.mp z) (h1 r List.mem_cons_self))]
theorem ord_nodup {qs : Cs} (h : qs.Pairwise plt) : qs.Nodup := List.Pairwise.imp (fun {a b} h (z : a = b) => plt_irr (by rw [z] at h; exact h)) h
theorem incB_sort {ps : Cs} : incB ps = decide (ps = sortC (dedC [] ps)) := by
  rw [Bool.eq_iff_iff, incB_iff, decide_eq_true_eq]
  constructor
  · intro h
    rw [dedC_id (ord_nodup h) (fun _ _ z => by cases z), sortC_id h]
  · intro h
    rw [h]
    exact sortC_ord dedC_nodup
theorem deq_c {p q : Int × Int} : deq (cD p) (cD q) = decide (p = q) := by
  rw [Bool.eq_iff_iff, decide_eq_true_eq]
  simp [cD, deq, deqs, Prod.ext_iff]
theorem dlt_c {p q : Int × Int} : dlt (cD p) (cD q) = pltB p q := by
  unfold pltB
  by_cases h : p.1 = q.1 <;> by_cases h2 : p.2 = q.2 <;> simp [cD, dlt, dlts, deq, h, h2]
theorem insB_c {p : Int × Int} : ∀ {qs : Cs}, insB (cD p) (qs.map cD) = (insC p qs).map cD
  | [] => rfl
  | q :: qs => by
    show (if dlt (cD q) (cD p) then cD q :: insB (cD p) (qs.map cD) else cD p :: cD q :: qs.map cD) = _
    unfold insC
    rw [dlt_c, insB_c]
    split <;> rfl
theorem isort_c : ∀ {qs : Cs}, isort (qs.map cD) = (sortC qs).map cD
  | [] => rfl
  | q :: qs => by
    show insB (cD q) (isort (qs.map cD)) = _
    rw [isort_c, insB_c]; rfl
theorem dmem_c {p : Int × Int} : ∀ {qs : Cs}, dmem (cD p) (qs.map cD) = decide (p ∈ qs)
  | [] => rfl
  | q :: qs => by
    show (deq (cD q) (cD p) || dmem (cD p) (qs.map cD)) = _
    rw [dmem_c, deq_c, Bool.eq_iff_iff]
    simp only [Bool.or_eq_true, decide_eq_true_eq, List.mem_cons]
    constructor
    · rintro (h | h)
      · exact .inl h.symm
      · exact .inr h
    · rintro (h | h)
      · exact .inl h.symm
      · exact .inr h
theorem dedup_c : ∀ {qs seen : Cs}, dedup (seen.map cD) (qs.map cD) = (dedC seen qs).map cD
  | [], _ => rfl
  | q :: qs, seen => by
    show (if dmem (cD q) (seen.map cD) then dedup (seen.map cD) (qs.map cD) else cD q :: dedup (cD q :: seen.map cD) (qs.map cD)) = _
    unfold dedC
    have e2 := dedup_c (qs := qs) (seen := q :: seen)
    rw [List.map_cons] at e2
    rw [dmem_c, dedup_c, e2]
    by_cases h : q ∈ seen <;> simp [h]
theorem deqs_c : ∀ {ps qs : Cs}, deqs (ps.map cD) (qs.map cD) = decide (ps = qs)
  | [], [] => rfl
  | [], _ :: _ => rfl
  | _ :: _, [] => rfl
  | p :: ps, q :: qs => by
    show (deq (cD p) (cD q) && deqs (ps.map cD) (qs.map cD)) = _
    rw [deq_c, deqs_c, Bool.eq_iff_iff]
    simp
theorem pls_c : ∀ {qs : Cs}, D.pls (qs.map cD) = true
  | [] => rfl
  | q :: qs => pls_c (qs := qs)
theorem alk_c {p q : Int × Int} : alk (cD p) (cD q) = true := rfl
theorem deps_c {qs : Cs} : D.deps (qs.map cD) ≤ 1 := deps_le fun x hx => by
  obtain ⟨p, _, rfl⟩ := List.mem_map.mp hx
  exact Nat.le_refl _
/-- a cell within -/
def cellB (rows len : Int) : D → Bool
  | .tup [a, b] => within a 0 (rows - 1) && within b 0 (len - 1)
  | _ => false
def toC : D → Int × Int
  | .tup [.int i, .int j] => (i, j)
  | _ => (0, 0)
theorem cellB_inv {rows len : Int} {x : D} (h : cellB rows len x = true) : x = cD (toC x) ∧ 0 ≤ (toC x).1 ∧ (toC x).1 < rows ∧ 0 ≤ (toC x).2 ∧ (toC x).2 < len := by
  unfold cellB at h
  split at h
  · rename_i a b
    rw [Bool.and_eq_true] at h
    obtain ⟨h1, h2⟩ := h
    unfold within at h1 h2
    split at h1
    · split at h2
      · simp at h1 h2
        exact ⟨rfl, h1.1, by show _ < _; simp [toC]; omega, h2.1, by simp [toC]; omega⟩
      · cases h2
    · cases h1
  · cases h
theorem cells_inv {rows len : Int} : ∀ {xs : List D}, xs.all (cellB rows len) = true → xs = (xs.map toC).map cD ∧ ∀ p ∈ xs.map toC, 0 ≤ p.1 ∧ p.1 < rows ∧ 0 ≤ p.2 ∧ p.2 < len
  | [], _ => ⟨rfl, fun _ h => by cases h⟩
  | x :: xs, h => by
    rw [List.all_cons, Bool.and_eq_true] at h
    have h1 := cellB_inv h.1
    have h2 := cells_inv h.2
    refine ⟨?_, fun p hp => ?_⟩
    · rw [List.map_cons, List.map_cons, ← h2.1, ← h1.1]
    · rcases List.mem_cons.mp hp with rfl | hp
      · exact h1.2
      · exact h2.2 p hp
/-- a lot -/
def goodLot (rows len : Int) : D → Bool
  | .tup xs => xs.all (cellB rows len) && incB (xs.map toC)
  | _ => false
theorem goodLot_inv {rows len : Int} {d : D} (h : goodLot rows len d = true) : ∃ ps, d = lotD ps ∧ Lot rows len ps := by
  cases d with
  | tup xs =>
    have h : (xs.all (cellB rows len) && incB (xs.map toC)) = true := h
    rw [Bool.and_eq_true] at h
    have h1 := cells_inv h.1
    exact ⟨xs.map toC, by unfold lotD; rw [← h1.1], incB_iff.mp h.2, h1.2⟩
  | _ => cases h
theorem goodLot_of {rows len : Int} {ps : Cs} (h : Lot rows len ps) : goodLot rows len (lotD ps) = true := by
  show ((ps.map cD).all (cellB rows len) && incB ((ps.map cD).map toC)) = true
  have e : (ps.map cD).map toC = ps := by
    rw [List.map_map]
    have : (toC ∘ cD) = id := by funext p; rfl
    rw [this, List.map_id]
  rw [e, incB_iff.mpr h.ord, Bool.and_true, List.all_eq_true]
  intro x hx
  obtain ⟨p, hp, rfl⟩ := List.mem_map.mp hx
  obtain ⟨a, b, c, d⟩ := h.rng p hp
  simp [cD, cellB, within]
  omega
theorem allD'_map {f : D → Bool} : ∀ {xs : List D}, allD' (xs.map fun x => .bl (f x)) = some (xs.all f)
  | [] => rfl
  | x :: xs => by
    show (allD' (xs.map fun x => .bl (f x))).map (fun q => f x && q) = _
    rw [allD'_map]; rfl
theorem filterMap_some' {f : D → D} : ∀ {xs : List D}, xs.filterMap (fun x => some (f x)) = xs.map f
  | [] => rfl
  | x :: xs => by simp
theorem pairB_of {x : D} (h : pairB x = true) : ∃ a b, x = .tup [a, b] := by
  cases x with
  | tup xs =>
    have h : (xs.length == 2) = true := h
    rw [beq_iff_eq] at h
    match xs, h with
    | [a, b], _ => exact ⟨a, b, rfl⟩
  | _ => cases h
theorem cellB_pair {rows len : Int} {x : D} (h : pairB x = false) : cellB rows len x = false := by
  cases x with
  | tup xs =>
    match xs with
    | [] => rfl
    | [_] => rfl
    | [a, b] => cases h
    | _ :: _ :: _ :: _ => rfl
  | _ => rfl
theorem pls_mem {x : D} : ∀ {xs : List D}, D.pls xs = true → x ∈ xs → x.pl = true
  | [], _, h => by cases h
  | y :: ys, h, hx => by
    have h : (D.pl y && D.pls ys) = true := h
    rw [Bool.and_eq_true] at h
    rcases List.mem_cons.mp hx with rfl | hx
    · exact h.1
    · exact pls_mem h.2 hx
abbrev A (d : D) : Slot := some (d, false)
theorem e_isT {cl : Nat → List D → Pi.Sto → RC} {bw : Bool} {i : Nat} {env : Pi.Env} {st : Pi.Sto} {v : D} (hg : getS env i = some (v, false)) (hv : v.pl = true) : ev cd.G cl bw (.bi .isinst [.v i, .g (.ty "tuple")]) env st = .ok (.bl (isTup v), false) env st := by
  refine e_bi (ds := [v, .ty "tuple"]) (env1 := env) (st1 := st) ?_ ?_
  · simp [evs, ev, cmpF, bifF, hg, R.bind]
  · show (isInst cd.G v (.ty "tuple")).map _ = _
    rw [isTup_ok hv]; rfl
theorem f2 {n : Nat} {v : D} {rows len : Int} {st : Pi.Sto} (hv : v.pl = true) (hd : v.dep ≤ 50) (hw : wid v < 64) (hr : rows ≤ 63) (hln : len ≤ 63) : call (n + 2) 2 [v, .int rows, .int len] st = .ok (.bl (goodLot rows len v)) false st := by
  rw [call_at (fn := c_is_lot) rfl rfl]
  cases v with
  | tup xs =>
    have plx : D.pls xs = true := hv
    have wx : xs.length < 64 := by
      have : max xs.length (wids xs) < 64 := hw
      omega
    have szx : szOk xs.length = true := by simp [szOk]; omega
    let env : Pi.Env := [some (.tup xs, false), some (.int rows, false), some (.int len, false), none, none, none]
    have l1 : ev cd.G (call (n + 1)) true (.lc (.call 1 [.v 3]) (.n 3) (.v 0) none) env st = .ok (.lst (xs.map fun x => .bl (pairB x)), true) env st := by
      refine (ev_lc (x := .tup xs) (o := false) (env1 := env) (st1 := st) (env2 := env) (st2 := st) (xs := xs) rfl rfl szx ?_).trans rfl
      rw [← filterMap_some']
      refine lcGo_pure fun x hx => ?_
      have e1 : callN cd.G cd.fns 300 (n + 1) 1 [x] st = _ := f1 (pls_mem plx hx)
      simp [lcStep, setT, env, ev, cmpF, bifF, evs, R.bind, getS, lift, ofCall, e1, R.calm, clear, T.own]
    have b1 : truth (ev cd.G (call (n + 1)) true (.or (.not (.bi .isinst [.v 0, .g (.ty "tuple")])) (.not (.bi .all [.lc (.call 1 [.v 3]) (.n 3) (.v 0) none]))) env st) = .ok (!xs.all pairB) env st := by
      exact t_of (e_or (p := !true) (q := !xs.all pairB) (e_not (e_isT rfl hv)) fun _ => e_not (e_bi (es_cons l1 rfl) (by
        show (allD' _).map _ = _
        rw [allD'_map]; rfl)))
    show fin (exB cd.G (call (n + 1)) 300 c_is_lot.body env st) = _
    unfold c_is_lot
    dsimp only
    cases h1 : xs.all pairB with
    | false =>
      rw [xb_if_ret b1 (by rw [h1]; rfl) (d := .bl false) (o := false) (env2 := env) (st2 := st) rfl]
      have : xs.all (cellB rows len) = false := by
        rw [List.all_eq_false] at h1 ⊢
        obtain ⟨x, hx, hp⟩ := h1
        refine ⟨x, hx, ?_⟩
        rw [cellB_pair (by simpa using hp)]
        decide
      show RC.ok _ _ _ = RC.ok (.bl (xs.all (cellB rows len) && _)) _ _
      rw [this]; rfl
    | true =>
      rw [xb_if_no b1 (by rw [h1]; rfl)]
      have l2 : ev cd.G (call (n + 1)) true (.lc (.and (.call 0 [.v 4, .k (.int 0), .bin .sub (.v 1) (.k (.int 1))]) (.call 0 [.v 5, .k (.int 0), .bin .sub (.v 2) (.k (.int 1))])) (.t [4, 5]) (.v 0) none) env st = .ok (.lst (xs.map fun x => .bl (cellB rows len x)), true) env st := by
        refine (ev_lc (x := .tup xs) (o := false) (env1 := env) (st1 := st) (env2 := env) (st2 := st) (xs := xs) rfl rfl szx ?_).trans rfl
        rw [← filterMap_some']
        refine lcGo_pure fun x hx => ?_
        obtain ⟨a, b, rfl⟩ := pairB_of (List.all_eq_true.mp h1 x hx)
        have px := pls_mem plx hx
        have px : (a.pl && (b.pl && true)) = true := px
        simp only [Bool.and_eq_true, and_true] at px
        have e1 : callN cd.G cd.fns 300 (n + 1) 0 [a, .int 0, .int (rows - 1)] st = _ := f0 px.1
        have e2 : callN cd.G cd.fns 300 (n + 1) 0 [b, .int 0, .int (len - 1)] st = _ := f0 px.2
        have es : cellB rows len (.tup [a, b]) = (within a 0 (rows - 1) && within b 0 (len - 1)) := rfl
        cases hw : within a 0 (rows - 1) with
        | false =>
          rw [hw] at e1
          simp [lcStep, setT, env, ev, cmpF, bifF, evs, R.bind, getS, lift, ofCall, e1, R.calm, clear, T.own, binop, es, hw]
        | true =>
          rw [hw] at e1
          simp [lcStep, setT, env, ev, cmpF, bifF, evs, R.bind, getS, lift, ofCall, e1, e2, R.calm, clear, T.own, binop, es, hw]
      have b2 : truth (ev cd.G (call (n + 1)) true (.not (.bi .all [.lc (.and (.call 0 [.v 4, .k (.int 0), .bin .sub (.v 1) (.k (.int 1))]) (.call 0 [.v 5, .k (.int 0), .bin .sub (.v 2) (.k (.int 1))])) (.t [4, 5]) (.v 0) none])) env st) = .ok (!xs.all (cellB rows len)) env st := by
        exact t_of (e_not (e_bi (es_cons l2 rfl) (by
          show (allD' _).map _ = _
          rw [allD'_map]; rfl)))
      cases h2 : xs.all (cellB rows len) with
      | false =>
        rw [xb_if_ret b2 (by rw [h2]; rfl) (d := .bl false) (o := false) (env2 := env) (st2 := st) rfl]
        show RC.ok _ _ _ = RC.ok (.bl (xs.all (cellB rows len) && _)) _ _
        rw [h2]; rfl
      | true =>
        rw [xb_if_no b2 (by rw [h2]; rfl)]
        obtain ⟨h3, h4⟩ := cells_inv h2
        generalize hps : xs.map toC = ps at h3 h4
        have es : goodLot rows len (.tup xs) = incB ps := by
          show (xs.all (cellB rows len) && incB (xs.map toC)) = _
          rw [h2, hps]; rfl
        rw [es]
        have fl : xs.all flatInts = true := by
          rw [h3, List.all_eq_true]
          intro x hx
          obtain ⟨p, hp, rfl⟩ := List.mem_map.mp hx
          obtain ⟨a, b, c, d⟩ := h4 p hp
          simp [cD, flatInts]
          omega
        have ss : sortSetD xs = some (.lst ((sortC (dedC [] ps)).map cD), true) := by
          unfold sortSetD
          have e3 := dedup_c (qs := ps) (seen := [])
          rw [List.map_nil] at e3
          rw [fl, h3, e3, isort_c]
          have : decide ((ps.map cD).length < 64) = true := by rw [← h3]; simpa using wx
          rw [this]; rfl
        have eqq : cmpop .eq (.lst xs) (.lst ((sortC (dedC [] ps)).map cD)) = some (incB ps) := by
          have hdd : D.deps xs + 1 ≤ 50 := hd
          have := deps_c (qs := sortC (dedC [] ps))
          simp only [cmpop, D.pl, D.dep, plx, pls_c]
          rw [if_pos (by simp; omega)]
          show some (deqs xs _) = _
          rw [h3, deqs_c, ← incB_sort]
        simp [exB, exS, ev, cmpF, bifF, evs, R.bind, getS, lift, bifn, ss, eqq, env, fin]
  | bl i => rfl
  | non => rfl
  | str => rfl
  | int => rfl
  | lst => rfl
  | _ => cases hv
theorem at0 {a : D} {xs : List D} : atIx (a :: xs) 0 = some a :=
  (atIx_of (by omega) (by simp <;> omega)).trans rfl
theorem at1 {a b : D} {xs : List D} : atIx (a :: b :: xs) 1 = some b :=
  (atIx_of (by omega) (by simp <;> omega)).trans rfl
theorem at2 {a b c : D} {xs : List D} : atIx (a :: b :: c :: xs) 2 = some c :=
  (atIx_of (by omega) (by simp <;> omega)).trans rfl
theorem at3 {a b c d : D} {xs : List D} : atIx (a :: b :: c :: d :: xs) 3 = some d :=
  (atIx_of (by omega) (by simp <;> omega)).trans rfl
theorem at4 {a b c d e : D} {xs : List D} : atIx (a :: b :: c :: d :: e :: xs) 4 = some e :=
  (atIx_of (by omega) (by simp <;> omega)).trans rfl
theorem ixt {st : Pi.Sto} {xs : List D} {i : Int} {y : D} (h : atIx xs i = some y) : ixF st (.tup xs) (.int i) = some (y, false) := by
  show ((atIx xs i).map fun d => (d, false)) = _
  rw [h]; rfl
theorem ixl {st : Pi.Sto} {xs : List D} {i : Int} {y : D} (h : atIx xs i = some y) : ixF st (.lst xs) (.int i) = some (y, false) := by
  show ((atIx xs i).map fun d => (d, false)) = _
  rw [h]; rfl
theorem wide_pair {x : D} : wideB x 2 2 = pairB x := by
  cases x with
  | tup xs =>
    show (decide ((2 : Int) ≤ xs.length) && decide ((xs.length : Int) ≤ 2)) = (xs.length == 2)
    rw [Bool.eq_iff_iff, Bool.and_eq_true, decide_eq_true_eq, decide_eq_true_eq, beq_iff_eq]
    omega
  | _ => rfl
def adj : Cs → List ((Int × Int) × (Int × Int))
  | [] => []
  | p :: r => match r with
    | [] => []
    | q :: _ => (p, q) :: adj r
theorem zip_adj : ∀ {ps : Cs}, zipD (ps.map cD) ((ps.map cD).drop 1) = (adj ps).map fun pq => .tup [cD pq.1, cD pq.2]
  | [] => rfl
  | [p] => rfl
  | p :: q :: r => by
    show D.tup [cD p, cD q] :: zipD ((q :: r).map cD) (((q :: r).map cD).drop 1) = _
    rw [zip_adj]; rfl
theorem incB_adj : ∀ {ps : Cs}, incB ps = (adj ps).all fun pq => pltB pq.1 pq.2
  | [] => rfl
  | [p] => rfl
  | p :: q :: r => by
    show (pltB p q && incB (q :: r)) = _
    rw [incB_adj]; rfl
theorem adj_len : ∀ {ps : Cs}, (adj ps).length ≤ ps.length
  | [] => Nat.le_refl _
  | [p] => Nat.zero_le _
  | p :: q :: r => by
    show (adj (q :: r)).length + 1 ≤ _
    have := adj_len (ps := q :: r)
    simp at this ⊢
    omega
theorem pls_const {α : Type} {xs : List α} : D.pls (xs.map fun _ => D.int 1) = true := by
  induction xs with
  | nil => rfl
  | cons x xs ih => exact ih
theorem eq_nil {xs : List D} (h : D.pls xs = true) : cmpop .eq (.lst xs) (.lst []) = some xs.isEmpty := by
  show (if (D.pls xs && true && decide (min (D.deps xs + 1) 1 ≤ 60)) = true then some (deqs xs []) else none) = _
  rw [h, if_pos (by simp <;> omega)]
  cases xs <;> rfl
abbrev VV (v : D) : Prop := Vk 63 50 v
theorem VV.mem {xs : List D} {x : D} (h : VV (.tup xs)) (hx : x ∈ xs) : VV x := by
  obtain ⟨j, hj, _, h2⟩ := h.inv
  exact (h2 x hx).mono (Nat.le_refl _) (by omega)
theorem VV.len {xs : List D} (h : VV (.tup xs)) : xs.length ≤ 63 := by
  obtain ⟨j, hj, h1, h2⟩ := h.inv
  exact h1
theorem f2v {n : Nat} {v : D} {rows len : Int} {st : Pi.Sto} (hv : VV v) (hr : rows ≤ 63) (hln : len ≤ 63) : call (n + 2) 2 [v, .int rows, .int len] st = .ok (.bl (goodLot rows len v)) false st := f2 hv.pl hv.dp (by have := hv.wd; omega) hr hln
def goodRd (rows len : Int) : D → Bool
  | .tup [p, a, b] => within p 2 3 && (goodLot rows len a && goodLot rows len b)
  | _ => false
def goodPair (rows len : Int) : D → Bool
  | .tup [a, b] => goodLot rows len a && goodLot rows len b
  | _ => false
def lenB (n : Nat) (lo hi : Int) : Bool := !decide ((n : Int) < lo) && !decide (hi < (n : Int))
def goodRds (rows len : Int) : D → Bool
  | .tup rs => lenB rs.length 1 3 && rs.all (goodRd rows len)
  | _ => false
def numOf : D → Int
  | .int i => i
  | _ => 0
def goodS : D → Bool
  | .tup [r, l, b, rs, a] => (within r 1 3 && within l 1 3) && (goodPair (numOf r) (numOf l) b && (goodRds (numOf r) (numOf l) rs && goodLot (numOf r) (numOf l) a))
  | _ => false
theorem len_ne {xs : List D} {k : Nat} (h : xs.length ≠ k) : ((xs.length : Int) == (k : Int)) = false := by
  rw [beq_eq_false_iff_ne]
  omega
theorem within_inv {v : D} {lo hi : Int} (h : within v lo hi = true) : ∃ i, v = .int i ∧ lo ≤ i ∧ i ≤ hi := by
  cases v with
  | int i =>
    have h : (decide (lo ≤ i) && decide (i ≤ hi)) = true := h
    rw [Bool.and_eq_true, decide_eq_true_eq, decide_eq_true_eq] at h
    exact ⟨i, rfl, h.1, h.2⟩
  | _ => cases h
theorem len3 {xs : List D} (h : xs.length = 3) : ∃ a b c, xs = [a, b, c] := by
  match xs, h with
  | [a, b, c], _ => exact ⟨a, b, c, rfl⟩
theorem len5 {xs : List D} (h : xs.length = 5) : ∃ a b c d e, xs = [a, b, c, d, e] := by
  match xs, h with
  | [a, b, c, d, e], _ => exact ⟨a, b, c, d, e, rfl⟩
theorem goodRd_len {rows len : Int} {xs : List D} (h : xs.length ≠ 3) : goodRd rows len (.tup xs) = false := by
  match xs with
  | [] => rfl
  | [_] => rfl
  | [_, _] => rfl
  | [a, b, c] => exact absurd rfl h
  | _ :: _ :: _ :: _ :: _ => rfl
theorem goodS_len {xs : List D} (h : xs.length ≠ 5) : goodS (.tup xs) = false := by
  match xs with
  | [] => rfl
  | [_] => rfl
  | [_, _] => rfl
  | [_, _, _] => rfl
  | [_, _, _, _] => rfl
  | [a, b, c, _, _] => exact absurd rfl h
  | _ :: _ :: _ :: _ :: _ :: _ :: _ => rfl
theorem isTup_inv {v : D} (h : isTup v = true) : ∃ xs, v = .tup xs := by
  cases v <;> first | exact ⟨_, rfl⟩ | cases h
theorem f3 {n : Nat} {v : D} {rows len : Int} {st : Pi.Sto} (hv : VV v) (hr : rows ≤ 63) (hln : len ≤ 63) : call (n + 3) 3 [v, .int rows, .int len] st = .ok (.bl (goodRd rows len v)) false st := by
  cases ht : isTup v with
  | false =>
    have : goodRd rows len v = false := by cases v <;> first | rfl | cases ht
    rw [this]
    exact call_ret (fn := c_is_round) rfl rfl (b_ifR (e_or (q := true) (e_not (e_isT rfl hv.pl)) fun h => by rw [ht] at h; cases h) (by rw [ht]; rfl) (b_ret rfl rfl))
  | true =>
    obtain ⟨xs, rfl⟩ := isTup_inv ht
    by_cases h3 : xs.length = 3
    · obtain ⟨p, a, b, rfl⟩ := len3 h3
      have vp : VV p := hv.mem (by simp)
      have va : VV a := hv.mem (by simp)
      have vb : VV b := hv.mem (by simp)
      let env : Pi.Env := [A (.tup [p, a, b]), A (.int rows), A (.int len)]
      have c1 : ev cd.G (call (n + 2)) true (.or (.not (.bi .isinst [.v 0, .g (.ty "tuple")])) (.or (.cmp .ne (.bi .len [.v 0]) (.k (.int 3))) (.not (.call 0 [.ix (.v 0) (.k (.int 0)), .k (.int 2), .k (.int 3)])))) env st = .ok (.bl (!true || (!true || !within p 2 3)), false) env st :=
        e_or (e_not (e_isT rfl hv.pl)) fun _ => e_or (e_cmp rfl rfl rfl) fun _ => e_not (e_call (ds := [p, .int 2, .int 3]) (es_cons (e_ix rfl rfl (ixt at0)) rfl) (f0 vp.pl))
      cases h1 : within p 2 3 with
      | false =>
        have : goodRd rows len (.tup [p, a, b]) = false := by
          show (within p 2 3 && _) = _
          rw [h1]; rfl
        rw [this]
        exact call_ret (fn := c_is_round) rfl rfl (b_ifR c1 (by rw [h1]; rfl) (b_ret rfl rfl))
      | true =>
        have : goodRd rows len (.tup [p, a, b]) = (goodLot rows len a && goodLot rows len b) := by
          show (within p 2 3 && _) = _
          rw [h1]; rfl
        rw [this]
        exact call_ret (fn := c_is_round) rfl rfl (env1 := env) ((b_ifF c1 (by rw [h1]; rfl)).trans (b_ret rfl (e_and (e_call (ds := [a, .int rows, .int len]) (es_cons (e_ix rfl rfl (ixt at1)) rfl) (f2v va hr hln)) fun _ => (e_call (ds := [b, .int rows, .int len]) (es_cons (e_ix rfl rfl (ixt at2)) rfl) (f2v vb hr hln)))))
    · rw [goodRd_len h3]
      exact call_ret (fn := c_is_round) rfl rfl (b_ifR (e_or (q := true || true) (e_not (e_isT rfl hv.pl)) fun _ => e_or (e_cmp rfl rfl (by
        show some (!((xs.length : Int) == ((3 : Nat) : Int))) = _
        rw [len_ne h3]; rfl)) fun z => by cases z) rfl (b_ret rfl rfl))
theorem f4 {n : Nat} {v : D} {st : Pi.Sto} (hv : VV v) : call (n + 4) 4 [v] st = .ok (.bl (goodS v)) false st := by
  cases ht : isTup v with
  | false =>
    have : goodS v = false := by cases v <;> first | rfl | cases ht
    rw [this]
    exact call_ret (fn := c_is_right_script) rfl rfl (b_ifR (e_or (q := true) (e_not (e_isT rfl hv.pl)) fun h => by rw [ht] at h; cases h) (by rw [ht]; rfl) (b_ret rfl rfl))
  | true =>
  obtain ⟨xs, rfl⟩ := isTup_inv ht
  by_cases h5 : xs.length = 5
  case neg =>
    rw [goodS_len h5]
    exact call_ret (fn := c_is_right_script) rfl rfl (b_ifR (e_or (q := true) (e_not (e_isT rfl hv.pl)) fun _ => (e_cmp rfl rfl (by
        show some (!((xs.length : Int) == ((5 : Nat) : Int))) = _
        rw [len_ne h5]; rfl))) rfl (b_ret rfl rfl))
  case pos =>
  obtain ⟨r, l, b, rs, a, rfl⟩ := len5 h5
  have vr : VV r := hv.mem (by simp)
  have vl : VV l := hv.mem (by simp)
  have vb : VV b := hv.mem (by simp)
  have vs : VV rs := hv.mem (by simp)
  have va : VV a := hv.mem (by simp)
  let env : Pi.Env := [A (.tup [r, l, b, rs, a]), A r, A l, A b, A rs, A a, none]
  have c1 : ev cd.G (call (n + 3)) true (.or (.not (.bi .isinst [.v 0, .g (.ty "tuple")])) (.cmp .ne (.bi .len [.v 0]) (.k (.int 5)))) [A (.tup [r, l, b, rs, a]), none, none, none, none, none, none] st = .ok (.bl (!true || !true), false) [A (.tup [r, l, b, rs, a]), none, none, none, none, none, none] st :=
    e_or (e_not (e_isT rfl hv.pl)) fun _ => e_cmp rfl rfl rfl
  have c2 : ev cd.G (call (n + 3)) true (.or (.not (.call 0 [.v 1, .k (.int 1), .k (.int 3)])) (.not (.call 0 [.v 2, .k (.int 1), .k (.int 3)]))) env st = .ok (.bl (!within r 1 3 || !within l 1 3), false) env st :=
    e_or (e_not (e_call (ds := [r, .int 1, .int 3]) rfl (f0 vr.pl))) fun _ => e_not (e_call (ds := [l, .int 1, .int 3]) rfl (f0 vl.pl))
  have start : ∀ {res : R Pi.Flow}, exB cd.G (call (n + 3)) 300 (c_is_right_script.body.drop 2) env st = res → exB cd.G (call (n + 3)) 300 c_is_right_script.body [A (.tup [r, l, b, rs, a]), none, none, none, none, none, none] st = res := by
    rintro _ rfl
    exact (b_ifF c1 rfl).trans (b_asg (env1 := [A (.tup [r, l, b, rs, a]), none, none, none, none, none, none]) (p := (.tup [r, l, b, rs, a], false)) rfl rfl)
  have es : goodS (.tup [r, l, b, rs, a]) = ((within r 1 3 && within l 1 3) && (goodPair (numOf r) (numOf l) b && (goodRds (numOf r) (numOf l) rs && goodLot (numOf r) (numOf l) a))) := rfl
  cases h1 : within r 1 3 with
  | false =>
    rw [es, h1]
    exact call_ret (fn := c_is_right_script) rfl rfl (start (b_ifR c2 (by rw [h1]; rfl) (b_ret rfl rfl)))
  | true =>
  cases h2 : within l 1 3 with
  | false =>
    rw [es, h1, h2]
    exact call_ret (fn := c_is_right_script) rfl rfl (start (b_ifR c2 (by rw [h1, h2]; rfl) (b_ret rfl rfl)))
  | true =>
  rw [es, h1, h2]
  obtain ⟨ri, rfl, r1, r2⟩ := within_inv h1
  obtain ⟨li, rfl, l1, l2⟩ := within_inv h2
  show _ = RC.ok (.bl (goodPair ri li b && (goodRds ri li rs && goodLot ri li a))) false st
  have c3 : ev cd.G (call (n + 3)) true (.or (.not (.call 1 [.v 3])) (.or (.not (.call 2 [.ix (.v 3) (.k (.int 0)), .v 1, .v 2])) (.not (.call 2 [.ix (.v 3) (.k (.int 1)), .v 1, .v 2])))) env st = .ok (.bl (!pairB b || !goodPair ri li b), false) env st := by
    refine e_or (e_not (e_call (ds := [b]) rfl (f1 vb.pl))) fun h => ?_
    obtain ⟨x, y, rfl⟩ := pairB_of (x := b) (by simpa using h)
    have e : (!goodPair ri li (.tup [x, y])) = (!goodLot ri li x || !goodLot ri li y) := Bool.not_and _ _
    rw [e]
    exact e_or (e_not (e_call (ds := [x, .int ri, .int li]) (es_cons (e_ix rfl rfl (ixt at0)) rfl) (f2v (vb.mem (by simp)) (by omega) (by omega)))) fun _ => e_not (e_call (ds := [y, .int ri, .int li]) (es_cons (e_ix rfl rfl (ixt at1)) rfl) (f2v (vb.mem (by simp)) (by omega) (by omega)))
  cases h3 : goodPair ri li b with
  | false => exact call_ret (fn := c_is_right_script) rfl rfl (start ((b_ifF c2 (by rw [h1, h2]; rfl)).trans (b_ifR c3 (by rw [h3]; simp) (b_ret rfl rfl))))
  | true =>
  have pb : pairB b = true := by
    cases hp : pairB b with
    | true => rfl
    | false =>
      unfold goodPair at h3
      split at h3
      · cases hp
      · cases h3
  have start3 : ∀ {res : R Pi.Flow}, exB cd.G (call (n + 3)) 300 (c_is_right_script.body.drop 4) env st = res → exB cd.G (call (n + 3)) 300 c_is_right_script.body [A (.tup [.int ri, .int li, b, rs, a]), none, none, none, none, none, none] st = res := by
    rintro _ rfl
    exact start ((b_ifF c2 (by rw [h1, h2]; rfl)).trans (b_ifF c3 (by rw [pb, h3]; rfl)))
  cases hs : isTup rs with
  | false =>
    have : goodRds ri li rs = false := by cases rs <;> first | rfl | cases hs
    rw [this]
    exact call_ret (fn := c_is_right_script) rfl rfl (start3 (b_ifR (e_or (q := true) (e_not (e_isT rfl vs.pl)) fun h => by rw [hs] at h; cases h) (by rw [hs]; rfl) (b_ret rfl rfl)))
  | true =>
  obtain ⟨ys, rfl⟩ := isTup_inv hs
  have c4 : ev cd.G (call (n + 3)) true (.or (.not (.bi .isinst [.v 4, .g (.ty "tuple")])) (.not (.chn .le .le (.k (.int 1)) (.bi .len [.v 4]) (.k (.int 3))))) env st = .ok (.bl (!true || !lenB ys.length 1 3), false) env st :=
    e_or (e_not (e_isT rfl vs.pl)) fun _ => e_not (e_chn rfl rfl rfl (fun _ => rfl) fun _ => rfl)
  have er : goodRds ri li (.tup ys) = (lenB ys.length 1 3 && ys.all (goodRd ri li)) := rfl
  rw [er]
  cases h4 : lenB ys.length 1 3 with
  | false => exact call_ret (fn := c_is_right_script) rfl rfl (start3 (b_ifR c4 (by rw [h4]; rfl) (b_ret rfl rfl)))
  | true =>
  have szy : szOk ys.length = true := by
    have := vs.len
    simp [szOk]; omega
  have hl := lc_map (G := cd.G) (cl := call (n + 3)) (st := st) (elt := .call 3 [.v 6, .v 1, .v 2]) (tg := .n 6) (env0 := env) (f := fun x => .bl (goodRd ri li x)) (xs := ys) (fun x hx =>
    ⟨[A (.tup [.int ri, .int li, b, .tup ys, a]), A (.int ri), A (.int li), A b, A (.tup ys), A a, A x], false, rfl, e_call (ds := [x, .int ri, .int li]) rfl (f3 (vs.mem hx) (by omega) (by omega)), rfl⟩)
  have hlc := e_lc (bw := true) (it := .v 4) (env := env) (env1 := env) (env3 := env) (st := st) (x := .tup ys) (o := false) rfl rfl szy hl rfl
  refine call_ret (fn := c_is_right_script) rfl rfl (start3 ((b_ifF c4 (by rw [h4]; rfl)).trans (b_ret (env1 := env) rfl ?_)))
  exact e_and (p := ys.all (goodRd ri li)) (e_bi (es_cons hlc rfl) (by
    show (allD' _).map _ = _
    rw [allD'_map]; rfl)) fun _ => e_call (ds := [a, .int ri, .int li]) rfl (f2v va (by omega) (by omega))
/-- not this snip -/
def nq (x : D) (y : D) : Bool := !deq y x
theorem VV_lot {rows len : Int} {cs : Cs} (h : LotOk rows len cs) : Vk 9 2 (lotD cs) := Vk.tup (k := 1) (fun x hx => by
  obtain ⟨p, _, rfl⟩ := List.mem_map.mp hx
  exact ⟨rfl, Nat.le_trans (show wid (cD p) ≤ 2 from Nat.le_refl _) (by omega), Nat.le_refl 1⟩) (by rw [List.length_map]; exact h.few)
theorem vk_int {w k : Nat} {i : Int} : Vk w k (.int i) := ⟨rfl, Nat.zero_le _, Nat.zero_le _⟩
theorem Scp.vk {s : Scp} (h : s.Ok) : Vk 9 5 s.d := by
  have hm : ∀ {d : D} {w k : Nat}, Vk w k d → w ≤ 9 → k ≤ 4 → Vk 9 4 d := fun v a b => v.mono a b
  refine Vk.tup (k := 4) (fun x hx => ?_) (by simp)
  simp only [List.mem_cons, List.not_mem_nil, or_false] at hx
  rcases hx with rfl | rfl | rfl | rfl | rfl
  · exact vk_int
  · exact vk_int
  · refine hm (Vk.tup (k := 2) (w := 9) (fun x hx => ?_) (by simp)) (by omega) (by omega)
    simp only [List.mem_cons, List.not_mem_nil, or_false] at hx
    rcases hx with rfl | rfl
    · exact VV_lot h.b1
    · exact VV_lot h.b2
  · refine Vk.tup (k := 3) (w := 9) (fun x hx => ?_) (by rw [List.length_map]; have := h.few; omega)
    obtain ⟨r, hr, rfl⟩ := List.mem_map.mp hx
    have ⟨_, h1, h2⟩ := h.rds r hr
    refine Vk.tup (k := 2) (w := 9) (fun x hx => ?_) (by simp)
    simp only [List.mem_cons, List.not_mem_nil, or_false] at hx
    rcases hx with rfl | rfl | rfl
    · exact vk_int
    · exact VV_lot h1
    · exact VV_lot h2
  · exact hm (VV_lot h.aft) (by omega) (by omega)
theorem Scp.vv {s : Scp} (h : s.Ok) : VV s.d := (s.vk h).mono (by omega) (by omega)
theorem within_int {i lo hi : Int} (h : lo ≤ i ∧ i ≤ hi) : within (.int i) lo hi = true := by
  show (decide (lo ≤ i) && decide (i ≤ hi)) = true
  simp [h]
theorem Scp.good {s : Scp} (h : s.Ok) : goodS s.d = true := by
  show ((within (.int s.rows) 1 3 && within (.int s.len) 1 3) && (goodPair s.rows s.len (.tup [lotD s.b1, lotD s.b2]) && (goodRds s.rows s.len (.tup (s.rds.map rdD)) && goodLot s.rows s.len (lotD s.aft)))) = true
  rw [within_int h.rows, within_int h.len, goodLot_of h.aft.lot]
  have e1 : goodPair s.rows s.len (.tup [lotD s.b1, lotD s.b2]) = true := by
    show (goodLot _ _ _ && goodLot _ _ _) = true
    rw [goodLot_of h.b1.lot, goodLot_of h.b2.lot]; rfl
  have e2 : goodRds s.rows s.len (.tup (s.rds.map rdD)) = true := by
    show (lenB (s.rds.map rdD).length 1 3 && (s.rds.map rdD).all _) = true
    rw [Bool.and_eq_true]
    constructor
    · have := h.some
      have := h.few
      simp [lenB]
      omega
    · rw [List.all_eq_true]
      intro x hx
      obtain ⟨r, hr, rfl⟩ := List.mem_map.mp hx
      have ⟨h0, h1, h2⟩ := h.rds r hr
      show (within (.int r.1) 2 3 && (goodLot _ _ (lotD r.2.1) && goodLot _ _ (lotD r.2.2))) = true
      rw [within_int h0, goodLot_of h1.lot, goodLot_of h2.lot]; rfl
  rw [e1, e2]; rfl
abbrev env12 (s : Scp) (x : D) (s2 s3 s4 : Slot) : Pi.Env := [A s.d, A x, s2, s3, s4, A (.int s.rows), A (.int s.len), A (.tup [lotD s.b1, lotD s.b2]), A (.tup (s.rds.map rdD)), A (lotD s.aft)]
theorem gt_int {a b : Int} : cmpop .gt (.int a) (.int b) = some (decide (b < a)) := rfl
theorem eq_int {a b : Int} : cmpop .eq (.int a) (.int b) = some (a == b) := rfl
theorem f5 {n : Nat} {v : D} {st : Pi.Sto} (hv : VV v) (hg : goodS v = true) : call (n + 5) 5 [v] st = .ok .non false st :=
  call_nx (fn := c_need_script) rfl rfl ((b_ifF (e_not (e_call (ds := [v]) rfl (f4 hv))) (by rw [hg]; rfl)).trans rfl)
theorem f5x {n : Nat} {v : D} {st : Pi.Sto} (hv : VV v) (hg : goodS v = false) : call (n + 5) 5 [v] st = .ex 34 .non st :=
  call_exc (fn := c_need_script) rfl rfl (b_ifX (e_not (e_call (ds := [v]) rfl (f4 hv))) (by rw [hg]; rfl) rfl)
theorem f6 {n : Nat} {v : D} {m : Int} {st : Pi.Sto} (hv : v.pl = true) (hg : within v 0 m = true) : call (n + 2) 6 [v, .int m] st = .ok .non false st :=
  call_nx (fn := c_need_rounds) rfl rfl ((b_ifF (e_not (e_call (ds := [v, .int 0, .int m]) rfl (f0 hv))) (by rw [hg]; rfl)).trans rfl)
theorem f6x {n : Nat} {v : D} {m : Int} {st : Pi.Sto} (hv : v.pl = true) (hg : within v 0 m = false) : call (n + 2) 6 [v, .int m] st = .ex 35 .non st :=
  call_exc (fn := c_need_rounds) rfl rfl (b_ifX (e_not (e_call (ds := [v, .int 0, .int m]) rfl (f0 hv))) (by rw [hg]; rfl) rfl)
theorem len4 {xs : List D} (h : xs.length = 4) : ∃ a b c d, xs = [a, b, c, d] := by
  match xs, h with
  | [a, b, c, d], _ => exact ⟨a, b, c, d, rfl⟩
theorem dmem_of {x : D} (hx : deq x x = true) : ∀ {xs : List D}, x ∈ xs → dmem x xs = true
  | [], h => by cases h
  | y :: ys, h => by
    show (deq y x || dmem x ys) = true
    rcases List.mem_cons.mp h with rfl | h
    · rw [hx]; rfl
    · rw [dmem_of hx h, Bool.or_true]
theorem dmem_no {x : D} : ∀ {xs : List D}, (∀ y ∈ xs, deq y x = false) → dmem x xs = false
  | [], h => rfl
  | y :: ys, h => by
    show (deq y x || dmem x ys) = false
    rw [h y List.mem_cons_self, dmem_no fun z hz => h z (List.mem_cons_of_mem _ hz)]; rfl
def Scp.part (s : Scp) (k : Nat) : Int := ((s.rds[k % s.rds.length]?).map (·.1)).getD 0
theorem Scp.part_ok {s : Scp} (h : s.Ok) (k : Nat) : (2 ≤ s.part k ∧ s.part k ≤ 3) ∧ ∃ r, s.rds[k % s.rds.length]? = some r ∧ r.1 = s.part k := by
  have hl : k % s.rds.length < s.rds.length := Nat.mod_lt _ h.some
  have e : s.rds[k % s.rds.length]? = some s.rds[k % s.rds.length] := List.getElem?_eq_getElem hl
  have : s.part k = (s.rds[k % s.rds.length]).1 := by
    unfold Scp.part
    rw [e]; rfl
  exact ⟨this ▸ (h.rds _ (List.getElem_mem hl)).1, _, e, this.symm⟩
theorem ix_part {s : Scp} (h : s.Ok) {k : Nat} : ∃ r, atIx (s.rds.map rdD) ((k : Int) % (s.rds.map rdD).length) = some (rdD r) ∧ r.1 = s.part k := by
  obtain ⟨_, r, e, hr⟩ := s.part_ok h k
  have hl : k % s.rds.length < s.rds.length := Nat.mod_lt _ h.some
  refine ⟨r, ?_, hr⟩
  rw [List.length_map, ← Int.natCast_emod, atIx_of (by omega) (by rw [List.length_map]; omega), List.getElem?_map]
  have : ((k % s.rds.length : Nat) : Int).toNat = k % s.rds.length := by omega
  rw [this, e]; rfl
theorem mod_op {s : Scp} (h : s.Ok) {i : Int} : binop .mod (.int i) (.int (s.rds.map rdD).length) = some (.int (i % (s.rds.map rdD).length), false) := by
  show (if decide (0 < _) = true then _ else _) = _
  rw [if_pos]
  have := h.some
  simp
  omega
theorem f7 {n k : Nat} {s : Scp} {st : Pi.Sto} (h : s.Ok) : call (n + 1) 7 [s.d, .int ((k : Int) + 1)] st = .ok (.int (s.part k)) false st := by
  obtain ⟨r, e, hr⟩ := ix_part h (k := k)
  rw [← hr]
  have e' : atIx (s.rds.map rdD) (((k : Int) + 1 - 1) % (s.rds.map rdD).length) = some (rdD r) := by
    rw [← e]
    congr 1
    rw [Int.add_sub_cancel]
  refine call_ret (fn := c_parts_at) rfl rfl ((b_asg (p := (.tup (s.rds.map rdD), false)) (e_ix rfl rfl (ixt at3)) rfl).trans (b_ret rfl (e_ix (e_ix rfl (e_bin (e_bin rfl rfl rfl) (e_bi (es_cons rfl es_nil) rfl) (mod_op h)) (ixt e')) rfl (ixt at0))))
theorem f24 {n k : Nat} {s : Scp} {st : Pi.Sto} (h : s.Ok) : call (n + 1) 24 [s.d, .int ((k : Int) + 1)] st = .ok (.int (s.part k)) false st := by
  obtain ⟨r, e, hr⟩ := ix_part h (k := k)
  rw [← hr]
  have e' : atIx (s.rds.map rdD) (((k : Int) + 1 - 1) % (s.rds.map rdD).length) = some (rdD r) := by
    rw [← e]
    congr 1
    rw [Int.add_sub_cancel]
  refine call_ret (fn := c_law_folds_into) rfl rfl (b_ret rfl (e_ix (e_ix (e_ix rfl rfl (ixt at3)) (e_bin (e_bin rfl rfl rfl) (e_bi (es_cons (e_ix rfl rfl (ixt at3)) es_nil) rfl) (mod_op h)) (ixt e')) rfl (ixt at0)))
def Scp.prod (s : Scp) : Nat → Nat → Int → Int
  | 0, _, a => a
  | m + 1, k, a => Scp.prod s m (k + 1) (a * s.part k)
theorem Scp.prod_mul {s : Scp} : ∀ {m k : Nat} {a b : Int}, s.prod m k (a * b) = a * s.prod m k b
  | 0, _, _, _ => rfl
  | m + 1, k, a, b => by
    show s.prod m (k + 1) (a * b * s.part k) = a * s.prod m (k + 1) (b * s.part k)
    rw [Int.mul_assoc, Scp.prod_mul]
theorem mul_part {s : Scp} (h : s.Ok) {a : Int} {k : Nat} : binop .mul (.int a) (.int (s.part k)) = some (.int (a * s.part k), false) := by
  obtain ⟨⟨h1, h2⟩, _⟩ := s.part_ok h k
  have : bigOk (s.part k) = true := by
    simp [bigOk]
    omega
  show (if (bigOk a || bigOk (s.part k)) = true then _ else _) = _
  rw [this, Bool.or_true, if_pos rfl]
theorem go8 {n : Nat} {s : Scp} {x : D} {st : Pi.Sto} (h : s.Ok) : ∀ (m k : Nat) (a : Int) (s3 : Slot), ∃ t3, forGo (fStep cd.G (call (n + 1)) 300 (.n 3) [.asg (.n 2) (.bin .mul (.v 2) (.call 7 [.v 0, .v 3]))]) (rangeD ((k : Int) + 1) m) [A s.d, A x, A (.int a), s3] st = .ok .nx [A s.d, A x, A (.int (s.prod m k a)), t3] st
  | 0, k, a, s3 => ⟨s3, rfl⟩
  | m + 1, k, a, s3 => by
    obtain ⟨t3, hf⟩ := go8 (n := n) (x := x) (st := st) h m (k + 1) (a * s.part k) (A (.int ((k : Int) + 1)))
    refine ⟨t3, ?_⟩
    show (fStep _ _ _ _ _ _ _ _).bind _ = _
    have step : fStep cd.G (call (n + 1)) 300 (.n 3) [.asg (.n 2) (.bin .mul (.v 2) (.call 7 [.v 0, .v 3]))] (.int ((k : Int) + 1)) [A s.d, A x, A (.int a), s3] st = .ok .nx [A s.d, A x, A (.int (a * s.part k)), A (.int ((k : Int) + 1))] st :=
      (b_asg (e_bin (x := .int a) (y := .int (s.part k)) rfl (e_call (ds := [s.d, .int ((k : Int) + 1)]) rfl (f7 h)) (mul_part h)) rfl).trans rfl
    rw [step]
    exact hf
theorem go31 {n : Nat} {s : Scp} {x : D} {st : Pi.Sto} (h : s.Ok) : ∀ (m k : Nat) (a : Int) (s3 : Slot), ∃ t3, forGo (fStep cd.G (call (n + 1)) 300 (.n 3) [.asg (.n 2) (.bin .mul (.v 2) (.call 24 [.v 0, .bin .add (.v 3) (.k (.int 1))]))]) (rangeD (k : Int) m) [A s.d, A x, A (.int a), s3] st = .ok .nx [A s.d, A x, A (.int (s.prod m k a)), t3] st
  | 0, k, a, s3 => ⟨s3, rfl⟩
  | m + 1, k, a, s3 => by
    obtain ⟨t3, hf⟩ := go31 (n := n) (x := x) (st := st) h m (k + 1) (a * s.part k) (A (.int (k : Int)))
    refine ⟨t3, ?_⟩
    show (fStep _ _ _ _ _ _ _ _).bind _ = _
    have step : fStep cd.G (call (n + 1)) 300 (.n 3) [.asg (.n 2) (.bin .mul (.v 2) (.call 24 [.v 0, .bin .add (.v 3) (.k (.int 1))]))] (.int (k : Int)) [A s.d, A x, A (.int a), s3] st = .ok .nx [A s.d, A x, A (.int (a * s.part k)), A (.int (k : Int))] st :=
      (b_asg (e_bin (x := .int a) (y := .int (s.part k)) rfl (e_call (ds := [s.d, .int ((k : Int) + 1)]) rfl (f24 h)) (mul_part h)) rfl).trans rfl
    rw [step]
    exact hf
theorem small_nat {m : Nat} (h : m ≤ 1000000) : small (m : Int) = true := by
  simp [small]
  omega
theorem f8 {n m : Nat} {s : Scp} {st : Pi.Sto} (h : s.Ok) (hm : m ≤ 1000) : call (n + 2) 8 [s.d, .int m] st = .ok (.int (s.prod m 0 1)) false st := by
  obtain ⟨t3, hf⟩ := go8 (n := n) (x := .int m) (st := st) h m 0 1 none
  refine call_ret (fn := c_folds_in) rfl rfl ((b_asg (p := (.int 1, false)) rfl rfl).trans ((b_nx ((s_for (x := .lst (rangeD 1 m)) (e_rng (ds := [.int 1, .int ((m : Int) + 1)]) (es_cons rfl (es_cons (e_bin rfl rfl rfl) es_nil)) ?_) rfl).trans hf)).trans (b_retv rfl)))
  show (if (small 1 && small ((m : Int) + 1)) = true then some (D.lst (rangeD 1 (((m : Int) + 1 - 1)).toNat)) else none) = _
  have : small ((m : Int) + 1) = true := small_nat (m := m + 1) (by omega)
  rw [this, if_pos (by decide)]
  have : ((m : Int) + 1 - 1).toNat = m := by omega
  rw [this]
theorem f25 {n m : Nat} {s : Scp} {st : Pi.Sto} (h : s.Ok) (hm : m ≤ 1000) : call (n + 2) 25 [s.d, .int m] st = .ok (.int (s.len * s.prod m 0 1)) false st := by
  obtain ⟨t3, hf⟩ := go31 (n := n) (x := .int m) (st := st) h m 0 s.len none
  have e : s.prod m 0 s.len = s.len * s.prod m 0 1 := by
    rw [← Scp.prod_mul, Int.mul_one]
  rw [← e]
  refine call_ret (fn := c_law_columns) rfl rfl ((b_asg (p := (.int s.len, false)) (e_ix rfl rfl (ixt at1)) rfl).trans ((b_nx ((s_for (x := .lst (rangeD 0 m)) (e_rng (ds := [.int m]) rfl ?_) rfl).trans hf)).trans (b_retv rfl)))
  show (if small (m : Int) = true then some (D.lst (rangeD 0 (m : Int).toNat)) else none) = _
  rw [small_nat (by omega), if_pos rfl]
  have : (m : Int).toNat = m := by omega
  rw [this]
theorem e_rfd {cl : Nat → List D → Pi.Sto → RC} {bw : Bool} {f c : Nat} {e : C} {env env1 : Pi.Env} {st st1 : Pi.Sto} {w : Str} (h : ev cd.G cl false e env st = .ex c .non env1 st1) (hw : cd.G.words c = some w) : ev cd.G cl bw (.rfd f e) env st = .ok (.str w, false) env1 st1 := by
  conv => lhs; unfold ev
  rw [h]
  show lift ((cd.G.words c).map _) env1 st1 = _
  rw [hw]; rfl
theorem e_cvx {cl : Nat → List D → Pi.Sto → RC} {bw o : Bool} {i f c : Nat} {es : List C} {ds : List D} {d : D} {env env1 : Pi.Env} {st st1 st2 : Pi.Sto} (hg : getS env i = some (.gl f, o)) (ha : (cd.G.ar f).isSome = true) (h : evs cd.G cl false es env st = .ok ds env1 st1) (h2 : cl f ds st1 = .ex c d st2) : ev cd.G cl bw (.cv i es) env st = .ex c d env1 st2 := by
  conv => lhs; unfold ev
  rw [hg]
  dsimp only
  rw [if_pos ha, h]
  show ofCall (cl f ds st1) env1 = _
  rw [h2]; rfl
theorem f21x {n f c : Nat} {a b : D} {st : Pi.Sto} {w : Str} (ha : (cd.G.ar f).isSome = true) (h : call n f [a, b] st = .ex c .non st) (hw : cd.G.words c = some w) : call (n + 1) 21 [.gl f, a, b] st = .ok (.str w) false st :=
  call_ret (fn := c_law_by_two) rfl rfl (b_ret rfl (e_rfd (e_cvx rfl ha (ds := [a, b]) rfl h) hw))
theorem for_inv {body : D → Pi.Env → Pi.Sto → R Pi.Flow} {I : Pi.Env → Pi.Sto → Prop} : ∀ {xs : List D} {env : Pi.Env} {st : Pi.Sto}, I env st → (∀ x ∈ xs, ∀ env st, I env st → ∃ env' st', body x env st = .ok .nx env' st' ∧ I env' st') → ∃ env' st', forGo body xs env st = .ok .nx env' st' ∧ I env' st'
  | [], env, st, h, _ => ⟨env, st, rfl, h⟩
  | x :: xs, env, st, h, hs => by
    obtain ⟨e1, s1, hb, i1⟩ := hs x List.mem_cons_self env st h
    obtain ⟨e2, s2, hf, i2⟩ := for_inv (xs := xs) i1 fun y hy => hs y (List.mem_cons_of_mem _ hy)
    refine ⟨e2, s2, ?_, i2⟩
    show (body x env st).bind _ = _
    rw [hb]
    exact hf
theorem deqs_self : ∀ {xs : List D}, (∀ x ∈ xs, deq x x = true) → deqs xs xs = true
  | [], _ => rfl
  | x :: xs, h => by
    show (deq x x && deqs xs xs) = true
    rw [h x List.mem_cons_self, deqs_self fun y hy => h y (List.mem_cons_of_mem _ hy)]; rfl
theorem ne_self {xs : List D} (h : ∀ x ∈ xs, deq x x = true) (h2 : ∀ x ∈ xs, x.pl = true ∧ x.dep ≤ 10) : cmpop .ne (.lst xs) (.lst xs) = some false := by
  have e1 := pls_all fun x hx => (h2 x hx).1
  have e2 := deps_le (w := 10) fun x hx => (h2 x hx).2
  show (if (D.pls xs && D.pls xs && decide (min (D.deps xs + 1) (D.deps xs + 1) ≤ 60)) = true then some (!deqs xs xs) else none) = _
  rw [e1, if_pos (by simp; omega), deqs_self h]; rfl
theorem e_isLst {cl : Nat → List D → Pi.Sto → RC} {bw : Bool} {i : Nat} {env : Pi.Env} {st : Pi.Sto} {xs : List D} {o : Bool} (hg : getS env i = some (.lst xs, o)) : ev cd.G cl bw (.bi .isinst [.v i, .g (.ty "list")]) env st = .ok (.bl true, false) env st := by
  refine e_bi (ds := [.lst xs, .ty "list"]) (env1 := env) (st1 := st) ?_ rfl
  simp [evs, ev, cmpF, bifF, hg, R.bind]
def env35 (l : Nat) (s : Scp) (due : Slot) (s3 s4 s5 s6 s7 s8 s9 s10 : Slot) : Pi.Env := [A (.ref l), A s.d, due, s3, s4, s5, s6, s7, s8, s9, s10, none]
theorem sl02 {a b c d e : D} : slice (.tup [a, b, c, d, e]) none (some 2) = some (.tup [a, b], false) := by
  show some (D.tup (cutBy [a, b, c, d, e] none (some 2)), false) = _
  rw [cut_lo (by omega)]; rfl
theorem parts_lc {n : Nat} {bw : Bool} {s' : Scp} (h : s'.Ok) {env : Pi.Env} {i : Nat} {st : Pi.Sto} (hl : env.length = 12) (h11 : env[11]? = some none) (hi : i ≠ 11) (hg : getS env i = some (s'.d, false)) : ev cd.G (call n) bw (.lc (.ix (.v 11) (.k (.int 0))) (.n 11) (.ix (.v i) (.k (.int 3))) none) env st = .ok (.lst (s'.rds.map fun r => .int r.1), true) env st := by
  have hset : ∀ s, (env.set 11 s).set 11 none = env := fun s => by
    rw [List.set_set]
    apply List.ext_getElem?
    intro j
    rw [List.getElem?_set]
    split
    · rename_i hj
      subst hj
      rw [h11]
      simp [hl]
    · rfl
  have hnone : env.set 11 none = env := by
    apply List.ext_getElem?
    intro j
    rw [List.getElem?_set]
    split
    · rename_i hj
      subst hj
      rw [h11]
      simp [hl]
    · rfl
  have hm := lc_map (G := cd.G) (cl := call n) (st := st) (elt := .ix (.v 11) (.k (.int 0))) (tg := .n 11) (env0 := env) (f := fun x => .int (numOf ((match x with | .tup [p, _, _] => p | _ => .non)))) (xs := s'.rds.map rdD) (fun x hx => by
    obtain ⟨r, _, rfl⟩ := List.mem_map.mp hx
    refine ⟨env.set 11 (A (rdD r)), false, ?_, ?_, ?_⟩
    · show (if 11 < env.length then _ else _) = _
      rw [if_pos (by omega)]
    · have hg : getS (env.set 11 (A (rdD r))) 11 = some (rdD r, false) := by
        unfold getS
        rw [List.getElem?_set_self (by omega)]
      refine e_ix (x := rdD r) (y := .int 0) (o := false) ?_ rfl (ixt at0)
      unfold ev
      rw [hg]; rfl
    · exact hset _)
  rw [List.map_map] at hm
  have hf := h.few
  have hv : ev cd.G (call n) true (.v i) env st = .ok (s'.d, false) env st := by
    unfold ev
    rw [hg]; rfl
  have hit : ev cd.G (call n) false (.ix (.v i) (.k (.int 3))) env st = .ok (.tup (s'.rds.map rdD), false) env st := e_ix hv rfl (ixt at3)
  refine e_lc (bw := bw) (env1 := env) (x := .tup (s'.rds.map rdD)) (o := false) hit rfl (by rw [List.length_map]; simp [szOk]; omega) ?_ ?_ (env2 := env) (ys := s'.rds.map fun r => .int r.1)
  · show lcGo _ _ (env.set 11 none) st = _
    rw [hnone]
    exact hm
  · show env.set 11 (match env[11]? with | some s => s | none => none) = env
    rw [h11]
    exact hnone
theorem deq_int {i : Int} : deq (.int i) (.int i) = true := by
  show (i == i) = true
  simp
theorem tup2_ne {i j : Int} : cmpop .ne (.tup [.int i, .int j]) (.tup [.int i, .int j]) = some false := by
  show some (!((i == i) && ((j == j) && true))) = _
  simp
theorem ne_str {w : Str} (h : (w == w) = true) : cmpop .ne (.str w) (.str w) = some false := by
  show some (!(w == w)) = _
  rw [h]; rfl
section
variable {cl : Nat → List D → Pi.Sto → RC} {W : Nat} {bw : Bool} {env env1 env2 : Pi.Env} {st st1 st2 : Pi.Sto} {a b c : C} {d : D} {o : Bool} {ss : List S}
theorem e_andF (h : ev cd.G cl true a env st = .ok (.bl false, o) env1 st1) : ev cd.G cl bw (.and a b) env st = .ok (.bl false, false) env1 st1 := by
  conv => lhs; unfold ev
  rw [h]; rfl
theorem e_andT (h : ev cd.G cl true a env st = .ok (.bl true, o) env1 st1) : ev cd.G cl bw (.and a b) env st = ev cd.G cl bw b env1 st1 := by
  conv => lhs; unfold ev
  rw [h]; rfl
theorem e_mk {xs : List D} (h : ev cd.G cl false a env st = .ok (.lst xs, true) env1 st1) : ev cd.G cl bw (.mk a) env st = .ok (.ref st1.length, false) env1 (st1 ++ [.lst xs]) := by
  conv => lhs; unfold ev
  rw [h]; rfl
theorem b_app {i : Nat} {xs ys : List D} {y : D × Bool} (hg : getS env i = some (.lst xs, true)) (h : ev cd.G cl false c env st = .ok y env1 st1) (hg1 : getS env1 i = some (.lst ys, true)) (hz : ys.length + 1 ≤ 1000000) : exB cd.G cl W (.app i c :: ss) env st = exB cd.G cl W ss (env1.set i (some (.lst (ys ++ [y.1]), true))) st1 := b_nx (by
  conv => lhs; unfold exS
  rw [hg]
  rw [if_pos (show isL st (some (.lst xs, true)) = true from rfl), h]
  show (match getS env1 i with
    | some (.lst xs, true) => if szOk (xs.length + 1) then R.ok Pi.Flow.nx (env1.set i (some (.lst (xs ++ [y.1]), true))) st1 else .no
    | some (.ref l, _) => _
    | _ => _) = _
  rw [hg1]
  dsimp only
  rw [if_pos (by simp [szOk]; omega)])
end
theorem range_mem {x : D} : ∀ {m : Nat} {lo : Int}, x ∈ rangeD lo m → ∃ i : Int, x = .int i ∧ lo ≤ i ∧ i < lo + m
  | 0, lo, h => by cases h
  | m + 1, lo, h => by
    rcases List.mem_cons.mp (show x ∈ D.int lo :: rangeD (lo + 1) m from h) with rfl | h
    · exact ⟨lo, rfl, by omega, by omega⟩
    · obtain ⟨i, e, h1, h2⟩ := range_mem h
      exact ⟨i, e, by omega, by omega⟩
def numAt (ns : List Int) (k : Int) : Int := if k < ns.length then ns.getD k.toNat 0 else 0
theorem scr_len {ns : List Int} {d : D} (hd : Scr ns d) : bifn cd.G .len [d] = some (.int ns.length, false) := by
  cases hd with
  | lst => show some (D.int ((ns.map D.int).length : Int), false) = _; rw [List.length_map]
  | scr => show some (D.int ((ns.map D.int).length : Int), false) = _; rw [List.length_map]
theorem scr_ix {ns : List Int} {d : D} {k : Int} {st : Pi.Sto} (hd : Scr ns d) (h0 : 0 ≤ k) (h1 : k < ns.length) : ixF st d (.int k) = some (.int (numAt ns k), false) := by
  have e : atIx (ns.map D.int) k = some (.int (numAt ns k)) := by
    have h2 : k.toNat < ns.length := by omega
    rw [atIx_of h0 (by rw [List.length_map]; exact h1), List.getElem?_map, List.getElem?_eq_getElem h2]
    unfold numAt
    rw [if_pos h1]
    simp [List.getElem?_eq_getElem h2]
  cases hd with
  | lst => exact ixl e
  | scr => show ((atIx (ns.map D.int) k).map fun d => (d, false)) = _; rw [e]; rfl
theorem f18 {n : Nat} {ns : List Int} {d : D} {k : Int} {st : Pi.Sto} (hd : Scr ns d) (h0 : 0 ≤ k) (h1 : k < 100) : ∃ st', call (n + 1) 18 [d, .int k] st = .ok (.ref st.length) false st' ∧ Src st' st.length := by
  let num := numAt ns k
  let s1 : Int := (num * 16807 + 60919 * k + 31) % 2147481173
  have s1a : 0 ≤ s1 := Int.emod_nonneg _ (by omega)
  have s1b : s1 < 2147481173 := Int.emod_lt_of_pos _ (by omega)
  let s2 : Int := s1 * s1 % 2147481151 + 2 * k + 5
  have s2a : 0 ≤ s1 * s1 % 2147481151 := Int.emod_nonneg _ (by omega)
  have s2b : s1 * s1 % 2147481151 < 2147481151 := Int.emod_lt_of_pos _ (by omega)
  have start : exB cd.G (call n) 300 c_law_source.body [A d, A (.int k), none, none] st = exB cd.G (call n) 300 (c_law_source.body.drop 2) [A d, A (.int k), A (.int num), none] st := by
    by_cases h : k < ns.length
    · refine (b_asg (p := (.int 0, false)) rfl rfl).trans (b_ifT (q := decide (k < ns.length)) (env1 := [A d, A (.int k), A (.int 0), none]) (e_cmp (x := .int ns.length) (y := .int k) (e_bi (ds := [d]) rfl (scr_len hd)) rfl gt_int) (by simpa using h) ?_)
      exact (b_asg (env1 := [A d, A (.int k), A (.int 0), none]) (p := (.int num, false)) (e_bi (ds := [.int num]) (es_cons (e_ix rfl rfl (scr_ix hd h0 h)) es_nil) rfl) rfl).trans rfl
    · have hz : num = 0 := by
        show numAt ns k = 0
        unfold numAt
        rw [if_neg h]
      rw [hz]
      exact (b_asg (p := (.int 0, false)) rfl rfl).trans (b_ifF (q := decide (k < ns.length)) (env1 := [A d, A (.int k), A (.int 0), none]) (e_cmp (x := .int ns.length) (y := .int k) (e_bi (ds := [d]) rfl (scr_len hd)) rfl gt_int) (by simpa using h))
  have big : ∀ {i : Int}, 0 ≤ i → i < 4294967296 → bigOk i = true := fun a b => by
    simp [bigOk]; omega
  have m1 : binop .mul (.int num) (.int 16807) = some (.int (num * 16807), false) := by
    show (if (bigOk num || bigOk 16807) = true then _ else _) = _
    rw [big (i := 16807) (by omega) (by omega), Bool.or_true, if_pos rfl]
  have m2 : binop .mul (.int 60919) (.int k) = some (.int (60919 * k), false) := rfl
  have m3 : binop .mul (.int s1) (.int s1) = some (.int (s1 * s1), false) := by
    show (if (bigOk s1 || bigOk s1) = true then _ else _) = _
    rw [big s1a (by omega), Bool.or_true, if_pos rfl]
  let env3 : Pi.Env := [A d, A (.int k), A (.int num), A (.int s1)]
  let env4 : Pi.Env := [A d, A (.int k), A (.int num), A (.int s2)]
  have e1 : exB cd.G (call n) 300 c_law_source.body [A d, A (.int k), none, none] st = exB cd.G (call n) 300 (c_law_source.body.drop 4) env4 st := by
    refine start.trans ((b_asg (env1 := [A d, A (.int k), A (.int num), none]) (env2 := env3) (p := (.int s1, false)) (e_bin (x := .int (num * 16807 + 60919 * k + 31)) (y := .int 2147481173) (e_bin (x := .int (num * 16807 + 60919 * k)) (e_bin (e_bin rfl rfl m1) (e_bin rfl rfl m2) rfl) rfl rfl) rfl rfl) rfl).trans (b_asg (env1 := env3) (env2 := env4) (p := (.int s2, false)) (e_bin (x := .int (s1 * s1 % 2147481151 + 2 * k)) (e_bin (x := .int (s1 * s1 % 2147481151)) (y := .int (2 * k)) (e_bin (e_bin rfl rfl m3) rfl rfl) (e_bin rfl rfl rfl) rfl) rfl rfl) rfl))
  have hite : ∃ a : Int, 0 ≤ a ∧ ev cd.G (call n) false (.ite (.cmp .ge (.v 2) (.bin .pow (.k (.int 10)) (.k (.int 18)))) (.v 2) (.k (.int 0))) env4 st = .ok (.int a, false) env4 st := by
    have hc : ev cd.G (call n) true (.cmp .ge (.v 2) (.bin .pow (.k (.int 10)) (.k (.int 18)))) env4 st = .ok (.bl (!decide (num < 10 ^ 18)), false) env4 st := e_cmp (x := .int num) (y := .int (10 ^ 18)) rfl (e_bin rfl rfl rfl) rfl
    by_cases h : num < 10 ^ 18
    · refine ⟨0, Int.le_refl _, ?_⟩
      rw [show (!decide (num < 10 ^ 18)) = false by simpa using h] at hc
      exact (e_iteF hc).trans rfl
    · refine ⟨num, by omega, ?_⟩
      rw [show (!decide (num < 10 ^ 18)) = true by simpa using h] at hc
      exact (e_iteT hc).trans rfl
  obtain ⟨a, ha, hite⟩ := hite
  refine ⟨st ++ [.lst [.int a, .int s2]], call_ret (fn := c_law_source) rfl rfl (e1.trans (b_ret rfl (e_mk (e_ls (es_cons hite (es_cons rfl es_nil)) rfl)))), a, s2, ?_, ha, ?_, ?_⟩
  · simp
  · show 0 ≤ s1 * s1 % 2147481151 + 2 * k + 5
    omega
  · show s1 * s1 % 2147481151 + 2 * k + 5 < _
    omega
def Vals (vals : List D) : Prop := ∀ v ∈ vals, VV v
theorem Vals.add {vals : List D} {v : D} (h : Vals vals) (hv : VV v) : Vals (vals ++ [v]) := fun x hx => by
  rcases List.mem_append.mp hx with hx | hx
  · exact h x hx
  · rw [List.mem_singleton.mp hx]; exact hv
def IK (d : D) (e : Pi.Env) : Prop := ∃ s1 s3 s4 s5 s6 s7 s8 s9, e = [A d, s1, none, s3, s4, s5, s6, s7, s8, s9, none, none]
theorem max_min {m : Nat} : ∃ r : Int, bifn cd.G .max2 [.int 6, .int (if (m : Int) < 20 then (m : Int) else 20)] = some (.int r, false) ∧ 0 ≤ r ∧ r ≤ 20 := by
  refine ⟨if (if (m : Int) < 20 then (m : Int) else 20) > 6 then (if (m : Int) < 20 then (m : Int) else 20) else 6, rfl, ?_, ?_⟩
  · split <;> split <;> omega
  · split <;> split <;> omega
end K11

set_option maxRecDepth 100000
set_option maxHeartbeats 0
/-! K11b: turned by port.py from texts of k12. -/
namespace K11
open PySem Pi Pi.EvR
theorem emod_of {x d q r : Int} (h : x = d * q + r) (h0 : 0 ≤ r) (h1 : r < d) : x % d = r := by
  rw [h, Int.add_comm, Int.add_mul_emod_self_left, Int.emod_eq_of_lt h0 h1]
theorem ediv_of {x d q r : Int} (h : x = d * q + r) (h0 : 0 ≤ r) (h1 : r < d) : x / d = q := by
  have hd : d ≠ 0 := by omega
  rw [h, Int.add_comm, Int.add_mul_ediv_left _ _ hd, Int.ediv_eq_zero_of_lt h0 h1, Int.zero_add]
/-- where a column comes to lie in a packet folded to and fro -/
def waveN (p w : Int) : Int := if p % (2 * w) < w then p % (2 * w) else 2 * w - 1 - p % (2 * w)
theorem wave_at {p w q r : Int} (h : p = 2 * w * q + r) (h0 : 0 ≤ r) (h1 : r < 2 * w) : waveN p w = if r < w then r else 2 * w - 1 - r := by
  unfold waveN
  rw [emod_of h h0 h1]
theorem split_mod (p : Int) {w : Int} (hw : 0 < w) : ∃ q r, p = 2 * w * q + r ∧ 0 ≤ r ∧ r < 2 * w :=
  ⟨p / (2 * w), p % (2 * w), (Int.mul_ediv_add_emod p (2 * w)).symm, Int.emod_nonneg _ (by omega), Int.emod_lt_of_pos _ (by omega)⟩
theorem wave_rng {p w : Int} (hw : 0 < w) : 0 ≤ waveN p w ∧ waveN p w < w := by
  obtain ⟨q, r, h, h0, h1⟩ := split_mod p hw
  rw [wave_at h h0 h1]
  split <;> omega
theorem wave_small {p w : Int} (h0 : 0 ≤ p) (h1 : p < w) : waveN p w = p := by
  rw [wave_at (q := 0) (r := p) (by simp) h0 (by omega), if_pos h1]
/-- from the other end of m widths -/
theorem wave_mirror {p w m : Int} (hw : 0 < w) : waveN (m * w - 1 - p) w = if m % 2 = 0 then waveN p w else w - 1 - waveN p w := by
  obtain ⟨q, r, h, h0, h1⟩ := split_mod p hw
  have hm := Int.mul_ediv_add_emod m 2
  have e2 : m * w = 2 * w * (m / 2) + m % 2 * w := by
    conv => lhs; rw [← hm]
    rw [Int.add_mul, Int.mul_assoc, Int.mul_comm (m / 2) w, ← Int.mul_assoc]
  have hb : m % 2 = 0 ∨ m % 2 = 1 := by omega
  rw [wave_at h h0 h1]
  rcases hb with hb | hb
  · rw [if_pos hb]
    rw [hb, Int.zero_mul, Int.add_zero] at e2
    have e3 : m * w - 1 - p = 2 * w * (m / 2 - q - 1) + (2 * w - 1 - r) := by
      rw [e2, h, Int.mul_sub, Int.mul_sub, Int.mul_one]
      omega
    rw [wave_at e3 (by omega) (by omega)]
    split <;> split <;> omega
  · rw [if_neg (by omega)]
    rw [hb, Int.one_mul] at e2
    by_cases hr : r < w
    · have e3 : m * w - 1 - p = 2 * w * (m / 2 - q) + (w - 1 - r) := by
        rw [e2, h, Int.mul_sub]
        omega
      rw [wave_at e3 (by omega) (by omega), if_pos (by omega), if_pos hr]
    · have e3 : m * w - 1 - p = 2 * w * (m / 2 - q - 1) + (3 * w - 1 - r) := by
        rw [e2, h, Int.mul_sub, Int.mul_sub, Int.mul_one]
        omega
      rw [wave_at e3 (by omega) (by omega), if_neg (by omega), if_neg hr]
      omega
/-- an edge and its neighbour in a packet of S lengths -/
theorem wave_edge {e f g S len : Int} (hS : 0 < S) (hl : 0 < len) (he : 0 ≤ e) (hf : 0 ≤ f ∧ f < len) (hg : 0 ≤ g ∧ g < len) :
    (waveN (e * len + f) (len * S) = g ↔ (e % (2 * S) = 0 ∧ g = f) ∨ ((e + 1) % (2 * S) = 0 ∧ g = len - 1 - f)) ∧
    (len * S - 1 - waveN (e * len + f) (len * S) = g ↔ (e % (2 * S) = S ∧ g = f) ∨ ((e + 1) % (2 * S) = S ∧ g = len - 1 - f)) := by
  obtain ⟨q, r, h, h0, h1⟩ := split_mod e hS
  have e1 : e % (2 * S) = r := emod_of h h0 h1
  have e2 : (e + 1) % (2 * S) = if r = 2 * S - 1 then 0 else r + 1 := by
    split
    · rename_i hr
      exact emod_of (q := q + 1) (by rw [h, Int.mul_add, Int.mul_one]; omega) (by omega) (by omega)
    · exact emod_of (q := q) (by rw [h]; omega) (by omega) (by omega)
  have m1 : ∀ a b : Int, a ≤ b → a * len ≤ b * len := fun a b h => Int.mul_le_mul_of_nonneg_right h (by omega)
  have hc : e * len + f = 2 * (len * S) * q + (r * len + f) := by
    have : 2 * S * q * len = 2 * (len * S) * q := by
      rw [Int.mul_assoc 2 S q, Int.mul_assoc 2 (S * q) len, Int.mul_assoc 2 (len * S) q, Int.mul_comm (S * q) len, Int.mul_assoc len S q]
    rw [h, Int.add_mul, this]
    omega
  have x0 : 0 ≤ r * len := Int.mul_nonneg h0 (by omega)
  have x1 : r * len + len ≤ 2 * (len * S) := by
    have := m1 (r + 1) (2 * S) (by omega)
    rw [Int.add_mul, Int.one_mul, Int.mul_assoc 2 S len, Int.mul_comm S len] at this
    exact this
  rw [wave_at hc (by omega) (by omega), e1, e2]
  have xs : r < S → r * len + len ≤ len * S := fun h => by
    have := m1 (r + 1) S (by omega)
    rw [Int.add_mul, Int.one_mul, Int.mul_comm S len] at this
    exact this
  have xs2 : S ≤ r → len * S ≤ r * len := fun h => by
    have := m1 S r h
    rw [Int.mul_comm S len] at this
    exact this
  have xr0 : r = 0 → r * len = 0 := fun h => by rw [h, Int.zero_mul]
  have xr1 : 1 ≤ r → len ≤ r * len := fun h => by
    have := m1 1 r h
    rw [Int.one_mul] at this
    exact this
  have xt0 : r = 2 * S - 1 → r * len = 2 * (len * S) - len := fun h => by
    rw [h, Int.sub_mul, Int.one_mul, Int.mul_assoc, Int.mul_comm S len]
  have xt1 : r ≤ 2 * S - 2 → r * len + 2 * len ≤ 2 * (len * S) := fun h => by
    have := m1 (r + 2) (2 * S) (by omega)
    rw [Int.add_mul, Int.mul_assoc 2 S len, Int.mul_comm S len] at this
    exact this
  have xu0 : r = S - 1 → r * len = len * S - len := fun h => by
    rw [h, Int.sub_mul, Int.one_mul, Int.mul_comm S len]
  have xu1 : r ≤ S - 2 → r * len + 2 * len ≤ len * S := fun h => by
    have := m1 (r + 2) S (by omega)
    rw [Int.add_mul, Int.mul_comm S len] at this
    exact this
  have xv0 : r = S → r * len = len * S := fun h => by rw [h, Int.mul_comm S len]
  have xv1 : S + 1 ≤ r → len * S + len ≤ r * len := fun h => by
    have := m1 (S + 1) r h
    rw [Int.add_mul, Int.one_mul, Int.mul_comm S len] at this
    exact this
  generalize r * len = x at *
  generalize len * S = T at *
  by_cases hr : r < S
  · have := xs hr
    rw [if_pos (by omega), if_neg (by omega)]
    constructor
    · constructor
      · intro h
        by_cases hr0 : r = 0
        · have := xr0 hr0
          exact .inl ⟨hr0, by omega⟩
        · have := xr1 (by omega)
          omega
      · rintro (⟨h2, h3⟩ | ⟨h2, h3⟩)
        · have := xr0 h2
          omega
        · omega
    · constructor
      · intro h
        by_cases hr0 : r = S - 1
        · have := xu0 hr0
          exact .inr ⟨by omega, by omega⟩
        · have := xu1 (by omega)
          omega
      · rintro (⟨h2, h3⟩ | ⟨h2, h3⟩)
        · omega
        · have := xu0 (by omega)
          omega
  · have := xs2 (by omega)
    rw [if_neg (by omega)]
    constructor
    · constructor
      · intro h
        by_cases hr0 : r = 2 * S - 1
        · have := xt0 hr0
          exact .inr ⟨by rw [if_pos hr0], by omega⟩
        · have := xt1 (by omega)
          omega
      · rintro (⟨h2, h3⟩ | ⟨h2, h3⟩)
        · omega
        · by_cases hr0 : r = 2 * S - 1
          · have := xt0 hr0
            omega
          · rw [if_neg hr0] at h2
            omega
    · constructor
      · intro h
        by_cases hr0 : r = S
        · have := xv0 hr0
          exact .inl ⟨hr0, by omega⟩
        · have := xv1 (by omega)
          omega
      · rintro (⟨h2, h3⟩ | ⟨h2, h3⟩)
        · have := xv0 h2
          omega
        · by_cases hr0 : r = 2 * S - 1
          · rw [if_pos hr0] at h2
            omega
          · rw [if_neg hr0] at h2
            omega
theorem mod_two {e S : Int} (hS : 0 < S) : (e % (2 * S) = 0 ↔ e % S = 0 ∧ e / S % 2 = 0) ∧ (e % (2 * S) = S ↔ e % S = 0 ∧ e / S % 2 = 1) := by
  obtain ⟨q, r, h, h0, h1⟩ := split_mod e hS
  rw [emod_of h h0 h1]
  by_cases hr : r < S
  · have e1 : e = S * (2 * q) + r := by rw [h, Int.mul_comm 2 S, Int.mul_assoc]
    rw [emod_of e1 h0 hr, ediv_of e1 h0 hr]
    omega
  · have e1 : e = S * (2 * q + 1) + (r - S) := by rw [h, Int.mul_add, Int.mul_comm 2 S, Int.mul_assoc, Int.mul_one]; omega
    rw [emod_of e1 (by omega) (by omega), ediv_of e1 (by omega) (by omega)]
    omega
def Scp.rd (s : Scp) (k : Nat) : Int × Cs × Cs := s.rds.getD (k % s.rds.length) (2, [], [])
def Scp.base (s : Scp) : Nat → Cs × Cs
  | 0 => (s.b1, s.b2)
  | k + 1 => (s.rd k).2
def Scp.mir (s : Scp) : Cs := s.aft.map fun p => (p.1, s.len - 1 - p.2)
def Scp.lots (s : Scp) (n num : Nat) : Cs × Cs := if num = n then ((s.base num).1 ++ s.aft, (s.base num).2 ++ s.mir) else s.base num
def pick (q : Cs × Cs) (odd : Bool) : Cs := if odd then q.2 else q.1
def hasTwo (s : Scp) (k : Nat) : Bool := (s.rds.take k).any fun r => r.1 == 2
theorem rd_mem {s : Scp} (h : s.Ok) (k : Nat) : s.rds[k % s.rds.length]? = some (s.rd k) ∧ s.rd k ∈ s.rds := by
  have hl : k % s.rds.length < s.rds.length := Nat.mod_lt _ h.some
  have e : s.rds[k % s.rds.length]? = some s.rds[k % s.rds.length] := List.getElem?_eq_getElem hl
  have : s.rd k = s.rds[k % s.rds.length] := by
    unfold Scp.rd
    rw [List.getD_eq_getElem?_getD, e]; rfl
  rw [this]
  exact ⟨e, List.getElem_mem hl⟩
theorem part_rd {s : Scp} (h : s.Ok) (k : Nat) : s.part k = (s.rd k).1 := by
  unfold Scp.part
  rw [(rd_mem h k).1]; rfl
def In (s : Scp) (cs : Cs) : Prop := ∀ p ∈ cs, 0 ≤ p.1 ∧ p.1 < s.rows ∧ 0 ≤ p.2 ∧ p.2 < s.len
theorem base_ok {s : Scp} (h : s.Ok) (k : Nat) : LotOk s.rows s.len (s.base k).1 ∧ LotOk s.rows s.len (s.base k).2 := by
  cases k with
  | zero => exact ⟨h.b1, h.b2⟩
  | succ k => exact (h.rds _ (rd_mem h k).2).2
theorem mir_in {s : Scp} (h : s.Ok) : In s s.mir := by
  intro p hp
  obtain ⟨q, hq, rfl⟩ := List.mem_map.mp hp
  have := h.aft.lot.rng q hq
  simp only
  omega
theorem lots_in {s : Scp} (h : s.Ok) (n k : Nat) (odd : Bool) : In s (pick (s.lots n k) odd) ∧ (pick (s.lots n k) odd).length ≤ 18 := by
  have hb := base_ok h k
  have hm := mir_in h
  have hml : s.mir.length = s.aft.length := by unfold Scp.mir; rw [List.length_map]
  have ha := h.aft.few
  have h1 := hb.1.few
  have h2 := hb.2.few
  unfold Scp.lots
  split
  · cases odd
    · refine ⟨fun p hp => ?_, by show ((s.base k).1 ++ s.aft).length ≤ _; rw [List.length_append]; omega⟩
      rcases List.mem_append.mp (show p ∈ (s.base k).1 ++ s.aft from hp) with z | z
      · exact hb.1.lot.rng p z
      · exact h.aft.lot.rng p z
    · refine ⟨fun p hp => ?_, by show ((s.base k).2 ++ s.mir).length ≤ _; rw [List.length_append]; omega⟩
      rcases List.mem_append.mp (show p ∈ (s.base k).2 ++ s.mir from hp) with z | z
      · exact hb.2.lot.rng p z
      · exact hm p z
  · cases odd
    · exact ⟨hb.1.lot.rng, by show (s.base k).1.length ≤ _; omega⟩
    · exact ⟨hb.2.lot.rng, by show (s.base k).2.length ≤ _; omega⟩
theorem prod_add {s : Scp} : ∀ (a b k : Nat) (x : Int), s.prod (a + b) k x = s.prod b (k + a) (s.prod a k x)
  | 0, b, k, x => by simp [Scp.prod]
  | a + 1, b, k, x => by
    have e : a + 1 + b = (a + b) + 1 := by omega
    rw [e]
    show s.prod (a + b) (k + 1) (x * s.part k) = s.prod b (k + (a + 1)) (s.prod a (k + 1) (x * s.part k))
    rw [prod_add a b (k + 1)]
    congr 1
    omega
theorem prod_one {s : Scp} (m k : Nat) (x : Int) : s.prod m k x = x * s.prod m k 1 := by
  have := Scp.prod_mul (s := s) (m := m) (k := k) (a := x) (b := 1)
  rw [Int.mul_one] at this
  exact this
theorem prod_pos {s : Scp} (h : s.Ok) : ∀ (m k : Nat), (2 : Int) ^ m ≤ s.prod m k 1
  | 0, k => by simp [Scp.prod]
  | m + 1, k => by
    show _ ≤ s.prod m (k + 1) (1 * s.part k)
    rw [Int.one_mul, prod_one]
    have h1 := prod_pos h m (k + 1)
    have h2 := (s.part_ok h k).1.1
    have h0 : (0 : Int) ≤ 2 ^ m := Int.pow_nonneg (by omega)
    rw [Int.pow_succ, Int.mul_comm]
    exact Int.mul_le_mul h2 h1 h0 (by omega)
/-- the last j of n rounds -/
def sz (s : Scp) (n j : Nat) : Int := s.prod j (n - j) 1
theorem sz_pos {s : Scp} (h : s.Ok) (n j : Nat) : (2 : Int) ^ j ≤ sz s n j ∧ 0 < sz s n j := by
  have h1 := prod_pos h j (n - j)
  have h2 : (0 : Int) < 2 ^ j := Int.pow_pos (by omega)
  exact ⟨h1, by unfold sz; omega⟩
theorem sz_succ {s : Scp} {n j : Nat} (hj : j < n) : sz s n (j + 1) = sz s n j * s.part (n - 1 - j) := by
  unfold sz
  have e1 : n - (j + 1) = n - 1 - j := by omega
  have e2 : n - 1 - j + 1 = n - j := by omega
  show s.prod j (n - (j + 1) + 1) (1 * s.part (n - (j + 1))) = _
  rw [e1, e2, Int.one_mul, prod_one, Int.mul_comm]
theorem sz_dvd {s : Scp} {n : Nat} : ∀ {i j : Nat}, j ≤ i → i ≤ n → ∃ c, sz s n i = sz s n j * c
  | 0, j, hj, hi => ⟨1, by rw [show j = 0 by omega, Int.mul_one]⟩
  | i + 1, j, hj, hi => by
    by_cases h : j = i + 1
    · exact ⟨1, by rw [h, Int.mul_one]⟩
    · obtain ⟨c, hc⟩ := sz_dvd (s := s) (n := n) (i := i) (j := j) (by omega) (by omega)
      exact ⟨c * s.part (n - 1 - i), by rw [sz_succ (by omega), hc, Int.mul_assoc]⟩
theorem emod_dvd {e a b c : Int} (hb : b = a * c) (h : e % b = 0) : e % a = 0 := by
  have := Int.mul_ediv_add_emod e b
  rw [h, Int.add_zero, hb, Int.mul_assoc] at this
  rw [← this, Int.mul_emod_right]
theorem sz_emod {s : Scp} {n i j : Nat} {e : Int} (hj : j ≤ i) (hi : i ≤ n) (h : e % sz s n i = 0) : e % sz s n j = 0 := by
  obtain ⟨c, hc⟩ := sz_dvd (s := s) hj hi
  exact emod_dvd hc h
theorem all_prod {s : Scp} {n k : Nat} (hk : k ≤ n) : s.prod k 0 1 * sz s n (n - k) = s.prod n 0 1 := by
  unfold sz
  have e1 : n - (n - k) = k := by omega
  have e2 : n = k + (n - k) := by omega
  rw [e1]
  conv => rhs; rw [e2]
  rw [prod_add, prod_one (n - k) (0 + k), Nat.zero_add]
theorem two_part {s : Scp} (h : s.Ok) (k : Nat) : hasTwo s k = true ↔ ∃ i, i < k ∧ s.part i = 2 := by
  unfold hasTwo
  rw [List.any_eq_true]
  have hR := h.some
  constructor
  · rintro ⟨r, hr, e⟩
    obtain ⟨i, hi, rfl⟩ := List.getElem_of_mem hr
    rw [List.length_take] at hi
    rw [List.getElem_take] at e
    refine ⟨i, by omega, ?_⟩
    rw [part_rd h]
    have := (rd_mem h i).1
    rw [Nat.mod_eq_of_lt (by omega), List.getElem?_eq_getElem (by omega)] at this
    rw [← Option.some.inj this]
    simpa using e
  · rintro ⟨i, hi, e⟩
    have hm := Nat.mod_lt i h.some
    have hle : i % s.rds.length ≤ i := Nat.mod_le _ _
    refine ⟨s.rd i, ?_, by rw [part_rd h] at e; simpa using e⟩
    have := (rd_mem h i).1
    rw [List.getElem?_eq_getElem hm] at this
    rw [← Option.some.inj this]
    rw [List.mem_take_iff_getElem]
    exact ⟨i % s.rds.length, by omega, rfl⟩
theorem odd_prod {s : Scp} (h : s.Ok) : ∀ (k : Nat), s.prod k 0 1 % 2 = if hasTwo s k then 0 else 1
  | 0 => rfl
  | k + 1 => by
    rw [prod_add k 1 0 1, Nat.zero_add]
    show s.prod k 0 1 * s.part k % 2 = _
    have ih := odd_prod h k
    have hp := (s.part_ok h k).1
    have hp2 : s.part k = 2 ∨ s.part k = 3 := by omega
    rcases hp2 with e | e
    · have : hasTwo s (k + 1) = true := (two_part h _).mpr ⟨k, by omega, e⟩
      rw [this, e]
      simp
    · have : hasTwo s (k + 1) = hasTwo s k := by
        rw [Bool.eq_iff_iff, two_part h, two_part h]
        constructor
        · rintro ⟨i, hi, e2⟩
          by_cases hik : i = k
          · rw [hik, e] at e2
            cases e2
          · exact ⟨i, by omega, e2⟩
        · rintro ⟨i, hi, e2⟩
          exact ⟨i, by omega, e2⟩
      rw [this, e]
      cases hh : hasTwo s k with
      | true =>
        rw [hh] at ih
        have ih : s.prod k 0 1 % 2 = 0 := ih
        show _ = (0 : Int)
        omega
      | false =>
        rw [hh] at ih
        have ih : s.prod k 0 1 % 2 = 1 := ih
        show _ = (1 : Int)
        omega
theorem part_per {s : Scp} (i j : Nat) : s.part (i + s.rds.length * j) = s.part i := by
  unfold Scp.part
  rw [Nat.add_mul_mod_self_left]
theorem rd_per {s : Scp} (i j : Nat) : s.rd (i + s.rds.length * j) = s.rd i := by
  unfold Scp.rd
  rw [Nat.add_mul_mod_self_left]
/-- all rounds have come once -/
theorem two_all {s : Scp} {k l : Nat} (hk : s.rds.length ≤ k) (hl : s.rds.length ≤ l) : hasTwo s k = hasTwo s l := by
  unfold hasTwo
  rw [List.take_of_length_le hk, List.take_of_length_le hl]
/-- whether the lot of the other end is meant -/
def flip (s : Scp) (right : Bool) (k : Nat) : Bool := right && !hasTwo s k
def oddE (s : Scp) (n : Nat) (right : Bool) (e : Int) (k : Nat) : Bool := (e / sz s n (n - k) % 2 == 1) != flip s right k
/-- what an edge gathers -/
def EdgeP (s : Scp) (n : Nat) (right : Bool) (e : Int) (p : Int × Int) : Prop := ∃ k, k ≤ n ∧ e % sz s n (n - k) = 0 ∧ p ∈ pick (s.lots n k) (oddE s n right e k)
/-- what is cut at a place from an end -/
def CutP (s : Scp) (n : Nat) (right : Bool) (row x : Int) (k : Nat) : Prop :=
  (row, waveN x (s.len * sz s n (n - k))) ∈ pick (s.lots n k) (flip s right k) ∨ (row, s.len * sz s n (n - k) - 1 - waveN x (s.len * sz s n (n - k))) ∈ pick (s.lots n k) (!flip s right k)
def GP (s : Scp) (n : Nat) (right : Bool) (row x : Int) : Prop := ∃ k, k ≤ n ∧ CutP s n right row x k
theorem gp_edge {s : Scp} (h : s.Ok) {n : Nat} {right : Bool} {row e f : Int} (he : 0 ≤ e) (hf : 0 ≤ f ∧ f < s.len) : GP s n right row (e * s.len + f) ↔ EdgeP s n right e (row, f) ∨ EdgeP s n right (e + 1) (row, s.len - 1 - f) := by
  have hl := h.len
  have key : ∀ k, k ≤ n → (CutP s n right row (e * s.len + f) k ↔ (e % sz s n (n - k) = 0 ∧ (row, f) ∈ pick (s.lots n k) (oddE s n right e k)) ∨ ((e + 1) % sz s n (n - k) = 0 ∧ (row, s.len - 1 - f) ∈ pick (s.lots n k) (oddE s n right (e + 1) k))) := by
    intro k hk
    have hS := (sz_pos h n (n - k)).2
    have m0 := mod_two (e := e) hS
    have m1 := mod_two (e := e + 1) hS
    have we := fun g hg => wave_edge (S := sz s n (n - k)) (len := s.len) (e := e) (f := f) (g := g) hS (by omega) he hf hg
    unfold CutP oddE
    generalize sz s n (n - k) = S at *
    generalize hw : waveN (e * s.len + f) (s.len * S) = w at *
    generalize flip s right k = fl
    have inn : ∀ {o : Bool} {p : Int × Int}, p ∈ pick (s.lots n k) o → 0 ≤ p.2 ∧ p.2 < s.len := fun {o p} hp => ((lots_in h n k o).1 p hp).2.2
    have b1 : ∀ x : Int, (x % 2 == 1) = decide (x % 2 = 1) := fun x => rfl
    constructor
    · rintro (z | z)
      · rcases (we w (inn z)).1.mp rfl with ⟨a, b⟩ | ⟨a, b⟩
        · obtain ⟨c, d⟩ := m0.1.mp a
          refine .inl ⟨c, ?_⟩
          rw [b1, d, ← b]
          simpa using z
        · obtain ⟨c, d⟩ := m1.1.mp a
          refine .inr ⟨c, ?_⟩
          rw [b1, d, ← b]
          simpa using z
      · have inz := inn z
        simp only at inz
        rcases (we _ inz).2.mp rfl with ⟨a, b⟩ | ⟨a, b⟩
        · obtain ⟨c, d⟩ := m0.2.mp a
          refine .inl ⟨c, ?_⟩
          rw [b1, d]
          rw [b] at z
          simpa using z
        · obtain ⟨c, d⟩ := m1.2.mp a
          refine .inr ⟨c, ?_⟩
          rw [b1, d]
          rw [b] at z
          simpa using z
    · rintro (⟨a, z⟩ | ⟨a, z⟩)
      · have hz := inn z
        have hb : e / S % 2 = 0 ∨ e / S % 2 = 1 := by omega
        rcases hb with hb | hb
        · left
          rw [(we f hz).1.mpr (.inl ⟨m0.1.mpr ⟨a, hb⟩, rfl⟩)]
          rw [b1, hb] at z
          simpa using z
        · right
          rw [(we f hz).2.mpr (.inl ⟨m0.2.mpr ⟨a, hb⟩, rfl⟩)]
          rw [b1, hb] at z
          simpa using z
      · have hz := inn z
        have hb : (e + 1) / S % 2 = 0 ∨ (e + 1) / S % 2 = 1 := by omega
        rcases hb with hb | hb
        · left
          rw [(we _ hz).1.mpr (.inr ⟨m1.1.mpr ⟨a, hb⟩, rfl⟩)]
          rw [b1, hb] at z
          simpa using z
        · right
          rw [(we _ hz).2.mpr (.inr ⟨m1.2.mpr ⟨a, hb⟩, rfl⟩)]
          rw [b1, hb] at z
          simpa using z
  constructor
  · rintro ⟨k, hk, z⟩
    rcases (key k hk).mp z with ⟨a, b⟩ | ⟨a, b⟩
    · exact .inl ⟨k, hk, a, b⟩
    · exact .inr ⟨k, hk, a, b⟩
  · rintro (⟨k, hk, a, b⟩ | ⟨k, hk, a, b⟩)
    · exact ⟨k, hk, (key k hk).mpr (.inl ⟨a, b⟩)⟩
    · exact ⟨k, hk, (key k hk).mpr (.inr ⟨a, b⟩)⟩
/-- from the right end -/
theorem gp_mirror {s : Scp} (h : s.Ok) {n : Nat} {row x : Int} : GP s n true row x ↔ GP s n false row (s.len * s.prod n 0 1 - 1 - x) := by
  have hl := h.len
  have key : ∀ k, k ≤ n → (CutP s n true row x k ↔ CutP s n false row (s.len * s.prod n 0 1 - 1 - x) k) := by
    intro k hk
    have hS := (sz_pos h n (n - k)).2
    have hw : 0 < s.len * sz s n (n - k) := Int.mul_pos (by omega) hS
    have e1 : s.len * s.prod n 0 1 = s.prod k 0 1 * (s.len * sz s n (n - k)) := by
      rw [← all_prod hk, ← Int.mul_assoc, ← Int.mul_assoc, Int.mul_comm s.len]
    have e2 := wave_mirror (p := x) (m := s.prod k 0 1) hw
    have e3 := odd_prod h k
    rw [e1]
    unfold CutP flip
    rw [e2, e3]
    generalize s.len * sz s n (n - k) = w
    cases hasTwo s k with
    | true =>
      rw [if_pos (show (if true = true then (0 : Int) else 1) = 0 from rfl)]
      rfl
    | false =>
      rw [if_neg (show ¬ (if false = true then (0 : Int) else 1) = 0 by decide)]
      have : w - 1 - (w - 1 - waveN x w) = waveN x w := by omega
      rw [this]
      exact Or.comm
  exact ⟨fun ⟨k, hk, z⟩ => ⟨k, hk, (key k hk).mp z⟩, fun ⟨k, hk, z⟩ => ⟨k, hk, (key k hk).mpr z⟩⟩
/-- a round among the first ones that is the same -/
theorem early {s : Scp} (h : s.Ok) {n k : Nat} (hk : k < n) : ∃ j, j ≤ 2 * s.rds.length ∧ (j < n ∧ j ≤ k) ∧ s.base j = s.base k ∧ hasTwo s j = hasTwo s k := by
  have hR := h.some
  by_cases hc : k ≤ 2 * s.rds.length
  · exact ⟨k, hc, ⟨hk, Nat.le_refl _⟩, rfl, rfl⟩
  · obtain ⟨k', rfl⟩ : ∃ k', k = k' + 1 := ⟨k - 1, by omega⟩
    have hm := Nat.mod_lt k' h.some
    have hd := Nat.div_add_mod k' s.rds.length
    refine ⟨(k' % s.rds.length + s.rds.length * 1) + 1, by omega, ⟨by omega, by omega⟩, ?_, two_all (by omega) (by omega)⟩
    show (s.rd _).2 = (s.rd k').2
    rw [rd_per]
    have : s.rd k' = s.rd (k' % s.rds.length + s.rds.length * (k' / s.rds.length)) := by
      congr 1
      omega
    rw [this, rd_per]
def mergeC (a b : Cs) : Cs := sortC (dedC [] (a ++ b))
theorem dedC_has {p : Int × Int} : ∀ {qs seen : Cs}, p ∈ qs → p ∈ seen ∨ p ∈ dedC seen qs
  | [], _, h => by cases h
  | q :: qs, seen, h => by
    unfold dedC
    split
    · rename_i hq
      rcases List.mem_cons.mp h with rfl | h
      · exact .inl hq
      · exact dedC_has h
    · rcases List.mem_cons.mp h with rfl | h
      · exact .inr List.mem_cons_self
      · rcases dedC_has (seen := q :: seen) h with z | z
        · rcases List.mem_cons.mp z with rfl | z
          · exact .inr List.mem_cons_self
          · exact .inl z
        · exact .inr (List.mem_cons_of_mem _ z)
theorem mem_merge {p : Int × Int} {a b : Cs} : p ∈ mergeC a b ↔ p ∈ a ∨ p ∈ b := by
  unfold mergeC
  rw [mem_sortC]
  constructor
  · intro h
    exact List.mem_append.mp (dedC_mem h).2
  · intro h
    rcases dedC_has (seen := []) (List.mem_append.mpr h) with z | z
    · cases z
    · exact z
theorem ints_few : ∀ {xs : List Int} {a b : Int}, xs.Pairwise (· < ·) → (∀ x ∈ xs, a ≤ x ∧ x < b) → (xs.length : Int) ≤ max 0 (b - a)
  | [], a, b, _, _ => by simp; omega
  | x :: xs, a, b, h, hr => by
    have ⟨h1, h2⟩ := List.pairwise_cons.mp h
    have h3 := hr x List.mem_cons_self
    have := ints_few (xs := xs) (a := x + 1) (b := b) h2 fun y hy => by
      have := h1 y hy
      have := hr y (List.mem_cons_of_mem _ hy)
      omega
    simp only [List.length_cons]
    omega
theorem lot_few {s : Scp} (h : s.Ok) {ps : Cs} (hl : Lot s.rows s.len ps) : ps.length ≤ 9 := by
  have hr := h.rows
  have hn := h.len
  have := ints_few (xs := ps.map fun p => 3 * p.1 + p.2) (a := 0) (b := 9) (by
    rw [List.pairwise_map]
    refine List.Pairwise.imp_of_mem ?_ hl.ord
    intro p q hp hq hpq
    have := hl.rng p hp
    have := hl.rng q hq
    unfold plt at hpq
    omega) (fun x hx => by
    obtain ⟨p, hp, rfl⟩ := List.mem_map.mp hx
    have := hl.rng p hp
    omega)
  rw [List.length_map] at this
  omega
theorem merge_ok {s : Scp} (h : s.Ok) {a b : Cs} (ha : In s a) (hb : In s b) : LotOk s.rows s.len (mergeC a b) := by
  have l : Lot s.rows s.len (mergeC a b) := ⟨sortC_ord dedC_nodup, fun p hp => (mem_merge.mp hp).elim (ha p) (hb p)⟩
  exact ⟨l, lot_few h l⟩
theorem ix_rd {s : Scp} (h : s.Ok) {k : Nat} : atIx (s.rds.map rdD) ((k : Int) % (s.rds.map rdD).length) = some (rdD (s.rd k)) := by
  have hl : k % s.rds.length < s.rds.length := Nat.mod_lt _ h.some
  rw [List.length_map, ← Int.natCast_emod, atIx_of (by omega) (by rw [List.length_map]; omega), List.getElem?_map]
  have : ((k % s.rds.length : Nat) : Int).toNat = k % s.rds.length := by omega
  rw [this, (rd_mem h k).1]; rfl
theorem sl1 {x y z : D} : slice (.tup [x, y, z]) (some 1) none = some (.tup [y, z], false) := by
  show some (D.tup (cutBy [x, y, z] (some 1) none), false) = _
  rw [cut_hi (by omega)]; rfl
def lotsD (q : Cs × Cs) : D := .tup [lotD q.1, lotD q.2]
def env9 (s : Scp) (n num : Nat) (s8 s9 : Slot) : Pi.Env := [A s.d, A (.int n), A (.int num), A (.int s.rows), A (.int s.len), A (.tup [lotD s.b1, lotD s.b2]), A (.tup (s.rds.map rdD)), A (lotD s.aft), s8, s9, none, none]
theorem add_tup {xs ys : List D} (h : xs.length + ys.length ≤ 1000000) : binop .add (.tup xs) (.tup ys) = some (.tup (xs ++ ys), false) := by
  show (if szOk (xs.length + ys.length) = true then _ else _) = _
  rw [if_pos (by simp [szOk]; exact h)]
theorem isin_c {p : Int × Int} {cs : Cs} : cmpop .isin (cD p) (lotD cs) = some (decide (p ∈ cs)) := by
  show (if ((cD p).pl && D.pls (cs.map cD) && decide (min (D.deps (cs.map cD)) (cD p).dep ≤ 60)) = true then some (dmem (cD p) (cs.map cD)) else none) = _
  have h1 : (cD p).dep = 1 := rfl
  have h2 : (cD p).pl = true := rfl
  rw [pls_c, dmem_c, h1, h2, if_pos (by simp; omega)]
theorem isin_int {i : Int} {xs : List Int} : cmpop .isin (.int i) (.lst (xs.map .int)) = some (xs.any fun x => x == i) := by
  have h1 : D.pls (xs.map D.int) = true := pls_all fun x hx => by
    obtain ⟨y, _, rfl⟩ := List.mem_map.mp hx
    rfl
  have h2 : dmem (.int i) (xs.map D.int) = xs.any fun x => x == i := by
    induction xs with
    | nil => rfl
    | cons x xs ih =>
      show (deq (.int x) (.int i) || dmem (.int i) (xs.map D.int)) = _
      rw [ih (pls_all fun x hx => by
        obtain ⟨y, _, rfl⟩ := List.mem_map.mp hx
        rfl)]
      rfl
  show (if ((D.int i).pl && D.pls (xs.map D.int) && decide (min (D.deps (xs.map D.int)) (D.int i).dep ≤ 60)) = true then some (dmem (.int i) (xs.map D.int)) else none) = _
  have h3 : (D.int i).dep = 0 := rfl
  have h4 : (D.int i).pl = true := rfl
  rw [h1, h2, h3, h4, if_pos (by simp)]
def sideD (right : Bool) : D := if right then .str "right" else .str "left"
theorem side_eq {right : Bool} : cmpop .eq (sideD right) (.str "right") = some right := by
  cases right <;> decide
theorem range_map : ∀ (m : Nat) (a : Int), rangeD a m = (List.range m).map fun i => .int (a + (i : Nat))
  | 0, _ => rfl
  | m + 1, a => by
    rw [List.range_succ_eq_map, List.map_cons, List.map_map]
    show D.int a :: rangeD (a + 1) m = _
    rw [range_map m (a + 1)]
    congr 1
    · simp
    · congr 1
      funext i
      show D.int (a + 1 + (i : Int)) = D.int (a + ((i + 1 : Nat) : Int))
      congr 1
      omega
def nums (s : Scp) (n : Nat) : List Nat := List.range (min n (2 * s.rds.length) + 1) ++ [n]
def endN (s : Scp) (n : Nat) (right : Bool) : Cs := (nums s n).foldl (fun f k => mergeC f (pick (s.lots n k) (flip s right k))) []
def env13 (s : Scp) (n : Nat) (right : Bool) (f : Cs) (s4 s5 s6 : Slot) : Pi.Env := [A s.d, A (.int n), A (sideD right), A (lotD f), s4, s5, s6]
theorem in_nil {s : Scp} : In s [] := fun _ h => by cases h
theorem min_nat {a b : Nat} : bifn cd.G .min2 [.int a, .int b] = some (.int ((min a b : Nat) : Int), false) := by
  show some (D.int (if (b : Int) < a then (b : Int) else a), false) = _
  congr 3
  split <;> omega
theorem lrg_nat {m : Nat} (h : m ≤ 1000) : lrgOf (.int (m : Int)) = some (.lst ((List.range m).map fun k => .int (k : Nat)), true) := by
  show (if (decide (0 ≤ (m : Int)) && decide ((m : Int) ≤ 1000000)) = true then some (D.lst (rangeD 0 (m : Int).toNat), true) else none) = _
  rw [if_pos (by simp; omega), range_map]
  congr 3
  · congr 1
    funext i
    simp
theorem e_lrg {cl : Nat → List D → Pi.Sto → RC} {bw o : Bool} {a : C} {x : D} {env env1 : Pi.Env} {st st1 : Pi.Sto} {q : D × Bool} (h : ev cd.G cl true a env st = .ok (x, o) env1 st1) (h2 : lrgOf x = some q) : ev cd.G cl bw (.lrg a) env st = .ok q env1 st1 := by
  conv => lhs; unfold ev
  rw [h]
  show lift (lrgOf x) env1 st1 = _
  rw [h2]; rfl
theorem add_lst {xs ys : List D} (h : xs.length + ys.length ≤ 1000000) : binop .add (.lst xs) (.lst ys) = some (.lst (xs ++ ys), true) := by
  show (if szOk (xs.length + ys.length) = true then _ else _) = _
  rw [if_pos (by simp [szOk]; exact h)]
theorem end_mem {s : Scp} (h : s.Ok) {n : Nat} {right : Bool} {p : Int × Int} : p ∈ endN s n right ↔ EdgeP s n right 0 p := by
  have key : ∀ (ks : List Nat) (f : Cs), p ∈ ks.foldl (fun f k => mergeC f (pick (s.lots n k) (flip s right k))) f ↔ p ∈ f ∨ ∃ k ∈ ks, p ∈ pick (s.lots n k) (flip s right k) := by
    intro ks
    induction ks with
    | nil => intro f; simp
    | cons k ks ih =>
      intro f
      rw [List.foldl_cons, ih, mem_merge]
      simp only [List.mem_cons, exists_eq_or_imp]
      exact or_assoc
  have odd0 : ∀ k, oddE s n right 0 k = flip s right k := fun k => by
    unfold oddE
    rw [Int.zero_ediv]
    cases flip s right k <;> rfl
  unfold endN EdgeP
  rw [key]
  constructor
  · rintro (z | ⟨k, hk, z⟩)
    · cases z
    · refine ⟨k, ?_, Int.zero_emod _, by rw [odd0]; exact z⟩
      unfold nums at hk
      rcases List.mem_append.mp hk with hk | hk
      · have := List.mem_range.mp hk
        omega
      · rw [List.mem_singleton.mp hk]
        exact Nat.le_refl _
  · rintro ⟨k, hk, _, z⟩
    rw [odd0] at z
    right
    by_cases hkn : k = n
    · exact ⟨n, by unfold nums; simp, by rw [← hkn]; rw [← hkn] at z; exact z⟩
    · obtain ⟨j, h1, ⟨h2, _⟩, h3, h4⟩ := early h (show k < n by omega)
      refine ⟨j, by unfold nums; rw [List.mem_append]; left; rw [List.mem_range]; omega, ?_⟩
      have e1 : s.lots n j = s.base j := if_neg (by omega)
      have e2 : s.lots n k = s.base k := if_neg hkn
      have e3 : flip s right j = flip s right k := by unfold flip; rw [h4]
      rw [e1, h3, e3, ← e2]
      exact z
theorem w_go {test : Pi.Env → Pi.Sto → R Bool} {body : Pi.Env → Pi.Sto → R Pi.Flow} {n : Nat} {env env1 env2 : Pi.Env} {st st1 st2 : Pi.Sto} (h : test env st = .ok true env1 st1) (hb : body env1 st1 = .ok .nx env2 st2) : whileGo test body (n + 1) env st = whileGo test body n env2 st2 := by
  conv => lhs; unfold whileGo
  rw [h]
  show (body env1 st1).bind _ = _
  rw [hb]; rfl
theorem w_ret {test : Pi.Env → Pi.Sto → R Bool} {body : Pi.Env → Pi.Sto → R Pi.Flow} {n : Nat} {env env1 env2 : Pi.Env} {st st1 st2 : Pi.Sto} {d : D} {o : Bool} (h : test env st = .ok true env1 st1) (hb : body env1 st1 = .ok (.ret d o) env2 st2) : whileGo test body (n + 1) env st = .ok (.ret d o) env2 st2 := by
  conv => lhs; unfold whileGo
  rw [h]
  show (body env1 st1).bind _ = _
  rw [hb]; rfl
theorem w_end {test : Pi.Env → Pi.Sto → R Bool} {body : Pi.Env → Pi.Sto → R Pi.Flow} {n : Nat} {env env1 : Pi.Env} {st st1 : Pi.Sto} (h : test env st = .ok false env1 st1) : whileGo test body (n + 1) env st = .ok .nx env1 st1 := by
  conv => lhs; unfold whileGo
  rw [h]; rfl
abbrev wTest (cl : Nat → List D → Pi.Sto → RC) (t : C) : Pi.Env → Pi.Sto → R Bool := fun env st => truth (ev cd.G cl true t env st)
abbrev wBody (cl : Nat → List D → Pi.Sto → RC) (b : List S) : Pi.Env → Pi.Sto → R Pi.Flow := fun env st => exB cd.G cl 300 b env st
theorem s_while {cl : Nat → List D → Pi.Sto → RC} {t : C} {b : List S} {env : Pi.Env} {st : Pi.Sto} : exS cd.G cl 300 (.while t b) env st = whileGo (wTest cl t) (wBody cl b) 300 env st := by
  conv => lhs; unfold exS
theorem pow2_le {i j : Nat} (h : i ≤ j) : (2 : Int) ^ i ≤ 2 ^ j := by
  obtain ⟨d, rfl⟩ : ∃ d, j = i + d := ⟨j - i, by omega⟩
  clear h
  induction d with
  | zero => exact Int.le_refl _
  | succ d ih =>
    have h0 : (0 : Int) < 2 ^ (i + d) := Int.pow_pos (by omega)
    rw [← Nat.add_assoc, Int.pow_succ]
    omega
def loopN (s : Scp) (n : Nat) (right : Bool) (e : Int) : Nat → Nat → Cs → Cs
  | 0, _, f => f
  | F + 1, j, f => if j ≤ n ∧ e % sz s n j = 0 then loopN s n right e F (j + 1) (mergeC f (pick (s.lots n (n - j)) (oddE s n right e (n - j)))) else f
def edgeN (s : Scp) (n : Nat) (right : Bool) (e : Int) : Cs := if e = 0 then endN s n right else loopN s n right e 130 0 []
theorem loop_mem {s : Scp} (h : s.Ok) {n : Nat} {right : Bool} {e : Int} (he : 0 < e) {p : Int × Int} : ∀ (F j : Nat) (f : Cs), e < 2 ^ (j + F) → (p ∈ loopN s n right e F j f ↔ p ∈ f ∨ ∃ i, j ≤ i ∧ i ≤ n ∧ e % sz s n i = 0 ∧ p ∈ pick (s.lots n (n - i)) (oddE s n right e (n - i)))
  | 0, j, f, hb => by
    unfold loopN
    constructor
    · exact .inl
    · rintro (z | ⟨i, h1, h2, h3, _⟩)
      · exact z
      · exfalso
        have h4 := (sz_pos h n i).1
        have h5 : (2 : Int) ^ j ≤ 2 ^ i := pow2_le h1
        rw [Nat.add_zero] at hb
        rw [Int.emod_eq_of_lt (by omega) (by omega)] at h3
        omega
  | F + 1, j, f, hb => by
    unfold loopN
    split
    · rename_i hc
      rw [loop_mem h he F (j + 1) _ (by rw [show j + 1 + F = j + (F + 1) by omega]; exact hb), mem_merge]
      constructor
      · rintro ((z | z) | ⟨i, h1, h2⟩)
        · exact .inl z
        · exact .inr ⟨j, Nat.le_refl _, hc.1, hc.2, z⟩
        · exact .inr ⟨i, by omega, h2⟩
      · rintro (z | ⟨i, h1, h2, h3, h4⟩)
        · exact .inl (.inl z)
        · by_cases hij : i = j
          · rw [hij] at h4
            exact .inl (.inr h4)
          · exact .inr ⟨i, by omega, h2, h3, h4⟩
    · rename_i hc
      constructor
      · exact .inl
      · rintro (z | ⟨i, h1, h2, h3, h4⟩)
        · exact z
        · exact absurd ⟨by omega, sz_emod h1 h2 h3⟩ hc
theorem edge_mem {s : Scp} (h : s.Ok) {n : Nat} {right : Bool} {e : Int} (he : 0 ≤ e) (hb : e < 2 ^ 130) {p : Int × Int} : p ∈ edgeN s n right e ↔ EdgeP s n right e p := by
  unfold edgeN
  by_cases h0 : e = 0
  · rw [if_pos h0, h0]
    exact end_mem h
  · rw [if_neg h0, loop_mem h (by omega) 130 0 [] (by rw [Nat.zero_add]; exact hb)]
    constructor
    · rintro (z | ⟨i, _, h2, h3, h4⟩)
      · cases z
      · exact ⟨n - i, by omega, by rw [show n - (n - i) = i by omega]; exact h3, h4⟩
    · rintro ⟨k, h1, h2, h3⟩
      exact .inr ⟨n - k, Nat.zero_le _, by omega, h2, by rw [show n - (n - k) = k by omega]; exact h3⟩
theorem loop_ok {s : Scp} (h : s.Ok) {n : Nat} {right : Bool} {e : Int} : ∀ (F j : Nat) (f : Cs), In s f → f.length ≤ 9 → In s (loopN s n right e F j f) ∧ (loopN s n right e F j f).length ≤ 9
  | 0, j, f, h1, h2 => ⟨h1, h2⟩
  | F + 1, j, f, h1, h2 => by
    unfold loopN
    split
    · have hm := merge_ok h h1 (lots_in h n (n - j) (oddE s n right e (n - j))).1
      exact loop_ok h F (j + 1) _ hm.lot.rng hm.few
    · exact ⟨h1, h2⟩
def env14 (s : Scp) (n : Nat) (right : Bool) (e : Int) (f : Cs) (size num : Int) (s7 : Slot) : Pi.Env := [A s.d, A (.int n), A (.int e), A (sideD right), A (lotD f), A (.int size), A (.int num), s7]
abbrev t14 : C := .and (.cmp .ge (.v 6) (.k (.int 0))) (.cmp .eq (.bin .mod (.v 2) (.v 5)) (.k (.int 0)))
theorem mod_pos {a b : Int} (h : 0 < b) : binop .mod (.int a) (.int b) = some (.int (a % b), false) := by
  show (if decide (0 < b) = true then _ else _) = _
  rw [if_pos (by simpa using h)]
theorem div_pos {a b : Int} (h : 0 < b) (h2 : b < 2 ^ 200) : binop .fdiv (.int a) (.int b) = some (.int (a / b), false) := by
  show (if (decide (0 < b) && decide (b < bigD)) = true then _ else _) = _
  rw [if_pos]
  unfold bigD
  simp only [Bool.and_eq_true, decide_eq_true_eq]
  exact ⟨h, h2⟩
theorem test14 {cl : Nat → List D → Pi.Sto → RC} {s : Scp} {n : Nat} {right : Bool} {e : Int} {f : Cs} {size num : Int} {s7 : Slot} {st : Pi.Sto} (hs : 0 < size) : wTest cl t14 (env14 s n right e f size num s7) st = .ok (!decide (num < 0) && (e % size == 0)) (env14 s n right e f size num s7) st :=
  t_of (e_and (e_cmp (x := .int num) (y := .int 0) rfl rfl rfl) fun _ => e_cmp (x := .int (e % size)) (y := .int 0) (e_bin rfl rfl (mod_pos hs)) rfl rfl)
def placeOf (col : Int) : Int := if col < 0 then -1 - col else col
def leftN (s : Scp) (n : Nat) (row col : Int) : Bool :=
  !(decide ((row, placeOf col % s.len) ∈ edgeN s n (decide (col < 0)) (placeOf col / s.len)) || decide ((row, s.len - 1 - placeOf col % s.len) ∈ edgeN s n (decide (col < 0)) (placeOf col / s.len + 1)))
theorem place_nn (col : Int) : 0 ≤ placeOf col := by
  unfold placeOf
  split <;> omega
theorem left_gp {s : Scp} (h : s.Ok) {n : Nat} {row col : Int} (hb : placeOf col < 2 ^ 128) : leftN s n row col = true ↔ ¬ GP s n (decide (col < 0)) row (placeOf col) := by
  have hl := h.len
  have h0 := place_nn col
  have hd : placeOf col = placeOf col / s.len * s.len + placeOf col % s.len := by
    have := Int.mul_ediv_add_emod (placeOf col) s.len
    rw [Int.mul_comm] at this
    omega
  have he : 0 ≤ placeOf col / s.len := Int.ediv_nonneg h0 (by omega)
  have hf : 0 ≤ placeOf col % s.len ∧ placeOf col % s.len < s.len := ⟨Int.emod_nonneg _ (by omega), Int.emod_lt_of_pos _ (by omega)⟩
  have hle : placeOf col / s.len ≤ placeOf col := Int.ediv_le_self _ h0
  have key := gp_edge h (n := n) (right := decide (col < 0)) (row := row) he hf
  rw [← hd, ← edge_mem h he (by omega), ← edge_mem h (by omega) (by omega)] at key
  rw [key]
  unfold leftN
  simp
def cols (s : Scp) (n : Nat) : Int := s.len * s.prod n 0 1
def hasCol (s : Scp) (n : Nat) (col : Int) : Bool := decide (120 < n) || (!decide (col < -cols s n) && decide (col < cols s n))
theorem len_big {s : Scp} (h : s.Ok) : bigOk s.len = true := by
  have := h.len
  simp [bigOk]
  omega
theorem mul_len {s : Scp} (h : s.Ok) {a : Int} : binop .mul (.int s.len) (.int a) = some (.int (s.len * a), false) := by
  show (if (bigOk s.len || bigOk a) = true then _ else _) = _
  rw [len_big h, Bool.true_or, if_pos rfl]
def E30 : Int := 1000000000000000000000000000000
def needCol (s : Scp) (n : Nat) (v : D) : Bool := within v (-E30) E30 && hasCol s n (numOf v)
theorem col_small {s : Scp} {n : Nat} {v : D} (hg : needCol s n v = true) : ∃ c : Int, v = .int c ∧ -E30 ≤ c ∧ c ≤ E30 ∧ hasCol s n c = true := by
  unfold needCol at hg
  rw [Bool.and_eq_true] at hg
  obtain ⟨i, rfl, h1, h2⟩ := within_inv hg.1
  exact ⟨i, rfl, h1, h2, hg.2⟩
theorem E30_lt : E30 < 2 ^ 100 := by decide
theorem row18 {m n : Nat} {s : Scp} {b c : D} {st : Pi.Sto} (hb : b.pl = true) : ev cd.G (call (m + 5)) true (.not (.call 0 [.v 2, .k (.int 0), .bin .sub (.ix (.v 0) (.k (.int 0))) (.k (.int 1))])) [A s.d, A (.int n), A b, A c] st = .ok (.bl (!within b 0 (s.rows - 1)), false) [A s.d, A (.int n), A b, A c] st :=
  e_not (e_call (ds := [b, .int 0, .int (s.rows - 1)]) (es_cons (o := false) rfl (es_cons (o := false) rfl (es_cons (e_bin (e_ix rfl rfl (ixt at0)) rfl rfl) es_nil))) (f0 hb))
theorem rounds_ok {n : Nat} (hn : (n : Int) ≤ E30) : within (.int n) 0 E30 = true := within_int ⟨by omega, hn⟩
def sg (b : Bool) : Str := if b then "#" else "."
def joinS (l : List Str) : Str := Txt.join (Str.ofString "") l
def rowS (g : Int → Bool) (many : Nat) : Str := joinS ((List.range many).map fun a => sg (g (a : Nat)))
theorem strs_map : ∀ {l : List Str}, strsOf (l.map .str) = some l
  | [] => rfl
  | x :: l => by
    show (strsOf (l.map .str)).map (fun r => x :: r) = _
    rw [strs_map]; rfl
theorem e_join {cl : Nat → List D → Pi.Sto → RC} {bw o o2 : Bool} {a b : C} {env env1 env2 : Pi.Env} {st st1 st2 : Pi.Sto} {sep : Str} {l : List Str} (h : ev cd.G cl true a env st = .ok (.str sep, o) env1 st1) (h2 : ev cd.G cl true b env1 st1 = .ok (.lst (l.map .str), o2) env2 st2) (hz : (l.map (·.length)).sum + l.length * sep.length ≤ 1000000) : ev cd.G cl bw (.me .join a [b]) env st = .ok (.str (Txt.join sep l), false) env2 st2 := by
  conv => lhs; unfold ev
  rw [h]
  show (evs cd.G cl true [b] env1 st1).bind _ = _
  rw [es_cons h2 es_nil]
  show lift (mef .join (.str sep) [.lst (l.map .str)]) env2 st2 = _
  unfold mef
  simp only [strs_map]
  rw [if_pos (by simp [szOk]; exact hz)]; rfl
theorem sg_len {b : Bool} : (sg b).length = 1 := by cases b <;> rfl
theorem sg_sum {g : Int → Bool} : ∀ (l : List Nat), ((l.map fun a => sg (g (a : Nat))).map (·.length)).sum = l.length
  | [] => rfl
  | x :: l => by
    rw [List.map_cons, List.map_cons, List.sum_cons, sg_sum, sg_len, List.length_cons]
    omega
/-- a row's signs, joined: the comprehension's test known at each place -/
theorem e_row {cl : Nat → List D → Pi.Sto → RC} {i many : Nat} {c : C} {rg : C} {g : Int → Bool} {env : Pi.Env} {st : Pi.Sto} (hm : many ≤ 100) (hi : i < env.length) (hn : env[i]? = some none) (hrg : ev cd.G cl false rg env st = .ok (.lst (rangeD 0 many), false) env st)
    (hc : ∀ a : Nat, a < many → ev cd.G cl true c (env.set i (A (.int a))) st = .ok (.bl (g a), false) (env.set i (A (.int a))) st) : ∀ bw, ev cd.G cl bw (.lc (.ite c (.k (.str "#")) (.k (.str "."))) (.n i) rg none) env st = .ok (.lst (((List.range many).map fun a => sg (g (a : Nat))).map .str), true) env st := by
  intro bw
  have hnone : env.set i none = env := by
    apply List.ext_getElem?
    intro j
    rw [List.getElem?_set]
    split
    · rename_i hj
      subst hj
      rw [hn]
      try simp [hi]
    · rfl
  have hl := lc_map (G := cd.G) (cl := cl) (st := st) (elt := .ite c (.k (.str "#")) (.k (.str "."))) (tg := .n i) (env0 := env) (f := fun x => .str (sg (g (numOf x)))) (xs := rangeD 0 many) (fun x hx => by
    rw [range_map] at hx
    obtain ⟨a, ha, rfl⟩ := List.mem_map.mp hx
    have ha := List.mem_range.mp ha
    have e0 : (0 : Int) + (a : Int) = a := by omega
    rw [e0]
    refine ⟨env.set i (A (.int a)), false, ?_, ?_, ?_⟩
    · show (if i < env.length then _ else _) = _
      rw [if_pos hi]
    · have hh := hc a ha
      show ev cd.G cl false _ _ _ = R.ok (D.str (sg (g (a : Int))), false) _ _
      cases hg : g (a : Int) with
      | true => rw [hg] at hh; exact (e_iteT hh).trans rfl
      | false => rw [hg] at hh; exact (e_iteF hh).trans rfl
    · show (env.set i _).set i none = env
      rw [List.set_set]
      exact hnone)
  have e1 : (rangeD 0 many).map (fun x => D.str (sg (g (numOf x)))) = ((List.range many).map fun a => sg (g (a : Nat))).map .str := by
    rw [range_map, List.map_map, List.map_map]
    apply List.map_congr_left
    intro a _
    show D.str (sg (g (0 + (a : Int)))) = D.str (sg (g (a : Int)))
    rw [Int.zero_add]
  rw [e1] at hl
  refine e_lc (env1 := env) (x := .lst (rangeD 0 many)) (o := false) hrg rfl (by rw [rangeD_len]; simp [szOk]; omega) ?_ ?_ (env2 := env)
  · show lcGo _ _ (env.set i none) st = _
    rw [hnone]
    exact hl
  · show env.set i (match env[i]? with | some s => s | none => none) = env
    rw [hn]
    exact hnone
theorem row_bound {g : Int → Bool} {many : Nat} (hm : many ≤ 100) : (((List.range many).map fun a => sg (g (a : Nat))).map (·.length)).sum + ((List.range many).map fun a => sg (g (a : Nat))).length * (Str.ofString "").length ≤ 1000000 := by
  rw [sg_sum, List.length_range]
  have : (Str.ofString "").length = 0 := rfl
  rw [this]
  omega
def winN (s : Scp) (n : Nat) (col : Int) (many : Nat) : List D := (List.range s.rows.toNat).map fun r => .str (rowS (fun a => leftN s n (r : Nat) (col + a)) many)
def env19 (s : Scp) (n : Nat) (col : Int) (many : Nat) (last : Int) (f : List D) (s6 s7 : Slot) : Pi.Env := [A s.d, A (.int n), A (.int col), A (.int many), A (.int last), some (.lst f, true), s6, s7, none]
theorem many19 {m n : Nat} {s : Scp} {b c : D} {st : Pi.Sto} (hc : c.pl = true) : ev cd.G (call (m + 5)) true (.not (.call 0 [.v 3, .k (.int 1), .g (.int 60)])) [A s.d, A (.int n), A b, A c, none, none, none, none, none] st = .ok (.bl (!within c 1 60), false) [A s.d, A (.int n), A b, A c, none, none, none, none, none] st :=
  e_not (e_call (ds := [c, .int 1, .int 60]) rfl (f0 hc))
def lastBad (s : Scp) (n : Nat) (col : Int) (many : Nat) : Bool := (decide (col < 0) && !decide (col + many - 1 < 0)) || !hasCol s n (col + many - 1)
theorem f26 {m : Nat} {p w : Int} {st : Pi.Sto} (hw : 0 < w) : call (m + 1) 26 [.int p, .int w] st = .ok (.int (waveN p w)) false st := by
  have e2 : binop .mul (.int 2) (.int w) = some (.int (2 * w), false) := by
    show (if (bigOk 2 || bigOk w) = true then some (D.int (2 * w), false) else none) = _
    rw [show bigOk 2 = true by decide, Bool.true_or, if_pos rfl]
  have a1 : ev cd.G (call m) false (.bin .mod (.v 0) (.bin .mul (.k (.int 2)) (.v 1))) [A (.int p), A (.int w), none] st = .ok (.int (p % (2 * w)), false) [A (.int p), A (.int w), none] st :=
    e_bin rfl (e_bin rfl rfl e2) (mod_pos (by omega))
  have hc : ev cd.G (call m) true (.cmp .lt (.v 2) (.v 1)) [A (.int p), A (.int w), A (.int (p % (2 * w)))] st = .ok (.bl (decide (p % (2 * w) < w)), false) [A (.int p), A (.int w), A (.int (p % (2 * w)))] st := e_cmp rfl rfl rfl
  unfold waveN
  by_cases hh : p % (2 * w) < w
  · rw [if_pos hh]
    rw [show decide (p % (2 * w) < w) = true by simpa using hh] at hc
    exact call_ret (fn := c_law_wave) rfl rfl ((b_asg a1 rfl).trans (b_ret rfl ((e_iteT hc).trans rfl)))
  · rw [if_neg hh]
    rw [show decide (p % (2 * w) < w) = false by simpa using hh] at hc
    refine call_ret (fn := c_law_wave) (env1 := [A (.int p), A (.int w), A (.int (p % (2 * w)))]) rfl rfl ((b_asg a1 rfl).trans (b_ret rfl ((e_iteF hc).trans ?_)))
    exact e_bin (e_bin (e_bin rfl rfl e2) rfl rfl) rfl rfl
def wk (s : Scp) (n k : Nat) : Int := s.len * sz s n (n - k)
theorem wk_pos {s : Scp} (h : s.Ok) (n k : Nat) : 0 < wk s n k := Int.mul_pos (by have := h.len; omega) (sz_pos h n _).2
/-- .. by a round's own lots -/
def BC (s : Scp) (n : Nat) (right : Bool) (row x : Int) (k : Nat) : Prop := (row, waveN x (wk s n k)) ∈ pick (s.base k) (flip s right k) ∨ (row, wk s n k - 1 - waveN x (wk s n k)) ∈ pick (s.base k) (!flip s right k)
theorem mem_mir {s : Scp} {r c : Int} : (r, c) ∈ s.mir ↔ (r, s.len - 1 - c) ∈ s.aft := by
  unfold Scp.mir
  rw [List.mem_map]
  constructor
  · rintro ⟨p, hp, e⟩
    injection e with e1 e2
    have : (r, s.len - 1 - c) = p := Prod.ext e1.symm (by show s.len - 1 - c = p.2; omega)
    rw [this]
    exact hp
  · intro hp
    exact ⟨_, hp, Prod.ext rfl (by show s.len - 1 - (s.len - 1 - c) = c; omega)⟩
theorem wk_end {s : Scp} {n : Nat} : wk s n n = s.len := by
  unfold wk
  rw [Nat.sub_self]
  show s.len * 1 = s.len
  rw [Int.mul_one]
theorem cut_base {s : Scp} {n : Nat} {right : Bool} {row x : Int} {k : Nat} : CutP s n right row x k ↔ BC s n right row x k ∨ (k = n ∧ (row, if flip s right n then s.len - 1 - waveN x s.len else waveN x s.len) ∈ s.aft) := by
  show ((row, waveN x (wk s n k)) ∈ pick (s.lots n k) (flip s right k) ∨ (row, wk s n k - 1 - waveN x (wk s n k)) ∈ pick (s.lots n k) (!flip s right k)) ↔ _
  by_cases hk : k = n
  · subst hk
    have e : s.lots k k = ((s.base k).1 ++ s.aft, (s.base k).2 ++ s.mir) := if_pos rfl
    unfold BC
    rw [e, wk_end]
    cases flip s right k with
    | false =>
      show ((row, waveN x s.len) ∈ (s.base k).1 ++ s.aft ∨ (row, s.len - 1 - waveN x s.len) ∈ (s.base k).2 ++ s.mir) ↔ ((row, waveN x s.len) ∈ (s.base k).1 ∨ (row, s.len - 1 - waveN x s.len) ∈ (s.base k).2) ∨ (k = k ∧ (row, waveN x s.len) ∈ s.aft)
      rw [List.mem_append, List.mem_append, mem_mir]
      have : s.len - 1 - (s.len - 1 - waveN x s.len) = waveN x s.len := by omega
      rw [this]
      constructor
      · rintro ((z | z) | (z | z))
        · exact .inl (.inl z)
        · exact .inr ⟨rfl, z⟩
        · exact .inl (.inr z)
        · exact .inr ⟨rfl, z⟩
      · rintro ((z | z) | ⟨_, z⟩)
        · exact .inl (.inl z)
        · exact .inr (.inl z)
        · exact .inl (.inr z)
    | true =>
      show ((row, waveN x s.len) ∈ (s.base k).2 ++ s.mir ∨ (row, s.len - 1 - waveN x s.len) ∈ (s.base k).1 ++ s.aft) ↔ ((row, waveN x s.len) ∈ (s.base k).2 ∨ (row, s.len - 1 - waveN x s.len) ∈ (s.base k).1) ∨ (k = k ∧ (row, s.len - 1 - waveN x s.len) ∈ s.aft)
      rw [List.mem_append, List.mem_append, mem_mir]
      constructor
      · rintro ((z | z) | (z | z))
        · exact .inl (.inl z)
        · exact .inr ⟨rfl, z⟩
        · exact .inl (.inr z)
        · exact .inr ⟨rfl, z⟩
      · rintro ((z | z) | ⟨_, z⟩)
        · exact .inl (.inl z)
        · exact .inr (.inl z)
        · exact .inr (.inr z)
  · have e : s.lots n k = s.base k := if_neg hk
    rw [e]
    exact ⟨.inl, fun z => z.elim id fun z => absurd z.1 hk⟩
theorem gp_base {s : Scp} {n : Nat} {right : Bool} {row x : Int} : GP s n right row x ↔ (∃ k, k ≤ n ∧ BC s n right row x k) ∨ (row, if flip s right n then s.len - 1 - waveN x s.len else waveN x s.len) ∈ s.aft := by
  constructor
  · rintro ⟨k, hk, z⟩
    rcases cut_base.mp z with z | ⟨_, z⟩
    · exact .inl ⟨k, hk, z⟩
    · exact .inr z
  · rintro (⟨k, hk, z⟩ | z)
    · exact ⟨k, hk, cut_base.mpr (.inl z)⟩
    · exact ⟨n, Nat.le_refl _, cut_base.mpr (.inr ⟨rfl, z⟩)⟩
theorem flip_left {s : Scp} {k : Nat} : flip s false k = false := rfl
def env29 (s : Scp) (n : Nat) (row col w : Int) (s5 s11 s12 s13 s14 : Slot) : Pi.Env := [A s.d, A (.int n), A (.int row), A (.int col), A (.int w), s5, A (.int s.rows), A (.int s.len), A (.tup [lotD s.b1, lotD s.b2]), A (.tup (s.rds.map rdD)), A (lotD s.aft), s11, s12, s13, s14]
abbrev b29 : List S := [
  .asg (.t [12, 13, 14]) (.ix (.v 9) (.bin .mod (.bin .sub (.v 5) (.k (.int 1))) (.bi .len [.v 9]))),
  .asg (.n 4) (.bin .fdiv (.v 4) (.v 12)),
  .asg (.n 11) (.call 26 [.v 3, .v 4]),
  .ifs (.or (.cmp .isin (.tp [.v 2, .v 11]) (.v 13)) (.cmp .isin (.tp [.v 2, .bin .sub (.bin .sub (.v 4) (.k (.int 1))) (.v 11)]) (.v 14))) [
   .ret (.k (.bl true))] []]
theorem ix_at {s : Scp} (h : s.Ok) {k : Nat} {i : Int} (hi : i = (k : Int)) : atIx (s.rds.map rdD) (i % (s.rds.map rdD).length) = some (rdD (s.rd k)) := by
  rw [hi]
  exact ix_rd h
def e29 (s : Scp) (n : Nat) (row col : Int) (k : Nat) : Pi.Env := env29 s n row col (wk s n (k + 1)) (A (.int ((k : Int) + 1))) (A (.int (waveN col (wk s n (k + 1))))) (A (.int (s.rd k).1)) (A (lotD (s.rd k).2.1)) (A (lotD (s.rd k).2.2))
theorem step29 {m n k : Nat} {s : Scp} {row col : Int} {s5 s11 s12 s13 s14 : Slot} {st : Pi.Sto} (h : s.Ok) (hk : k < n) :
    (BC s n false row col (k + 1) → fStep cd.G (call (m + 1)) 300 (.n 5) b29 (.int ((k : Int) + 1)) (env29 s n row col (wk s n k) s5 s11 s12 s13 s14) st = .ok (.ret (.bl true) false) (e29 s n row col k) st) ∧
    (¬ BC s n false row col (k + 1) → fStep cd.G (call (m + 1)) 300 (.n 5) b29 (.int ((k : Int) + 1)) (env29 s n row col (wk s n k) s5 s11 s12 s13 s14) st = .ok .nx (e29 s n row col k) st) := by
  let w := wk s n (k + 1)
  let e := e29 s n row col k
  have hw : 0 < w := wk_pos h n (k + 1)
  have hpart := (s.part_ok h k).1
  rw [part_rd h] at hpart
  have ew : wk s n k = w * (s.rd k).1 := by
    show s.len * sz s n (n - k) = s.len * sz s n (n - (k + 1)) * (s.rd k).1
    have e1 : n - k = (n - (k + 1)) + 1 := by omega
    have e2 : n - 1 - (n - (k + 1)) = k := by omega
    rw [e1, sz_succ (by omega), e2, part_rd h, Int.mul_assoc]
  have ed : wk s n k / (s.rd k).1 = w := by
    rw [ew, Int.mul_ediv_cancel _ (by omega)]
  have c : ev cd.G (call (m + 1)) true (.or (.cmp .isin (.tp [.v 2, .v 11]) (.v 13)) (.cmp .isin (.tp [.v 2, .bin .sub (.bin .sub (.v 4) (.k (.int 1))) (.v 11)]) (.v 14))) e st = .ok (.bl (decide ((row, waveN col w) ∈ (s.rd k).2.1) || decide ((row, w - 1 - waveN col w) ∈ (s.rd k).2.2)), false) e st :=
    e_or (e_cmp (x := cD (row, waveN col w)) (y := lotD (s.rd k).2.1) (e_tp rfl rfl) rfl isin_c) fun _ => e_cmp (x := cD (row, w - 1 - waveN col w)) (y := lotD (s.rd k).2.2) (e_tp rfl rfl) rfl isin_c
  have start : ∀ {res : R Pi.Flow}, exB cd.G (call (m + 1)) 300 (b29.drop 3) e st = res → fStep cd.G (call (m + 1)) 300 (.n 5) b29 (.int ((k : Int) + 1)) (env29 s n row col (wk s n k) s5 s11 s12 s13 s14) st = res := by
    rintro _ rfl
    refine (b_asg (p := (rdD (s.rd k), false)) (env1 := env29 s n row col (wk s n k) (A (.int ((k : Int) + 1))) s11 s12 s13 s14) (env2 := env29 s n row col (wk s n k) (A (.int ((k : Int) + 1))) s11 (A (.int (s.rd k).1)) (A (lotD (s.rd k).2.1)) (A (lotD (s.rd k).2.2))) (st1 := st) (e_ix rfl (e_bin (e_bin rfl rfl rfl) (e_bi (es_cons rfl es_nil) rfl) (mod_op h)) (ixt (ix_at h (by omega)))) rfl).trans ?_
    refine (b_asg (p := (.int w, false)) (env1 := env29 s n row col (wk s n k) (A (.int ((k : Int) + 1))) s11 (A (.int (s.rd k).1)) (A (lotD (s.rd k).2.1)) (A (lotD (s.rd k).2.2))) (env2 := env29 s n row col w (A (.int ((k : Int) + 1))) s11 (A (.int (s.rd k).1)) (A (lotD (s.rd k).2.1)) (A (lotD (s.rd k).2.2))) (st1 := st) (e_bin (x := .int (wk s n k)) (y := .int (s.rd k).1) rfl rfl (by rw [← ed]; exact div_pos (by omega) (by omega))) rfl).trans ?_
    exact b_asg (p := (.int (waveN col w), false)) (env1 := env29 s n row col w (A (.int ((k : Int) + 1))) s11 (A (.int (s.rd k).1)) (A (lotD (s.rd k).2.1)) (A (lotD (s.rd k).2.2))) (e_call (ds := [.int col, .int w]) rfl (f26 hw)) rfl
  have iff : BC s n false row col (k + 1) ↔ (decide ((row, waveN col w) ∈ (s.rd k).2.1) || decide ((row, w - 1 - waveN col w) ∈ (s.rd k).2.2)) = true := by
    rw [Bool.or_eq_true, decide_eq_true_eq, decide_eq_true_eq]; rfl
  constructor
  · intro hb
    exact start (b_ifR c (iff.mp hb) (b_ret rfl rfl))
  · intro hb
    exact start ((b_ifF c (by simpa using fun z => hb (iff.mpr z))).trans rfl)
theorem go29 {m n : Nat} {s : Scp} {row col : Int} {st : Pi.Sto} (h : s.Ok) : ∀ (r k : Nat) (s5 s11 s12 s13 s14 : Slot), k + r = n →
    ((∃ i, k ≤ i ∧ i < n ∧ BC s n false row col (i + 1)) ∧ ∃ e, forGo (fStep cd.G (call (m + 1)) 300 (.n 5) b29) (rangeD ((k : Int) + 1) r) (env29 s n row col (wk s n k) s5 s11 s12 s13 s14) st = .ok (.ret (.bl true) false) e st) ∨
    ((¬ ∃ i, k ≤ i ∧ i < n ∧ BC s n false row col (i + 1)) ∧ ∃ t5 t11 t12 t13 t14, forGo (fStep cd.G (call (m + 1)) 300 (.n 5) b29) (rangeD ((k : Int) + 1) r) (env29 s n row col (wk s n k) s5 s11 s12 s13 s14) st = .ok .nx (env29 s n row col s.len t5 t11 t12 t13 t14) st)
  | 0, k, s5, s11, s12, s13, s14, hk => by
    refine .inr ⟨fun ⟨i, h1, h2, _⟩ => by omega, s5, s11, s12, s13, s14, ?_⟩
    rw [show k = n by omega, wk_end]
    rfl
  | r + 1, k, s5, s11, s12, s13, s14, hk => by
    have hst := step29 (m := m) (n := n) (k := k) (row := row) (col := col) (s5 := s5) (s11 := s11) (s12 := s12) (s13 := s13) (s14 := s14) (st := st) h (by omega)
    by_cases hb : BC s n false row col (k + 1)
    · refine .inl ⟨⟨k, Nat.le_refl _, by omega, hb⟩, e29 s n row col k, ?_⟩
      show (fStep _ _ _ _ _ _ _ _).bind _ = _
      rw [hst.1 hb]; rfl
    · have e1 : ((k + 1 : Nat) : Int) + 1 = (k : Int) + 1 + 1 := by omega
      rcases go29 (m := m) (n := n) (row := row) (col := col) (st := st) h r (k + 1) (A (.int ((k : Int) + 1))) (A (.int (waveN col (wk s n (k + 1))))) (A (.int (s.rd k).1)) (A (lotD (s.rd k).2.1)) (A (lotD (s.rd k).2.2)) (by omega) with ⟨⟨i, h1, h2, h3⟩, e, he⟩ | ⟨hno, t5, t11, t12, t13, t14, he⟩
      · refine .inl ⟨⟨i, by omega, h2, h3⟩, e, ?_⟩
        show (fStep _ _ _ _ _ _ _ _).bind _ = _
        rw [hst.2 hb]
        rw [e1] at he
        exact he
      · refine .inr ⟨fun ⟨i, h1, h2, h3⟩ => ?_, t5, t11, t12, t13, t14, ?_⟩
        · by_cases hik : i = k
          · rw [hik] at h3
            exact hb h3
          · exact hno ⟨i, by omega, h2, h3⟩
        · show (fStep _ _ _ _ _ _ _ _).bind _ = _
          rw [hst.2 hb]
          rw [e1] at he
          exact he
def env29a (s : Scp) (n : Nat) (row col : Int) : Pi.Env := [A s.d, A (.int n), A (.int row), A (.int col), none, none, A (.int s.rows), A (.int s.len), A (.tup [lotD s.b1, lotD s.b2]), A (.tup (s.rds.map rdD)), A (lotD s.aft), none, none, none, none]
theorem f27 {m n : Nat} {s : Scp} {row col : Int} {st : Pi.Sto} (h : s.Ok) (hn : n ≤ 1000) (hc : 0 ≤ col ∧ col < cols s n) : ∃ b : Bool, call (m + 3) 27 [s.d, .int n, .int row, .int col] st = .ok (.bl b) false st ∧ (b = true ↔ GP s n false row col) := by
  have hw0 : wk s n 0 = cols s n := by
    unfold wk cols
    have := all_prod (s := s) (n := n) (k := 0) (Nat.zero_le _)
    rw [← this]
    show _ = s.len * (1 * _)
    rw [Int.one_mul, Nat.sub_zero]
  have hl := h.len
  let E0 : Pi.Env := env29 s n row col (wk s n 0) none none none none none
  have c1 : ev cd.G (call (m + 2)) true (.or (.cmp .isin (.tp [.v 2, .v 3]) (.ix (.v 8) (.k (.int 0)))) (.cmp .isin (.tp [.v 2, .bin .sub (.bin .sub (.v 4) (.k (.int 1))) (.v 3)]) (.ix (.v 8) (.k (.int 1))))) E0 st = .ok (.bl (decide ((row, col) ∈ s.b1) || decide ((row, wk s n 0 - 1 - col) ∈ s.b2)), false) E0 st :=
    e_or (e_cmp (x := cD (row, col)) (y := lotD s.b1) (e_tp rfl rfl) (e_ix rfl rfl (ixt at0)) isin_c) fun _ => e_cmp (x := cD (row, wk s n 0 - 1 - col)) (y := lotD s.b2) (e_tp rfl rfl) (e_ix rfl rfl (ixt at1)) isin_c
  have b0 : BC s n false row col 0 ↔ (decide ((row, col) ∈ s.b1) || decide ((row, wk s n 0 - 1 - col) ∈ s.b2)) = true := by
    unfold BC
    rw [wave_small hc.1 (by rw [hw0]; exact hc.2), Bool.or_eq_true, decide_eq_true_eq, decide_eq_true_eq]; rfl
  have start : ∀ {res : R Pi.Flow}, exB cd.G (call (m + 2)) 300 (c_law_gone.body.drop 2) E0 st = res → exB cd.G (call (m + 2)) 300 c_law_gone.body [A s.d, A (.int n), A (.int row), A (.int col), none, none, none, none, none, none, none, none, none, none, none] st = res := by
    rintro _ rfl
    refine (b_asg (env1 := [A s.d, A (.int n), A (.int row), A (.int col), none, none, none, none, none, none, none, none, none, none, none]) (env2 := env29a s n row col) (p := (s.d, false)) (st1 := st) rfl rfl).trans ?_
    exact b_asg (p := (.int (wk s n 0), false)) (env1 := env29a s n row col) (e_call (ds := [s.d, .int n]) rfl (by rw [hw0]; exact f25 h hn)) rfl
  by_cases hb0 : BC s n false row col 0
  · exact ⟨true, call_ret (fn := c_law_gone) rfl rfl (start (b_ifR c1 (b0.mp hb0) (b_ret rfl rfl))), fun _ => ⟨0, Nat.zero_le _, cut_base.mpr (.inl hb0)⟩, fun _ => rfl⟩
  · have p1 : ∀ {ss : List S} {res : R Pi.Flow}, exB cd.G (call (m + 2)) 300 ss E0 st = res → exB cd.G (call (m + 2)) 300 (.ifs (.or (.cmp .isin (.tp [.v 2, .v 3]) (.ix (.v 8) (.k (.int 0)))) (.cmp .isin (.tp [.v 2, .bin .sub (.bin .sub (.v 4) (.k (.int 1))) (.v 3)]) (.ix (.v 8) (.k (.int 1))))) [.ret (.k (.bl true))] [] :: ss) E0 st = res := by
      rintro ss _ rfl
      exact b_ifF c1 (by simpa using fun z => hb0 (b0.mpr z))
    have it : ev cd.G (call (m + 2)) false (.rng [.k (.int 1), .bin .add (.v 1) (.k (.int 1))]) E0 st = .ok (.lst (rangeD 1 n), false) E0 st := by
      refine e_rng (ds := [.int 1, .int ((n : Int) + 1)]) (es_cons rfl (es_cons (e_bin rfl rfl rfl) es_nil)) ?_
      show (if (small 1 && small ((n : Int) + 1)) = true then some (D.lst (rangeD 1 (((n : Int) + 1 - 1)).toNat)) else none) = _
      have : small ((n : Int) + 1) = true := small_nat (m := n + 1) (by omega)
      rw [this, if_pos (by decide)]
      have : ((n : Int) + 1 - 1).toNat = n := by omega
      rw [this]
    have up : ∀ k, 0 < k → k ≤ n → (BC s n false row col k ↔ ∃ i, 0 ≤ i ∧ i < n ∧ i + 1 = k ∧ BC s n false row col (i + 1)) := fun k h1 h2 => ⟨fun z => ⟨k - 1, by omega, by omega, by omega, by rw [show k - 1 + 1 = k by omega]; exact z⟩, fun ⟨i, _, _, e, z⟩ => by rw [← e]; exact z⟩
    rcases go29 (m := m + 1) (n := n) (row := row) (col := col) (st := st) h n 0 none none none none none (by omega) with ⟨⟨i, _, h2, h3⟩, e, he⟩ | ⟨hno, t5, t11, t12, t13, t14, he⟩
    · exact ⟨true, call_ret (fn := c_law_gone) rfl rfl (start (p1 (b_rt ((s_for (x := .lst (rangeD 1 n)) it rfl).trans he)))), fun _ => ⟨i + 1, by omega, cut_base.mpr (.inl h3)⟩, fun _ => rfl⟩
    · refine ⟨decide ((row, waveN col s.len) ∈ s.aft), call_ret (fn := c_law_gone) (env1 := env29 s n row col s.len t5 t11 t12 t13 t14) rfl rfl (start (p1 ((b_nx ((s_for (x := .lst (rangeD 1 n)) it rfl).trans he)).trans (b_ret rfl (e_cmp (x := cD (row, waveN col s.len)) (y := lotD s.aft) (env2 := env29 s n row col s.len t5 t11 t12 t13 t14) (e_tp (ds := [.int row, .int (waveN col s.len)]) (env1 := env29 s n row col s.len t5 t11 t12 t13 t14) (es_cons (o := false) rfl (es_cons (e_call (ds := [.int col, .int s.len]) rfl (f26 (by omega))) es_nil)) rfl) rfl isin_c))))), ?_⟩
      rw [decide_eq_true_eq, gp_base, flip_left]
      constructor
      · exact .inr
      · rintro (⟨k, hk, z⟩ | z)
        · exfalso
          cases k with
          | zero => exact hb0 z
          | succ k => exact hno ⟨k, Nat.zero_le _, by omega, z⟩
        · exact z
section
variable {cl : Nat → List D → Pi.Sto → RC} {bw : Bool} {env env1 env2 : Pi.Env} {st st1 st2 : Pi.Sto} {ss : List S}
theorem b_pro {is : List Nat} {es : List C} {ps : List (D × Bool)} (h : evsO cd.G cl es env st = .ok ps env1 st1) (hs : putO is ps env1 = some env2) : exB cd.G cl 300 (.pro is es :: ss) env st = exB cd.G cl 300 ss env2 st1 := b_nx (by
  conv => lhs; unfold exS
  rw [h]
  show (match putO is ps env1 with | some env => R.ok Pi.Flow.nx env st1 | none => R.no) = _
  rw [hs])
theorem eo_cons {a : C} {es : List C} {p : D × Bool} {ps : List (D × Bool)} (h : ev cd.G cl false a env st = .ok p env1 st1) (h2 : evsO cd.G cl es env1 st1 = .ok ps env2 st2) : evsO cd.G cl (a :: es) env st = .ok (p :: ps) env2 st2 := by
  conv => lhs; unfold evsO
  rw [h]
  show (evsO cd.G cl es env1 st1).bind _ = _
  rw [h2]; rfl
theorem e_rep {a k : C} {x : D × Bool} {y : D} {o : Bool} {q : D × Bool} (h : ev cd.G cl false a env st = .ok x env1 st1) (h2 : ev cd.G cl true k env1 st1 = .ok (y, o) env2 st2) (h3 : repOf x y = some q) : ev cd.G cl bw (.rep a k) env st = .ok q env2 st2 := by
  conv => lhs; unfold ev
  rw [h]
  show (ev cd.G cl true k env1 st1).bind _ = _
  rw [h2]
  show lift (repOf x y) env2 st2 = _
  rw [h3]; rfl
end
theorem go_cons {body : D → Pi.Env → Pi.Sto → R Pi.Flow} {x : D} {xs : List D} {env env1 : Pi.Env} {st st1 : Pi.Sto} (h : body x env st = .ok .nx env1 st1) : forGo body (x :: xs) env st = forGo body xs env1 st1 := by
  show (body x env st).bind _ = _
  rw [h]; rfl
def wS : D := .str "script"
def wN : D := .str "number"
def wC : D := .str "column"
def env33 (s : Scp) (n : Nat) (w : Int) (s2 : Slot) (f : List D) : Pi.Env := [A s.d, A (.int n), s2, some (.lst f, true), A (.int w)]
theorem app33 {m : Nat} {s : Scp} {n : Nat} {w : Int} {s2 : Slot} {f : List D} {c : C} {d : D} {ss : List S} {st : Pi.Sto} (hc : ev cd.G (call m) false c (env33 s n w s2 f) st = .ok (d, false) (env33 s n w s2 f) st) (hl : f.length ≤ 100) : exB cd.G (call m) 300 (.app 3 c :: ss) (env33 s n w s2 f) st = exB cd.G (call m) 300 ss (env33 s n w s2 (f ++ [d])) st :=
  b_app (xs := f) (ys := f) (y := (d, false)) (env1 := env33 s n w s2 f) rfl hc rfl (by omega)
theorem cols_pos {s : Scp} (h : s.Ok) (n : Nat) : 1 ≤ cols s n := by
  have a := prod_pos h n 0
  have b : (0 : Int) < 2 ^ n := Int.pow_pos (by omega)
  have := Int.mul_le_mul_of_nonneg_right h.len.1 (show (0 : Int) ≤ s.prod n 0 1 by omega)
  unfold cols
  omega
theorem cols_ge {s : Scp} (h : s.Ok) (n : Nat) : (2 : Int) ^ n ≤ cols s n := by
  have a := prod_pos h n 0
  have b : (0 : Int) < 2 ^ n := Int.pow_pos (by omega)
  have := Int.mul_le_mul_of_nonneg_right h.len.1 (show (0 : Int) ≤ s.prod n 0 1 by omega)
  unfold cols
  omega
theorem cols_small {s : Scp} (h : s.Ok) {n : Nat} (hn : n ≤ 3) : cols s n ≤ 81 := by
  have step : ∀ k x, 0 ≤ x → 0 ≤ x * s.part k ∧ x * s.part k ≤ 3 * x := fun k x hx => by
    obtain ⟨⟨h1, h2⟩, _⟩ := s.part_ok h k
    have a := Int.mul_le_mul_of_nonneg_left h2 hx
    have b := Int.mul_le_mul_of_nonneg_left h1 hx
    omega
  have hp : s.prod n 0 1 ≤ 27 ∧ 0 ≤ s.prod n 0 1 := by
    match n, hn with
    | 0, _ => exact ⟨by show (1 : Int) ≤ 27; omega, by show (0 : Int) ≤ 1; omega⟩
    | 1, _ =>
      have a := step 0 1 (by omega)
      show (1 : Int) * s.part 0 ≤ 27 ∧ 0 ≤ (1 : Int) * s.part 0
      omega
    | 2, _ =>
      have a := step 0 1 (by omega)
      have b := step 1 _ a.1
      show (1 : Int) * s.part 0 * s.part 1 ≤ 27 ∧ 0 ≤ (1 : Int) * s.part 0 * s.part 1
      omega
    | 3, _ =>
      have a := step 0 1 (by omega)
      have b := step 1 _ a.1
      have c := step 2 _ b.1
      show (1 : Int) * s.part 0 * s.part 1 * s.part 2 ≤ 27 ∧ 0 ≤ (1 : Int) * s.part 0 * s.part 1 * s.part 2
      omega
    | n + 4, hn => omega
  have := Int.mul_le_mul_of_nonneg_right h.len.2 hp.2
  unfold cols
  omega
theorem need_of {s : Scp} {n : Nat} {c : Int} (h1 : -E30 ≤ c ∧ c ≤ E30) (h2 : hasCol s n c = true) : needCol s n (.int c) = true := by
  unfold needCol
  rw [within_int h1]
  exact h2
theorem has_of {s : Scp} {n : Nat} {c : Int} (h : 120 < n ∨ (-cols s n ≤ c ∧ c < cols s n)) : hasCol s n c = true := by
  unfold hasCol
  rcases h with h | h
  · simp [h]
  · have : (!decide (c < -cols s n) && decide (c < cols s n)) = true := by
      simp
      omega
    rw [this, Bool.or_true]
theorem E30_ge : (1000 : Int) ≤ E30 := by decide
end K11

set_option maxRecDepth 100000
set_option maxHeartbeats 0
/-! K11d: the law's opened strip; the program's rows. -/
namespace K11
open PySem Pi Pi.EvR
/-- whether a cell is left -/
noncomputable def lfB (s : Scp) (n : Nat) (row col : Int) : Bool := !(@decide (GP s n false row col) (Classical.propDecidable _))
theorem f27b {m n : Nat} {s : Scp} {row col : Int} {st : Pi.Sto} (h : s.Ok) (hn : n ≤ 1000) (hc : 0 ≤ col ∧ col < cols s n) : call (m + 3) 27 [s.d, .int n, .int row, .int col] st = .ok (.bl (!(lfB s n row col))) false st := by
  obtain ⟨b, e, hb⟩ := f27 (m := m) (row := row) (st := st) h hn hc
  rw [e]
  have : b = !(lfB s n row col) := by
    unfold lfB
    rw [Bool.not_not]
    cases b with
    | true => exact (@decide_eq_true _ (Classical.propDecidable _) (hb.mp rfl)).symm
    | false => exact (@decide_eq_false _ (Classical.propDecidable _) fun z => absurd (hb.mpr z) Bool.false_ne_true).symm
  rw [this]
/-- a row's signs, joined: the comprehension's test known at each place -/
theorem e_rowG {cl : Nat → List D → Pi.Sto → RC} {i many : Nat} {c : C} {rg : C} {g : Int → Bool} {env : Pi.Env} {st : Pi.Sto} (hm : many ≤ 100) (hi : i < env.length) (hn : env[i]? = some none) (hrg : ev cd.G cl false rg env st = .ok (.lst (rangeD 0 many), false) env st)
    (hc : ∀ a : Nat, a < many → ev cd.G cl true c (env.set i (A (.int a))) st = .ok (.bl (!(g a)), false) (env.set i (A (.int a))) st) : ∀ bw, ev cd.G cl bw (.lc (.ite c (.k (.str ".")) (.k (.str "#"))) (.n i) rg none) env st = .ok (.lst (((List.range many).map fun a => sg (g (a : Nat))).map .str), true) env st := by
  intro bw
  have hnone : env.set i none = env := by
    apply List.ext_getElem?
    intro j
    rw [List.getElem?_set]
    split
    · rename_i hj
      subst hj
      rw [hn]
      try simp [hi]
    · rfl
  have hl := lc_map (G := cd.G) (cl := cl) (st := st) (elt := .ite c (.k (.str ".")) (.k (.str "#"))) (tg := .n i) (env0 := env) (f := fun x => .str (sg (g (numOf x)))) (xs := rangeD 0 many) (fun x hx => by
    rw [range_map] at hx
    obtain ⟨a, ha, rfl⟩ := List.mem_map.mp hx
    have ha := List.mem_range.mp ha
    have e0 : (0 : Int) + (a : Int) = a := by omega
    rw [e0]
    refine ⟨env.set i (A (.int a)), false, ?_, ?_, ?_⟩
    · show (if i < env.length then _ else _) = _
      rw [if_pos hi]
    · have hh := hc a ha
      show ev cd.G cl false _ _ _ = R.ok (D.str (sg (g (a : Int))), false) _ _
      cases hg : g (a : Int) with
      | true => rw [hg] at hh; exact (e_iteF hh).trans rfl
      | false => rw [hg] at hh; exact (e_iteT hh).trans rfl
    · show (env.set i _).set i none = env
      rw [List.set_set]
      exact hnone)
  have e1 : (rangeD 0 many).map (fun x => D.str (sg (g (numOf x)))) = ((List.range many).map fun a => sg (g (a : Nat))).map .str := by
    rw [range_map, List.map_map, List.map_map]
    apply List.map_congr_left
    intro a _
    show D.str (sg (g (0 + (a : Int)))) = D.str (sg (g (a : Int)))
    rw [Int.zero_add]
  rw [e1] at hl
  refine e_lc (env1 := env) (x := .lst (rangeD 0 many)) (o := false) hrg rfl (by rw [rangeD_len]; simp [szOk]; omega) ?_ ?_ (env2 := env)
  · show lcGo _ _ (env.set i none) st = _
    rw [hnone]
    exact hl
  · show env.set i (match env[i]? with | some s => s | none => none) = env
    rw [hn]
    exact hnone

/-- the rows of a strip whose cells are told -/
def rowsG (g : Int → Int → Bool) (rows many : Nat) : List D := (List.range rows).map fun r => .str (rowS (g (r : Nat)) many)
def env28 (s : Scp) (n many : Nat) (f : List D) (s2 s5 : Slot) : Pi.Env := [A s.d, A (.int n), s2, A (.int many), some (.lst f, true), s5, none]
abbrev b28 : List S := [
  .asg (.n 5) (.lc (.ite (.call 27 [.v 0, .v 1, .v 2, .v 6]) (.k (.str ".")) (.k (.str "#"))) (.n 6) (.rng [.v 3]) none),
  .app 4 (.me .join (.k (.str "")) [.v 5])]
theorem go28 {m n many : Nat} {s : Scp} {st : Pi.Sto} (h : s.Ok) (hn : n ≤ 1000) (hc : cols s n = many) (hm : many ≤ 100) : ∀ (rs : List Nat) (f : List D) (s2 s5 : Slot), f.length + rs.length ≤ 1000 →
    ∃ t2 t5, forGo (fStep cd.G (call (m + 3)) 300 (.n 2) b28) (rs.map fun r => .int (r : Nat)) (env28 s n many f s2 s5) st = .ok .nx (env28 s n many (f ++ rs.map fun r => .str (rowS (lfB s n (r : Nat)) many)) t2 t5) st
  | [], f, s2, s5, _ => ⟨s2, s5, by rw [List.map_nil, List.map_nil, List.append_nil]; rfl⟩
  | r :: rs, f, s2, s5, hl => by
    simp only [List.length_cons] at hl
    let l := (List.range many).map fun a => sg (lfB s n (r : Nat) (a : Nat))
    obtain ⟨t2, t5, e⟩ := go28 (m := m) (st := st) h hn hc hm rs (f ++ [.str (rowS (lfB s n (r : Nat)) many)]) (A (.int r)) (some (.lst (l.map .str), true)) (by rw [List.length_append, List.length_singleton]; omega)
    refine ⟨t2, t5, ?_⟩
    have hlc := e_rowG (cl := call (m + 3)) (i := 6) (many := many) (c := .call 27 [.v 0, .v 1, .v 2, .v 6]) (rg := .rng [.v 3]) (g := lfB s n (r : Nat)) (env := env28 s n many f (A (.int r)) s5) (st := st) hm (by show 6 < 7; omega) rfl (e_rng (ds := [.int many]) rfl (by
      show (if small (many : Int) = true then some (D.lst (rangeD 0 (many : Int).toNat)) else none) = _
      rw [small_nat (by omega), if_pos rfl]; rfl)) (fun a ha => e_call (ds := [s.d, .int n, .int (r : Nat), .int (a : Nat)]) (es_cons (o := false) rfl (es_cons (o := false) rfl (es_cons (o := false) rfl (es_cons (o := false) rfl es_nil)))) (f27b h hn ⟨by omega, by omega⟩)) false
    have step : fStep cd.G (call (m + 3)) 300 (.n 2) b28 (.int (r : Nat)) (env28 s n many f s2 s5) st = .ok .nx (env28 s n many (f ++ [.str (rowS (lfB s n (r : Nat)) many)]) (A (.int r)) (some (.lst (l.map .str), true))) st := by
      refine (b_asg (env1 := env28 s n many f (A (.int r)) s5) (env2 := env28 s n many f (A (.int r)) (some (.lst (l.map .str), true))) (st1 := st) hlc rfl).trans ?_
      exact (b_app (xs := f) (ys := f) (y := (.str (rowS (lfB s n (r : Nat)) many), false)) (env1 := env28 s n many f (A (.int r)) (some (.lst (l.map .str), true))) rfl (e_join (sep := Str.ofString "") (l := l) rfl rfl (row_bound (g := lfB s n (r : Nat)) hm)) rfl (by omega)).trans rfl
    show (fStep _ _ _ _ _ _ _ _).bind _ = _
    rw [step]
    show forGo _ _ _ _ = _
    rw [e, List.map_cons, List.append_assoc]; rfl
noncomputable def openL (s : Scp) (n many : Nat) : List D := rowsG (lfB s n) s.rows.toNat many
theorem range_int (k : Nat) : rangeD 0 k = (List.range k).map fun r => D.int (r : Nat) := by
  rw [range_map]
  apply List.map_congr_left
  intro a _
  rw [Int.zero_add]
theorem f28 {m n many : Nat} {s : Scp} {st : Pi.Sto} (h : s.Ok) (hn : n ≤ 1000) (hc : cols s n = many) (hm : many ≤ 100) : call (m + 4) 28 [s.d, .int n] st = .ok (.tup (openL s n many)) false st := by
  have hrows := h.rows
  obtain ⟨t2, t5, e⟩ := go28 (m := m) (st := st) h hn hc hm (List.range s.rows.toNat) [] none none (by rw [List.length_range]; simp; omega)
  have hcols : call (m + 3) 25 [s.d, .int n] st = .ok (.int many) false st := by
    have := f25 (n := m + 1) (m := n) (st := st) h hn
    have hc' : s.len * s.prod n 0 1 = many := hc
    rw [hc'] at this
    exact this
  refine call_ret (fn := c_law_open) (env1 := env28 s n many (openL s n many) t2 t5) rfl rfl ((b_pro (ps := [(.int many, false), (.lst [], true)]) (env1 := [A s.d, A (.int n), none, none, none, none, none]) (env2 := env28 s n many [] none none) ?_ rfl).trans ((b_nx ((s_for (x := .lst (rangeD 0 s.rows.toNat)) (o := false) (env1 := env28 s n many [] none none) (st1 := st) (e_rng (ds := [.int s.rows]) (es_cons (e_ix rfl rfl (ixt at0)) es_nil) ?_) rfl).trans ?_)).trans (b_ret rfl (e_bi (ds := [.lst (openL s n many)]) (env := env28 s n many (openL s n many) t2 t5) rfl rfl))))
  · exact eo_cons (e_call (ds := [s.d, .int n]) (es_cons (o := false) rfl (es_cons (o := false) rfl es_nil)) hcols) (eo_cons (p := (.lst [], true)) rfl rfl)
  · show (if small s.rows = true then some (D.lst (rangeD 0 s.rows.toNat)) else none) = _
    have : small s.rows = true := by
      simp [small]; omega
    rw [this, if_pos rfl]
  · rw [range_int]
    exact e
end K11

set_option maxRecDepth 100000
set_option maxHeartbeats 0
/-! K11e: the program's rows, folded packets, cuts. -/
namespace K11
open PySem Pi Pi.EvR
/-! ### rows_of -/
def env12r (rows many l : Nat) (f : List D) (s4 : Slot) : Pi.Env := [A (.int rows), A (.int many), A (.ref l), some (.lst f, true), s4, none]
abbrev b12r : List S := [.app 3 (.me .join (.k (.str "")) [.lc (.ite (.cmp .isin (.tp [.v 4, .v 5]) (.v 2)) (.k (.str ".")) (.k (.str "#"))) (.n 5) (.rng [.v 1]) none])]
theorem in_dict {st : Pi.Sto} {l : Nat} {kvs : List (D × D)} {a b : Int} (hl : st[l]? = some (.dct kvs)) : cmpF st .isin (.tup [.int a, .int b]) (.ref l) = some (dkHas kvs (.tup [.int a, .int b])) := by
  show (match st[l]? with
    | some (.dct kvs) => if keyOk (.tup [.int a, .int b]) then some (dkHas kvs (.tup [.int a, .int b])) else none
    | _ => none) = _
  rw [hl]; rfl
theorem go12 {m rows many l : Nat} {g : Int → Int → Bool} {kvs : List (D × D)} {st : Pi.Sto} (hl : st[l]? = some (.dct kvs)) (hm : many ≤ 100) : ∀ (rs : List Nat) (f : List D) (s4 : Slot), (∀ r ∈ rs, ∀ a : Nat, a < many → dkHas kvs (.tup [.int (r : Nat), .int (a : Nat)]) = !(g (r : Nat) (a : Nat))) → f.length + rs.length ≤ 1000 →
    ∃ t4, forGo (fStep cd.G (call m) 300 (.n 4) b12r) (rs.map fun r => .int (r : Nat)) (env12r rows many l f s4) st = .ok .nx (env12r rows many l (f ++ rs.map fun r => .str (rowS (g (r : Nat)) many)) t4) st
  | [], f, s4, _, _ => ⟨s4, by rw [List.map_nil, List.map_nil, List.append_nil]; rfl⟩
  | r :: rs, f, s4, hg, hz => by
    simp only [List.length_cons] at hz
    let ls := (List.range many).map fun a => sg (g (r : Nat) (a : Nat))
    obtain ⟨t4, e⟩ := go12 (m := m) (rows := rows) (st := st) hl hm rs (f ++ [.str (rowS (g (r : Nat)) many)]) (A (.int r)) (fun q hq => hg q (List.mem_cons_of_mem _ hq)) (by rw [List.length_append, List.length_singleton]; omega)
    refine ⟨t4, ?_⟩
    have hlc := e_rowG (cl := call m) (i := 5) (many := many) (c := .cmp .isin (.tp [.v 4, .v 5]) (.v 2)) (rg := .rng [.v 1]) (g := g (r : Nat)) (env := env12r rows many l f (A (.int r))) (st := st) hm (by show 5 < 6; omega) rfl (e_rng (ds := [.int many]) rfl (by
      show (if small (many : Int) = true then some (D.lst (rangeD 0 (many : Int).toNat)) else none) = _
      rw [small_nat (by omega), if_pos rfl]; rfl)) (fun a ha => e_cmpD (x := .tup [.int (r : Nat), .int (a : Nat)]) (y := .ref l) (o := false) (o2 := false) (e_tp (ds := [.int (r : Nat), .int (a : Nat)]) (es_cons (o := false) rfl (es_cons (o := false) rfl es_nil)) rfl) rfl (by rw [in_dict hl, hg r List.mem_cons_self a ha])) true
    have step : fStep cd.G (call m) 300 (.n 4) b12r (.int (r : Nat)) (env12r rows many l f s4) st = .ok .nx (env12r rows many l (f ++ [.str (rowS (g (r : Nat)) many)]) (A (.int r))) st :=
      (b_app (xs := f) (ys := f) (y := (.str (rowS (g (r : Nat)) many), false)) (env1 := env12r rows many l f (A (.int r))) rfl (e_join (sep := Str.ofString "") (l := ls) rfl hlc (row_bound (g := g (r : Nat)) hm)) rfl (by omega)).trans rfl
    show (fStep _ _ _ _ _ _ _ _).bind _ = _
    rw [step]
    show forGo _ _ _ _ = _
    rw [e, List.map_cons, List.append_assoc]; rfl
theorem f12 {m rows many l : Nat} {g : Int → Int → Bool} {kvs : List (D × D)} {st : Pi.Sto} (hl : st[l]? = some (.dct kvs)) (hm : many ≤ 100) (hr : rows ≤ 100) (hg : ∀ r a : Nat, r < rows → a < many → dkHas kvs (.tup [.int (r : Nat), .int (a : Nat)]) = !(g (r : Nat) (a : Nat))) :
    call (m + 1) 12 [.int rows, .int many, .ref l] st = .ok (.tup (rowsG g rows many)) false st := by
  obtain ⟨t4, e⟩ := go12 (m := m) (rows := rows) (st := st) hl hm (List.range rows) [] none (fun r hr a ha => hg r a (List.mem_range.mp hr) ha) (by rw [List.length_range]; simp; omega)
  refine call_ret (fn := c_rows_of) (env1 := env12r rows many l (rowsG g rows many) t4) rfl rfl ((b_asg (p := (.lst [], true)) (env2 := env12r rows many l [] none) rfl rfl).trans ((b_nx ((s_for (x := .lst (rangeD 0 rows)) (o := false) (env1 := env12r rows many l [] none) (st1 := st) (e_rng (ds := [.int rows]) (es_cons (o := false) rfl es_nil) ?_) rfl).trans ?_)).trans (b_ret rfl (e_bi (ds := [.lst (rowsG g rows many)]) (env := env12r rows many l (rowsG g rows many) t4) rfl rfl))))
  · show (if small (rows : Int) = true then some (D.lst (rangeD 0 (rows : Int).toNat)) else none) = _
    rw [small_nat (by omega), if_pos rfl]; rfl
  · rw [range_int]
    exact e
/-! ### dict(pairs of cells) -/
def cutK (cs : List Cell) : List (D × D) := cs.map fun c => (cellD c, .bl true)
theorem pairs_cells : ∀ cs : List Cell, pairsD (cs.map fun c => D.tup [cellD c, .bl true]) = some (cutK cs)
  | [] => rfl
  | c :: cs => by
    show (if keyOk (cellD c) then (pairsD (cs.map fun c => D.tup [cellD c, .bl true])).map fun r => (cellD c, D.bl true) :: r else none) = _
    rw [pairs_cells cs]; rfl
theorem has_put (kvs : List (D × D)) (c d : Cell) : dkHas (dkPut kvs (cellD c) (.bl true)) (cellD d) = (dkHas kvs (cellD d) || (c == d)) := by
  unfold dkPut
  split
  · rename_i h
    have key : ∀ ks : List (D × D), dkHas (ks.map fun p => if deq p.1 (cellD c) = true then (p.1, D.bl true) else p) (cellD d) = dkHas ks (cellD d) := fun ks => by
      induction ks with
      | nil => rfl
      | cons p ps ih =>
        unfold dkHas at ih ⊢
        rw [List.map_cons, List.any_cons, List.any_cons, ih]
        split <;> rfl
    rw [key]
    by_cases e : c = d
    · subst e
      rw [h]; rfl
    · have : (c == d) = false := by simpa using e
      rw [this, Bool.or_false]
  · unfold dkHas
    rw [List.any_append, List.any_cons, List.any_nil, Bool.or_false, deq_cell]
theorem has_all : ∀ (cs : List Cell) (kvs : List (D × D)) (d : Cell), dkHas (dkAll kvs (cutK cs)) (cellD d) = (dkHas kvs (cellD d) || cs.contains d)
  | [], kvs, d => by
    show dkHas kvs (cellD d) = _
    rw [List.contains_nil, Bool.or_false]
  | c :: cs, kvs, d => by
    show dkHas (dkAll (dkPut kvs (cellD c) (.bl true)) (cutK cs)) (cellD d) = _
    rw [has_all cs, has_put, List.contains_cons, Bool.or_assoc]
    congr 2
    exact Bool.eq_iff_iff.mpr ⟨fun h => by simpa using (by simpa using h : c = d).symm, fun h => by simpa using (by simpa using h : d = c).symm⟩
end K11

set_option maxRecDepth 100000
set_option maxHeartbeats 0
/-! K11g: folded packets. -/
namespace K11
open PySem Pi Pi.EvR
section
variable {G : Gl} {cl : Nat → List D → Sto → RC} {bw o : Bool} {a : C} {env env1 : Pi.Env} {st st1 : Pi.Sto} {x : D} {q : D × Bool}
theorem e_rev (h : ev G cl true a env st = .ok (x, o) env1 st1) (h2 : revD x = some q) : ev G cl bw (.rev a) env st = .ok q env1 st1 := by
  conv => lhs; unfold ev
  rw [h]
  show lift (revD x) env1 st1 = _
  rw [h2]; rfl
end
def layD (l : List Int) : D := .tup (l.map .int)
def packL (pk : List (List Int)) : List D := pk.map layD
def foldN (pk : List (List Int)) (parts w : Nat) : List (List Int) := (List.range w).map fun i => (pk.getD i [] ++ (pk.getD (2 * w - 1 - i) []).reverse) ++ (if parts = 3 then pk.getD (2 * w + i) [] else [])
def envF (pk : List (List Int)) (parts w : Nat) (f : List (List Int)) (s4 s5 : Slot) : Pi.Env := [A (.lst (packL pk)), A (.int parts), A (.int w), some (.lst (packL f), true), s4, s5]
abbrev bF : List S := [
  .asg (.n 5) (.bin .add (.ix (.v 0) (.v 4)) (.rev (.ix (.v 0) (.bin .sub (.bin .sub (.bin .mul (.k (.int 2)) (.v 2)) (.k (.int 1))) (.v 4))))),
  .app 3 (.ite (.cmp .eq (.v 1) (.k (.int 3))) (.bin .add (.v 5) (.ix (.v 0) (.bin .add (.bin .mul (.k (.int 2)) (.v 2)) (.v 4)))) (.v 5))]
theorem ix_pack {st : Pi.Sto} {pk : List (List Int)} {j : Int} {i : Nat} (hj : j = (i : Int)) (hi : i < pk.length) : ixF st (.lst (packL pk)) (.int j) = some (layD (pk.getD i []), false) := by
  subst hj
  refine ixl ?_
  rw [atIx_of (by omega) (by unfold packL; rw [List.length_map]; omega), Int.toNat_natCast]
  unfold packL
  rw [List.getElem?_map, List.getElem?_eq_getElem hi, List.getD_eq_getElem?_getD, List.getElem?_eq_getElem hi]
  rfl
theorem mul_two {w : Nat} : binop .mul (.int 2) (.int (w : Int)) = some (.int (2 * (w : Int)), false) := by
  show (if (bigOk 2 || bigOk (w : Int)) = true then some (D.int (2 * (w : Int)), false) else none) = _
  rw [show bigOk 2 = true by decide, Bool.true_or, if_pos rfl]
theorem lay_add {a b : List Int} (h : a.length + b.length ≤ 1000000) : binop .add (layD a) (layD b) = some (layD (a ++ b), false) := by
  unfold layD
  rw [add_tup (by rw [List.length_map, List.length_map]; exact h), List.map_append]
theorem stepF {m parts w i : Nat} {pk f : List (List Int)} {s4 s5 : Slot} {st : Pi.Sto} (hp : parts = 2 ∨ parts = 3) (hl : pk.length = parts * w) (hi : i < w) (hs : ∀ l ∈ pk, l.length ≤ 1000) (hf : f.length + 1 ≤ 1000) :
    ∃ t5, fStep cd.G (call m) 300 (.n 4) bF (.int (i : Nat)) (envF pk parts w f s4 s5) st = .ok .nx (envF pk parts w (f ++ [(pk.getD i [] ++ (pk.getD (2 * w - 1 - i) []).reverse) ++ (if parts = 3 then pk.getD (2 * w + i) [] else [])]) (A (.int (i : Nat))) t5) st := by
  have hw : 2 * w ≤ parts * w := Nat.mul_le_mul_right _ (by omega)
  have hlen : ∀ j, (pk.getD j []).length ≤ 1000 := fun j => by
    rw [List.getD_eq_getElem?_getD]
    cases e : pk[j]? with
    | none => simp
    | some l => exact hs l (List.mem_of_getElem? e)
  have h1 := hlen i
  have h2 := hlen (2 * w - 1 - i)
  have h3 := hlen (2 * w + i)
  have a1 : ev cd.G (call m) false (.bin .add (.ix (.v 0) (.v 4)) (.rev (.ix (.v 0) (.bin .sub (.bin .sub (.bin .mul (.k (.int 2)) (.v 2)) (.k (.int 1))) (.v 4))))) (envF pk parts w f (A (.int (i : Nat))) s5) st = .ok (layD (pk.getD i [] ++ (pk.getD (2 * w - 1 - i) []).reverse), false) (envF pk parts w f (A (.int (i : Nat))) s5) st := by
    refine e_bin (e_ix (o := false) (o2 := false) rfl rfl (ix_pack rfl (by omega))) (e_rev (o := false) (x := layD (pk.getD (2 * w - 1 - i) [])) (q := (layD (pk.getD (2 * w - 1 - i) []).reverse, false)) (e_ix (o := false) (o2 := false) rfl (e_bin (e_bin (e_bin rfl rfl mul_two) rfl rfl) rfl rfl) (ix_pack (i := 2 * w - 1 - i) (by omega) (by omega))) ?_) (lay_add (by rw [List.length_reverse]; omega))
    show some (D.tup _, false) = _
    unfold layD
    rw [List.map_reverse]
  refine ⟨A (layD (pk.getD i [] ++ (pk.getD (2 * w - 1 - i) []).reverse)), ?_⟩
  refine (b_asg (env2 := envF pk parts w f (A (.int (i : Nat))) (A (layD (pk.getD i [] ++ (pk.getD (2 * w - 1 - i) []).reverse)))) a1 rfl).trans ?_
  have hc : ev cd.G (call m) true (.cmp .eq (.v 1) (.k (.int 3))) (envF pk parts w f (A (.int (i : Nat))) (A (layD (pk.getD i [] ++ (pk.getD (2 * w - 1 - i) []).reverse)))) st = .ok (.bl ((parts : Int) == 3), false) (envF pk parts w f (A (.int (i : Nat))) (A (layD (pk.getD i [] ++ (pk.getD (2 * w - 1 - i) []).reverse)))) st := e_cmp (o := false) (o2 := false) rfl rfl rfl
  have key : ev cd.G (call m) false (.ite (.cmp .eq (.v 1) (.k (.int 3))) (.bin .add (.v 5) (.ix (.v 0) (.bin .add (.bin .mul (.k (.int 2)) (.v 2)) (.v 4)))) (.v 5)) (envF pk parts w f (A (.int (i : Nat))) (A (layD (pk.getD i [] ++ (pk.getD (2 * w - 1 - i) []).reverse)))) st = .ok (layD ((pk.getD i [] ++ (pk.getD (2 * w - 1 - i) []).reverse) ++ (if parts = 3 then pk.getD (2 * w + i) [] else [])), false) (envF pk parts w f (A (.int (i : Nat))) (A (layD (pk.getD i [] ++ (pk.getD (2 * w - 1 - i) []).reverse)))) st := by
    rcases hp with rfl | rfl
    · rw [show (((2 : Nat) : Int) == 3) = false by decide] at hc
      rw [e_iteF hc, if_neg (by decide), List.append_nil]
      rfl
    · rw [show (((3 : Nat) : Int) == 3) = true by decide] at hc
      rw [e_iteT hc, if_pos rfl]
      exact e_bin (o := false) (o2 := false) rfl (e_ix (o := false) (o2 := false) rfl (e_bin (e_bin rfl rfl mul_two) rfl rfl) (ix_pack (i := 2 * w + i) (by omega) (by omega))) (lay_add (by rw [List.length_append, List.length_reverse]; omega))
  refine (b_app (xs := packL f) (ys := packL f) (y := (layD ((pk.getD i [] ++ (pk.getD (2 * w - 1 - i) []).reverse) ++ (if parts = 3 then pk.getD (2 * w + i) [] else [])), false)) (env1 := envF pk parts w f (A (.int (i : Nat))) (A (layD (pk.getD i [] ++ (pk.getD (2 * w - 1 - i) []).reverse)))) rfl key rfl (by unfold packL; rw [List.length_map]; omega)).trans ?_
  show R.ok _ _ _ = _
  unfold envF packL
  rw [List.map_append]
  rfl
theorem goF {m parts w : Nat} {pk : List (List Int)} {st : Pi.Sto} (hp : parts = 2 ∨ parts = 3) (hl : pk.length = parts * w) (hs : ∀ l ∈ pk, l.length ≤ 1000) : ∀ (is : List Nat) (f : List (List Int)) (s4 s5 : Slot), (∀ i ∈ is, i < w) → f.length + is.length ≤ 1000 →
    ∃ t4 t5, forGo (fStep cd.G (call m) 300 (.n 4) bF) (is.map fun i => .int (i : Nat)) (envF pk parts w f s4 s5) st = .ok .nx (envF pk parts w (f ++ is.map fun i => (pk.getD i [] ++ (pk.getD (2 * w - 1 - i) []).reverse) ++ (if parts = 3 then pk.getD (2 * w + i) [] else [])) t4 t5) st
  | [], f, s4, s5, _, _ => ⟨s4, s5, by rw [List.map_nil, List.map_nil, List.append_nil]; rfl⟩
  | i :: is, f, s4, s5, hi, hz => by
    simp only [List.length_cons] at hz
    obtain ⟨u5, step⟩ := stepF (m := m) (f := f) (s4 := s4) (s5 := s5) (st := st) hp hl (hi i List.mem_cons_self) hs (by omega)
    obtain ⟨t4, t5, e⟩ := goF (m := m) (st := st) hp hl hs is (f ++ [(pk.getD i [] ++ (pk.getD (2 * w - 1 - i) []).reverse) ++ (if parts = 3 then pk.getD (2 * w + i) [] else [])]) (A (.int (i : Nat))) u5 (fun j hj => hi j (List.mem_cons_of_mem _ hj)) (by rw [List.length_append, List.length_singleton]; omega)
    refine ⟨t4, t5, ?_⟩
    show (fStep _ _ _ _ _ _ _ _).bind _ = _
    rw [step]
    show forGo _ _ _ _ = _
    rw [e, List.map_cons, List.append_assoc]; rfl
theorem f9 {m parts w : Nat} {pk : List (List Int)} {st : Pi.Sto} (hp : parts = 2 ∨ parts = 3) (hl : pk.length = parts * w) (hw : w ≤ 500) (hs : ∀ l ∈ pk, l.length ≤ 1000) :
    call (m + 1) 9 [.lst (packL pk), .int parts] st = .ok (.lst (packL (foldN pk parts w))) true st := by
  obtain ⟨t4, t5, e⟩ := goF (m := m) (st := st) hp hl hs (List.range w) [] none none (fun i hi => List.mem_range.mp hi) (by rw [List.length_range]; simp; omega)
  have hdiv : binop .fdiv (.int ((packL pk).length : Nat)) (.int parts) = some (.int w, false) := by
    have hlen : (packL pk).length = pk.length := by unfold packL; rw [List.length_map]
    show (if (decide (0 < (parts : Int)) && decide ((parts : Int) < bigD)) = true then some (D.int (((packL pk).length : Nat) / (parts : Int)), false) else none) = _
    have hb : (decide (0 < (parts : Int)) && decide ((parts : Int) < bigD)) = true := by
      rcases hp with rfl | rfl <;> decide
    rw [if_pos hb, hlen, hl]
    have : ((parts * w : Nat) : Int) / (parts : Int) = w := by
      rw [Int.natCast_mul]
      exact Int.mul_ediv_cancel_left _ (by rcases hp with rfl | rfl <;> decide)
    rw [this]
  refine call_ret (fn := c_folded) (env1 := [A (.lst (packL pk)), A (.int parts), A (.int w), none, t4, t5]) rfl rfl ((b_asg (p := (.int w, false)) (env2 := [A (.lst (packL pk)), A (.int parts), A (.int w), none, none, none]) (e_bin (o := false) (o2 := false) (e_bi (ds := [.lst (packL pk)]) (es_cons (o := false) rfl es_nil) rfl) rfl hdiv) rfl).trans ((b_asg (p := (.lst [], true)) (env2 := envF pk parts w [] none none) rfl rfl).trans ((b_nx ((s_for (x := .lst (rangeD 0 w)) (o := false) (env1 := envF pk parts w [] none none) (st1 := st) (e_rng (ds := [.int w]) (es_cons (o := false) rfl es_nil) ?_) rfl).trans ?_)).trans (b_retv (env := envF pk parts w (foldN pk parts w) t4 t5) rfl))))
  · show (if small (w : Int) = true then some (D.lst (rangeD 0 (w : Int).toNat)) else none) = _
    rw [small_nat (by omega), if_pos rfl]; rfl
  · rw [range_int]
    exact e
end K11

set_option maxRecDepth 100000
set_option maxHeartbeats 0
/-! K11i: cut_at. -/
namespace K11
open PySem Pi Pi.EvR
def layN (pk : List (List Int)) (lf : Bool) (far : Int) : List Int := if lf then pk.getD far.toNat [] else pk.getD (pk.length - 1 - far.toNat) []
def cutL (pk : List (List Int)) (lf : Bool) (ps : Cs) : List Cell := ps.flatMap fun p => (layN pk lf p.2).map fun c => (p.1, c)
def sideS (lf : Bool) : Str := if lf then "left" else "right"
def cellsD (cs : List Cell) : List D := cs.map cellD
def env10 (pk : List (List Int)) (ps : Cs) (lf : Bool) (f : List Cell) (s4 s5 s6 : Slot) : Pi.Env := [A (.lst (packL pk)), A (lotD ps), A (.str (sideS lf)), some (.lst (cellsD f), true), s4, s5, s6, none]
abbrev b10 : List S := [
  .asg (.n 6) (.ite (.cmp .eq (.v 2) (.k (.str "left"))) (.ix (.v 0) (.v 5)) (.ix (.v 0) (.bin .sub (.bin .sub (.bi .len [.v 0]) (.k (.int 1))) (.v 5)))),
  .asg (.n 3) (.bin .add (.v 3) (.lc (.tp [.v 4, .v 7]) (.n 7) (.v 6) none))]
theorem side_eqL (lf : Bool) : deq (.str (sideS lf)) (.str "left") = lf := by cases lf <;> decide
theorem step10 {m : Nat} {pk : List (List Int)} {ps : Cs} {lf : Bool} {p : Int × Int} {f : List Cell} {s4 s5 s6 : Slot} {st : Pi.Sto} (h0 : 0 ≤ p.2) (h1 : p.2 < pk.length) (hs : ∀ l ∈ pk, l.length ≤ 1000) (hf : f.length ≤ 100000) :
    fStep cd.G (call m) 300 (.t [4, 5]) b10 (cD p) (env10 pk ps lf f s4 s5 s6) st = .ok .nx (env10 pk ps lf (f ++ (layN pk lf p.2).map fun c => (p.1, c)) (A (.int p.1)) (A (.int p.2)) (A (layD (layN pk lf p.2)))) st := by
  have hlay : (layN pk lf p.2).length ≤ 1000 := by
    have hlen : ∀ j, (pk.getD j []).length ≤ 1000 := fun j => by
      rw [List.getD_eq_getElem?_getD]
      cases e : pk[j]? with
      | none => simp
      | some l => exact hs l (List.mem_of_getElem? e)
    unfold layN
    split <;> exact hlen _
  have hc : ev cd.G (call m) true (.cmp .eq (.v 2) (.k (.str "left"))) (env10 pk ps lf f (A (.int p.1)) (A (.int p.2)) s6) st = .ok (.bl lf, false) (env10 pk ps lf f (A (.int p.1)) (A (.int p.2)) s6) st := e_cmp (o := false) (o2 := false) rfl rfl (by
    show some (deq (.str (sideS lf)) (.str "left")) = _
    rw [side_eqL])
  have a1 : ev cd.G (call m) false (.ite (.cmp .eq (.v 2) (.k (.str "left"))) (.ix (.v 0) (.v 5)) (.ix (.v 0) (.bin .sub (.bin .sub (.bi .len [.v 0]) (.k (.int 1))) (.v 5)))) (env10 pk ps lf f (A (.int p.1)) (A (.int p.2)) s6) st = .ok (layD (layN pk lf p.2), false) (env10 pk ps lf f (A (.int p.1)) (A (.int p.2)) s6) st := by
    cases lf with
    | true =>
      rw [e_iteT hc]
      exact e_ix (o := false) (o2 := false) rfl rfl (ix_pack (i := p.2.toNat) (by omega) (by omega))
    | false =>
      rw [e_iteF hc]
      have hlen : (packL pk).length = pk.length := by unfold packL; rw [List.length_map]
      refine e_ix (o := false) (o2 := false) (y := .int ((pk.length : Int) - 1 - p.2)) rfl (e_bin (o := false) (o2 := false) (x := .int ((pk.length : Int) - 1)) (e_bin (o := false) (o2 := false) (x := .int (pk.length : Nat)) (e_bi (ds := [.lst (packL pk)]) (es_cons (o := false) rfl es_nil) ?_) rfl rfl) rfl rfl) (ix_pack (i := pk.length - 1 - p.2.toNat) (by omega) (by omega))
      show some (D.int ((packL pk).length : Nat), false) = _
      rw [hlen]
  have hl := lc_map (G := cd.G) (cl := call m) (st := st) (elt := .tp [.v 4, .v 7]) (tg := .n 7) (env0 := env10 pk ps lf f (A (.int p.1)) (A (.int p.2)) (A (layD (layN pk lf p.2)))) (f := fun x => .tup [.int p.1, x]) (xs := (layN pk lf p.2).map .int) (fun x hx => ⟨(env10 pk ps lf f (A (.int p.1)) (A (.int p.2)) (A (layD (layN pk lf p.2)))).set 7 (A x), false, rfl, e_tp (ds := [.int p.1, x]) (es_cons (o := false) rfl (es_cons (o := false) rfl es_nil)) rfl, rfl⟩)
  have e2 : ((layN pk lf p.2).map D.int).map (fun x => D.tup [.int p.1, x]) = cellsD ((layN pk lf p.2).map fun c => (p.1, c)) := by
    unfold cellsD
    rw [List.map_map, List.map_map]; rfl
  rw [e2] at hl
  have a2 : ev cd.G (call m) false (.bin .add (.v 3) (.lc (.tp [.v 4, .v 7]) (.n 7) (.v 6) none)) (env10 pk ps lf f (A (.int p.1)) (A (.int p.2)) (A (layD (layN pk lf p.2)))) st = .ok (.lst (cellsD (f ++ (layN pk lf p.2).map fun c => (p.1, c))), true) (env10 pk ps lf f (A (.int p.1)) (A (.int p.2)) (A (layD (layN pk lf p.2)))) st := by
    refine e_bin (env1 := env10 pk ps lf f (A (.int p.1)) (A (.int p.2)) (A (layD (layN pk lf p.2)))) (st1 := st) (o := false) (o2 := true) (x := .lst (cellsD f)) (y := .lst (cellsD ((layN pk lf p.2).map fun c => (p.1, c)))) rfl (e_lc (st1 := st) (env := env10 pk ps lf f (A (.int p.1)) (A (.int p.2)) (A (layD (layN pk lf p.2)))) (env1 := env10 pk ps lf f (A (.int p.1)) (A (.int p.2)) (A (layD (layN pk lf p.2)))) (env2 := env10 pk ps lf f (A (.int p.1)) (A (.int p.2)) (A (layD (layN pk lf p.2)))) (x := layD (layN pk lf p.2)) (o := false) (xs := (layN pk lf p.2).map .int) rfl rfl (by rw [List.length_map]; simp [szOk]; omega) hl rfl) ?_
    show (if szOk ((cellsD f).length + (cellsD ((layN pk lf p.2).map fun c => (p.1, c))).length) = true then some (D.lst (cellsD f ++ cellsD _), true) else none) = _
    have hz : szOk ((cellsD f).length + (cellsD ((layN pk lf p.2).map fun c => (p.1, c))).length) = true := by
      unfold cellsD
      rw [List.length_map, List.length_map, List.length_map]
      simp [szOk]; omega
    rw [if_pos hz]
    unfold cellsD
    rw [List.map_append]
  show exB cd.G (call m) 300 b10 (env10 pk ps lf f (A (.int p.1)) (A (.int p.2)) s6) st = _
  exact (b_asg (env2 := env10 pk ps lf f (A (.int p.1)) (A (.int p.2)) (A (layD (layN pk lf p.2)))) a1 rfl).trans ((b_asg (env2 := env10 pk ps lf (f ++ (layN pk lf p.2).map fun c => (p.1, c)) (A (.int p.1)) (A (.int p.2)) (A (layD (layN pk lf p.2)))) a2 rfl).trans rfl)
theorem lay_len {pk : List (List Int)} {lf : Bool} {far : Int} (hs : ∀ l ∈ pk, l.length ≤ 1000) : (layN pk lf far).length ≤ 1000 := by
  have hlen : ∀ j, (pk.getD j []).length ≤ 1000 := fun j => by
    rw [List.getD_eq_getElem?_getD]
    cases e : pk[j]? with
    | none => simp
    | some l => exact hs l (List.mem_of_getElem? e)
  unfold layN
  split <;> exact hlen _
theorem go10 {m : Nat} {pk : List (List Int)} {ps : Cs} {lf : Bool} {st : Pi.Sto} (hs : ∀ l ∈ pk, l.length ≤ 1000) : ∀ (qs : Cs) (f : List Cell) (s4 s5 s6 : Slot), (∀ p ∈ qs, 0 ≤ p.2 ∧ p.2 < pk.length) → f.length + 1000 * qs.length ≤ 100000 →
    ∃ t4 t5 t6, forGo (fStep cd.G (call m) 300 (.t [4, 5]) b10) (qs.map cD) (env10 pk ps lf f s4 s5 s6) st = .ok .nx (env10 pk ps lf (f ++ cutL pk lf qs) t4 t5 t6) st
  | [], f, s4, s5, s6, _, _ => ⟨s4, s5, s6, by unfold cutL; rw [List.map_nil, List.flatMap_nil, List.append_nil]; rfl⟩
  | p :: qs, f, s4, s5, s6, hq, hz => by
    simp only [List.length_cons] at hz
    obtain ⟨h0, h1⟩ := hq p List.mem_cons_self
    have step := step10 (m := m) (ps := ps) (lf := lf) (f := f) (s4 := s4) (s5 := s5) (s6 := s6) (st := st) h0 h1 hs (by omega)
    have hlay := lay_len (lf := lf) (far := p.2) hs
    obtain ⟨t4, t5, t6, e⟩ := go10 (m := m) (ps := ps) (lf := lf) (st := st) hs qs (f ++ (layN pk lf p.2).map fun c => (p.1, c)) (A (.int p.1)) (A (.int p.2)) (A (layD (layN pk lf p.2))) (fun q hq' => hq q (List.mem_cons_of_mem _ hq')) (by rw [List.length_append, List.length_map]; omega)
    refine ⟨t4, t5, t6, ?_⟩
    show (fStep _ _ _ _ _ _ _ _).bind _ = _
    rw [step]
    show forGo _ _ _ _ = _
    rw [e, List.append_assoc]; rfl
theorem f10 {m : Nat} {pk : List (List Int)} {ps : Cs} {lf : Bool} {st : Pi.Sto} (hs : ∀ l ∈ pk, l.length ≤ 1000) (hq : ∀ p ∈ ps, 0 ≤ p.2 ∧ p.2 < pk.length) (hl : ps.length ≤ 9) :
    call (m + 1) 10 [.lst (packL pk), lotD ps, .str (sideS lf)] st = .ok (.lst (cellsD (cutL pk lf ps))) true st := by
  obtain ⟨t4, t5, t6, e⟩ := go10 (m := m) (ps := ps) (lf := lf) (st := st) hs ps [] none none none hq (by simp; omega)
  exact call_ret (fn := c_cut_at) (env1 := (env10 pk ps lf (cutL pk lf ps) t4 t5 t6).set 3 none) rfl rfl ((b_asg (p := (.lst [], true)) (env2 := env10 pk ps lf [] none none none) rfl rfl).trans ((b_nx ((s_for (x := lotD ps) (xs := ps.map cD) (o := false) (env1 := env10 pk ps lf [] none none none) (st1 := st) rfl rfl).trans e)).trans (b_retv (env := env10 pk ps lf (cutL pk lf ps) t4 t5 t6) rfl)))
end K11

set_option maxRecDepth 100000
set_option maxHeartbeats 0
/-! K11j: which columns lie at a place of a packet. -/
namespace K11
open PySem Pi Pi.EvR
theorem wave_period {w k r : Int} : waveN (2 * w * k + r) w = waveN r w := by
  unfold waveN
  rw [Int.add_comm, Int.add_mul_emod_self_left]
theorem wave_val {q w : Int} (h0 : 0 ≤ q) (h1 : q < 3 * w) : waveN q w = if q < w then q else if q < 2 * w then 2 * w - 1 - q else q - 2 * w := by
  by_cases h2 : q < 2 * w
  · rw [wave_at (q := 0) (r := q) (by omega) h0 h2]
    split
    · rfl
    · rfl
  · rw [wave_at (q := 1) (r := q - 2 * w) (by omega) (by omega) (by omega), if_pos (by omega), if_neg (by omega), if_neg h2]
theorem wave_comp {c w : Int} {m : Int} (hw : 0 < w) (hm : 0 < m) : waveN (waveN c (m * w)) w = waveN c w := by
  have hmw : 0 < m * w := Int.mul_pos hm hw
  obtain ⟨q, r, e, h0, h1⟩ := split_mod c hmw
  rw [wave_at e h0 h1]
  have ec : waveN c w = waveN r w := by
    have : c = 2 * w * (m * q) + r := by
      rw [e]
      have : 2 * (m * w) * q = 2 * w * (m * q) := by
        rw [Int.mul_comm m w, ← Int.mul_assoc, Int.mul_assoc (2 * w) m q]
      rw [this]
    rw [this, wave_period]
  rw [ec]
  by_cases h : r < m * w
  · rw [if_pos h]
  · rw [if_neg h]
    have := wave_mirror (p := r) (w := w) (m := 2 * m) hw
    rw [if_pos (by omega)] at this
    rw [← this]
    congr 1
    rw [Int.mul_assoc]
/-- the packet at place p holds the columns that come to lie there -/
def Holds (pk : List (List Int)) (W w : Nat) : Prop := pk.length = w ∧ ∀ p : Nat, p < w → ∀ c : Int, c ∈ pk.getD p [] ↔ (0 ≤ c ∧ c < W ∧ waveN c w = p)
def pack0 (W : Nat) : List (List Int) := (List.range W).map fun c => [((c : Nat) : Int)]
theorem holds0 {W : Nat} : Holds (pack0 W) W W := by
  refine ⟨by unfold pack0; rw [List.length_map, List.length_range], fun p hp c => ?_⟩
  unfold pack0
  rw [List.getD_eq_getElem?_getD, List.getElem?_map, List.getElem?_range hp]
  show c ∈ [((p : Nat) : Int)] ↔ _
  rw [List.mem_singleton]
  constructor
  · rintro rfl
    exact ⟨by omega, by omega, wave_small (by omega) (by omega)⟩
  · rintro ⟨a, b, e⟩
    rw [wave_small a b] at e
    exact e
theorem holds_fold {pk : List (List Int)} {W w parts : Nat} (hp : parts = 2 ∨ parts = 3) (hw : 0 < w) (h : Holds pk W (parts * w)) : Holds (foldN pk parts w) W w := by
  refine ⟨by unfold foldN; rw [List.length_map, List.length_range], fun p hpw c => ?_⟩
  have hw2 : 2 * w ≤ parts * w := Nat.mul_le_mul_right _ (by omega)
  have hg : (foldN pk parts w).getD p [] = (pk.getD p [] ++ (pk.getD (2 * w - 1 - p) []).reverse) ++ (if parts = 3 then pk.getD (2 * w + p) [] else []) := by
    unfold foldN
    rw [List.getD_eq_getElem?_getD, List.getElem?_map, List.getElem?_range hpw]
    rfl
  rw [hg, List.mem_append, List.mem_append, List.mem_reverse, h.2 p (by omega) c, h.2 (2 * w - 1 - p) (by omega) c]
  have e3 : (c ∈ (if parts = 3 then pk.getD (2 * w + p) [] else [])) ↔ (parts = 3 ∧ 0 ≤ c ∧ c < W ∧ waveN c ((parts * w : Nat) : Int) = ((2 * w + p : Nat) : Int)) := by
    by_cases e : parts = 3
    · rw [if_pos e, h.2 (2 * w + p) (by rw [e]; omega) c]
      exact ⟨fun z => ⟨e, z⟩, fun z => z.2⟩
    · rw [if_neg e]
      exact ⟨fun z => (nomatch z), fun z => absurd z.1 e⟩
  rw [e3]
  have hcomp : waveN (waveN c ((parts * w : Nat) : Int)) (w : Int) = waveN c (w : Int) := by
    rw [Int.natCast_mul]
    exact wave_comp (by omega) (by omega)
  have hrng := wave_rng (p := c) (w := ((parts * w : Nat) : Int)) (by omega)
  generalize waveN c ((parts * w : Nat) : Int) = q at hcomp hrng ⊢
  have h3 : q < 3 * (w : Int) := by
    have : parts * w ≤ 3 * w := Nat.mul_le_mul_right _ (by omega)
    omega
  rw [wave_val hrng.1 h3] at hcomp
  rw [← hcomp]
  have hp2 : parts = 2 → q < 2 * (w : Int) := fun e => by
    have := hrng.2
    rw [e] at this
    omega
  have k1 : ((p : Nat) : Int) < w := by omega
  have k2 : ((2 * w - 1 - p : Nat) : Int) = 2 * w - 1 - p := by omega
  have k3 : ((2 * w + p : Nat) : Int) = 2 * w + p := by omega
  rw [k2, k3]
  constructor
  · rintro ((⟨a, b, e⟩ | ⟨a, b, e⟩) | ⟨_, a, b, e⟩)
    · refine ⟨a, b, ?_⟩
      rw [if_pos (by omega)]; exact e
    · refine ⟨a, b, ?_⟩
      rw [if_neg (by omega), if_pos (by omega)]; omega
    · refine ⟨a, b, ?_⟩
      rw [if_neg (by omega), if_neg (by omega)]; omega
  · rintro ⟨a, b, e⟩
    by_cases c1 : q < w
    · rw [if_pos c1] at e
      exact .inl (.inl ⟨a, b, e⟩)
    · rw [if_neg c1] at e
      by_cases c2 : q < 2 * (w : Int)
      · rw [if_pos c2] at e
        exact .inl (.inr ⟨a, b, by omega⟩)
      · rw [if_neg c2] at e
        rcases hp with h2 | h2
        · exact absurd (hp2 h2) c2
        · exact .inr ⟨h2, a, b, by omega⟩
/-- what a lot cuts -/
theorem mem_cut {pk : List (List Int)} {W w : Nat} {lf : Bool} {ps : Cs} (h : Holds pk W w) (hq : ∀ p ∈ ps, 0 ≤ p.2 ∧ p.2 < w) {row col : Int} : (row, col) ∈ cutL pk lf ps ↔ 0 ≤ col ∧ col < W ∧ (row, if lf then waveN col w else w - 1 - waveN col w) ∈ ps := by
  unfold cutL
  rw [List.mem_flatMap]
  have lay : ∀ p ∈ ps, ∀ c : Int, c ∈ layN pk lf p.2 ↔ (0 ≤ c ∧ c < W ∧ (if lf then waveN c w else w - 1 - waveN c w) = p.2) := fun p hp c => by
    obtain ⟨h0, h1⟩ := hq p hp
    unfold layN
    cases lf with
    | true =>
      rw [if_pos rfl, if_pos rfl, h.2 p.2.toNat (by omega) c]
      constructor
      · rintro ⟨a, b, e⟩; exact ⟨a, b, by omega⟩
      · rintro ⟨a, b, e⟩; exact ⟨a, b, by omega⟩
    | false =>
      rw [if_neg (by decide), if_neg (by decide), h.1, h.2 (w - 1 - p.2.toNat) (by omega) c]
      constructor
      · rintro ⟨a, b, e⟩; exact ⟨a, b, by omega⟩
      · rintro ⟨a, b, e⟩; exact ⟨a, b, by omega⟩
  constructor
  · rintro ⟨p, hp, hm⟩
    obtain ⟨c, hc, e⟩ := List.mem_map.mp hm
    injection e with e1 e2
    subst e1 e2
    obtain ⟨a, b, e⟩ := (lay p hp _).mp hc
    exact ⟨a, b, by rw [e]; exact hp⟩
  · rintro ⟨a, b, hp⟩
    exact ⟨_, hp, List.mem_map.mpr ⟨col, (lay _ hp col).mpr ⟨a, b, rfl⟩, rfl⟩⟩
end K11

set_option maxRecDepth 100000
set_option maxHeartbeats 0
/-! K11k: cut_cells. -/
namespace K11
open PySem Pi Pi.EvR
section
variable {G : Gl} {cl : Nat → List D → Sto → RC} {bw o : Bool} {a : C} {env env1 : Pi.Env} {st st1 : Pi.Sto} {xs : List D}
theorem e_dof {ps : List (D × D)} (h : ev G cl true a env st = .ok (.lst xs, o) env1 st1) (h2 : pairsD xs = some ps) (hz : ps.length ≤ 1000000) : ev G cl bw (.dof a) env st = .ok (.ref st1.length, false) env1 (st1 ++ [Ob.dct (dkAll [] ps)]) := by
  conv => lhs; unfold ev
  rw [h]
  show (match pairsD xs with
    | some ps => if szOk ps.length then R.ok (D.ref st1.length, false) env1 (st1 ++ [Ob.dct (dkAll [] ps)]) else .no
    | none => .no) = _
  rw [h2]
  dsimp only
  rw [if_pos (by simp [szOk]; exact hz)]
end
def wQ (s : Scp) (n k : Nat) : Nat := (wk s n k).toNat
theorem wQ_int {s : Scp} (h : s.Ok) (n k : Nat) : ((wQ s n k : Nat) : Int) = wk s n k := by
  have := wk_pos h n k
  unfold wQ
  omega
theorem part_23 {s : Scp} (h : s.Ok) (k : Nat) : (s.part k).toNat = 2 ∨ (s.part k).toNat = 3 := by
  rw [part_rd h]
  have := (h.rds _ (rd_mem h k).2).1
  omega
theorem wk_step {s : Scp} (h : s.Ok) {n k : Nat} (hk : k < n) : wQ s n k = (s.part k).toNat * wQ s n (k + 1) := by
  have e : wk s n k = s.part k * wk s n (k + 1) := by
    unfold wk
    have : n - k = (n - (k + 1)) + 1 := by omega
    rw [this, sz_succ (by omega)]
    have e2 : n - 1 - (n - (k + 1)) = k := by omega
    rw [e2]
    rw [Int.mul_comm (sz s n (n - (k + 1))) (s.part k), ← Int.mul_assoc, Int.mul_comm s.len (s.part k), Int.mul_assoc]
  have h1 := wQ_int h n k
  have h2 := wQ_int h n (k + 1)
  have h3 : ((s.part k).toNat : Int) = s.part k := by
    have := part_23 h k
    omega
  have : ((wQ s n k : Nat) : Int) = (((s.part k).toNat * wQ s n (k + 1) : Nat) : Int) := by
    rw [Int.natCast_mul, h1, h2, h3, e]
  omega
def packN (s : Scp) (n : Nat) : Nat → List (List Int)
  | 0 => pack0 (wQ s n 0)
  | k + 1 => foldN (packN s n k) (s.part k).toNat (wQ s n (k + 1))
theorem packN_holds {s : Scp} (h : s.Ok) {n : Nat} : ∀ k, k ≤ n → Holds (packN s n k) (wQ s n 0) (wQ s n k)
  | 0, _ => holds0
  | k + 1, hk => by
    have ih := packN_holds (n := n) h k (by omega)
    rw [wk_step h (show k < n by omega)] at ih
    have h2 := wQ_int h n (k + 1)
    have := wk_pos h n (k + 1)
    exact holds_fold (part_23 h k) (by omega) ih
theorem packN_len {s : Scp} (h : s.Ok) {n : Nat} : ∀ k, ∀ l ∈ packN s n k, l.length ≤ 3 ^ k
  | 0, l, hl => by
    unfold packN pack0 at hl
    obtain ⟨c, _, rfl⟩ := List.mem_map.mp hl
    simp
  | k + 1, l, hl => by
    unfold packN foldN at hl
    obtain ⟨i, _, rfl⟩ := List.mem_map.mp hl
    have hlen : ∀ j, ((packN s n k).getD j []).length ≤ 3 ^ k := fun j => by
      rw [List.getD_eq_getElem?_getD]
      cases e : (packN s n k)[j]? with
      | none => simp
      | some l => exact packN_len h k l (List.mem_of_getElem? e)
    have h1 := hlen i
    have h2 := hlen (2 * wQ s n (k + 1) - 1 - i)
    have h3 := hlen (2 * wQ s n (k + 1) + i)
    rw [List.length_append, List.length_append, List.length_reverse, Nat.pow_succ]
    split
    · omega
    · rw [List.length_nil]; omega
theorem packN_1000 {s : Scp} (h : s.Ok) {n k : Nat} (hk : k ≤ 4) : ∀ l ∈ packN s n k, l.length ≤ 1000 := fun l hl => by
  have h1 := packN_len h k l hl
  have h2 : 3 ^ k ≤ 3 ^ 4 := Nat.pow_le_pow_right (by omega) hk
  omega
def cutN (s : Scp) (n : Nat) : Nat → List Cell
  | 0 => cutL (packN s n 0) true s.b1 ++ cutL (packN s n 0) false s.b2
  | k + 1 => (cutN s n k ++ cutL (packN s n (k + 1)) true (s.rd k).2.1) ++ cutL (packN s n (k + 1)) false (s.rd k).2.2
def allCut (s : Scp) (n : Nat) : List Cell := cutN s n n ++ cutL (packN s n n) true s.aft
theorem cutL_len {pk : List (List Int)} {lf : Bool} (hs : ∀ l ∈ pk, l.length ≤ 1000) : ∀ ps : Cs, (cutL pk lf ps).length ≤ 1000 * ps.length
  | [] => Nat.zero_le _
  | p :: ps => by
    unfold cutL
    rw [List.flatMap_cons, List.length_append, List.length_map, List.length_cons]
    have := cutL_len (lf := lf) hs ps
    unfold cutL at this
    have := lay_len (lf := lf) (far := p.2) hs
    omega
theorem cutN_len {s : Scp} (h : s.Ok) {n : Nat} : ∀ k, k ≤ 4 → (cutN s n k).length ≤ 18000 * (k + 1)
  | 0, _ => by
    unfold cutN
    rw [List.length_append]
    have a := cutL_len (lf := true) (packN_1000 h (n := n) (k := 0) (by omega)) s.b1
    have b := cutL_len (lf := false) (packN_1000 h (n := n) (k := 0) (by omega)) s.b2
    have := h.b1.few
    have := h.b2.few
    omega
  | k + 1, hk => by
    unfold cutN
    rw [List.length_append, List.length_append]
    have ih := cutN_len h (n := n) k (by omega)
    have a := cutL_len (lf := true) (packN_1000 h (n := n) (k := k + 1) hk) (s.rd k).2.1
    have b := cutL_len (lf := false) (packN_1000 h (n := n) (k := k + 1) hk) (s.rd k).2.2
    have hr := h.rds _ (rd_mem h k).2
    have := hr.2.1.few
    have := hr.2.2.few
    omega
theorem lot_rng {s : Scp} (h : s.Ok) {n k : Nat} {ps : Cs} (hl : LotOk s.rows s.len ps) (hp : (packN s n k).length = wQ s n k) : ∀ p ∈ ps, 0 ≤ p.2 ∧ p.2 < (packN s n k).length := fun p hpp => by
  have h1 := hl.lot.rng p hpp
  rw [hp, wQ_int h]
  have h2 : s.len ≤ wk s n k := by
    unfold wk
    have h3 := (sz_pos h n (n - k)).2
    have := h.len
    calc s.len = s.len * 1 := by rw [Int.mul_one]
      _ ≤ s.len * sz s n (n - k) := Int.mul_le_mul_of_nonneg_left (by omega) (by omega)
  omega
theorem cut_at_ok {m n k : Nat} {s : Scp} {ps : Cs} {lf : Bool} {st : Pi.Sto} (h : s.Ok) (hn : n ≤ 4) (hk : k ≤ n) (hl : LotOk s.rows s.len ps) : call (m + 1) 10 [.lst (packL (packN s n k)), lotD ps, .str (sideS lf)] st = .ok (.lst (cellsD (cutL (packN s n k) lf ps))) true st :=
  f10 (packN_1000 h (by omega)) (lot_rng h hl (packN_holds h k hk).1) hl.few
theorem fold_ok {m n k : Nat} {s : Scp} {st : Pi.Sto} (h : s.Ok) (hn : n ≤ 4) (hk : k < n) (hw : wQ s n 0 ≤ 500) : call (m + 1) 9 [.lst (packL (packN s n k)), .int (s.part k)] st = .ok (.lst (packL (packN s n (k + 1)))) true st := by
  have hl : (packN s n k).length = (s.part k).toNat * wQ s n (k + 1) := (packN_holds h k (by omega)).1.trans (wk_step h hk)
  have hle : ∀ j, j ≤ n → wQ s n j ≤ wQ s n 0 := by
    intro j
    induction j with
    | zero => intro _; exact Nat.le_refl _
    | succ j ih =>
      intro hj
      have := ih (by omega)
      rw [wk_step h (by omega : j < n)] at this
      have h2 : wQ s n (j + 1) ≤ (s.part j).toNat * wQ s n (j + 1) := by
        rcases part_23 h j with e | e <;> rw [e] <;> omega
      omega
  have := f9 (m := m) (st := st) (part_23 h k) hl (by have := hle (k + 1) (by omega); omega) (packN_1000 h (by omega))
  have h3 : ((s.part k).toNat : Int) = s.part k := by
    have := part_23 h k
    omega
  rw [h3] at this
  exact this
end K11

set_option maxRecDepth 100000
set_option maxHeartbeats 0
/-! K11l: the cells that are cut. -/
namespace K11
open PySem Pi Pi.EvR
theorem mem_cut2 {s : Scp} (h : s.Ok) {n k : Nat} (hk : k ≤ n) {lf : Bool} {ps : Cs} (hl : LotOk s.rows s.len ps) {row col : Int} : (row, col) ∈ cutL (packN s n k) lf ps ↔ 0 ≤ col ∧ col < wQ s n 0 ∧ (row, if lf then waveN col (wk s n k) else wk s n k - 1 - waveN col (wk s n k)) ∈ ps := by
  have hh := packN_holds h k hk
  have := mem_cut (lf := lf) (ps := ps) (row := row) (col := col) hh (fun p hp => by
    have := lot_rng h hl hh.1 p hp
    rw [hh.1] at this
    exact this)
  rw [wQ_int h n k] at this
  exact this
theorem mem_cutN {s : Scp} (h : s.Ok) {n : Nat} {row col : Int} : ∀ k, k ≤ n → ((row, col) ∈ cutN s n k ↔ 0 ≤ col ∧ col < wQ s n 0 ∧ ∃ j, j ≤ k ∧ BC s n false row col j)
  | 0, hk => by
    unfold cutN
    rw [List.mem_append, mem_cut2 h hk h.b1, mem_cut2 h hk h.b2]
    constructor
    · rintro (⟨a, b, e⟩ | ⟨a, b, e⟩)
      · exact ⟨a, b, 0, Nat.le_refl _, .inl e⟩
      · exact ⟨a, b, 0, Nat.le_refl _, .inr e⟩
    · rintro ⟨a, b, j, hj, e⟩
      obtain rfl : j = 0 := by omega
      rcases e with e | e
      · exact .inl ⟨a, b, e⟩
      · exact .inr ⟨a, b, e⟩
  | k + 1, hk => by
    have ih := mem_cutN (n := n) h (row := row) (col := col) k (by omega)
    have hr := h.rds _ (rd_mem h k).2
    unfold cutN
    rw [List.mem_append, List.mem_append, ih, mem_cut2 h hk hr.2.1, mem_cut2 h hk hr.2.2]
    constructor
    · rintro ((⟨a, b, j, hj, e⟩ | ⟨a, b, e⟩) | ⟨a, b, e⟩)
      · exact ⟨a, b, j, by omega, e⟩
      · exact ⟨a, b, k + 1, Nat.le_refl _, .inl e⟩
      · exact ⟨a, b, k + 1, Nat.le_refl _, .inr e⟩
    · rintro ⟨a, b, j, hj, e⟩
      by_cases hj2 : j ≤ k
      · exact .inl (.inl ⟨a, b, j, hj2, e⟩)
      · obtain rfl : j = k + 1 := by omega
        rcases e with e | e
        · exact .inl (.inr ⟨a, b, e⟩)
        · exact .inr ⟨a, b, e⟩
theorem mem_all {s : Scp} (h : s.Ok) {n : Nat} {row col : Int} : (row, col) ∈ allCut s n ↔ 0 ≤ col ∧ col < wQ s n 0 ∧ GP s n false row col := by
  unfold allCut
  rw [List.mem_append, mem_cutN h n (Nat.le_refl _), mem_cut2 h (Nat.le_refl _) h.aft, gp_base, wk_end]
  constructor
  · rintro (⟨a, b, e⟩ | ⟨a, b, e⟩)
    · exact ⟨a, b, .inl e⟩
    · exact ⟨a, b, .inr e⟩
  · rintro ⟨a, b, e | e⟩
    · exact .inl ⟨a, b, e⟩
    · exact .inr ⟨a, b, e⟩
theorem cut_left {s : Scp} (h : s.Ok) {n : Nat} {row col : Int} (h0 : 0 ≤ col) (h1 : col < wQ s n 0) : (allCut s n).contains (row, col) = !(lfB s n row col) := by
  have m := mem_all h (n := n) (row := row) (col := col)
  unfold lfB
  rw [Bool.not_not]
  by_cases g : GP s n false row col
  · rw [@decide_eq_true _ (Classical.propDecidable _) g]
    rw [List.contains_iff_mem]
    exact m.mpr ⟨h0, h1, g⟩
  · rw [@decide_eq_false _ (Classical.propDecidable _) g]
    cases e : (allCut s n).contains (row, col) with
    | false => rfl
    | true => exact absurd (m.mp (List.contains_iff_mem.mp e)).2.2 g
end K11

set_option maxRecDepth 100000
set_option maxHeartbeats 0
/-! K11m: cut_cells, opened. -/
namespace K11
open PySem Pi Pi.EvR
def envQ (s : Scp) (n : Nat) (s2 s3 s4 s11 s12 s13 : Slot) : Pi.Env := [A s.d, A (.int n), s2, s3, s4, A (.int s.rows), A (.int s.len), A (.tup [lotD s.b1, lotD s.b2]), A (.tup (s.rds.map rdD)), A (lotD s.aft), none, s11, s12, s13, none]
abbrev pkS (s : Scp) (n k : Nat) (o : Bool) : Slot := some (.lst (packL (packN s n k)), o)
abbrev fdS (s : Scp) (n k : Nat) : Slot := some (.lst (cellsD (cutN s n k)), true)
abbrev b11 : List S := [
  .asg (.t [11, 12, 13]) (.ix (.v 8) (.bin .mod (.v 4) (.bi .len [.v 8]))),
  .asg (.n 2) (.call 9 [.v 2, .v 11]),
  .asg (.n 3) (.bin .add (.bin .add (.v 3) (.call 10 [.v 2, .v 12, .k (.str "left")])) (.call 10 [.v 2, .v 13, .k (.str "right")]))]
theorem cells_add {a b : List Cell} (h : a.length + b.length ≤ 1000000) : binop .add (.lst (cellsD a)) (.lst (cellsD b)) = some (.lst (cellsD (a ++ b)), true) := by
  show (if szOk ((cellsD a).length + (cellsD b).length) = true then some (D.lst (cellsD a ++ cellsD b), true) else none) = _
  have hz : szOk ((cellsD a).length + (cellsD b).length) = true := by
    unfold cellsD
    rw [List.length_map, List.length_map]
    simp [szOk]; omega
  rw [if_pos hz]
  unfold cellsD
  rw [List.map_append]
theorem cut_ev {m n k : Nat} {s : Scp} {ps : Cs} {lf o bw : Bool} {c : C} {s3 s4 s11 s12 s13 : Slot} {st : Pi.Sto} (h : s.Ok) (hn : n ≤ 4) (hk : k ≤ n) (hl : LotOk s.rows s.len ps) (hc : ev cd.G (call (m + 1)) false c (envQ s n (pkS s n k false) s3 s4 s11 s12 s13) st = .ok (lotD ps, false) (envQ s n (pkS s n k false) s3 s4 s11 s12 s13) st) :
    ev cd.G (call (m + 1)) bw (.call 10 [.v 2, c, .k (.str (sideS lf))]) (envQ s n (pkS s n k o) s3 s4 s11 s12 s13) st = .ok (.lst (cellsD (cutL (packN s n k) lf ps)), true) (envQ s n (pkS s n k false) s3 s4 s11 s12 s13) st := by
  have h2 : ev cd.G (call (m + 1)) false (.v 2) (envQ s n (pkS s n k o) s3 s4 s11 s12 s13) st = .ok (.lst (packL (packN s n k)), false) (envQ s n (pkS s n k false) s3 s4 s11 s12 s13) st := by cases o <;> rfl
  exact e_call (ds := [.lst (packL (packN s n k)), lotD ps, .str (sideS lf)]) (es_cons h2 (es_cons hc (es_cons (o := false) rfl es_nil))) (cut_at_ok h hn hk hl)
theorem cutN_bound {s : Scp} (h : s.Ok) {n k : Nat} (hk : k ≤ 4) {lf : Bool} {ps : Cs} (hp : ps.length ≤ 9) : (cutL (packN s n k) lf ps).length ≤ 9000 := by
  have := cutL_len (lf := lf) (packN_1000 h (n := n) hk) ps
  omega
theorem step11 {m n k : Nat} {s : Scp} {s4 s11 s12 s13 : Slot} {st : Pi.Sto} (h : s.Ok) (hn : n ≤ 4) (hk : k < n) (hw : wQ s n 0 ≤ 500) :
    fStep cd.G (call (m + 1)) 300 (.n 4) b11 (.int (k : Nat)) (envQ s n (pkS s n k false) (fdS s n k) s4 s11 s12 s13) st = .ok .nx (envQ s n (pkS s n (k + 1) false) (fdS s n (k + 1)) (A (.int (k : Nat))) (A (.int (s.part k))) (A (lotD (s.rd k).2.1)) (A (lotD (s.rd k).2.2))) st := by
  have hr := h.rds _ (rd_mem h k).2
  have ep : (s.rd k).1 = s.part k := (part_rd h k).symm
  have hsome := h.some
  have a1 : ev cd.G (call (m + 1)) false (.ix (.v 8) (.bin .mod (.v 4) (.bi .len [.v 8]))) (envQ s n (pkS s n k false) (fdS s n k) (A (.int (k : Nat))) s11 s12 s13) st = .ok (rdD (s.rd k), false) (envQ s n (pkS s n k false) (fdS s n k) (A (.int (k : Nat))) s11 s12 s13) st :=
    e_ix (o := false) (o2 := false) (x := .tup (s.rds.map rdD)) rfl (e_bin (o := false) (o2 := false) rfl (e_bi (ds := [.tup (s.rds.map rdD)]) (es_cons (o := false) rfl es_nil) rfl) (mod_pos (by rw [List.length_map]; omega))) (ixt (ix_rd h))
  show exB cd.G (call (m + 1)) 300 b11 (envQ s n (pkS s n k false) (fdS s n k) (A (.int (k : Nat))) s11 s12 s13) st = _
  refine (b_asg (env2 := envQ s n (pkS s n k false) (fdS s n k) (A (.int (k : Nat))) (A (.int (s.part k))) (A (lotD (s.rd k).2.1)) (A (lotD (s.rd k).2.2))) a1 (by rw [← ep]; rfl)).trans ?_
  refine (b_asg (p := (.lst (packL (packN s n (k + 1))), true)) (env1 := envQ s n (pkS s n k false) (fdS s n k) (A (.int (k : Nat))) (A (.int (s.part k))) (A (lotD (s.rd k).2.1)) (A (lotD (s.rd k).2.2))) (env2 := envQ s n (pkS s n (k + 1) true) (fdS s n k) (A (.int (k : Nat))) (A (.int (s.part k))) (A (lotD (s.rd k).2.1)) (A (lotD (s.rd k).2.2))) (st1 := st) (e_call (ds := [.lst (packL (packN s n k)), .int (s.part k)]) (es_cons (o := false) rfl (es_cons (o := false) rfl es_nil)) (fold_ok h hn hk hw)) rfl).trans ?_
  have c1 := cut_ev (m := m) (k := k + 1) (lf := true) (o := true) (bw := true) (c := .v 12) (s3 := fdS s n k) (s4 := A (.int (k : Nat))) (s11 := A (.int (s.part k))) (s12 := A (lotD (s.rd k).2.1)) (s13 := A (lotD (s.rd k).2.2)) (st := st) h hn (by omega) hr.2.1 rfl
  have c2 := cut_ev (m := m) (k := k + 1) (lf := false) (o := false) (bw := true) (c := .v 13) (s3 := fdS s n k) (s4 := A (.int (k : Nat))) (s11 := A (.int (s.part k))) (s12 := A (lotD (s.rd k).2.1)) (s13 := A (lotD (s.rd k).2.2)) (st := st) h hn (by omega) hr.2.2 rfl
  have l0 := cutN_len h (n := n) k (by omega)
  have l1 := cutN_bound h (n := n) (k := k + 1) (by omega) (lf := true) hr.2.1.few
  have l2 := cutN_bound h (n := n) (k := k + 1) (by omega) (lf := false) hr.2.2.few
  have a3 : ev cd.G (call (m + 1)) false (.bin .add (.bin .add (.v 3) (.call 10 [.v 2, .v 12, .k (.str "left")])) (.call 10 [.v 2, .v 13, .k (.str "right")])) (envQ s n (pkS s n (k + 1) true) (fdS s n k) (A (.int (k : Nat))) (A (.int (s.part k))) (A (lotD (s.rd k).2.1)) (A (lotD (s.rd k).2.2))) st = .ok (.lst (cellsD (cutN s n (k + 1))), true) (envQ s n (pkS s n (k + 1) false) (fdS s n k) (A (.int (k : Nat))) (A (.int (s.part k))) (A (lotD (s.rd k).2.1)) (A (lotD (s.rd k).2.2))) st := by
    refine e_bin (env1 := envQ s n (pkS s n (k + 1) false) (fdS s n k) (A (.int (k : Nat))) (A (.int (s.part k))) (A (lotD (s.rd k).2.1)) (A (lotD (s.rd k).2.2))) (st1 := st) (x := .lst (cellsD (cutN s n k ++ cutL (packN s n (k + 1)) true (s.rd k).2.1))) (o := true) (e_bin (env1 := envQ s n (pkS s n (k + 1) true) (fdS s n k) (A (.int (k : Nat))) (A (.int (s.part k))) (A (lotD (s.rd k).2.1)) (A (lotD (s.rd k).2.2))) (st1 := st) (o := false) (x := .lst (cellsD (cutN s n k))) rfl c1 (cells_add (by omega))) c2 (cells_add (by rw [List.length_append]; omega))
  exact (b_asg (env2 := envQ s n (pkS s n (k + 1) false) (fdS s n (k + 1)) (A (.int (k : Nat))) (A (.int (s.part k))) (A (lotD (s.rd k).2.1)) (A (lotD (s.rd k).2.2))) a3 rfl).trans rfl
end K11

set_option maxRecDepth 100000
set_option maxHeartbeats 0
/-! K11n: cut_cells, opened. -/
namespace K11
open PySem Pi Pi.EvR
theorem go11 {m n : Nat} {s : Scp} {st : Pi.Sto} (h : s.Ok) (hn : n ≤ 4) (hw : wQ s n 0 ≤ 500) : ∀ (r k : Nat) (s4 s11 s12 s13 : Slot), k + r = n →
    ∃ t4 t11 t12 t13, forGo (fStep cd.G (call (m + 1)) 300 (.n 4) b11) ((List.range' k r).map fun i => .int (i : Nat)) (envQ s n (pkS s n k false) (fdS s n k) s4 s11 s12 s13) st = .ok .nx (envQ s n (pkS s n n false) (fdS s n n) t4 t11 t12 t13) st
  | 0, k, s4, s11, s12, s13, hk => by
    obtain rfl : k = n := by omega
    exact ⟨s4, s11, s12, s13, rfl⟩
  | r + 1, k, s4, s11, s12, s13, hk => by
    have step := step11 (m := m) (s4 := s4) (s11 := s11) (s12 := s12) (s13 := s13) (st := st) h hn (show k < n by omega) hw
    obtain ⟨t4, t11, t12, t13, e⟩ := go11 (m := m) (st := st) h hn hw r (k + 1) (A (.int (k : Nat))) (A (.int (s.part k))) (A (lotD (s.rd k).2.1)) (A (lotD (s.rd k).2.2)) (by omega)
    refine ⟨t4, t11, t12, t13, ?_⟩
    rw [List.range'_succ, List.map_cons]
    show (fStep _ _ _ _ _ _ _ _).bind _ = _
    rw [step]
    exact e
theorem wide0 {s : Scp} (h : s.Ok) (n : Nat) : s.len * s.prod n 0 1 = (wQ s n 0 : Nat) := by
  rw [wQ_int h]
  unfold wk sz
  rw [Nat.sub_zero, Nat.sub_self]
theorem f11 {m n : Nat} {s : Scp} {st : Pi.Sto} (h : s.Ok) (hn : n ≤ 4) (hw : wQ s n 0 ≤ 500) : call (m + 4) 11 [s.d, .int n] st = .ok (.ref st.length) false (st ++ [Ob.dct (dkAll [] (cutK (allCut s n)))]) := by
  obtain ⟨t4, t11, t12, t13, e⟩ := go11 (m := m + 2) (st := st) h hn hw n 0 none none none none (by omega)
  have hlen := h.len
  have hmul : binop .mul (.int s.len) (.int (s.prod n 0 1)) = some (.int (wQ s n 0 : Nat), false) := by
    show (if (bigOk s.len || bigOk (s.prod n 0 1)) = true then some (D.int (s.len * s.prod n 0 1), false) else none) = _
    have : bigOk s.len = true := by
      unfold bigOk
      rw [decide_eq_true (by omega), decide_eq_true (by omega)]; rfl
    rw [this, Bool.true_or, if_pos rfl, wide0 h]
  let E0 : Pi.Env := envQ s n none none none none none none
  have hrg : ev cd.G (call (m + 3)) false (.rng [.bin .mul (.v 6) (.call 8 [.v 0, .v 1])]) E0 st = .ok (.lst (rangeD 0 (wQ s n 0)), false) E0 st := by
    refine e_rng (ds := [.int (wQ s n 0 : Nat)]) (es_cons (e_bin (o := false) (o2 := false) (x := .int s.len) (y := .int (s.prod n 0 1)) rfl (e_call (ds := [s.d, .int n]) (es_cons (o := false) rfl (es_cons (o := false) rfl es_nil)) (f8 (n := m + 1) (m := n) (st := st) h (by omega))) hmul) es_nil) ?_
    show (if small ((wQ s n 0 : Nat) : Int) = true then some (D.lst (rangeD 0 ((wQ s n 0 : Nat) : Int).toNat)) else none) = _
    rw [small_nat (by omega), if_pos rfl]; rfl
  have hl := lc_map (G := cd.G) (cl := call (m + 3)) (st := st) (elt := .tp [.v 10]) (tg := .n 10) (env0 := E0) (f := fun x => .tup [x]) (xs := rangeD 0 (wQ s n 0)) (fun x hx => ⟨E0.set 10 (A x), false, rfl, e_tp (ds := [x]) (es_cons (o := false) rfl es_nil) rfl, rfl⟩)
  have e2 : (rangeD 0 (wQ s n 0)).map (fun x => D.tup [x]) = packL (packN s n 0) := by
    rw [range_int]
    unfold packL packN pack0
    rw [List.map_map, List.map_map]; rfl
  rw [e2] at hl
  have a2 : ev cd.G (call (m + 3)) false (.lc (.tp [.v 10]) (.n 10) (.rng [.bin .mul (.v 6) (.call 8 [.v 0, .v 1])]) none) E0 st = .ok (.lst (packL (packN s n 0)), true) E0 st :=
    e_lc (env1 := E0) (env2 := E0) (st1 := st) (x := .lst (rangeD 0 (wQ s n 0))) (o := false) hrg rfl (by rw [rangeD_len]; simp [szOk]; omega) hl rfl
  have c1 := cut_ev (m := m + 2) (n := n) (k := 0) (lf := true) (o := true) (bw := true) (c := .ix (.v 7) (.k (.int 0))) (s3 := none) (s4 := none) (s11 := none) (s12 := none) (s13 := none) (st := st) h hn (by omega) h.b1 (e_ix (o := false) (o2 := false) rfl rfl (ixt at0))
  have c2 := cut_ev (m := m + 2) (n := n) (k := 0) (lf := false) (o := false) (bw := true) (c := .ix (.v 7) (.k (.int 1))) (s3 := none) (s4 := none) (s11 := none) (s12 := none) (s13 := none) (st := st) h hn (by omega) h.b2 (e_ix (o := false) (o2 := false) rfl rfl (ixt at1))
  have l1 := cutN_bound h (n := n) (k := 0) (by omega) (lf := true) h.b1.few
  have l2 := cutN_bound h (n := n) (k := 0) (by omega) (lf := false) h.b2.few
  have a3 : ev cd.G (call (m + 3)) false (.bin .add (.call 10 [.v 2, .ix (.v 7) (.k (.int 0)), .k (.str "left")]) (.call 10 [.v 2, .ix (.v 7) (.k (.int 1)), .k (.str "right")])) (envQ s n (pkS s n 0 true) none none none none none) st = .ok (.lst (cellsD (cutN s n 0)), true) (envQ s n (pkS s n 0 false) none none none none none) st :=
    e_bin (o := true) (o2 := true) c1 c2 (cells_add (by omega))
  let E1 : Pi.Env := envQ s n (pkS s n n false) (fdS s n n) t4 t11 t12 t13
  have c3 := cut_ev (m := m + 2) (n := n) (k := n) (lf := true) (o := false) (bw := true) (c := .v 9) (s3 := fdS s n n) (s4 := t4) (s11 := t11) (s12 := t12) (s13 := t13) (st := st) h hn (Nat.le_refl _) h.aft rfl
  have l0 := cutN_len h (n := n) n hn
  have l3 := cutN_bound h (n := n) (k := n) hn (lf := true) h.aft.few
  have a4 : ev cd.G (call (m + 3)) false (.bin .add (.v 3) (.call 10 [.v 2, .v 9, .k (.str "left")])) E1 st = .ok (.lst (cellsD (allCut s n)), true) E1 st :=
    e_bin (env1 := E1) (st1 := st) (o := false) (o2 := true) (x := .lst (cellsD (cutN s n n))) rfl c3 (cells_add (by omega))
  have alen : (allCut s n).length ≤ 200000 := by
    unfold allCut
    rw [List.length_append]
    omega
  have hl2 := lc_map (G := cd.G) (cl := call (m + 3)) (st := st) (elt := .tp [.v 14, .k (.bl true)]) (tg := .n 14) (env0 := E1) (f := fun x => .tup [x, .bl true]) (xs := cellsD (allCut s n)) (fun x hx => ⟨E1.set 14 (A x), false, rfl, e_tp (ds := [x, .bl true]) (es_cons (o := false) rfl (es_cons (o := false) rfl es_nil)) rfl, rfl⟩)
  have e3 : (cellsD (allCut s n)).map (fun x => D.tup [x, .bl true]) = (allCut s n).map fun c => D.tup [cellD c, .bl true] := by
    unfold cellsD
    rw [List.map_map]; rfl
  rw [e3] at hl2
  have a5 : ev cd.G (call (m + 3)) true (.lc (.tp [.v 14, .k (.bl true)]) (.n 14) (.bin .add (.v 3) (.call 10 [.v 2, .v 9, .k (.str "left")])) none) E1 st = .ok (.lst ((allCut s n).map fun c => D.tup [cellD c, .bl true]), true) E1 st :=
    e_lc (env1 := E1) (env2 := E1) (st1 := st) (x := .lst (cellsD (allCut s n))) (o := true) a4 rfl (by unfold cellsD; rw [List.length_map]; simp [szOk]; omega) hl2 rfl
  have a6 := e_dof (bw := false) a5 (pairs_cells (allCut s n)) (by unfold cutK; rw [List.length_map]; omega)
  refine call_ret (fn := c_cut_cells) (env1 := E1) rfl rfl ((b_asg (p := (s.d, false)) (env2 := E0) rfl rfl).trans ((b_asg (env2 := envQ s n (pkS s n 0 true) none none none none none) a2 rfl).trans ((b_asg (env2 := envQ s n (pkS s n 0 false) (fdS s n 0) none none none none) a3 rfl).trans ((b_nx ((s_for (x := .lst (rangeD 0 n)) (o := false) (env1 := envQ s n (pkS s n 0 false) (fdS s n 0) none none none none) (st1 := st) (e_rng (ds := [.int n]) (es_cons (o := false) rfl es_nil) ?_) rfl).trans ?_)).trans (b_ret rfl a6)))))
  · show (if small (n : Int) = true then some (D.lst (rangeD 0 (n : Int).toNat)) else none) = _
    rw [small_nat (by omega), if_pos rfl]; rfl
  · rw [range_int, List.range_eq_range']
    exact e
end K11

set_option maxRecDepth 100000
set_option maxHeartbeats 0
/-! K11o: opened. -/
namespace K11
open PySem Pi Pi.EvR
/-- the store behind opened -/
abbrev stO (s : Scp) (n : Nat) (st : Pi.Sto) : Pi.Sto := st ++ [Ob.dct (dkAll [] (cutK (allCut s n)))]
theorem f13 {m n many : Nat} {s : Scp} {st : Pi.Sto} (h : s.Ok) (hn : n ≤ 4) (hc : cols s n = many) (hm : many ≤ 100) : call (m + 5) 13 [s.d, .int n] st = .ok (.tup (openL s n many)) false (stO s n st) := by
  have hlen := h.len
  have hrows := h.rows
  have hwq : wQ s n 0 = many := by
    have h1 := wide0 h n
    have hc' : s.len * s.prod n 0 1 = many := hc
    omega
  have hr : s.rows = (s.rows.toNat : Int) := by omega
  have hmul : binop .mul (.int s.len) (.int (s.prod n 0 1)) = some (.int (many : Nat), false) := by
    show (if (bigOk s.len || bigOk (s.prod n 0 1)) = true then some (D.int (s.len * s.prod n 0 1), false) else none) = _
    have : bigOk s.len = true := by
      unfold bigOk
      rw [decide_eq_true (by omega), decide_eq_true (by omega)]; rfl
    rw [this, Bool.true_or, if_pos rfl, wide0 h, hwq]
  have h11 := f11 (m := m) (st := st) h hn (by omega)
  have h8 := f8 (n := m + 2) (m := n) (st := st) h (by omega)
  have h12 := f12 (m := m + 3) (rows := s.rows.toNat) (many := many) (l := st.length) (g := lfB s n) (kvs := dkAll [] (cutK (allCut s n))) (st := stO s n st) (by simp) hm (by omega) (fun r a hr' ha => by
    have := has_all (allCut s n) [] ((r : Nat), (a : Nat))
    have h2 := cut_left h (n := n) (row := (r : Nat)) (col := (a : Nat)) (by omega) (by omega)
    rw [h2] at this
    exact this)
  rw [← hr] at h12
  exact call_ret (fn := c_opened_rows) (env1 := [A s.d, A (.int n)]) rfl rfl (b_ret rfl (e_call (ds := [.int s.rows, .int many, .ref st.length]) (st1 := stO s n st) (es_cons (st1 := st) (e_ix (o := false) (o2 := false) rfl rfl (ixt at0)) (es_cons (st1 := st) (e_bin (o := false) (o2 := false) (x := .int s.len) (y := .int (s.prod n 0 1)) (e_ix (o := false) (o2 := false) rfl rfl (ixt at1)) (e_call (ds := [s.d, .int n]) (es_cons (o := false) rfl (es_cons (o := false) rfl es_nil)) h8) hmul) (es_cons (e_call (ds := [s.d, .int n]) (es_cons (o := false) rfl (es_cons (o := false) rfl es_nil)) h11) es_nil))) h12))
end K11

set_option maxRecDepth 100000
set_option maxHeartbeats 0
/-! K11p: opened; its refusals; around. -/
namespace K11
open PySem Pi Pi.EvR
theorem f16 {m n many : Nat} {s : Scp} {st : Pi.Sto} (h : s.Ok) (hn : n ≤ 4) (hc : cols s n = many) (hm : many ≤ 100) : call (m + 6) 16 [s.d, .int n] st = .ok (.tup (openL s n many)) false (stO s n st) :=
  call_ret (fn := c_opened) (env1 := [A s.d, A (.int n)]) rfl rfl ((b_expr (e_call (ds := [s.d]) (es_cons (o := false) rfl es_nil) (f5 (n := m) (Scp.vv h) (Scp.good h)))).trans ((b_expr (e_call (ds := [.int n, .int 4]) (es_cons (o := false) rfl (es_cons (o := false) rfl es_nil)) (f6 (n := m + 3) rfl (by
    show (decide (0 ≤ (n : Int)) && decide ((n : Int) ≤ 4)) = true
    rw [decide_eq_true (by omega), decide_eq_true (by omega)]; rfl)))).trans (b_ret rfl (e_call (ds := [s.d, .int n]) (es_cons (o := false) rfl (es_cons (o := false) rfl es_nil)) (f13 h hn hc hm)))))
theorem f16x {m : Nat} {v w : D} {st : Pi.Sto} (hv : VV v) (hg : goodS v = false) : call (m + 6) 16 [v, w] st = .ex 34 .non st :=
  call_exc (fn := c_opened) (env1 := [A v, A w]) rfl rfl (b_exprx (e_callx (ds := [v]) (es_cons (o := false) rfl es_nil) (f5x (n := m) hv hg)))
theorem f16y {m : Nat} {s : Scp} {w : D} {st : Pi.Sto} (h : s.Ok) (hv : w.pl = true) (hg : within w 0 4 = false) : call (m + 6) 16 [s.d, w] st = .ex 35 .non st :=
  call_exc (fn := c_opened) (env1 := [A s.d, A w]) rfl rfl ((b_expr (e_call (ds := [s.d]) (es_cons (o := false) rfl es_nil) (f5 (n := m) (Scp.vv h) (Scp.good h)))).trans (b_exprx (e_callx (ds := [w, .int 4]) (es_cons (o := false) rfl (es_cons (o := false) rfl es_nil)) (f6x (n := m + 3) hv hg))))
theorem f17x {m : Nat} {v w : D} {st : Pi.Sto} (hv : VV v) (hg : goodS v = false) : call (m + 6) 17 [v, w] st = .ex 34 .non st :=
  call_exc (fn := c_pieces) (env1 := [A v, A w]) rfl rfl (b_exprx (e_callx (ds := [v]) (es_cons (o := false) rfl es_nil) (f5x (n := m) hv hg)))
theorem f17y {m : Nat} {s : Scp} {w : D} {st : Pi.Sto} (h : s.Ok) (hv : w.pl = true) (hg : within w 0 4 = false) : call (m + 6) 17 [s.d, w] st = .ex 35 .non st :=
  call_exc (fn := c_pieces) (env1 := [A s.d, A w]) rfl rfl ((b_expr (e_call (ds := [s.d]) (es_cons (o := false) rfl es_nil) (f5 (n := m) (Scp.vv h) (Scp.good h)))).trans (b_exprx (e_callx (ds := [w, .int 4]) (es_cons (o := false) rfl (es_cons (o := false) rfl es_nil)) (f6x (n := m + 3) hv hg))))
/-- the cells beside a cell, as the program lists them, and as the law does -/
def nbP (c : Cell) : List Cell := [(c.1 - 1, c.2), (c.1, c.2 - 1), (c.1, c.2 + 1), (c.1 + 1, c.2)]
def nbL (c : Cell) : List Cell := [(c.1 - 1, c.2), (c.1 + 1, c.2), (c.1, c.2 - 1), (c.1, c.2 + 1)]
theorem f14 {m : Nat} {c : Cell} {st : Pi.Sto} : call (m + 1) 14 [cellD c] st = .ok (.lst ((nbP c).map cellD)) true st :=
  call_ret (fn := c_around) (env1 := [A (cellD c), A (.int c.1), A (.int c.2)]) rfl rfl ((b_asg (p := (cellD c, false)) (env2 := [A (cellD c), A (.int c.1), A (.int c.2)]) rfl rfl).trans (b_ret rfl rfl))
end K11

set_option maxRecDepth 100000
/-! K11r: a flood told by what is known, as the program keeps it. -/
namespace K11
open PySem Pi
/-- what is left of the cells, where some are known -/
def leftK (cells K : List Cell) : List Cell := cells.filter fun x => !K.contains x
def spreadK (cells : List Cell) : List Cell → List Cell → List Cell → List Cell × List Cell
  | [], K, td => (K, td)
  | t :: ts, K, td => if cells.contains t && !K.contains t then spreadK cells ts (K ++ [t]) (td ++ [t]) else spreadK cells ts K td
theorem leftK_mem {cells K : List Cell} {t : Cell} : t ∈ leftK cells K ↔ (cells.contains t && !K.contains t) = true := by
  unfold leftK
  rw [List.mem_filter, Bool.and_eq_true, List.contains_iff_mem]
theorem leftK_add {cells K : List Cell} {t : Cell} : leftK cells (K ++ [t]) = (leftK cells K).filter fun x => x != t := by
  unfold leftK
  rw [List.filter_filter]
  congr 1
  funext x
  rw [Bool.eq_iff_iff]
  simp [List.mem_append]
  constructor
  · rintro ⟨a, b⟩; exact ⟨b, a⟩
  · rintro ⟨a, b⟩; exact ⟨b, a⟩
theorem spreadK_eq {cells : List Cell} : ∀ (ts K td : List Cell), spread ts (leftK cells K) td = (leftK cells (spreadK cells ts K td).1, (spreadK cells ts K td).2)
  | [], K, td => rfl
  | t :: ts, K, td => by
    unfold spread spreadK
    by_cases h : (cells.contains t && !K.contains t) = true
    · rw [if_pos (leftK_mem.mpr h), if_pos h, ← leftK_add]
      exact spreadK_eq ts (K ++ [t]) (td ++ [t])
    · rw [if_neg (fun z => h (leftK_mem.mp z)), if_neg h]
      exact spreadK_eq ts K td
/-- (known, piece) -/
def floodK (nb : Cell → List Cell) (cells : List Cell) : Nat → List Cell → List Cell → List Cell → List Cell × List Cell
  | 0, K, _, pc => (K, pc)
  | n + 1, K, td, pc => match td.getLast? with
    | none => (K, pc)
    | some c => floodK nb cells n (spreadK cells (nb c) K td.dropLast).1 (spreadK cells (nb c) K td.dropLast).2 (pc ++ [c])
theorem floodK_eq {nb : Cell → List Cell} {cells : List Cell} : ∀ (n : Nat) (K td pc : List Cell), flood nb n (leftK cells K) td pc = (leftK cells (floodK nb cells n K td pc).1, (floodK nb cells n K td pc).2)
  | 0, K, td, pc => rfl
  | n + 1, K, td, pc => by
    unfold flood floodK
    cases td.getLast? with
    | none => rfl
    | some c =>
      dsimp only
      rw [spreadK_eq]
      exact floodK_eq n _ _ _
/-- the program's way, by what is known -/
def outK (nb : Cell → List Cell) (cells : List Cell) (n : Nat) : List Cell → List Cell → List (List Cell) → List (List Cell)
  | [], _, found => found
  | f :: fs, K, found => if K.contains f then outK nb cells n fs K found else outK nb cells n fs (floodK nb cells n (K ++ [f]) [f] []).1 (found ++ [sortG ltC (floodK nb cells n (K ++ [f]) [f] []).2])
theorem outK_eq {nb : Cell → List Cell} {cells : List Cell} {n : Nat} : ∀ (fs K : List Cell) (found : List (List Cell)), (∀ f ∈ fs, f ∈ cells) → outK nb cells n fs K found = outP nb n fs (leftK cells K) found
  | [], K, found, _ => rfl
  | f :: fs, K, found, h => by
    unfold outK outP
    have hf := h f List.mem_cons_self
    by_cases k : K.contains f = true
    · rw [if_pos k, if_neg (fun z => by
        have := leftK_mem.mp z
        rw [k] at this
        simp at this)]
      exact outK_eq fs K found fun g hg => h g (List.mem_cons_of_mem _ hg)
    · have hl : f ∈ leftK cells K := leftK_mem.mpr (by
        rw [List.contains_iff_mem.mpr hf]
        simpa using k)
      rw [if_neg k, if_pos hl]
      unfold take1
      rw [← leftK_add, floodK_eq]
      exact outK_eq fs _ _ fun g hg => h g (List.mem_cons_of_mem _ hg)
end K11

set_option maxRecDepth 100000
/-! Ev2: rules for dicts of the store, and pops. -/
namespace Pi.EvR
open PySem Pi
section
variable {G : Gl} {cl : Nat → List D → Sto → RC} {bw o o2 : Bool} {W : Nat} {a k e : C} {env env1 env2 : Pi.Env} {st st1 : Pi.Sto} {x y v : D} {ss : List S} {l i : Nat} {kvs : List (D × D)}
theorem e_dnw : ev G cl bw .dnw env st = .ok (.ref st.length, false) env (st ++ [Ob.dct []]) := by
  conv => lhs; unfold ev
theorem e_dne (h : ev G cl true a env st = .ok (.ref l, o) env1 st1) (hl : st1[l]? = some (.dct kvs)) : ev G cl bw (.dne a) env st = .ok (.bl (!kvs.isEmpty), false) env1 st1 := by
  conv => lhs; unfold ev
  rw [h]
  show (match st1[l]? with
    | some (.dct kvs) => R.ok (D.bl (!kvs.isEmpty), false) env1 st1
    | _ => .no) = _
  rw [hl]
theorem isDk_of (hg : getS env i = some (.ref l, false)) (hl : st[l]? = some (.dct kvs)) : isDk st (getS env i) = true := by
  rw [hg]
  show (match st[l]? with | some (.dct _) => true | _ => false) = true
  rw [hl]
theorem isL_of (hg : getS env i = some (.ref l, false)) (hl : st[l]? = some (.dct kvs)) : isL st (getS env i) = false := by
  rw [hg]
  show (match st[l]? with | some (.lst _) => true | _ => false) = false
  rw [hl]
theorem e_dpp (hg : getS env i = some (.ref l, false)) (hl : st[l]? = some (.dct kvs)) (hk : ev G cl true k env st = .ok (x, o) env st) (ok : keyOk x = true) (hv : dkAt kvs x = some v) : ev G cl bw (.dpp i k) env st = .ok (v, false) env (st.set l (.dct (dkDel kvs x))) := by
  conv => lhs; unfold ev
  rw [if_pos (isDk_of hg hl), hk]
  show (match getS env i with
    | some (.ref l, _) => match st[l]? with
      | some (.dct kvs) => if keyOk x then match dkAt kvs x with
          | some v => R.ok (v, false) env (st.set l (.dct (dkDel kvs x)))
          | none => .no
        else .no
      | _ => .no
    | _ => .no) = _
  rw [hg]
  dsimp only
  rw [hl]
  dsimp only
  rw [if_pos ok, hv]
theorem s_setD (hg : getS env i = some (.ref l, false)) (hl : st[l]? = some (.dct kvs)) (he : ev G cl false e env st = .ok (y, o) env st) (hk : ev G cl false k env st = .ok (x, o2) env st) (ok : keyOk x = true) (hz : kvs.length ≤ 1000000) : exS G cl W (.set i k e) env st = .ok .nx env (st.set l (.dct (dkPut kvs x y))) := by
  conv => lhs; unfold exS
  rw [isL_of hg hl, if_neg (by decide), if_pos (isDk_of hg hl), he]
  show (ev G cl false k env st).bind _ = _
  rw [hk]
  show (match getS env i with
    | some (.ref l, _) => match st[l]? with
      | some (.dct kvs) => if keyOk x && szOk kvs.length then R.ok Flow.nx env (st.set l (.dct (dkPut kvs x y))) else .no
      | _ => .no
    | _ => .no) = _
  rw [hg]
  dsimp only
  rw [hl]
  dsimp only
  rw [if_pos (by rw [ok, Bool.true_and]; simp [szOk]; exact hz)]
theorem b_setD (hg : getS env i = some (.ref l, false)) (hl : st[l]? = some (.dct kvs)) (he : ev G cl false e env st = .ok (y, o) env st) (hk : ev G cl false k env st = .ok (x, o2) env st) (ok : keyOk x = true) (hz : kvs.length ≤ 1000000) : exB G cl W (.set i k e :: ss) env st = exB G cl W ss env (st.set l (.dct (dkPut kvs x y))) := b_nx (s_setD hg hl he hk ok hz)
theorem b_pop {t : T} {xs : List D} (hg : getS env i = some (.lst xs, true)) (hy : xs.getLast? = some y) (ht : setT t (y, false) (env.set i (some (.lst xs.dropLast, true))) = some env2) : exB G cl W (.pop t i :: ss) env st = exB G cl W ss env2 st := b_nx (by
  conv => lhs; unfold exS
  rw [hg]
  dsimp only
  rw [hy]
  dsimp only
  rw [ht])
end
end Pi.EvR

set_option maxRecDepth 100000
set_option maxHeartbeats 0
/-! K11u: pieces_of: a cell's neighbours. -/
namespace K11
open PySem Pi Pi.EvR
abbrev b15i : List S := [.ifs (.and (.cmp .isin (.v 11) (.v 1)) (.cmp .notin (.v 11) (.v 3))) [.set 3 (.v 11) (.k (.bl true)), .app 6 (.v 11)] []]
def envP (r0 : D) (lc lk : Nat) (s2 : Slot) (s4 s5 : Slot) (td : List Cell) (s7 s8 s9 s10 s11 : Slot) : Pi.Env := [A r0, A (.ref lc), s2, A (.ref lk), s4, s5, some (.lst (cellsD td), true), s7, s8, s9, s10, s11]
theorem has_cut (cs : List Cell) (c : Cell) : dkHas (cutK cs) (cellD c) = cs.contains c := by
  unfold dkHas cutK
  rw [List.any_map]
  induction cs with
  | nil => rfl
  | cons x xs ih =>
    rw [List.any_cons, List.contains_cons, ih]
    show (deq (cellD x) (cellD c) || _) = _
    rw [deq_cell]
    congr 1
    exact Bool.eq_iff_iff.mpr ⟨fun h => by simpa using (by simpa using h : x = c).symm, fun h => by simpa using (by simpa using h : c = x).symm⟩
theorem put_cut {K : List Cell} {c : Cell} (h : K.contains c = false) : dkPut (cutK K) (cellD c) (.bl true) = cutK (K ++ [c]) := by
  unfold dkPut
  rw [has_cut, h, if_neg (by decide)]
  unfold cutK
  rw [List.map_append]; rfl
theorem in_cut {st : Pi.Sto} {l : Nat} {cs : List Cell} {c : Cell} (hl : st[l]? = some (.dct (cutK cs))) : cmpF st .isin (cellD c) (.ref l) = some (cs.contains c) ∧ cmpF st .notin (cellD c) (.ref l) = some (!cs.contains c) := by
  constructor
  · show (match st[l]? with
      | some (.dct kvs) => if keyOk (cellD c) then some (dkHas kvs (cellD c)) else none
      | _ => none) = _
    rw [hl]
    show some (dkHas (cutK cs) (cellD c)) = _
    rw [has_cut]
  · show (match st[l]? with
      | some (.dct kvs) => if keyOk (cellD c) then some (!dkHas kvs (cellD c)) else none
      | _ => none) = _
    rw [hl]
    show some (!dkHas (cutK cs) (cellD c)) = _
    rw [has_cut]
end K11

set_option maxRecDepth 100000
set_option maxHeartbeats 0
/-! K11v: pieces_of: a cell's neighbours, walked. -/
namespace K11
open PySem Pi Pi.EvR
theorem set_same {st : Pi.Sto} {l : Nat} {x : Ob} (h : st[l]? = some x) : st.set l x = st := by
  apply List.ext_getElem?
  intro j
  rw [List.getElem?_set]
  split
  · rename_i e
    subst e
    split
    · exact h.symm
    · rename_i hl
      rw [List.getElem?_eq_none (by omega)]
  · rfl
theorem go15i {m lc lk : Nat} {r0 : D} {cells : List Cell} {s2 s4 s5 s7 s8 s9 s10 : Slot} (hne : lc ≠ lk) : ∀ (ts K td : List Cell) (s11 : Slot) (st : Pi.Sto), st[lc]? = some (.dct (cutK cells)) → st[lk]? = some (.dct (cutK K)) → K.length + ts.length ≤ 1000 → td.length + ts.length ≤ 1000 →
    ∃ t11, forGo (fStep cd.G (call m) 300 (.n 11) b15i) (ts.map cellD) (envP r0 lc lk s2 s4 s5 td s7 s8 s9 s10 s11) st = .ok .nx (envP r0 lc lk s2 s4 s5 (spreadK cells ts K td).2 s7 s8 s9 s10 t11) (st.set lk (.dct (cutK (spreadK cells ts K td).1)))
  | [], K, td, s11, st, h1, h2, _, _ => ⟨s11, by
    unfold spreadK
    rw [set_same h2]; rfl⟩
  | t :: ts, K, td, s11, st, h1, h2, b1, b2 => by
    simp only [List.length_cons] at b1 b2
    have hc : ev cd.G (call m) true (.and (.cmp .isin (.v 11) (.v 1)) (.cmp .notin (.v 11) (.v 3))) (envP r0 lc lk s2 s4 s5 td s7 s8 s9 s10 (A (cellD t))) st = .ok (.bl (cells.contains t && !K.contains t), false) (envP r0 lc lk s2 s4 s5 td s7 s8 s9 s10 (A (cellD t))) st :=
      e_and (e_cmpD (x := cellD t) (y := .ref lc) (o := false) (o2 := false) rfl rfl (in_cut h1).1) fun _ => e_cmpD (x := cellD t) (y := .ref lk) (o := false) (o2 := false) rfl rfl (in_cut h2).2
    cases hb : (cells.contains t && !K.contains t) with
    | false =>
      obtain ⟨t11, e⟩ := go15i hne ts K td (A (cellD t)) st h1 h2 (by omega) (by omega)
      refine ⟨t11, ?_⟩
      have step : fStep cd.G (call m) 300 (.n 11) b15i (cellD t) (envP r0 lc lk s2 s4 s5 td s7 s8 s9 s10 s11) st = .ok .nx (envP r0 lc lk s2 s4 s5 td s7 s8 s9 s10 (A (cellD t))) st := (b_ifF hc hb).trans rfl
      show (fStep _ _ _ _ _ _ _ _).bind _ = _
      rw [step]
      unfold spreadK
      rw [hb, if_neg (by decide)]
      exact e
    | true =>
      have hK : K.contains t = false := by
        rw [Bool.and_eq_true] at hb
        simpa using hb.2
      have hlk : lk < st.length := by
        by_cases hl : lk < st.length
        · exact hl
        · rw [List.getElem?_eq_none (by omega)] at h2; cases h2
      obtain ⟨t11, e⟩ := go15i (m := m) (r0 := r0) (s2 := s2) (s4 := s4) (s5 := s5) (s7 := s7) (s8 := s8) (s9 := s9) (s10 := s10) hne ts (K ++ [t]) (td ++ [t]) (A (cellD t)) (st.set lk (.dct (cutK (K ++ [t])))) (by rw [List.getElem?_set_ne (Ne.symm hne)]; exact h1) (List.getElem?_set_self hlk) (by rw [List.length_append, List.length_singleton]; omega) (by rw [List.length_append, List.length_singleton]; omega)
      refine ⟨t11, ?_⟩
      have inner : exB cd.G (call m) 300 [.set 3 (.v 11) (.k (.bl true)), .app 6 (.v 11)] (envP r0 lc lk s2 s4 s5 td s7 s8 s9 s10 (A (cellD t))) st = .ok .nx (envP r0 lc lk s2 s4 s5 (td ++ [t]) s7 s8 s9 s10 (A (cellD t))) (st.set lk (.dct (cutK (K ++ [t])))) := by
        refine (b_setD (l := lk) (kvs := cutK K) (x := cellD t) (y := .bl true) (o := false) (o2 := false) rfl h2 rfl rfl rfl (by unfold cutK; rw [List.length_map]; omega)).trans ?_
        rw [put_cut hK]
        refine (b_app (xs := cellsD td) (ys := cellsD td) (y := (cellD t, false)) (env1 := envP r0 lc lk s2 s4 s5 td s7 s8 s9 s10 (A (cellD t))) rfl rfl rfl (by unfold cellsD; rw [List.length_map]; omega)).trans ?_
        show R.ok _ _ _ = _
        unfold envP cellsD
        rw [List.map_append]; rfl
      have step : fStep cd.G (call m) 300 (.n 11) b15i (cellD t) (envP r0 lc lk s2 s4 s5 td s7 s8 s9 s10 s11) st = .ok .nx (envP r0 lc lk s2 s4 s5 (td ++ [t]) s7 s8 s9 s10 (A (cellD t))) (st.set lk (.dct (cutK (K ++ [t])))) := (b_ifT hc hb inner).trans rfl
      show (fStep _ _ _ _ _ _ _ _).bind _ = _
      rw [step]
      unfold spreadK
      rw [hb, if_pos rfl]
      show forGo _ _ _ _ = _
      rw [e, List.set_set]
end K11

set_option maxRecDepth 100000
set_option maxHeartbeats 0
/-! K11w: pieces_of: a turn of its while. -/
namespace K11
open PySem Pi Pi.EvR
abbrev b15w : List S := [.pop (.n 10) 6, .app 7 (.v 10), .for (.n 11) (.call 14 [.v 10]) b15i]
abbrev ownC (cs : List Cell) : Slot := some (.lst (cellsD cs), true)
theorem turn15 {m lc lk : Nat} {r0 : D} {cells K td pc : List Cell} {c : Cell} {s2 s4 s5 s8 s9 s10 s11 : Slot} {st : Pi.Sto} (hne : lc ≠ lk) (h1 : st[lc]? = some (.dct (cutK cells))) (h2 : st[lk]? = some (.dct (cutK K))) (hl : td.getLast? = some c) (b1 : K.length ≤ 900) (b2 : td.length ≤ 900) (b3 : pc.length ≤ 900) :
    ∃ t11, exB cd.G (call (m + 1)) 300 b15w (envP r0 lc lk s2 s4 s5 td (ownC pc) s8 s9 s10 s11) st = .ok .nx (envP r0 lc lk s2 s4 s5 (spreadK cells (nbP c) K td.dropLast).2 (ownC (pc ++ [c])) s8 s9 (A (cellD c)) t11) (st.set lk (.dct (cutK (spreadK cells (nbP c) K td.dropLast).1))) := by
  have hd : td.dropLast.length ≤ 900 := by rw [List.length_dropLast]; omega
  have hn4 : (nbP c).length = 4 := rfl
  obtain ⟨t11, e⟩ := go15i (m := m + 1) (r0 := r0) (s2 := s2) (s4 := s4) (s5 := s5) (s7 := ownC (pc ++ [c])) (s8 := s8) (s9 := s9) (s10 := A (cellD c)) hne (nbP c) K td.dropLast s11 st h1 h2 (by omega) (by omega)
  refine ⟨t11, ?_⟩
  have hg : (cellsD td).getLast? = some (cellD c) := by
    unfold cellsD
    rw [List.getLast?_map, hl]; rfl
  have hdl : (cellsD td).dropLast = cellsD td.dropLast := by
    unfold cellsD
    rw [List.map_dropLast]
  refine (b_pop (xs := cellsD td) (y := cellD c) (env2 := envP r0 lc lk s2 s4 s5 td.dropLast (ownC pc) s8 s9 (A (cellD c)) s11) rfl hg (by rw [hdl]; rfl)).trans ?_
  refine (b_app (xs := cellsD pc) (ys := cellsD pc) (y := (cellD c, false)) (env1 := envP r0 lc lk s2 s4 s5 td.dropLast (ownC pc) s8 s9 (A (cellD c)) s11) rfl rfl rfl (by unfold cellsD; rw [List.length_map]; omega)).trans ?_
  have e0 : (envP r0 lc lk s2 s4 s5 td.dropLast (ownC pc) s8 s9 (A (cellD c)) s11).set 7 (some (.lst (cellsD pc ++ [cellD c]), true)) = envP r0 lc lk s2 s4 s5 td.dropLast (ownC (pc ++ [c])) s8 s9 (A (cellD c)) s11 := by
    unfold envP ownC cellsD
    rw [List.map_append]; rfl
  rw [e0]
  exact (b_nx ((s_for (x := .lst ((nbP c).map cellD)) (o := true) (env1 := envP r0 lc lk s2 s4 s5 td.dropLast (ownC (pc ++ [c])) s8 s9 (A (cellD c)) s11) (st1 := st) (e_call (ds := [cellD c]) (es_cons (o := false) rfl es_nil) f14) rfl).trans e)).trans rfl
end K11

set_option maxRecDepth 100000
set_option maxHeartbeats 0
/-! K11x: pieces_of: its while. -/
namespace K11
open PySem Pi Pi.EvR
theorem spreadK_len {cells : List Cell} : ∀ (ts K td : List Cell), (spreadK cells ts K td).1.length + td.length = K.length + (spreadK cells ts K td).2.length
  | [], K, td => rfl
  | t :: ts, K, td => by
    unfold spreadK
    split
    · have := spreadK_len (cells := cells) ts (K ++ [t]) (td ++ [t])
      rw [List.length_append, List.length_append, List.length_singleton] at this
      omega
    · exact spreadK_len ts K td
theorem go15w {m lc lk : Nat} {r0 : D} {cells : List Cell} {s2 s4 s5 s8 s9 : Slot} (hne : lc ≠ lk) (nd : cells.Nodup) : ∀ (n : Nat) (K td pc : List Cell) (s10 s11 : Slot) (st : Pi.Sto), st[lc]? = some (.dct (cutK cells)) → st[lk]? = some (.dct (cutK K)) → td.length + (leftK cells K).length ≤ n → K.length + (leftK cells K).length ≤ 800 → pc.length + td.length + (leftK cells K).length ≤ 800 →
    ∃ t10 t11, whileGo (wTest (call (m + 1)) (.cmp .ne (.v 6) (.ls []))) (wBody (call (m + 1)) b15w) (n + 1) (envP r0 lc lk s2 s4 s5 td (ownC pc) s8 s9 s10 s11) st = .ok .nx (envP r0 lc lk s2 s4 s5 [] (ownC (floodK nbP cells n K td pc).2) s8 s9 t10 t11) (st.set lk (.dct (cutK (floodK nbP cells n K td pc).1)))
  | n, K, [], pc, s10, s11, st, h1, h2, hn, b1, b2 => by
    refine ⟨s10, s11, ?_⟩
    have hf : floodK nbP cells n K [] pc = (K, pc) := by cases n <;> rfl
    rw [hf, set_same h2]
    have ht : wTest (call (m + 1)) (.cmp .ne (.v 6) (.ls [])) (envP r0 lc lk s2 s4 s5 [] (ownC pc) s8 s9 s10 s11) st = .ok false (envP r0 lc lk s2 s4 s5 [] (ownC pc) s8 s9 s10 s11) st := rfl
    unfold whileGo
    rw [ht]; rfl
  | 0, K, t :: td, pc, s10, s11, st, h1, h2, hn, b1, b2 => by simp at hn
  | n + 1, K, t :: td, pc, s10, s11, st, h1, h2, hn, b1, b2 => by
    have hlk : lk < st.length := by
      by_cases hl : lk < st.length
      · exact hl
      · rw [List.getElem?_eq_none (by omega)] at h2; cases h2
    obtain ⟨c, hl⟩ : ∃ c, (t :: td).getLast? = some c := ⟨_, List.getLast?_eq_some_getLast (by simp)⟩
    obtain ⟨u11, body⟩ := turn15 (m := m) (r0 := r0) (cells := cells) (s2 := s2) (s4 := s4) (s5 := s5) (s8 := s8) (s9 := s9) (s10 := s10) (s11 := s11) (st := st) hne h1 h2 hl (by omega) (by omega) (by omega) (pc := pc)
    have hsp := spreadK_eq (cells := cells) (nbP c) K (t :: td).dropLast
    obtain ⟨_, _, ad, k3, _, _, k6⟩ := spread_spec (nbP c) (leftK cells K) (t :: td).dropLast (nd.filter _)
    rw [hsp] at k3 k6
    dsimp only at k3 k6
    have hK := spreadK_len (cells := cells) (nbP c) K (t :: td).dropLast
    have hdl : (t :: td).dropLast.length = td.length := by rw [List.length_dropLast]; rfl
    have htd := congrArg List.length k3
    rw [List.length_append, hdl] at htd
    rw [hdl] at hK
    simp only [List.length_cons] at hn b2
    obtain ⟨t10, t11, e⟩ := go15w (m := m) (r0 := r0) (s2 := s2) (s4 := s4) (s5 := s5) (s8 := s8) (s9 := s9) hne nd n (spreadK cells (nbP c) K (t :: td).dropLast).1 (spreadK cells (nbP c) K (t :: td).dropLast).2 (pc ++ [c]) (A (cellD c)) u11 (st.set lk (.dct (cutK (spreadK cells (nbP c) K (t :: td).dropLast).1))) (by rw [List.getElem?_set_ne (Ne.symm hne)]; exact h1) (List.getElem?_set_self hlk) (by omega) (by omega) (by rw [List.length_append, List.length_singleton]; omega)
    refine ⟨t10, t11, ?_⟩
    have hf : floodK nbP cells (n + 1) K (t :: td) pc = floodK nbP cells n (spreadK cells (nbP c) K (t :: td).dropLast).1 (spreadK cells (nbP c) K (t :: td).dropLast).2 (pc ++ [c]) := by
      conv => lhs; unfold floodK
      rw [hl]
    rw [hf]
    have ht : wTest (call (m + 1)) (.cmp .ne (.v 6) (.ls [])) (envP r0 lc lk s2 s4 s5 (t :: td) (ownC pc) s8 s9 s10 s11) st = .ok true (envP r0 lc lk s2 s4 s5 (t :: td) (ownC pc) s8 s9 s10 s11) st := by
      refine t_of (e_cmp (x := .lst (cellsD (t :: td))) (y := .lst []) (o := false) (o2 := true) rfl rfl ?_)
      rw [show cmpop .ne (.lst (cellsD (t :: td))) (.lst []) = (if (D.lst (cellsD (t :: td))).pl && (D.lst []).pl && decide (min (D.lst (cellsD (t :: td))).dep (D.lst []).dep ≤ 60) then some (!deq (.lst (cellsD (t :: td))) (.lst [])) else none) from rfl]
      have hpl : (D.lst (cellsD (t :: td))).pl = true := by
        have : ∀ cs : List Cell, D.pls (cellsD cs) = true := fun cs => by
          induction cs with
          | nil => rfl
          | cons c cs ih => exact ih
        exact this _
      rw [hpl, if_pos (by
        have : (D.lst []).dep = 1 := rfl
        rw [this]
        simp
        exact ⟨rfl, by omega⟩)]
      rfl
    conv => lhs; unfold whileGo
    rw [ht]
    show (R.bind (exB cd.G (call (m + 1)) 300 b15w _ st) _) = _
    rw [body]
    show whileGo _ _ (n + 1) _ _ = _
    rw [e, List.set_set]
end K11

set_option maxRecDepth 100000
set_option maxHeartbeats 0
/-! K11y: the signs of a row; the cells of a strip, walked by pieces_of. -/
namespace K11
open PySem Pi Pi.EvR
/-! ### signs -/
def chr (b : Bool) : Nat := if b then 35 else 46
theorem cps_str : ∀ l : List Str, (Str.join (Str.ofString "") l).cps.toList = (l.map fun s => s.cps.toList).flatten
  | [] => rfl
  | [x] => by
    show x.cps.toList = _
    simp
  | x :: y :: l => by
    have ih := cps_str (y :: l)
    show ((x.cps ++ (Str.ofString "").cps) ++ (Str.join (Str.ofString "") (y :: l)).cps).toList = _
    rw [Array.toList_append, Array.toList_append, ih]
    have : (Str.ofString "").cps.toList = [] := rfl
    rw [this, List.append_nil]; rfl
theorem row_cps {g : Int → Bool} {many : Nat} : (rowS g many).cps.toList = (List.range many).map fun a => chr (g (a : Nat)) := by
  show (Txt.join (Str.ofString "") ((List.range many).map fun a => sg (g (a : Nat)))).cps.toList = _
  rw [show Txt.join (Str.ofString "") ((List.range many).map fun a => sg (g (a : Nat))) = Str.join (Str.ofString "") ((List.range many).map fun a => sg (g (a : Nat))) from StrLaws.glued_eq_join _ _, cps_str, List.map_map]
  generalize List.range many = l
  induction l with
  | nil => rfl
  | cons a l ih =>
    rw [List.map_cons, List.flatten_cons, ih, List.map_cons]
    show (sg (g (a : Nat))).cps.toList ++ _ = _
    cases g (a : Nat) <;> rfl
theorem row_strs {g : Int → Bool} {many : Nat} : ((rowS g many).cps.toList.map fun c => D.str ⟨#[c]⟩) = (List.range many).map fun a => D.str (sg (g (a : Nat))) := by
  rw [row_cps, List.map_map]
  apply List.map_congr_left
  intro a _
  show D.str ⟨#[chr (g (a : Nat))]⟩ = _
  cases g (a : Nat) <;> rfl
theorem enum_range' {f : Nat → D} : ∀ (n k : Nat), enumD (k : Nat) ((List.range' k n).map f) = (List.range' k n).map fun a => D.tup [.int (a : Nat), f a]
  | 0, k => rfl
  | n + 1, k => by
    rw [List.range'_succ, List.map_cons, List.map_cons]
    show D.tup [.int (k : Nat), f k] :: enumD ((k : Int) + 1) _ = _
    have := enum_range' (f := f) n (k + 1)
    rw [← this]; rfl
theorem enum_range {f : Nat → D} {n : Nat} : enumD 0 ((List.range n).map f) = (List.range n).map fun a => D.tup [.int (a : Nat), f a] := by
  rw [List.range_eq_range']
  exact enum_range' n 0
theorem eq_sg (b : Bool) : cmpop .eq (.str (sg b)) (.str "#") = some b := by cases b <;> rfl
/-! ### the cells -/
def rowC (g : Int → Int → Bool) (r : Nat) (as : List Nat) : List Cell := (as.filter fun a => g (r : Nat) (a : Nat)).map fun a => (((a : Nat) : Int), ((r : Nat) : Int))
def cellsG (g : Int → Int → Bool) (many : Nat) (rs : List Nat) : List Cell := rs.flatMap fun r => rowC g r (List.range many)
abbrev b15a : List S := [.ifs (.cmp .eq (.v 9) (.k (.str "#"))) [.set 1 (.tp [.v 8, .v 5]) (.k (.bl true))] []]
abbrev b15r : List S := [.for (.t [8, 9]) (.enm (.v 6)) b15a]
def envA (r0 : D) (lc : Nat) (s5 s6 s8 s9 : Slot) : Pi.Env := [A r0, A (.ref lc), none, none, none, s5, s6, none, s8, s9, none, none]
theorem go15a {m lc r : Nat} {r0 : D} {g : Int → Int → Bool} {s6 : Slot} : ∀ (as : List Nat) (K : List Cell) (s8 s9 : Slot) (st : Pi.Sto), st[lc]? = some (.dct (cutK K)) → as.Nodup → (∀ a ∈ as, K.contains (((a : Nat) : Int), ((r : Nat) : Int)) = false) → K.length + as.length ≤ 1000 →
    ∃ t8 t9, forGo (fStep cd.G (call m) 300 (.t [8, 9]) b15a) (as.map fun a => D.tup [.int (a : Nat), .str (sg (g (r : Nat) (a : Nat)))]) (envA r0 lc (A (.int (r : Nat))) s6 s8 s9) st = .ok .nx (envA r0 lc (A (.int (r : Nat))) s6 t8 t9) (st.set lc (.dct (cutK (K ++ rowC g r as))))
  | [], K, s8, s9, st, h, _, _, _ => ⟨s8, s9, by
    have : K ++ rowC g r [] = K := List.append_nil K
    rw [this, set_same h]; rfl⟩
  | a :: as, K, s8, s9, st, h, nd, hk, hz => by
    simp only [List.length_cons] at hz
    rw [List.nodup_cons] at nd
    have hc : ev cd.G (call m) true (.cmp .eq (.v 9) (.k (.str "#"))) (envA r0 lc (A (.int (r : Nat))) s6 (A (.int (a : Nat))) (A (.str (sg (g (r : Nat) (a : Nat)))))) st = .ok (.bl (g (r : Nat) (a : Nat)), false) (envA r0 lc (A (.int (r : Nat))) s6 (A (.int (a : Nat))) (A (.str (sg (g (r : Nat) (a : Nat)))))) st :=
      e_cmp (x := .str (sg (g (r : Nat) (a : Nat)))) (y := .str "#") (o := false) (o2 := false) rfl rfl (eq_sg _)
    cases hb : g (r : Nat) (a : Nat) with
    | false =>
      obtain ⟨t8, t9, e⟩ := go15a (m := m) (r := r) (r0 := r0) (g := g) (s6 := s6) as K (A (.int (a : Nat))) (A (.str (sg (g (r : Nat) (a : Nat))))) st h nd.2 (fun b hb => hk b (List.mem_cons_of_mem _ hb)) (by omega)
      refine ⟨t8, t9, ?_⟩
      have step : fStep cd.G (call m) 300 (.t [8, 9]) b15a (.tup [.int (a : Nat), .str (sg (g (r : Nat) (a : Nat)))]) (envA r0 lc (A (.int (r : Nat))) s6 s8 s9) st = .ok .nx (envA r0 lc (A (.int (r : Nat))) s6 (A (.int (a : Nat))) (A (.str (sg (g (r : Nat) (a : Nat)))))) st := (b_ifF hc hb).trans rfl
      rw [List.map_cons]
      show (fStep _ _ _ _ _ _ _ _).bind _ = _
      rw [step]
      have e1 : rowC g r (a :: as) = rowC g r as := by
        unfold rowC
        rw [List.filter_cons, hb]; rfl
      rw [e1]
      exact e
    | true =>
      have hka := hk a List.mem_cons_self
      have hlc : lc < st.length := by
        by_cases hl : lc < st.length
        · exact hl
        · rw [List.getElem?_eq_none (by omega)] at h; cases h
      obtain ⟨t8, t9, e⟩ := go15a (m := m) (r := r) (r0 := r0) (g := g) (s6 := s6) as (K ++ [(((a : Nat) : Int), ((r : Nat) : Int))]) (A (.int (a : Nat))) (A (.str (sg (g (r : Nat) (a : Nat))))) (st.set lc (.dct (cutK (K ++ [(((a : Nat) : Int), ((r : Nat) : Int))])))) (List.getElem?_set_self hlc) nd.2 (fun b hb => by
        have h1 := hk b (List.mem_cons_of_mem _ hb)
        have h2 : ((a : Nat) : Int) ≠ ((b : Nat) : Int) := fun z => nd.1 (by
          have : a = b := by omega
          rw [this]; exact hb)
        have h3 : ¬ (((b : Nat) : Int), ((r : Nat) : Int)) ∈ K := fun z => by
          have := List.contains_iff_mem.mpr z
          rw [h1] at this
          cases this
        rw [← Bool.not_eq_true, List.contains_iff_mem, List.mem_append, List.mem_singleton]
        rintro (z | z)
        · exact h3 z
        · exact h2 (congrArg Prod.fst z).symm) (by rw [List.length_append, List.length_singleton]; omega)
      refine ⟨t8, t9, ?_⟩
      have inner : exB cd.G (call m) 300 [.set 1 (.tp [.v 8, .v 5]) (.k (.bl true))] (envA r0 lc (A (.int (r : Nat))) s6 (A (.int (a : Nat))) (A (.str (sg (g (r : Nat) (a : Nat)))))) st = .ok .nx (envA r0 lc (A (.int (r : Nat))) s6 (A (.int (a : Nat))) (A (.str (sg (g (r : Nat) (a : Nat)))))) (st.set lc (.dct (cutK (K ++ [(((a : Nat) : Int), ((r : Nat) : Int))])))) := by
        refine (b_setD (l := lc) (kvs := cutK K) (x := cellD (((a : Nat) : Int), ((r : Nat) : Int))) (y := .bl true) (o := false) (o2 := false) rfl h rfl (e_tp (ds := [.int (a : Nat), .int (r : Nat)]) (es_cons (o := false) rfl (es_cons (o := false) rfl es_nil)) rfl) rfl (by unfold cutK; rw [List.length_map]; omega)).trans ?_
        rw [put_cut hka]; rfl
      have step : fStep cd.G (call m) 300 (.t [8, 9]) b15a (.tup [.int (a : Nat), .str (sg (g (r : Nat) (a : Nat)))]) (envA r0 lc (A (.int (r : Nat))) s6 s8 s9) st = .ok .nx (envA r0 lc (A (.int (r : Nat))) s6 (A (.int (a : Nat))) (A (.str (sg (g (r : Nat) (a : Nat)))))) (st.set lc (.dct (cutK (K ++ [(((a : Nat) : Int), ((r : Nat) : Int))])))) := (b_ifT hc hb inner).trans rfl
      rw [List.map_cons]
      show (fStep _ _ _ _ _ _ _ _).bind _ = _
      rw [step]
      have e1 : K ++ rowC g r (a :: as) = K ++ [(((a : Nat) : Int), ((r : Nat) : Int))] ++ rowC g r as := by
        unfold rowC
        rw [List.filter_cons, hb, if_pos rfl, List.map_cons, List.append_assoc]; rfl
      rw [e1]
      show forGo _ _ _ _ = _
      rw [e, List.set_set]
theorem rowC_len {g : Int → Int → Bool} {r : Nat} {as : List Nat} : (rowC g r as).length ≤ as.length := by
  unfold rowC
  rw [List.length_map]
  exact List.length_filter_le _ _
theorem mem_rowC {g : Int → Int → Bool} {r : Nat} {as : List Nat} {c : Cell} (h : c ∈ rowC g r as) : ∃ a ∈ as, c = (((a : Nat) : Int), ((r : Nat) : Int)) ∧ g (r : Nat) (a : Nat) = true := by
  obtain ⟨a, ha, rfl⟩ := List.mem_map.mp h
  exact ⟨a, (List.mem_filter.mp ha).1, rfl, (List.mem_filter.mp ha).2⟩
theorem go15r {m lc many : Nat} {r0 : D} {g : Int → Int → Bool} (hm : many ≤ 100) : ∀ (rs : List Nat) (K : List Cell) (s5 s6 s8 s9 : Slot) (st : Pi.Sto), st[lc]? = some (.dct (cutK K)) → rs.Nodup → (∀ r ∈ rs, ∀ a : Nat, K.contains (((a : Nat) : Int), ((r : Nat) : Int)) = false) → K.length + rs.length * 100 ≤ 1000 →
    ∃ t5 t6 t8 t9, forGo (fStep cd.G (call m) 300 (.t [5, 6]) b15r) (rs.map fun r => D.tup [.int (r : Nat), .str (rowS (g (r : Nat)) many)]) (envA r0 lc s5 s6 s8 s9) st = .ok .nx (envA r0 lc t5 t6 t8 t9) (st.set lc (.dct (cutK (K ++ cellsG g many rs))))
  | [], K, s5, s6, s8, s9, st, h, _, _, _ => ⟨s5, s6, s8, s9, by
    have : K ++ cellsG g many [] = K := List.append_nil K
    rw [this, set_same h]; rfl⟩
  | r :: rs, K, s5, s6, s8, s9, st, h, nd, hk, hz => by
    simp only [List.length_cons] at hz
    rw [List.nodup_cons] at nd
    have hl : (rowC g r (List.range many)).length ≤ 100 := Nat.le_trans rowC_len (by rw [List.length_range]; exact hm)
    have hlc : lc < st.length := by
      by_cases hl : lc < st.length
      · exact hl
      · rw [List.getElem?_eq_none (by omega)] at h; cases h
    obtain ⟨u8, u9, e⟩ := go15a (m := m) (r := r) (r0 := r0) (g := g) (s6 := A (.str (rowS (g (r : Nat)) many))) (List.range many) K s8 s9 st h List.nodup_range (fun a _ => hk r List.mem_cons_self a) (by rw [List.length_range]; omega)
    obtain ⟨t5, t6, t8, t9, e2⟩ := go15r (m := m) (r0 := r0) (g := g) hm rs (K ++ rowC g r (List.range many)) (A (.int (r : Nat))) (A (.str (rowS (g (r : Nat)) many))) u8 u9 (st.set lc (.dct (cutK (K ++ rowC g r (List.range many))))) (List.getElem?_set_self hlc) nd.2 (fun q hq a => by
      have h1 := hk q (List.mem_cons_of_mem _ hq) a
      rw [← Bool.not_eq_true, List.contains_iff_mem, List.mem_append]
      rintro (z | z)
      · have := List.contains_iff_mem.mpr z
        rw [h1] at this
        cases this
      · obtain ⟨b, _, hb, _⟩ := mem_rowC z
        have : ((q : Nat) : Int) = ((r : Nat) : Int) := congrArg Prod.snd hb
        have : q = r := by omega
        exact nd.1 (this ▸ hq)) (by rw [List.length_append]; omega)
    refine ⟨t5, t6, t8, t9, ?_⟩
    have step : fStep cd.G (call m) 300 (.t [5, 6]) b15r (.tup [.int (r : Nat), .str (rowS (g (r : Nat)) many)]) (envA r0 lc s5 s6 s8 s9) st = .ok .nx (envA r0 lc (A (.int (r : Nat))) (A (.str (rowS (g (r : Nat)) many))) u8 u9) (st.set lc (.dct (cutK (K ++ rowC g r (List.range many))))) := by
      refine (b_nx ((s_for (x := .lst (enumD 0 ((rowS (g (r : Nat)) many).cps.toList.map fun c => D.str ⟨#[c]⟩))) (o := false) (env1 := envA r0 lc (A (.int (r : Nat))) (A (.str (rowS (g (r : Nat)) many))) s8 s9) (st1 := st) (e_enm (x := .str (rowS (g (r : Nat)) many)) (o := false) rfl rfl) rfl).trans ?_)).trans rfl
      rw [row_strs, enum_range]
      exact e
    rw [List.map_cons]
    show (fStep _ _ _ _ _ _ _ _).bind _ = _
    rw [step]
    have e1 : K ++ cellsG g many (r :: rs) = K ++ rowC g r (List.range many) ++ cellsG g many rs := by
      rw [List.append_assoc]; rfl
    rw [e1]
    show forGo _ _ _ _ = _
    rw [e2, List.set_set]
end K11

set_option maxRecDepth 100000
set_option maxHeartbeats 0
/-! K11y2: pieces_of: its outer for. -/
namespace K11
open PySem Pi Pi.EvR
theorem put_in {K : List Cell} {c : Cell} (h : K.contains c = true) : dkPut (cutK K) (cellD c) (.bl true) = cutK K := by
  unfold dkPut
  rw [has_cut, h, if_pos rfl]
  unfold cutK
  rw [List.map_map]
  apply List.map_congr_left
  intro x _
  show (if deq (cellD x) (cellD c) = true then (cellD x, D.bl true) else (cellD x, D.bl true)) = _
  split <;> rfl
theorem left_len {cells K : List Cell} {t : Cell} (nd : cells.Nodup) (h : t ∈ leftK cells K) : (leftK cells (K ++ [t])).length + 1 = (leftK cells K).length := by
  rw [leftK_add]
  have nd2 : (leftK cells K).Nodup := nd.filter _
  rw [← nd2.erase_eq_filter, List.length_erase_of_mem h]
  have := List.length_pos_of_mem h
  omega
theorem sumS {cells : List Cell} (nd : cells.Nodup) : ∀ (ts K td : List Cell), (spreadK cells ts K td).1.length + (leftK cells (spreadK cells ts K td).1).length = K.length + (leftK cells K).length
  | [], K, td => rfl
  | t :: ts, K, td => by
    unfold spreadK
    split
    · rename_i h
      rw [sumS nd ts, List.length_append, List.length_singleton]
      have := left_len nd (leftK_mem.mpr h)
      omega
    · exact sumS nd ts K td
theorem sumF {nb : Cell → List Cell} {cells : List Cell} (nd : cells.Nodup) : ∀ (n : Nat) (K td pc : List Cell), (floodK nb cells n K td pc).1.length + (leftK cells (floodK nb cells n K td pc).1).length = K.length + (leftK cells K).length
  | 0, K, td, pc => rfl
  | n + 1, K, td, pc => by
    unfold floodK
    cases td.getLast? with
    | none => rfl
    | some c =>
      dsimp only
      rw [sumF nd n, sumS nd]
theorem pc_grows {nb : Cell → List Cell} {cells : List Cell} : ∀ (n : Nat) (K td pc : List Cell), ∃ g, (floodK nb cells n K td pc).2 = pc ++ g ∧ g.length ≤ n
  | 0, K, td, pc => ⟨[], (List.append_nil pc).symm, Nat.le_refl _⟩
  | n + 1, K, td, pc => by
    unfold floodK
    cases td.getLast? with
    | none => exact ⟨[], (List.append_nil pc).symm, Nat.zero_le _⟩
    | some c =>
      dsimp only
      obtain ⟨g, h, hl⟩ := pc_grows n (spreadK cells (nb c) K td.dropLast).1 (spreadK cells (nb c) K td.dropLast).2 (pc ++ [c])
      exact ⟨c :: g, by rw [h, List.append_assoc]; rfl, by rw [List.length_cons]; omega⟩
/-! ### sorting cells -/
theorem pls_cells : ∀ cs : List Cell, D.pls (cellsD cs) = true
  | [] => rfl
  | c :: cs => pls_cells cs
theorem sort_cells {cs : List Cell} (h : cs.length ≤ 1000000) : sortD (cellsD cs) = some (.lst (cellsD (sortG ltC cs)), true) := by
  unfold sortD
  have h1 : sortable (cellsD cs) = true := by
    unfold sortable cellsD
    rw [List.all_eq_true]
    intro x hx
    obtain ⟨a, _, rfl⟩ := List.mem_map.mp hx
    rw [Bool.and_eq_true, Bool.and_eq_true]
    refine ⟨⟨rfl, rfl⟩, ?_⟩
    rw [List.all_eq_true]
    intro y hy
    obtain ⟨b, _, rfl⟩ := List.mem_map.mp hy
    rfl
  have h2 : (cellsD cs).all nonEmptyTup = true := by
    rw [List.all_eq_true]
    intro x hx
    obtain ⟨a, _, rfl⟩ := List.mem_map.mp hx
    rfl
  have h3 : szOk (cellsD cs).length = true := by
    unfold szOk cellsD
    rw [List.length_map]
    exact decide_eq_true h
  rw [h1, h2, h3, Bool.true_or, Bool.true_and, Bool.true_and, if_pos rfl]
  unfold cellsD
  rw [sortG_map dlt_cell]
theorem keys_cut (cs : List Cell) : (cutK cs).map (·.1) = cellsD cs := by
  unfold cutK cellsD
  rw [List.map_map]; rfl
/-! ### the outer for -/
def envG (r0 : D) (lc lk : Nat) (found : List (List Cell)) (s4 s5 s6 s7 s8 s9 s10 s11 : Slot) : Pi.Env := [A r0, A (.ref lc), some (.lst (found.map pieceD), true), A (.ref lk), s4, s5, s6, s7, s8, s9, s10, s11]
abbrev t15 : C := .cmp .ne (.v 6) (.ls [])
abbrev b15o : List S := [.asg (.n 6) (.ite (.cmp .notin (.v 4) (.v 3)) (.ls [.v 4]) (.ls [])), .asg (.n 7) (.ls []), .set 3 (.v 4) (.k (.bl true)), .while t15 b15w, .ifs (.cmp .ne (.v 7) (.ls [])) [.app 2 (.bi .tuple [.bi .sorted [.v 7]])] []]
theorem ne_cells {pc : List Cell} : cmpop .ne (.lst (cellsD pc)) (.lst []) = some (!pc.isEmpty) := by
  rw [show cmpop .ne (.lst (cellsD pc)) (.lst []) = (if (D.lst (cellsD pc)).pl && (D.lst []).pl && decide (min (D.lst (cellsD pc)).dep (D.lst []).dep ≤ 60) then some (!deq (.lst (cellsD pc)) (.lst [])) else none) from rfl]
  have hpl : (D.lst (cellsD pc)).pl = true := pls_cells pc
  rw [hpl, if_pos (by
    have : (D.lst []).dep = 1 := rfl
    rw [this]
    simp
    exact ⟨rfl, by omega⟩)]
  cases pc <;> rfl
theorem go15o {m lc lk : Nat} {r0 : D} {cells : List Cell} (hne : lc ≠ lk) (nd : cells.Nodup) : ∀ (fs K : List Cell) (found : List (List Cell)) (s4 s5 s6 s7 s8 s9 s10 s11 : Slot) (st : Pi.Sto), st[lc]? = some (.dct (cutK cells)) → st[lk]? = some (.dct (cutK K)) → (∀ f ∈ fs, f ∈ cells) → K.length + (leftK cells K).length ≤ 290 → found.length + fs.length ≤ 1000 →
    ∃ t4 t6 t7 t10 t11 K', forGo (fStep cd.G (call (m + 1)) 300 (.n 4) b15o) (fs.map cellD) (envG r0 lc lk found s4 s5 s6 s7 s8 s9 s10 s11) st = .ok .nx (envG r0 lc lk (outK nbP cells 299 fs K found) t4 s5 t6 t7 s8 s9 t10 t11) (st.set lk (.dct K'))
  | [], K, found, s4, s5, s6, s7, s8, s9, s10, s11, st, h1, h2, _, _, _ => ⟨s4, s6, s7, s10, s11, cutK K, by rw [set_same h2]; rfl⟩
  | f :: fs, K, found, s4, s5, s6, s7, s8, s9, s10, s11, st, h1, h2, hf, hz, hz2 => by
    simp only [List.length_cons] at hz2
    have hfc := hf f List.mem_cons_self
    have hlk : lk < st.length := by
      by_cases hl : lk < st.length
      · exact hl
      · rw [List.getElem?_eq_none (by omega)] at h2; cases h2
    have hin := (in_cut (c := f) h2).2
    have hcond : ev cd.G (call (m + 1)) true (.cmp .notin (.v 4) (.v 3)) (envG r0 lc lk found (A (cellD f)) s5 s6 s7 s8 s9 s10 s11) st = .ok (.bl (!K.contains f), false) (envG r0 lc lk found (A (cellD f)) s5 s6 s7 s8 s9 s10 s11) st :=
      e_cmpD (x := cellD f) (y := .ref lk) (o := false) (o2 := false) rfl rfl hin
    cases hk : K.contains f with
    | true =>
      obtain ⟨t10, t11, hw⟩ := go15w (m := m) (lc := lc) (lk := lk) (r0 := r0) (cells := cells) (s2 := some (.lst (found.map pieceD), true)) (s4 := A (cellD f)) (s5 := s5) (s8 := s8) (s9 := s9) hne nd 299 K [] [] s10 s11 (st.set lk (.dct (cutK K))) (by rw [List.getElem?_set_ne (Ne.symm hne)]; exact h1) (List.getElem?_set_self hlk) (by simp; omega) (by omega) (by simp; omega)
      have hf0 : floodK nbP cells 299 K [] [] = (K, []) := rfl
      rw [hf0, List.set_set] at hw
      obtain ⟨t4, t6, t7, u10, u11, K', e⟩ := go15o (m := m) (r0 := r0) hne nd fs K found (A (cellD f)) s5 (ownC []) (ownC []) s8 s9 t10 t11 (st.set lk (.dct (cutK K))) (by rw [List.getElem?_set_ne (Ne.symm hne)]; exact h1) (List.getElem?_set_self hlk) (fun q hq => hf q (List.mem_cons_of_mem _ hq)) hz (by omega)
      refine ⟨t4, t6, t7, u10, u11, K', ?_⟩
      have step : fStep cd.G (call (m + 1)) 300 (.n 4) b15o (cellD f) (envG r0 lc lk found s4 s5 s6 s7 s8 s9 s10 s11) st = .ok .nx (envG r0 lc lk found (A (cellD f)) s5 (ownC []) (ownC []) s8 s9 t10 t11) (st.set lk (.dct (cutK K))) := by
        refine (b_asg (p := (.lst [], true)) (env1 := envG r0 lc lk found (A (cellD f)) s5 s6 s7 s8 s9 s10 s11) (env2 := envG r0 lc lk found (A (cellD f)) s5 (ownC []) s7 s8 s9 s10 s11) (st1 := st) ?_ rfl).trans ?_
        · rw [hk] at hcond
          exact (e_iteF hcond).trans rfl
        refine (b_asg (p := (.lst [], true)) (env1 := envG r0 lc lk found (A (cellD f)) s5 (ownC []) s7 s8 s9 s10 s11) (env2 := envG r0 lc lk found (A (cellD f)) s5 (ownC []) (ownC []) s8 s9 s10 s11) (st1 := st) rfl rfl).trans ?_
        refine (b_setD (l := lk) (kvs := cutK K) (x := cellD f) (y := .bl true) (o := false) (o2 := false) rfl h2 rfl rfl rfl (by unfold cutK; rw [List.length_map]; omega)).trans ?_
        rw [put_in hk]
        refine (b_nx (s_while.trans hw)).trans ?_
        exact (b_ifF (q := !([] : List Cell).isEmpty) (e_cmp (x := .lst (cellsD [])) (y := .lst []) (o := false) (o2 := true) rfl rfl ne_cells) rfl).trans rfl
      rw [List.map_cons]
      show (fStep _ _ _ _ _ _ _ _).bind _ = _
      rw [step]
      unfold outK
      rw [hk, if_pos rfl]
      show forGo _ _ _ _ = _
      rw [e, List.set_set]
    | false =>
      have hfl : f ∈ leftK cells K := leftK_mem.mpr (by
        rw [List.contains_iff_mem.mpr hfc, hk]; rfl)
      have hll := left_len nd hfl
      obtain ⟨t10, t11, hw⟩ := go15w (m := m) (lc := lc) (lk := lk) (r0 := r0) (cells := cells) (s2 := some (.lst (found.map pieceD), true)) (s4 := A (cellD f)) (s5 := s5) (s8 := s8) (s9 := s9) hne nd 299 (K ++ [f]) [f] [] s10 s11 (st.set lk (.dct (cutK (K ++ [f])))) (by rw [List.getElem?_set_ne (Ne.symm hne)]; exact h1) (List.getElem?_set_self hlk) (by simp; omega) (by rw [List.length_append, List.length_singleton]; omega) (by simp; omega)
      rw [List.set_set] at hw
      obtain ⟨gr, hg, hgl⟩ := pc_grows (nb := nbP) (cells := cells) 298 (spreadK cells (nbP f) (K ++ [f]) []).1 (spreadK cells (nbP f) (K ++ [f]) []).2 [f]
      have hg2 : (floodK nbP cells 299 (K ++ [f]) [f] []).2 = f :: gr := hg
      have hs := sumF (nb := nbP) nd 299 (K ++ [f]) [f] []
      rw [List.length_append, List.length_singleton] at hs
      generalize hK1 : (floodK nbP cells 299 (K ++ [f]) [f] []).1 = K1 at hw hs
      generalize hP1 : (floodK nbP cells 299 (K ++ [f]) [f] []).2 = P1 at hw hg2
      obtain ⟨t4, t6, t7, u10, u11, K', e⟩ := go15o (m := m) (r0 := r0) hne nd fs K1 (found ++ [sortG ltC P1]) (A (cellD f)) s5 (ownC []) (some (.lst (cellsD P1), true)) s8 s9 t10 t11 (st.set lk (.dct (cutK K1))) (by rw [List.getElem?_set_ne (Ne.symm hne)]; exact h1) (List.getElem?_set_self hlk) (fun q hq => hf q (List.mem_cons_of_mem _ hq)) (by omega) (by rw [List.length_append, List.length_singleton]; omega)
      refine ⟨t4, t6, t7, u10, u11, K', ?_⟩
      have hP : P1.length ≤ 300 := by rw [hg2, List.length_cons]; omega
      have step : fStep cd.G (call (m + 1)) 300 (.n 4) b15o (cellD f) (envG r0 lc lk found s4 s5 s6 s7 s8 s9 s10 s11) st = .ok .nx (envG r0 lc lk (found ++ [sortG ltC P1]) (A (cellD f)) s5 (ownC []) (some (.lst (cellsD P1), true)) s8 s9 t10 t11) (st.set lk (.dct (cutK K1))) := by
        refine (b_asg (p := (.lst [cellD f], true)) (env1 := envG r0 lc lk found (A (cellD f)) s5 s6 s7 s8 s9 s10 s11) (env2 := envG r0 lc lk found (A (cellD f)) s5 (ownC [f]) s7 s8 s9 s10 s11) (st1 := st) ?_ rfl).trans ?_
        · rw [hk] at hcond
          exact (e_iteT hcond).trans rfl
        refine (b_asg (p := (.lst [], true)) (env1 := envG r0 lc lk found (A (cellD f)) s5 (ownC [f]) s7 s8 s9 s10 s11) (env2 := envG r0 lc lk found (A (cellD f)) s5 (ownC [f]) (ownC []) s8 s9 s10 s11) (st1 := st) rfl rfl).trans ?_
        refine (b_setD (l := lk) (kvs := cutK K) (x := cellD f) (y := .bl true) (o := false) (o2 := false) rfl h2 rfl rfl rfl (by unfold cutK; rw [List.length_map]; omega)).trans ?_
        rw [put_cut hk]
        refine (b_nx (s_while.trans hw)).trans ?_
        have ap : exB cd.G (call (m + 1)) 300 [.app 2 (.bi .tuple [.bi .sorted [.v 7]])] (envP r0 lc lk (some (.lst (found.map pieceD), true)) (A (cellD f)) s5 [] (ownC P1) s8 s9 t10 t11) (st.set lk (.dct (cutK K1))) = .ok .nx (envG r0 lc lk (found ++ [sortG ltC P1]) (A (cellD f)) s5 (ownC []) (some (.lst (cellsD P1), true)) s8 s9 t10 t11) (st.set lk (.dct (cutK K1))) := by
          have hsr : bifn cd.G .sorted [.lst (cellsD P1)] = some (.lst (cellsD (sortG ltC P1)), true) := sort_cells (by omega)
          refine (b_app (xs := found.map pieceD) (ys := found.map pieceD) (y := (pieceD (sortG ltC P1), false)) (env1 := envP r0 lc lk (some (.lst (found.map pieceD), true)) (A (cellD f)) s5 [] (ownC P1) s8 s9 t10 t11) rfl (e_bi (ds := [.lst (cellsD (sortG ltC P1))]) (es_cons (o := true) (e_bi (ds := [.lst (cellsD P1)]) (es_cons (o := false) rfl es_nil) hsr) es_nil) rfl) rfl (by rw [List.length_map]; omega)).trans ?_
          show R.ok _ _ _ = _
          unfold envP envG
          rw [List.map_append]; rfl
        exact (b_ifT (q := !P1.isEmpty) (e_cmp (x := .lst (cellsD P1)) (y := .lst []) (o := false) (o2 := true) rfl rfl ne_cells) (by rw [hg2]; rfl) ap).trans rfl
      rw [List.map_cons]
      show (fStep _ _ _ _ _ _ _ _).bind _ = _
      rw [step]
      unfold outK
      rw [hk, if_neg (by decide), hK1, hP1]
      show forGo _ _ _ _ = _
      rw [e, List.set_set]
end K11

set_option maxRecDepth 100000
set_option maxHeartbeats 0
/-! K11y3: pieces_of; pieces. -/
namespace K11
open PySem Pi Pi.EvR
theorem get_last {st : Pi.Sto} {x : Ob} : (st ++ [x])[st.length]? = some x := by simp
theorem set_last {st : Pi.Sto} {x y : Ob} : (st ++ [x]).set st.length y = st ++ [y] := by
  rw [List.set_append_right _ _ (Nat.le_refl _), Nat.sub_self]; rfl
theorem cellsG_nd {g : Int → Int → Bool} {many : Nat} : ∀ {rs : List Nat}, rs.Nodup → (cellsG g many rs).Nodup
  | [], _ => .nil
  | r :: rs, h => by
    rw [List.nodup_cons] at h
    show (rowC g r (List.range many) ++ cellsG g many rs).Nodup
    rw [List.nodup_append]
    refine ⟨?_, cellsG_nd h.2, ?_⟩
    · unfold rowC
      have : ((List.range many).filter fun a => g (r : Nat) (a : Nat)).Nodup := List.nodup_range.filter _
      exact List.Pairwise.map _ (fun a b (hab : a ≠ b) z => hab (by
        have := congrArg Prod.fst z
        dsimp only at this
        omega)) this
    · intro x hx y hy e
      subst e
      obtain ⟨a, _, rfl, _⟩ := mem_rowC hx
      obtain ⟨q, hq, hy⟩ := List.mem_flatMap.mp hy
      obtain ⟨b, _, hb, _⟩ := mem_rowC hy
      have : ((r : Nat) : Int) = ((q : Nat) : Int) := congrArg Prod.snd hb
      have : r = q := by omega
      exact h.1 (this ▸ hq)
theorem cellsG_len {g : Int → Int → Bool} {many : Nat} : ∀ {rs : List Nat}, (cellsG g many rs).length ≤ rs.length * many
  | [] => Nat.zero_le _
  | r :: rs => by
    show (rowC g r (List.range many) ++ cellsG g many rs).length ≤ _
    have h1 := rowC_len (g := g) (r := r) (as := List.range many)
    have h2 := cellsG_len (g := g) (many := many) (rs := rs)
    rw [List.length_range] at h1
    rw [List.length_append, List.length_cons, Nat.succ_mul]
    omega
theorem sortG_len {cs : List Cell} : (sortG ltC cs).length = cs.length := by
  induction cs with
  | nil => rfl
  | cons c cs ih =>
    have : ∀ (x : Cell) (ys : List Cell), (insG ltC x ys).length = ys.length + 1 := fun x ys => by
      induction ys with
      | nil => rfl
      | cons y ys ih =>
        unfold insG
        split
        · rw [List.length_cons, ih]; rfl
        · rfl
    show (insG ltC c (sortG ltC cs)).length = _
    rw [this, ih]; rfl
def outF (g : Int → Int → Bool) (rows many : Nat) : List (List Cell) := outK nbP (cellsG g many (List.range rows)) 299 (sortG ltC (cellsG g many (List.range rows))) [] []
theorem rowsG_enum {g : Int → Int → Bool} {rows many : Nat} : enumD 0 (rowsG g rows many) = (List.range rows).map fun r => D.tup [.int (r : Nat), .str (rowS (g (r : Nat)) many)] := enum_range
theorem f15 {m rows many : Nat} {g : Int → Int → Bool} {st : Pi.Sto} (hm : many ≤ 90) (hr : rows ≤ 3) : ∃ gs, call (m + 2) 15 [.tup (rowsG g rows many)] st = .ok (.lst ((outF g rows many).map pieceD)) true (st ++ gs) := by
  obtain ⟨t5, t6, t8, t9, e1⟩ := go15r (m := m + 1) (lc := st.length) (many := many) (r0 := .tup (rowsG g rows many)) (g := g) (by omega) (List.range rows) [] none none none none (st ++ [Ob.dct []]) get_last List.nodup_range (fun _ _ _ => rfl) (by rw [List.length_range]; simp; omega)
  rw [List.nil_append, set_last] at e1
  have hcl := cellsG_len (g := g) (many := many) (rs := List.range rows)
  rw [List.length_range] at hcl
  have hb : (cellsG g many (List.range rows)).length ≤ 270 := Nat.le_trans hcl (Nat.le_trans (Nat.mul_le_mul hr hm) (by decide))
  have hnd := cellsG_nd (g := g) (many := many) (rs := List.range rows) List.nodup_range
  have hout : outF g rows many = outK nbP (cellsG g many (List.range rows)) 299 (sortG ltC (cellsG g many (List.range rows))) [] [] := rfl
  rw [hout]
  generalize cellsG g many (List.range rows) = cs at e1 hb hnd
  have hl0 : leftK cs [] = cs := by
    unfold leftK
    rw [List.filter_eq_self]
    intro x _; rfl
  obtain ⟨u4, u6, u7, u10, u11, K', e2⟩ := go15o (m := m) (lc := st.length) (lk := (st ++ [Ob.dct (cutK cs)]).length) (r0 := .tup (rowsG g rows many)) (cells := cs) (by simp) hnd (sortG ltC cs) [] [] none t5 t6 none t8 t9 none none (st ++ [Ob.dct (cutK cs)] ++ [Ob.dct []]) (by simp) get_last (fun f hf => mem_sortG.mp hf) (by rw [hl0]; simp; omega) (by rw [sortG_len]; simp; omega)
  rw [set_last] at e2
  refine ⟨[Ob.dct (cutK cs), Ob.dct K'], ?_⟩
  have e3 : st ++ [Ob.dct (cutK cs), Ob.dct K'] = st ++ [Ob.dct (cutK cs)] ++ [Ob.dct K'] := by rw [List.append_assoc]; rfl
  rw [e3]
  refine call_ret (fn := c_pieces_of) (env1 := (envG (.tup (rowsG g rows many)) st.length (st ++ [Ob.dct (cutK cs)]).length (outK nbP cs 299 (sortG ltC cs) [] []) u4 t5 u6 u7 t8 t9 u10 u11).set 2 none) rfl rfl ?_
  refine (b_asg (env2 := envA (.tup (rowsG g rows many)) st.length none none none none) e_dnw rfl).trans ?_
  refine (b_nx ((s_for (x := .lst (enumD 0 (rowsG g rows many))) (o := false) (env1 := envA (.tup (rowsG g rows many)) st.length none none none none) (st1 := st ++ [Ob.dct []]) (e_enm (x := .tup (rowsG g rows many)) (o := false) rfl rfl) rfl).trans (by rw [rowsG_enum]; exact e1))).trans ?_
  refine (b_asg (p := (.lst [], true)) (env1 := envA (.tup (rowsG g rows many)) st.length t5 t6 t8 t9) (env2 := (envA (.tup (rowsG g rows many)) st.length t5 t6 t8 t9).set 2 (some (.lst [], true))) (st1 := st ++ [Ob.dct (cutK cs)]) rfl rfl).trans ?_
  refine (b_asg (env2 := envG (.tup (rowsG g rows many)) st.length (st ++ [Ob.dct (cutK cs)]).length [] none t5 t6 none t8 t9 none none) e_dnw rfl).trans ?_
  refine (b_nx ((s_for (x := .lst (cellsD (sortG ltC cs))) (o := true) (env1 := envG (.tup (rowsG g rows many)) st.length (st ++ [Ob.dct (cutK cs)]).length [] none t5 t6 none t8 t9 none none) (st1 := st ++ [Ob.dct (cutK cs)] ++ [Ob.dct []]) (e_biD (ds := [.ref st.length]) (es_cons (o := false) rfl es_nil) ?_) rfl).trans e2)).trans ?_
  · show bifD (st ++ [Ob.dct (cutK cs)] ++ [Ob.dct []]) .sorted [.ref st.length] = _
    show (match (st ++ [Ob.dct (cutK cs)] ++ [Ob.dct []])[st.length]? with
      | some (Ob.dct kvs) => sortD (kvs.map fun p : D × D => p.1)
      | _ => none) = _
    rw [show (st ++ [Ob.dct (cutK cs)] ++ [Ob.dct []])[st.length]? = some (Ob.dct (cutK cs)) by simp]
    show sortD ((cutK cs).map (·.1)) = _
    rw [keys_cut, sort_cells (by omega)]
  · exact b_retv rfl
theorem f17 {m n many : Nat} {s : Scp} {st : Pi.Sto} (h : s.Ok) (hn : n ≤ 4) (hc : cols s n = many) (hm : many ≤ 90) : ∃ gs, call (m + 6) 17 [s.d, .int n] st = .ok (.lst ((outF (lfB s n) s.rows.toNat many).map pieceD)) true (st ++ gs) := by
  have hrows := h.rows
  obtain ⟨gs, e⟩ := f15 (m := m + 3) (rows := s.rows.toNat) (many := many) (g := lfB s n) (st := stO s n st) hm (by omega)
  refine ⟨Ob.dct (dkAll [] (cutK (allCut s n))) :: gs, ?_⟩
  have e3 : st ++ Ob.dct (dkAll [] (cutK (allCut s n))) :: gs = stO s n st ++ gs := by
    show _ = st ++ [_] ++ gs
    rw [List.append_assoc]; rfl
  rw [e3]
  exact call_ret (fn := c_pieces) (env1 := [A s.d, A (.int n)]) rfl rfl ((b_expr (e_call (ds := [s.d]) (es_cons (o := false) rfl es_nil) (f5 (n := m) (Scp.vv h) (Scp.good h)))).trans ((b_expr (e_call (ds := [.int n, .int 4]) (es_cons (o := false) rfl (es_cons (o := false) rfl es_nil)) (f6 (n := m + 3) rfl (by
    show (decide (0 ≤ (n : Int)) && decide ((n : Int) ≤ 4)) = true
    rw [decide_eq_true (by omega), decide_eq_true (by omega)]; rfl)))).trans (b_ret rfl (e_call (ds := [.tup (openL s n many)]) (es_cons (o := false) (e_call (ds := [s.d, .int n]) (es_cons (o := false) rfl (es_cons (o := false) rfl es_nil)) (f13 h hn hc (by omega))) es_nil) e))))
end K11

set_option maxRecDepth 100000
set_option maxHeartbeats 0
/-! K11y4: the law's floods. -/
namespace K11
open PySem Pi Pi.EvR
theorem at_cut {t : Cell} : ∀ {av : List Cell}, t ∈ av → dkAt (cutK av) (cellD t) = some (.bl true)
  | x :: av, h => by
    unfold dkAt cutK
    rw [List.map_cons, List.find?_cons]
    show Option.map _ (match deq (cellD x) (cellD t) with | true => some (cellD x, D.bl true) | false => _) = _
    cases hd : deq (cellD x) (cellD t) with
    | true => rfl
    | false =>
      rcases List.mem_cons.mp h with rfl | h
      · rw [deq_cell] at hd
        simp at hd
      · exact at_cut h
theorem del_cut {t : Cell} {av : List Cell} : dkDel (cutK av) (cellD t) = cutK (av.filter fun x => x != t) := by
  unfold dkDel cutK
  rw [List.filter_map]
  congr 1
  apply List.filter_congr
  intro x _
  show (!deq (cellD x) (cellD t)) = _
  rw [deq_cell]; rfl
def envH (r0 : D) (l : Nat) (found : List (List Cell)) (s1 s4 s5 s6 s7 : Slot) : Pi.Env := [A r0, s1, A (.ref l), some (.lst (found.map pieceD), true), s4, s5, s6, s7]
abbrev b29i : List S := [.ifs (.cmp .isin (.v 7) (.v 2)) [.ex (.dpp 2 (.v 7)), .app 5 (.v 7)] []]
theorem lt_of_get {st : Pi.Sto} {l : Nat} {x : Ob} (h : st[l]? = some x) : l < st.length := by
  by_cases hl : l < st.length
  · exact hl
  · rw [List.getElem?_eq_none (by omega)] at h; cases h
theorem go29i {m l : Nat} {r0 : D} {found : List (List Cell)} {s1 s4 s6 : Slot} : ∀ (ts av td : List Cell) (s7 : Slot) (st : Pi.Sto), st[l]? = some (.dct (cutK av)) → td.length + ts.length ≤ 1000 →
    ∃ t7, forGo (fStep cd.G (call m) 300 (.n 7) b29i) (ts.map cellD) (envH r0 l found s1 s4 (ownC td) s6 s7) st = .ok .nx (envH r0 l found s1 s4 (ownC (spread ts av td).2) s6 t7) (st.set l (.dct (cutK (spread ts av td).1)))
  | [], av, td, s7, st, h, _ => ⟨s7, by
    unfold spread
    rw [set_same h]; rfl⟩
  | t :: ts, av, td, s7, st, h, hz => by
    simp only [List.length_cons] at hz
    have hl := lt_of_get h
    have hc : ev cd.G (call m) true (.cmp .isin (.v 7) (.v 2)) (envH r0 l found s1 s4 (ownC td) s6 (A (cellD t))) st = .ok (.bl (av.contains t), false) (envH r0 l found s1 s4 (ownC td) s6 (A (cellD t))) st :=
      e_cmpD (x := cellD t) (y := .ref l) (o := false) (o2 := false) rfl rfl (in_cut h).1
    rw [List.map_cons]
    by_cases ht : t ∈ av
    · have hb : av.contains t = true := List.contains_iff_mem.mpr ht
      obtain ⟨t7, e⟩ := go29i (m := m) (r0 := r0) (found := found) (s1 := s1) (s4 := s4) (s6 := s6) ts (av.filter fun x => x != t) (td ++ [t]) (A (cellD t)) (st.set l (.dct (cutK (av.filter fun x => x != t)))) (List.getElem?_set_self hl) (by rw [List.length_append, List.length_singleton]; omega)
      refine ⟨t7, ?_⟩
      have inner : exB cd.G (call m) 300 [.ex (.dpp 2 (.v 7)), .app 5 (.v 7)] (envH r0 l found s1 s4 (ownC td) s6 (A (cellD t))) st = .ok .nx (envH r0 l found s1 s4 (ownC (td ++ [t])) s6 (A (cellD t))) (st.set l (.dct (cutK (av.filter fun x => x != t)))) := by
        refine (b_expr (e_dpp (l := l) (kvs := cutK av) (x := cellD t) (o := false) (v := .bl true) rfl h rfl rfl (at_cut ht))).trans ?_
        rw [del_cut]
        refine (b_app (xs := cellsD td) (ys := cellsD td) (y := (cellD t, false)) (env1 := envH r0 l found s1 s4 (ownC td) s6 (A (cellD t))) rfl rfl rfl (by unfold cellsD; rw [List.length_map]; omega)).trans ?_
        show R.ok _ _ _ = _
        unfold envH ownC cellsD
        rw [List.map_append]; rfl
      have step : fStep cd.G (call m) 300 (.n 7) b29i (cellD t) (envH r0 l found s1 s4 (ownC td) s6 s7) st = .ok .nx (envH r0 l found s1 s4 (ownC (td ++ [t])) s6 (A (cellD t))) (st.set l (.dct (cutK (av.filter fun x => x != t)))) := (b_ifT hc hb inner).trans rfl
      show (fStep _ _ _ _ _ _ _ _).bind _ = _
      rw [step]
      unfold spread
      rw [if_pos ht]
      show forGo _ _ _ _ = _
      rw [e, List.set_set]
    · have hb : av.contains t = false := by
        rw [← Bool.not_eq_true, List.contains_iff_mem]; exact ht
      obtain ⟨t7, e⟩ := go29i (m := m) (r0 := r0) (found := found) (s1 := s1) (s4 := s4) (s6 := s6) ts av td (A (cellD t)) st h (by omega)
      refine ⟨t7, ?_⟩
      have step : fStep cd.G (call m) 300 (.n 7) b29i (cellD t) (envH r0 l found s1 s4 (ownC td) s6 s7) st = .ok .nx (envH r0 l found s1 s4 (ownC td) s6 (A (cellD t))) st := (b_ifF hc hb).trans rfl
      show (fStep _ _ _ _ _ _ _ _).bind _ = _
      rw [step]
      unfold spread
      rw [if_neg ht]
      exact e
abbrev l29 : C := .ls [.tp [.bin .sub (.v 4) (.k (.int 1)), .v 1], .tp [.bin .add (.v 4) (.k (.int 1)), .v 1], .tp [.v 4, .bin .sub (.v 1) (.k (.int 1))], .tp [.v 4, .bin .add (.v 1) (.k (.int 1))]]
abbrev b29w : List S := [.pop (.t [4, 1]) 5, .app 6 (.tp [.v 4, .v 1]), .for (.n 7) l29 b29i]
theorem turn29 {m l : Nat} {r0 : D} {found : List (List Cell)} {av td pc : List Cell} {c : Cell} {s1 s4 s7 : Slot} {st : Pi.Sto} (h : st[l]? = some (.dct (cutK av))) (hl : td.getLast? = some c) (b2 : td.length ≤ 900) (b3 : pc.length ≤ 900) :
    ∃ t7, exB cd.G (call m) 300 b29w (envH r0 l found s1 s4 (ownC td) (ownC pc) s7) st = .ok .nx (envH r0 l found (A (.int c.2)) (A (.int c.1)) (ownC (spread (nbL c) av td.dropLast).2) (ownC (pc ++ [c])) t7) (st.set l (.dct (cutK (spread (nbL c) av td.dropLast).1))) := by
  have hd : td.dropLast.length ≤ 900 := by rw [List.length_dropLast]; omega
  have hn4 : (nbL c).length = 4 := rfl
  obtain ⟨t7, e⟩ := go29i (m := m) (r0 := r0) (found := found) (s1 := A (.int c.2)) (s4 := A (.int c.1)) (s6 := ownC (pc ++ [c])) (nbL c) av td.dropLast s7 st h (by omega)
  refine ⟨t7, ?_⟩
  have hg : (cellsD td).getLast? = some (cellD c) := by
    unfold cellsD
    rw [List.getLast?_map, hl]; rfl
  have hdl : (cellsD td).dropLast = cellsD td.dropLast := by
    unfold cellsD
    rw [List.map_dropLast]
  refine (b_pop (xs := cellsD td) (y := cellD c) (env2 := envH r0 l found (A (.int c.2)) (A (.int c.1)) (ownC td.dropLast) (ownC pc) s7) rfl hg (by rw [hdl]; rfl)).trans ?_
  refine (b_app (xs := cellsD pc) (ys := cellsD pc) (y := (cellD c, false)) (env1 := envH r0 l found (A (.int c.2)) (A (.int c.1)) (ownC td.dropLast) (ownC pc) s7) (st1 := st) rfl (e_tp (ds := [.int c.1, .int c.2]) (es_cons (o := false) rfl (es_cons (o := false) rfl es_nil)) rfl) rfl (by unfold cellsD; rw [List.length_map]; omega)).trans ?_
  have e0 : (envH r0 l found (A (.int c.2)) (A (.int c.1)) (ownC td.dropLast) (ownC pc) s7).set 6 (some (.lst (cellsD pc ++ [cellD c]), true)) = envH r0 l found (A (.int c.2)) (A (.int c.1)) (ownC td.dropLast) (ownC (pc ++ [c])) s7 := by
    unfold envH ownC cellsD
    rw [List.map_append]; rfl
  rw [e0]
  exact (b_nx ((s_for (x := .lst ((nbL c).map cellD)) (o := true) (env1 := envH r0 l found (A (.int c.2)) (A (.int c.1)) (ownC td.dropLast) (ownC (pc ++ [c])) s7) (st1 := st) rfl rfl).trans e)).trans rfl
theorem go29w {m l : Nat} {r0 : D} {found : List (List Cell)} : ∀ (n : Nat) (av td pc : List Cell) (s1 s4 s7 : Slot) (st : Pi.Sto), st[l]? = some (.dct (cutK av)) → av.Nodup → td.length + av.length ≤ n → pc.length + td.length + av.length ≤ 800 →
    ∃ t1 t4 t7, whileGo (wTest (call m) (.cmp .ne (.v 5) (.ls []))) (wBody (call m) b29w) (n + 1) (envH r0 l found s1 s4 (ownC td) (ownC pc) s7) st = .ok .nx (envH r0 l found t1 t4 (ownC []) (ownC (flood nbL n av td pc).2) t7) (st.set l (.dct (cutK (flood nbL n av td pc).1)))
  | n, av, [], pc, s1, s4, s7, st, h, nd, hn, b2 => by
    refine ⟨s1, s4, s7, ?_⟩
    have hf : flood nbL n av [] pc = (av, pc) := by cases n <;> rfl
    rw [hf, set_same h]
    have ht : wTest (call m) (.cmp .ne (.v 5) (.ls [])) (envH r0 l found s1 s4 (ownC []) (ownC pc) s7) st = .ok false (envH r0 l found s1 s4 (ownC []) (ownC pc) s7) st := rfl
    unfold whileGo
    rw [ht]; rfl
  | 0, av, t :: td, pc, s1, s4, s7, st, h, nd, hn, b2 => by simp at hn
  | n + 1, av, t :: td, pc, s1, s4, s7, st, h, nd, hn, b2 => by
    have hl := lt_of_get h
    obtain ⟨c, hlast⟩ : ∃ c, (t :: td).getLast? = some c := ⟨_, List.getLast?_eq_some_getLast (by simp)⟩
    obtain ⟨u7, body⟩ := turn29 (m := m) (r0 := r0) (found := found) (av := av) (s1 := s1) (s4 := s4) (s7 := s7) (st := st) h hlast (by omega) (by omega) (pc := pc)
    obtain ⟨k1, _, ad, k3, _, _, k6⟩ := spread_spec (nbL c) av (t :: td).dropLast nd
    have hdl : (t :: td).dropLast.length = td.length := by rw [List.length_dropLast]; rfl
    have htd := congrArg List.length k3
    rw [List.length_append, hdl] at htd
    simp only [List.length_cons] at hn b2
    obtain ⟨t1, t4, t7, e⟩ := go29w (m := m) (r0 := r0) (found := found) n (spread (nbL c) av (t :: td).dropLast).1 (spread (nbL c) av (t :: td).dropLast).2 (pc ++ [c]) (A (.int c.2)) (A (.int c.1)) u7 (st.set l (.dct (cutK (spread (nbL c) av (t :: td).dropLast).1))) (List.getElem?_set_self hl) k1 (by omega) (by rw [List.length_append, List.length_singleton]; omega)
    refine ⟨t1, t4, t7, ?_⟩
    have hf : flood nbL (n + 1) av (t :: td) pc = flood nbL n (spread (nbL c) av (t :: td).dropLast).1 (spread (nbL c) av (t :: td).dropLast).2 (pc ++ [c]) := by
      conv => lhs; unfold flood
      rw [hlast]
    rw [hf]
    have ht : wTest (call m) (.cmp .ne (.v 5) (.ls [])) (envH r0 l found s1 s4 (ownC (t :: td)) (ownC pc) s7) st = .ok true (envH r0 l found s1 s4 (ownC (t :: td)) (ownC pc) s7) st :=
      t_of (e_cmp (x := .lst (cellsD (t :: td))) (y := .lst []) (o := false) (o2 := true) rfl rfl ne_cells)
    conv => lhs; unfold whileGo
    rw [ht]
    show (R.bind (exB cd.G (call m) 300 b29w _ st) _) = _
    rw [body]
    show whileGo _ _ (n + 1) _ _ = _
    rw [e, List.set_set]
theorem flood_nd {nb : Cell → List Cell} : ∀ (n : Nat) (av td pc : List Cell), av.Nodup → (flood nb n av td pc).1.Nodup ∧ (flood nb n av td pc).1.length ≤ av.length
  | 0, av, td, pc, h => ⟨h, Nat.le_refl _⟩
  | n + 1, av, td, pc, h => by
    unfold flood
    cases td.getLast? with
    | none => exact ⟨h, Nat.le_refl _⟩
    | some c =>
      dsimp only
      obtain ⟨k1, _, ad, _, _, _, k6⟩ := spread_spec (nb c) av td.dropLast h
      obtain ⟨i1, i2⟩ := flood_nd (nb := nb) n (spread (nb c) av td.dropLast).1 (spread (nb c) av td.dropLast).2 (pc ++ [c]) k1
      exact ⟨i1, by omega⟩
theorem flood_grows {nb : Cell → List Cell} : ∀ (n : Nat) (av td pc : List Cell), ∃ g, (flood nb n av td pc).2 = pc ++ g ∧ g.length ≤ n
  | 0, K, td, pc => ⟨[], (List.append_nil pc).symm, Nat.le_refl _⟩
  | n + 1, K, td, pc => by
    unfold flood
    cases td.getLast? with
    | none => exact ⟨[], (List.append_nil pc).symm, Nat.zero_le _⟩
    | some c =>
      dsimp only
      obtain ⟨g, h, hl⟩ := flood_grows (nb := nb) n (spread (nb c) K td.dropLast).1 (spread (nb c) K td.dropLast).2 (pc ++ [c])
      exact ⟨c :: g, by rw [h, List.append_assoc]; rfl, by rw [List.length_cons]; omega⟩
abbrev b29o : List S := [
  .pro [5, 6] [.ls [.ix (.bi .list [.v 2]) (.k (.int 0))], .ls []],
  .ex (.dpp 2 (.ix (.v 5) (.k (.int 0)))),
  .while (.cmp .ne (.v 5) (.ls [])) b29w,
  .app 3 (.bi .tuple [.bi .sorted [.v 6]])]
theorem go29o {m l : Nat} {r0 : D} : ∀ (k : Nat) (left : List Cell) (found : List (List Cell)) (s1 s4 s5 s6 s7 : Slot) (st : Pi.Sto), st[l]? = some (.dct (cutK left)) → left.Nodup → left.length ≤ k → left.length ≤ 290 → found.length + left.length ≤ 1000 →
    ∃ t1 t4 t5 t6 t7 ob, whileGo (wTest (call m) (.dne (.v 2))) (wBody (call m) b29o) (k + 1) (envH r0 l found s1 s4 s5 s6 s7) st = .ok .nx (envH r0 l (outL nbL 299 k left found) t1 t4 t5 t6 t7) (st.set l ob)
  | k, [], found, s1, s4, s5, s6, s7, st, h, nd, hk, hz, hz2 => by
    refine ⟨s1, s4, s5, s6, s7, Ob.dct (cutK []), ?_⟩
    rw [set_same h]
    have hf : outL nbL 299 k [] found = found := by cases k <;> rfl
    rw [hf]
    have ht : wTest (call m) (.dne (.v 2)) (envH r0 l found s1 s4 s5 s6 s7) st = .ok false (envH r0 l found s1 s4 s5 s6 s7) st := t_of (e_dne (l := l) (kvs := cutK []) (o := false) rfl h)
    unfold whileGo
    rw [ht]; rfl
  | 0, f :: left, found, s1, s4, s5, s6, s7, st, h, nd, hk, hz, hz2 => by simp at hk
  | k + 1, f :: left, found, s1, s4, s5, s6, s7, st, h, nd, hk, hz, hz2 => by
    have hl := lt_of_get h
    simp only [List.length_cons] at hk hz hz2
    have hfil : ((f :: left).filter fun x => x != f) = left := by
      rw [List.filter_cons]
      rw [List.nodup_cons] at nd
      rw [if_neg (by simp), List.filter_eq_self]
      intro x hx
      have : x ≠ f := fun e => nd.1 (e ▸ hx)
      simpa using this
    rw [List.nodup_cons] at nd
    obtain ⟨u1, u4, u7, hw⟩ := go29w (m := m) (l := l) (r0 := r0) (found := found) 299 left [f] [] s1 s4 s7 (st.set l (.dct (cutK left))) (List.getElem?_set_self hl) nd.2 (by simp; omega) (by simp; omega)
    rw [List.set_set] at hw
    obtain ⟨i1, i2⟩ := flood_nd (nb := nbL) 299 left [f] [] nd.2
    obtain ⟨gr, hg, hgl⟩ := flood_grows (nb := nbL) 299 left [f] []
    have ho : outL nbL 299 (k + 1) (f :: left) found = outL nbL 299 k (flood nbL 299 left [f] []).1 (found ++ [sortG ltC (flood nbL 299 left [f] []).2]) := by
      conv => lhs; unfold outL take1
      dsimp only
      rw [hfil]
    rw [ho]
    rw [List.nil_append] at hg
    generalize (flood nbL 299 left [f] []).1 = L1 at hw i1 i2
    generalize (flood nbL 299 left [f] []).2 = P1 at hw hg
    obtain ⟨t1, t4, t5, t6, t7, ob, e⟩ := go29o (m := m) (r0 := r0) k L1 (found ++ [sortG ltC P1]) u1 u4 (ownC []) (some (.lst (cellsD P1), true)) u7 (st.set l (.dct (cutK L1))) (List.getElem?_set_self hl) i1 (by omega) (by omega) (by rw [List.length_append, List.length_singleton]; omega)
    refine ⟨t1, t4, t5, t6, t7, ob, ?_⟩
    have hP : P1.length ≤ 300 := by rw [hg]; omega
    have ht : wTest (call m) (.dne (.v 2)) (envH r0 l found s1 s4 s5 s6 s7) st = .ok true (envH r0 l found s1 s4 s5 s6 s7) st := t_of (e_dne (l := l) (kvs := cutK (f :: left)) (o := false) rfl h)
    have body : exB cd.G (call m) 300 b29o (envH r0 l found s1 s4 s5 s6 s7) st = .ok .nx (envH r0 l (found ++ [sortG ltC P1]) u1 u4 (ownC []) (some (.lst (cellsD P1), true)) u7) (st.set l (.dct (cutK L1))) := by
      refine (b_pro (ps := [(.lst [cellD f], true), (.lst [], true)]) (env1 := envH r0 l found s1 s4 s5 s6 s7) (env2 := envH r0 l found s1 s4 (ownC [f]) (ownC []) s7) (st1 := st) ?_ rfl).trans ?_
      · refine eo_cons (e_ls (ds := [cellD f]) (es_cons (o := false) (e_ix (x := .lst (cellD f :: cellsD left)) (y := .int 0) (o := true) (o2 := false) (env1 := envH r0 l found s1 s4 s5 s6 s7) (st1 := st) (e_biD (ds := [.ref l]) (es_cons (o := false) rfl es_nil) ?_) rfl (ixl at0)) es_nil) rfl) (eo_cons (p := (.lst [], true)) rfl rfl)
        show bifD st .list [.ref l] = _
        show (match st[l]? with
          | some (Ob.dct kvs) => some (D.lst (kvs.map fun p : D × D => p.1), true)
          | _ => none) = _
        rw [h]
        show some (D.lst ((cutK (f :: left)).map (·.1)), true) = _
        rw [keys_cut]; rfl
      refine (b_expr (e_dpp (l := l) (kvs := cutK (f :: left)) (x := cellD f) (o := false) (v := .bl true) rfl h (e_ix (x := .lst [cellD f]) (y := .int 0) (o := false) (o2 := false) rfl rfl (ixl at0)) rfl (at_cut List.mem_cons_self))).trans ?_
      rw [del_cut, hfil]
      refine (b_nx (s_while.trans hw)).trans ?_
      have hsr : bifn cd.G .sorted [.lst (cellsD P1)] = some (.lst (cellsD (sortG ltC P1)), true) := sort_cells (by omega)
      refine (b_app (xs := found.map pieceD) (ys := found.map pieceD) (y := (pieceD (sortG ltC P1), false)) (env1 := envH r0 l found u1 u4 (ownC []) (ownC P1) u7) rfl (e_bi (ds := [.lst (cellsD (sortG ltC P1))]) (es_cons (o := true) (e_bi (ds := [.lst (cellsD P1)]) (es_cons (o := false) rfl es_nil) hsr) es_nil) rfl) rfl (by rw [List.length_map]; omega)).trans ?_
      show R.ok _ _ _ = _
      unfold envH
      rw [List.map_append]; rfl
    conv => lhs; unfold whileGo
    rw [ht]
    show (R.bind (exB cd.G (call m) 300 b29o _ st) _) = _
    rw [body]
    show whileGo _ _ (k + 1) _ _ = _
    rw [e, List.set_set]
end K11

set_option maxRecDepth 100000
set_option maxHeartbeats 0
/-! K11y5: the law's heap of pieces. -/
namespace K11
open PySem Pi Pi.EvR
theorem row_at {g : Int → Int → Bool} {rows many r : Nat} {st : Pi.Sto} (hr : r < rows) : ixF st (.tup (rowsG g rows many)) (.int (r : Nat)) = some (.str (rowS (g (r : Nat)) many), false) := by
  apply ixt
  rw [atIx_of (by omega) (by unfold rowsG; rw [List.length_map, List.length_range]; omega)]
  unfold rowsG
  rw [List.getElem?_map, List.getElem?_range (by omega)]; rfl
theorem row_len {g : Int → Bool} {many : Nat} : (rowS g many).length = many := by
  show (rowS g many).cps.size = many
  rw [← Array.length_toList, row_cps, List.length_map, List.length_range]
theorem sign_at {g : Int → Bool} {many a : Nat} {st : Pi.Sto} (hm : many ≤ 1000) (ha : a < many) : ixF st (.str (rowS g many)) (.int (a : Nat)) = some (.str (sg (g (a : Nat))), false) := by
  show (if szOk (rowS g many).length = true then (L2.atI (rowS g many).cps.toList (a : Nat)).map fun c => D.str ⟨#[c]⟩ else none).map (fun d => (d, false)) = _
  rw [row_len, if_pos (by unfold szOk; exact decide_eq_true (by omega))]
  have : L2.atI (rowS g many).cps.toList (a : Nat) = some (chr (g (a : Nat))) := by
    unfold L2.atI
    rw [row_cps, ixN_of (by omega) (by rw [List.length_map, List.length_range]; omega)]
    show (List.map _ _)[((a : Int)).toNat]? = _
    rw [List.getElem?_map, List.getElem?_range (by omega)]; rfl
  rw [this]
  show some (D.str ⟨#[chr (g (a : Nat))]⟩, false) = _
  cases g (a : Nat) <;> rfl
abbrev b29a : List S := [.ifs (.cmp .eq (.ix (.ix (.v 0) (.v 1)) (.v 4)) (.k (.str "#"))) [.set 2 (.tp [.v 4, .v 1]) (.k (.bl true))] []]
abbrev b29r : List S := [.for (.n 4) (.rng [.bi .len [.ix (.v 0) (.k (.int 0))]]) b29a]
theorem go29a {m l rows many r : Nat} {g : Int → Int → Bool} (hr : r < rows) (hm : many ≤ 1000) : ∀ (as : List Nat) (K : List Cell) (s4 : Slot) (st : Pi.Sto), st[l]? = some (.dct (cutK K)) → as.Nodup → (∀ a ∈ as, a < many) → (∀ a ∈ as, K.contains (((a : Nat) : Int), ((r : Nat) : Int)) = false) → K.length + as.length ≤ 1000 →
    ∃ t4, forGo (fStep cd.G (call m) 300 (.n 4) b29a) (as.map fun a => D.int (a : Nat)) (envH (.tup (rowsG g rows many)) l [] (A (.int (r : Nat))) s4 none none none) st = .ok .nx (envH (.tup (rowsG g rows many)) l [] (A (.int (r : Nat))) t4 none none none) (st.set l (.dct (cutK (K ++ rowC g r as))))
  | [], K, s4, st, h, _, _, _, _ => ⟨s4, by
    have : K ++ rowC g r [] = K := List.append_nil K
    rw [this, set_same h]; rfl⟩
  | a :: as, K, s4, st, h, nd, hlt, hk, hz => by
    simp only [List.length_cons] at hz
    rw [List.nodup_cons] at nd
    have ha := hlt a List.mem_cons_self
    have hc : ev cd.G (call m) true (.cmp .eq (.ix (.ix (.v 0) (.v 1)) (.v 4)) (.k (.str "#"))) (envH (.tup (rowsG g rows many)) l [] (A (.int (r : Nat))) (A (.int (a : Nat))) none none none) st = .ok (.bl (g (r : Nat) (a : Nat)), false) (envH (.tup (rowsG g rows many)) l [] (A (.int (r : Nat))) (A (.int (a : Nat))) none none none) st :=
      e_cmp (x := .str (sg (g (r : Nat) (a : Nat)))) (y := .str "#") (o := false) (o2 := false) (e_ix (x := .str (rowS (g (r : Nat)) many)) (y := .int (a : Nat)) (o := false) (o2 := false) (e_ix (x := .tup (rowsG g rows many)) (y := .int (r : Nat)) (o := false) (o2 := false) rfl rfl (row_at hr)) rfl (sign_at hm ha)) rfl (eq_sg _)
    rw [List.map_cons]
    cases hb : g (r : Nat) (a : Nat) with
    | false =>
      obtain ⟨t4, e⟩ := go29a (m := m) (g := g) hr hm as K (A (.int (a : Nat))) st h nd.2 (fun b hb => hlt b (List.mem_cons_of_mem _ hb)) (fun b hb => hk b (List.mem_cons_of_mem _ hb)) (by omega)
      refine ⟨t4, ?_⟩
      have step : fStep cd.G (call m) 300 (.n 4) b29a (.int (a : Nat)) (envH (.tup (rowsG g rows many)) l [] (A (.int (r : Nat))) s4 none none none) st = .ok .nx (envH (.tup (rowsG g rows many)) l [] (A (.int (r : Nat))) (A (.int (a : Nat))) none none none) st := (b_ifF hc hb).trans rfl
      show (fStep _ _ _ _ _ _ _ _).bind _ = _
      rw [step]
      have e1 : rowC g r (a :: as) = rowC g r as := by
        unfold rowC
        rw [List.filter_cons, hb]; rfl
      rw [e1]
      exact e
    | true =>
      have hka := hk a List.mem_cons_self
      have hl := lt_of_get h
      obtain ⟨t4, e⟩ := go29a (m := m) (g := g) hr hm as (K ++ [(((a : Nat) : Int), ((r : Nat) : Int))]) (A (.int (a : Nat))) (st.set l (.dct (cutK (K ++ [(((a : Nat) : Int), ((r : Nat) : Int))])))) (List.getElem?_set_self hl) nd.2 (fun b hb => hlt b (List.mem_cons_of_mem _ hb)) (fun b hb => by
        have h1 := hk b (List.mem_cons_of_mem _ hb)
        have h2 : ((a : Nat) : Int) ≠ ((b : Nat) : Int) := fun z => nd.1 (by
          have : a = b := by omega
          rw [this]; exact hb)
        have h3 : ¬ (((b : Nat) : Int), ((r : Nat) : Int)) ∈ K := fun z => by
          have := List.contains_iff_mem.mpr z
          rw [h1] at this
          cases this
        rw [← Bool.not_eq_true, List.contains_iff_mem, List.mem_append, List.mem_singleton]
        rintro (z | z)
        · exact h3 z
        · exact h2 (congrArg Prod.fst z).symm) (by rw [List.length_append, List.length_singleton]; omega)
      refine ⟨t4, ?_⟩
      have inner : exB cd.G (call m) 300 [.set 2 (.tp [.v 4, .v 1]) (.k (.bl true))] (envH (.tup (rowsG g rows many)) l [] (A (.int (r : Nat))) (A (.int (a : Nat))) none none none) st = .ok .nx (envH (.tup (rowsG g rows many)) l [] (A (.int (r : Nat))) (A (.int (a : Nat))) none none none) (st.set l (.dct (cutK (K ++ [(((a : Nat) : Int), ((r : Nat) : Int))])))) := by
        refine (b_setD (l := l) (kvs := cutK K) (x := cellD (((a : Nat) : Int), ((r : Nat) : Int))) (y := .bl true) (o := false) (o2 := false) rfl h rfl (e_tp (ds := [.int (a : Nat), .int (r : Nat)]) (es_cons (o := false) rfl (es_cons (o := false) rfl es_nil)) rfl) rfl (by unfold cutK; rw [List.length_map]; omega)).trans ?_
        rw [put_cut hka]; rfl
      have step : fStep cd.G (call m) 300 (.n 4) b29a (.int (a : Nat)) (envH (.tup (rowsG g rows many)) l [] (A (.int (r : Nat))) s4 none none none) st = .ok .nx (envH (.tup (rowsG g rows many)) l [] (A (.int (r : Nat))) (A (.int (a : Nat))) none none none) (st.set l (.dct (cutK (K ++ [(((a : Nat) : Int), ((r : Nat) : Int))])))) := (b_ifT hc hb inner).trans rfl
      show (fStep _ _ _ _ _ _ _ _).bind _ = _
      rw [step]
      have e1 : K ++ rowC g r (a :: as) = K ++ [(((a : Nat) : Int), ((r : Nat) : Int))] ++ rowC g r as := by
        unfold rowC
        rw [List.filter_cons, hb, if_pos rfl, List.map_cons, List.append_assoc]; rfl
      rw [e1]
      show forGo _ _ _ _ = _
      rw [e, List.set_set]
theorem go29r {m l rows many : Nat} {g : Int → Int → Bool} (hm : many ≤ 100) (h0 : 0 < rows) : ∀ (rs : List Nat) (K : List Cell) (s1 s4 : Slot) (st : Pi.Sto), st[l]? = some (.dct (cutK K)) → rs.Nodup → (∀ r ∈ rs, r < rows) → (∀ r ∈ rs, ∀ a : Nat, K.contains (((a : Nat) : Int), ((r : Nat) : Int)) = false) → K.length + rs.length * 100 ≤ 1000 →
    ∃ t1 t4, forGo (fStep cd.G (call m) 300 (.n 1) b29r) (rs.map fun r => D.int (r : Nat)) (envH (.tup (rowsG g rows many)) l [] s1 s4 none none none) st = .ok .nx (envH (.tup (rowsG g rows many)) l [] t1 t4 none none none) (st.set l (.dct (cutK (K ++ cellsG g many rs))))
  | [], K, s1, s4, st, h, _, _, _, _ => ⟨s1, s4, by
    have : K ++ cellsG g many [] = K := List.append_nil K
    rw [this, set_same h]; rfl⟩
  | r :: rs, K, s1, s4, st, h, nd, hlt, hk, hz => by
    simp only [List.length_cons] at hz
    rw [List.nodup_cons] at nd
    have hl2 : (rowC g r (List.range many)).length ≤ 100 := Nat.le_trans rowC_len (by rw [List.length_range]; exact hm)
    have hl := lt_of_get h
    obtain ⟨u4, e⟩ := go29a (m := m) (r := r) (g := g) (hlt r List.mem_cons_self) (by omega) (List.range many) K s4 st h List.nodup_range (fun a ha => List.mem_range.mp ha) (fun a _ => hk r List.mem_cons_self a) (by rw [List.length_range]; omega)
    obtain ⟨t1, t4, e2⟩ := go29r (m := m) (g := g) hm h0 rs (K ++ rowC g r (List.range many)) (A (.int (r : Nat))) u4 (st.set l (.dct (cutK (K ++ rowC g r (List.range many))))) (List.getElem?_set_self hl) nd.2 (fun q hq => hlt q (List.mem_cons_of_mem _ hq)) (fun q hq a => by
      have h1 := hk q (List.mem_cons_of_mem _ hq) a
      rw [← Bool.not_eq_true, List.contains_iff_mem, List.mem_append]
      rintro (z | z)
      · have := List.contains_iff_mem.mpr z
        rw [h1] at this
        cases this
      · obtain ⟨b, _, hb, _⟩ := mem_rowC z
        have : ((q : Nat) : Int) = ((r : Nat) : Int) := congrArg Prod.snd hb
        have : q = r := by omega
        exact nd.1 (this ▸ hq)) (by rw [List.length_append]; omega)
    refine ⟨t1, t4, ?_⟩
    have step : fStep cd.G (call m) 300 (.n 1) b29r (.int (r : Nat)) (envH (.tup (rowsG g rows many)) l [] s1 s4 none none none) st = .ok .nx (envH (.tup (rowsG g rows many)) l [] (A (.int (r : Nat))) u4 none none none) (st.set l (.dct (cutK (K ++ rowC g r (List.range many))))) := by
      refine (b_nx ((s_for (x := .lst (rangeD 0 many)) (o := false) (env1 := envH (.tup (rowsG g rows many)) l [] (A (.int (r : Nat))) s4 none none none) (st1 := st) (e_rng (ds := [.int many]) (es_cons (o := false) (e_bi (ds := [.str (rowS (g ((0 : Nat) : Int)) many)]) (es_cons (o := false) (e_ix (x := .tup (rowsG g rows many)) (y := .int ((0 : Nat) : Int)) (o := false) (o2 := false) rfl rfl (row_at h0)) es_nil) ?_) es_nil) ?_) rfl).trans ?_)).trans rfl
      · show (if szOk (rowS (g ((0 : Nat) : Int)) many).length = true then some (D.int (rowS (g ((0 : Nat) : Int)) many).length, false) else none) = _
        rw [row_len, if_pos (by unfold szOk; exact decide_eq_true (by omega))]
      · show (if small (many : Int) = true then some (D.lst (rangeD 0 (many : Int).toNat)) else none) = _
        rw [small_nat (by omega), if_pos rfl]; rfl
      · rw [range_int]
        exact e
    rw [List.map_cons]
    show (fStep _ _ _ _ _ _ _ _).bind _ = _
    rw [step]
    have e1 : K ++ cellsG g many (r :: rs) = K ++ rowC g r (List.range many) ++ cellsG g many rs := by
      rw [List.append_assoc]; rfl
    rw [e1]
    show forGo _ _ _ _ = _
    rw [e2, List.set_set]
theorem outL_len {nb : Cell → List Cell} {n : Nat} : ∀ (k : Nat) (left : List Cell) (found : List (List Cell)), (outL nb n k left found).length ≤ found.length + k
  | 0, left, found => Nat.le_refl _
  | k + 1, [], found => Nat.le_add_right _ _
  | k + 1, f :: left, found => by
    unfold outL
    dsimp only
    have := outL_len (nb := nb) (n := n) k (take1 nb n (f :: left) f).1 (found ++ [(take1 nb n (f :: left) f).2])
    rw [List.length_append, List.length_singleton] at this
    omega
def heapF (g : Int → Int → Bool) (rows many : Nat) : List (List Cell) := sortG (ltL ltC) (outL nbL 299 299 (cellsG g many (List.range rows)) [])
theorem alks_cells : ∀ xs ys : List Cell, alks (xs.map cellD) (ys.map cellD) = true
  | [], _ => rfl
  | _ :: _, [] => rfl
  | x :: xs, y :: ys => by
    show (alk (cellD x) (cellD y) && alks (xs.map cellD) (ys.map cellD)) = true
    rw [alks_cells xs ys]; rfl
theorem pl_piece (p : List Cell) : (pieceD p).pl = true := pls_cells p
theorem dep_piece (p : List Cell) : (pieceD p).dep ≤ 2 := by
  have : D.deps (p.map cellD) ≤ 1 := deps_le fun x hx => by
    obtain ⟨a, _, rfl⟩ := List.mem_map.mp hx
    exact Nat.le_refl _
  show D.deps (p.map cellD) + 1 ≤ 2
  omega
theorem sort_pieces {ps : List (List Cell)} (hne : ∀ p ∈ ps, p ≠ []) (h : ps.length ≤ 1000000) : sortD (ps.map pieceD) = some (.lst ((sortG (ltL ltC) ps).map pieceD), true) := by
  unfold sortD
  have h1 : sortable (ps.map pieceD) = true := by
    unfold sortable
    rw [List.all_eq_true]
    intro x hx
    obtain ⟨a, _, rfl⟩ := List.mem_map.mp hx
    have hd := dep_piece a
    rw [Bool.and_eq_true, Bool.and_eq_true]
    refine ⟨⟨pl_piece a, decide_eq_true (by omega)⟩, ?_⟩
    rw [List.all_eq_true]
    intro y hy
    obtain ⟨b, _, rfl⟩ := List.mem_map.mp hy
    exact alks_cells a b
  have h2 : (ps.map pieceD).all nonEmptyTup = true := by
    rw [List.all_eq_true]
    intro x hx
    obtain ⟨a, ha, rfl⟩ := List.mem_map.mp hx
    cases a with
    | nil => exact absurd rfl (hne _ ha)
    | cons c cs => rfl
  have h3 : szOk (ps.map pieceD).length = true := by
    unfold szOk
    rw [List.length_map]
    exact decide_eq_true h
  rw [h1, h2, h3, Bool.true_or, Bool.true_and, Bool.true_and, if_pos rfl, sortG_map dlt_piece]
theorem nbL_sym (a b : Cell) (h : b ∈ nbL a) : a ∈ nbL b := by
  obtain ⟨a1, a2⟩ := a
  obtain ⟨b1, b2⟩ := b
  simp only [nbL, List.mem_cons, List.not_mem_nil, or_false, Prod.mk.injEq] at h ⊢
  omega
theorem nb_same (a b : Cell) : b ∈ nbL a ↔ b ∈ nbP a := by
  simp only [nbL, nbP, List.mem_cons, List.not_mem_nil, or_false]
  constructor
  · rintro (h | h | h | h) <;> simp [h]
  · rintro (h | h | h | h) <;> simp [h]
theorem cells_bound {g : Int → Int → Bool} {rows many : Nat} (hm : many ≤ 90) (hr : rows ≤ 3) : (cellsG g many (List.range rows)).length ≤ 270 := by
  have hcl := cellsG_len (g := g) (many := many) (rs := List.range rows)
  rw [List.length_range] at hcl
  exact Nat.le_trans hcl (Nat.le_trans (Nat.mul_le_mul hr hm) (by decide))
theorem outL_ne {g : Int → Int → Bool} {rows many : Nat} (hm : many ≤ 90) (hr : rows ≤ 3) : ∀ p ∈ outL nbL 299 299 (cellsG g many (List.range rows)) [], p ≠ [] := by
  have nd := cellsG_nd (g := g) (many := many) (rs := List.range rows) List.nodup_range
  have hb := cells_bound (g := g) hm hr
  have O0 : OInv nbL (cellsG g many (List.range rows)) (cellsG g many (List.range rows)) [] := ⟨nd, fun _ h => h, fun _ _ _ _ h => h, (fun _ h => nomatch h), (fun _ h => nomatch h), fun x h1 h2 => absurd h1 h2, .nil⟩
  have O1 := outL_spec nbL_sym 299 (cellsG g many (List.range rows)) [] O0 (n := 299) (by omega) (by omega)
  intro p hp e
  obtain ⟨_, f, _, hm⟩ := O1.comp p hp
  have := (hm f).mpr .base
  rw [e] at this
  cases this
theorem heap_out {g : Int → Int → Bool} {rows many : Nat} (hm : many ≤ 90) (hr : rows ≤ 3) : heapF g rows many = outF g rows many := by
  have nd := cellsG_nd (g := g) (many := many) (rs := List.range rows) List.nodup_range
  have hb := cells_bound (g := g) hm hr
  unfold heapF outF
  generalize cellsG g many (List.range rows) = cs at nd hb
  have hl0 : leftK cs [] = cs := by
    unfold leftK
    rw [List.filter_eq_self]
    intro x _; rfl
  rw [outK_eq _ _ _ fun f hf => mem_sortG.mp hf, hl0]
  exact two_waysD nb_same nbL_sym nd (sortG_pw ltC_s nd) (fun x => mem_sortG.symm) (by omega) (by omega) (by omega)
theorem f29 {m rows many : Nat} {g : Int → Int → Bool} {st : Pi.Sto} (hm : many ≤ 90) (h0 : 0 < rows) (hr : rows ≤ 3) : ∃ gs, call (m + 1) 29 [.tup (rowsG g rows many)] st = .ok (.lst ((heapF g rows many).map pieceD)) true (st ++ gs) := by
  have hb := cells_bound (g := g) hm hr
  have hne := outL_ne (g := g) hm hr
  have hlen := outL_len (nb := nbL) (n := 299) 299 (cellsG g many (List.range rows)) []
  have hnd := cellsG_nd (g := g) (many := many) (rs := List.range rows) List.nodup_range
  obtain ⟨t1, t4, e1⟩ := go29r (m := m) (l := st.length) (rows := rows) (many := many) (g := g) (by omega) h0 (List.range rows) [] none none (st ++ [Ob.dct []]) get_last List.nodup_range (fun r hr => List.mem_range.mp hr) (fun _ _ _ => rfl) (by rw [List.length_range]; simp; omega)
  rw [List.nil_append, set_last] at e1
  have hh : heapF g rows many = sortG (ltL ltC) (outL nbL 299 299 (cellsG g many (List.range rows)) []) := rfl
  rw [hh]
  generalize cellsG g many (List.range rows) = cs at e1 hb hne hlen hnd
  obtain ⟨u1, u4, u5, u6, u7, ob, e2⟩ := go29o (m := m) (l := st.length) (r0 := .tup (rowsG g rows many)) 299 cs [] t1 t4 none none none (st ++ [Ob.dct (cutK cs)]) get_last hnd (by omega) (by omega) (by simp; omega)
  rw [set_last] at e2
  refine ⟨[ob], ?_⟩
  refine call_ret (fn := c_law_heaped) (env1 := envH (.tup (rowsG g rows many)) st.length (outL nbL 299 299 cs []) u1 u4 u5 u6 u7) rfl rfl ?_
  refine (b_pro (ps := [(.ref st.length, false), (.lst [], true)]) (env1 := [A (.tup (rowsG g rows many)), none, none, none, none, none, none, none]) (env2 := envH (.tup (rowsG g rows many)) st.length [] none none none none none) (st1 := st ++ [Ob.dct []]) (eo_cons e_dnw (eo_cons (p := (.lst [], true)) rfl rfl)) rfl).trans ?_
  refine (b_nx ((s_for (x := .lst (rangeD 0 rows)) (o := false) (env1 := envH (.tup (rowsG g rows many)) st.length [] none none none none none) (st1 := st ++ [Ob.dct []]) (e_rng (ds := [.int rows]) (es_cons (o := false) (e_bi (ds := [.tup (rowsG g rows many)]) (es_cons (o := false) rfl es_nil) ?_) es_nil) ?_) rfl).trans (by rw [range_int]; exact e1))).trans ?_
  · show some (D.int (rowsG g rows many).length, false) = _
    have : (rowsG g rows many).length = rows := by
      unfold rowsG
      rw [List.length_map, List.length_range]
    rw [this]
  · show (if small (rows : Int) = true then some (D.lst (rangeD 0 (rows : Int).toNat)) else none) = _
    rw [small_nat (by omega), if_pos rfl]; rfl
  refine (b_nx (s_while.trans e2)).trans ?_
  exact b_ret rfl (e_bi (ds := [.lst ((outL nbL 299 299 cs []).map pieceD)]) (es_cons (o := false) rfl es_nil) (sort_pieces hne (by simp at hlen; omega)))
end K11

set_option maxRecDepth 100000
set_option maxHeartbeats 0
/-! K11y6: the law, turn by turn. -/
namespace K11
open PySem Pi Pi.EvR
/-- a walk whose turns may also end in a continue -/
theorem for_inv2 {body : D → Pi.Env → Pi.Sto → R Pi.Flow} {I : Pi.Env → Prop} : ∀ {xs : List D} {env : Pi.Env} {st : Pi.Sto}, I env → (∀ x ∈ xs, ∀ env st, I env → ∃ f env' st', body x env st = .ok f env' st' ∧ (f = .nx ∨ f = .ct) ∧ I env') → ∃ env' st', forGo body xs env st = .ok .nx env' st' ∧ I env'
  | [], env, st, h, _ => ⟨env, st, rfl, h⟩
  | x :: xs, env, st, h, hs => by
    obtain ⟨f, e1, s1, hb, hf, i1⟩ := hs x List.mem_cons_self env st h
    obtain ⟨e2, s2, hg, i2⟩ := for_inv2 (xs := xs) (st := s1) i1 fun y hy => hs y (List.mem_cons_of_mem _ hy)
    refine ⟨e2, s2, ?_, i2⟩
    show (body x env st).bind _ = _
    rw [hb]
    rcases hf with rfl | rfl <;> exact hg
theorem e_orF {cl : Nat → List D → Pi.Sto → RC} {bw o : Bool} {a b : C} {env env1 env2 : Pi.Env} {st st1 st2 : Pi.Sto} {q : D × Bool} (h : ev cd.G cl true a env st = .ok (.bl false, o) env1 st1) (h2 : ev cd.G cl bw b env1 st1 = .ok q env2 st2) : ev cd.G cl bw (.or a b) env st = .ok q env2 st2 := by
  conv => lhs; unfold ev
  rw [h]
  exact h2
def envV (d : D) (s1 : Slot) (l : Nat) (s : Scp) (s4 s5 s8 s9 s10 s11 : Slot) : Pi.Env := [A d, s1, A (.ref l), A s.d, s4, s5, none, none, s8, s9, s10, s11]
theorem pieces_self {ps : List (List Cell)} : cmpop .ne (.lst (ps.map pieceD)) (.lst (ps.map pieceD)) = some false := by
  have dc : ∀ p : List Cell, deq (pieceD p) (pieceD p) = true := fun p => by
    show deqs (p.map cellD) (p.map cellD) = true
    refine deqs_self fun x hx => ?_
    obtain ⟨a, _, rfl⟩ := List.mem_map.mp hx
    rw [deq_cell]; simp
  refine ne_self (fun x hx => ?_) fun x hx => ?_
  · obtain ⟨p, _, rfl⟩ := List.mem_map.mp hx
    exact dc p
  · obtain ⟨p, _, rfl⟩ := List.mem_map.mp hx
    exact ⟨pl_piece p, by have := dep_piece p; omega⟩
theorem rows_self {g : Int → Int → Bool} {rows many : Nat} : cmpop .ne (.tup (rowsG g rows many)) (.tup (rowsG g rows many)) = some false := by
  have hm : ∀ x ∈ rowsG g rows many, x.pl = true ∧ x.dep ≤ 10 ∧ deq x x = true := fun x hx => by
    obtain ⟨r, _, rfl⟩ := List.mem_map.mp hx
    exact ⟨rfl, Nat.zero_le _, by show (_ == _) = true; simp⟩
  have e1 := pls_all fun x hx => (hm x hx).1
  have e2 := deps_le (w := 10) fun x hx => (hm x hx).2.1
  show (if (D.pls (rowsG g rows many) && D.pls (rowsG g rows many) && decide (min (D.deps (rowsG g rows many) + 1) (D.deps (rowsG g rows many) + 1) ≤ 60)) = true then some (!deqs (rowsG g rows many) (rowsG g rows many)) else none) = _
  rw [e1, if_pos (by simp; omega), deqs_self fun x hx => (hm x hx).2.2]; rfl
abbrev bA : List S := [
    .asg (.n 11) (.call 17 [.v 3, .v 4]),
    .ifs (.or (.not (.bi .isinst [.v 11, .g (.ty "list")])) (.cmp .ne (.v 11) (.call 29 [.v 8]))) [
     .ret (.k (.bl false))] [],
    .app 11 (.k (.str "odd"))]
theorem turnA {m n many l : Nat} {s : Scp} {d x : D} {s1 s5 s9 s10 s11 : Slot} {st : Pi.Sto} (h : s.Ok) (hn : n ≤ 4) (hc : cols s n = many) (hm : many ≤ 90) : ∃ t11 st', fStep cd.G (call (m + 20)) 300 (.n 9) bA x (envV d s1 l s (A (.int n)) s5 (A (.tup (openL s n many))) s9 s10 s11) st = .ok .nx (envV d s1 l s (A (.int n)) s5 (A (.tup (openL s n many))) (A x) s10 t11) st' := by
  have hrows := h.rows
  obtain ⟨g1, e17⟩ := f17 (m := m + 14) (st := st) h hn hc hm
  obtain ⟨g2, e29⟩ := f29 (m := m + 19) (rows := s.rows.toNat) (many := many) (g := lfB s n) (st := st ++ g1) hm (by omega) (by omega)
  rw [heap_out hm (by omega)] at e29
  have e17 : callN cd.G cd.fns 300 (m + 20) 17 [s.d, .int n] st = _ := e17
  have e29 : callN cd.G cd.fns 300 (m + 20) 29 [.tup (openL s n many)] (st ++ g1) = _ := e29
  have hlen : (outF (lfB s n) s.rows.toNat many).length ≤ 300 := by
    rw [← heap_out hm (by omega)]
    have h1 := outL_len (nb := nbL) (n := 299) 299 (cellsG (lfB s n) many (List.range s.rows.toNat)) []
    have h2 : ∀ ps : List (List Cell), (sortG (ltL ltC) ps).length = ps.length := fun ps => by
      induction ps with
      | nil => rfl
      | cons c cs ih =>
        have : ∀ (x : List Cell) (ys : List (List Cell)), (insG (ltL ltC) x ys).length = ys.length + 1 := fun x ys => by
          induction ys with
          | nil => rfl
          | cons y ys ih =>
            unfold insG
            split
            · rw [List.length_cons, ih]; rfl
            · rfl
        show (insG (ltL ltC) c (sortG (ltL ltC) cs)).length = _
        rw [this, ih]; rfl
    unfold heapF
    rw [h2]
    simp at h1
    omega
  generalize outF (lfB s n) s.rows.toNat many = ps at e17 e29 hlen
  let E : Slot → Pi.Env := fun a => envV d s1 l s (A (.int n)) s5 (A (.tup (openL s n many))) (A x) s10 a
  refine ⟨some (.lst (ps.map pieceD ++ [.str "odd"]), true), st ++ g1 ++ g2, ?_⟩
  refine (b_asg (p := (.lst (ps.map pieceD), true)) (env1 := E s11) (env2 := E (some (.lst (ps.map pieceD), true))) (st1 := st ++ g1) (e_call (ds := [s.d, .int n]) (es_cons (o := false) rfl (es_cons (o := false) rfl es_nil)) e17) rfl).trans ?_
  refine (b_ifF (q := false) (o := false) (env1 := E (some (.lst (ps.map pieceD), true))) (st1 := st ++ g1 ++ g2) ?_ rfl).trans ?_
  · have e1 : ev cd.G (call (m + 20)) true (.not (.bi .isinst [.v 11, .g (.ty "list")])) (E (some (.lst (ps.map pieceD), true))) (st ++ g1) = .ok (.bl (!true), false) (E (some (.lst (ps.map pieceD), true))) (st ++ g1) := e_not (e_isLst (i := 11) rfl)
    have e2 : ev cd.G (call (m + 20)) true (.cmp .ne (.v 11) (.call 29 [.v 8])) (E (some (.lst (ps.map pieceD), true))) (st ++ g1) = .ok (.bl false, false) (E (some (.lst (ps.map pieceD), true))) (st ++ g1 ++ g2) := e_cmp (x := .lst (ps.map pieceD)) (o := false) rfl (e_call (ds := [.tup (openL s n many)]) (es_cons (o := false) rfl es_nil) e29) pieces_self
    exact e_orF e1 e2
  · exact (b_app (xs := ps.map pieceD) (ys := ps.map pieceD) (y := (.str "odd", false)) (env1 := E (some (.lst (ps.map pieceD), true))) (st1 := st ++ g1 ++ g2) rfl rfl rfl (by rw [List.length_map]; omega)).trans rfl
abbrev bN : List S := [
   .ifs (.cmp .gt (.call 25 [.v 3, .v 4]) (.k (.int 90))) [
    .cont] [],
   .asg (.n 8) (.call 28 [.v 3, .v 4]),
   .ifs (.cmp .ne (.call 16 [.v 3, .v 4]) (.v 8)) [
    .ret (.k (.bl false))] [],
   .for (.n 9) (.rng [.k (.int 2)]) bA]
theorem turnN {m l n : Nat} {s : Scp} {d : D} {s1 s4 s5 s8 s9 s10 s11 : Slot} {st : Pi.Sto} (h : s.Ok) (hn : n ≤ 4) : ∃ f t8 t9 t11 st', fStep cd.G (call (m + 20)) 300 (.n 4) bN (.int n) (envV d s1 l s s4 s5 s8 s9 s10 s11) st = .ok f (envV d s1 l s (A (.int n)) s5 t8 t9 s10 t11) st' ∧ (f = .nx ∨ f = .ct) := by
  have h25 := f25 (n := m + 18) (m := n) (st := st) h (by omega)
  have h25 : callN cd.G cd.fns 300 (m + 20) 25 [s.d, .int n] st = .ok (.int (cols s n)) false st := h25
  have hcond : ev cd.G (call (m + 20)) true (.cmp .gt (.call 25 [.v 3, .v 4]) (.k (.int 90))) (envV d s1 l s (A (.int n)) s5 s8 s9 s10 s11) st = .ok (.bl (decide (90 < cols s n)), false) (envV d s1 l s (A (.int n)) s5 s8 s9 s10 s11) st :=
    e_cmp (x := .int (cols s n)) (y := .int 90) (o2 := false) (e_call (ds := [s.d, .int n]) (es_cons (o := false) rfl (es_cons (o := false) rfl es_nil)) h25) rfl gt_int
  by_cases hb : 90 < cols s n
  · refine ⟨.ct, s8, s9, s11, st, ?_, .inr rfl⟩
    show exB cd.G (call (m + 20)) 300 bN (envV d s1 l s (A (.int n)) s5 s8 s9 s10 s11) st = _
    conv => lhs; unfold exB
    rw [s_if hcond, decide_eq_true hb]
    rfl
  · obtain ⟨many, hc⟩ : ∃ many : Nat, cols s n = many := ⟨(cols s n).toNat, by have := cols_pos h n; omega⟩
    have hm : many ≤ 90 := by omega
    have e28 : callN cd.G cd.fns 300 (m + 20) 28 [s.d, .int n] st = _ := f28 (m := m + 16) (st := st) h (by omega) hc (by omega)
    have e16 : callN cd.G cd.fns 300 (m + 20) 16 [s.d, .int n] st = _ := f16 (m := m + 14) (st := st) h hn hc (by omega)
    let E : Slot → Slot → Slot → Pi.Env := fun a b c => envV d s1 l s (A (.int n)) s5 a b s10 c
    obtain ⟨envf, stf, eA, t9, t11, rfl⟩ := for_inv2 (body := fStep cd.G (call (m + 20)) 300 (.n 9) bA) (I := fun e => ∃ t9 t11, e = E (A (.tup (openL s n many))) t9 t11) (xs := rangeD 0 2) (env := E (A (.tup (openL s n many))) s9 s11) (st := stO s n st) ⟨_, _, rfl⟩ (by
      rintro x hx _ st2 ⟨u9, u11, rfl⟩
      obtain ⟨t11, st', e⟩ := turnA (m := m) (l := l) (x := x) (d := d) (s1 := s1) (s5 := s5) (s9 := u9) (s10 := s10) (s11 := u11) (st := st2) h hn hc hm
      exact ⟨.nx, _, st', e, .inl rfl, _, _, rfl⟩)
    refine ⟨.nx, A (.tup (openL s n many)), t9, t11, stf, ?_, .inl rfl⟩
    rw [decide_eq_false hb] at hcond
    refine (b_ifF hcond rfl).trans ?_
    refine (b_asg (p := (.tup (openL s n many), false)) (env1 := E s8 s9 s11) (env2 := E (A (.tup (openL s n many))) s9 s11) (st1 := st) (e_call (ds := [s.d, .int n]) (es_cons (o := false) rfl (es_cons (o := false) rfl es_nil)) e28) rfl).trans ?_
    refine (b_ifF (q := false) (env1 := E (A (.tup (openL s n many))) s9 s11) (st1 := stO s n st) (e_cmp (x := .tup (openL s n many)) (y := .tup (openL s n many)) (o2 := false) (e_call (ds := [s.d, .int n]) (es_cons (o := false) rfl (es_cons (o := false) rfl es_nil)) e16) rfl rows_self) rfl).trans ?_
    exact (b_nx ((s_for (x := .lst (rangeD 0 2)) (o := false) (env1 := E (A (.tup (openL s n many))) s9 s11) (st1 := stO s n st) (e_rng (ds := [.int 2]) rfl rfl) rfl).trans eA)).trans rfl
/-! ### refusals -/
abbrev bS : List S := [.ifs (.cmp .ne (.call 21 [.v 5, .v 10, .k .non]) (.k (.str "script"))) [.ret (.k (.bl false))] []]
abbrev bM : List S := [.ifs (.cmp .ne (.call 21 [.v 5, .v 3, .v 10]) (.k (.str "number"))) [.ret (.k (.bl false))] []]
theorem turnS {m l f : Nat} {s : Scp} {d v : D} {s1 s4 s8 s9 s10 s11 : Slot} {st : Pi.Sto} (hf : f = 16 ∨ f = 17) (hv : VV v) (hg : goodS v = false) : fStep cd.G (call (m + 20)) 300 (.n 10) bS v (envV d s1 l s s4 (A (.gl f)) s8 s9 s10 s11) st = .ok .nx (envV d s1 l s s4 (A (.gl f)) s8 s9 (A v) s11) st := by
  have e21 : callN cd.G cd.fns 300 (m + 20) 21 [.gl f, v, .non] st = .ok (.str "script") false st := by
    rcases hf with rfl | rfl
    · exact f21x (n := m + 19) rfl (f16x (m := m + 13) hv hg) rfl
    · exact f21x (n := m + 19) rfl (f17x (m := m + 13) hv hg) rfl
  exact (b_ifF (q := false) (env1 := envV d s1 l s s4 (A (.gl f)) s8 s9 (A v) s11) (st1 := st) (e_cmp (x := .str "script") (y := .str "script") (o2 := false) (e_call (ds := [.gl f, v, .non]) (es_cons (o := false) rfl (es_cons (o := false) rfl (es_cons (o := false) rfl es_nil))) e21) rfl (ne_str (by simp))) rfl).trans rfl
theorem turnM {m l f : Nat} {s : Scp} {d v : D} {s1 s4 s8 s9 s10 s11 : Slot} {st : Pi.Sto} (h : s.Ok) (hf : f = 16 ∨ f = 17) (hv : v.pl = true) (hg : within v 0 4 = false) : fStep cd.G (call (m + 20)) 300 (.n 10) bM v (envV d s1 l s s4 (A (.gl f)) s8 s9 s10 s11) st = .ok .nx (envV d s1 l s s4 (A (.gl f)) s8 s9 (A v) s11) st := by
  have e21 : callN cd.G cd.fns 300 (m + 20) 21 [.gl f, s.d, v] st = .ok (.str "number") false st := by
    rcases hf with rfl | rfl
    · exact f21x (n := m + 19) rfl (f16y (m := m + 13) h hv hg) rfl
    · exact f21x (n := m + 19) rfl (f17y (m := m + 13) h hv hg) rfl
  exact (b_ifF (q := false) (env1 := envV d s1 l s s4 (A (.gl f)) s8 s9 (A v) s11) (st1 := st) (e_cmp (x := .str "number") (y := .str "number") (o2 := false) (e_call (ds := [.gl f, s.d, v]) (es_cons (o := false) rfl (es_cons (o := false) rfl (es_cons (o := false) rfl es_nil))) e21) rfl (ne_str (by simp))) rfl).trans rfl
abbrev bC : List S := [
   .for (.n 10) (.ls [.k .non, .bi .list [.v 3], .sl (.v 3) none (some (.k (.int 4))), .k (.int 5)]) bS,
   .for (.n 10) (.ls [.neg (.k (.int 1)), .k (.int 5), .k (.bl true), .k .non, .k (.str "0")]) bM]
theorem turnC {m l f : Nat} {s : Scp} {d : D} {s1 s4 s5 s8 s9 s10 s11 : Slot} {st : Pi.Sto} (h : s.Ok) (hf : f = 16 ∨ f = 17) : ∃ t10, fStep cd.G (call (m + 20)) 300 (.n 5) bC (.gl f) (envV d s1 l s s4 s5 s8 s9 s10 s11) st = .ok .nx (envV d s1 l s s4 (A (.gl f)) s8 s9 t10 s11) st := by
  have hvk := s.vk h
  obtain ⟨j, hj, _, hmem⟩ := hvk.inv
  have v4 : VV (.tup [.int s.rows, .int s.len, .tup [lotD s.b1, lotD s.b2], .tup (s.rds.map rdD)]) :=
    (Vk.tup (w := 9) (k := 4) (fun x hx => (hmem x (by
      simp only [List.mem_cons, List.not_mem_nil, or_false] at hx ⊢
      rcases hx with h | h | h | h <;> simp [h])).mono (by omega) (by omega)) (by simp)).mono (by omega) (by omega)
  have v5 : VV (.lst [.int s.rows, .int s.len, .tup [lotD s.b1, lotD s.b2], .tup (s.rds.map rdD), lotD s.aft]) :=
    (Vk.lst (w := 9) (k := 4) (fun x hx => (hmem x hx).mono (by omega) (by omega)) (by simp)).mono (by omega) (by omega)
  have hv0 : VV .non := ⟨rfl, Nat.zero_le _, Nat.zero_le _⟩
  have hv5 : VV (.int 5) := ⟨rfl, Nat.zero_le _, Nat.zero_le _⟩
  let E : Slot → Pi.Env := fun a => envV d s1 l s s4 (A (.gl f)) s8 s9 a s11
  have loopS : forGo (fStep cd.G (call (m + 20)) 300 (.n 10) bS) [.non, .lst [.int s.rows, .int s.len, .tup [lotD s.b1, lotD s.b2], .tup (s.rds.map rdD), lotD s.aft], .tup [.int s.rows, .int s.len, .tup [lotD s.b1, lotD s.b2], .tup (s.rds.map rdD)], .int 5] (E s10) st = .ok .nx (E (A (.int 5))) st := by
    rw [go_cons (turnS hf hv0 rfl), go_cons (turnS hf v5 rfl), go_cons (turnS hf v4 rfl), go_cons (turnS hf hv5 rfl)]; rfl
  have loopM : forGo (fStep cd.G (call (m + 20)) 300 (.n 10) bM) [.int (-1), .int 5, .bl true, .non, .str "0"] (E (A (.int 5))) st = .ok .nx (E (A (.str "0"))) st := by
    rw [go_cons (turnM h hf rfl rfl), go_cons (turnM h hf rfl rfl), go_cons (turnM h hf rfl rfl), go_cons (turnM h hf rfl rfl), go_cons (turnM h hf rfl rfl)]; rfl
  refine ⟨A (.str "0"), ?_⟩
  refine (b_nx ((s_for (x := .lst [.non, .lst [.int s.rows, .int s.len, .tup [lotD s.b1, lotD s.b2], .tup (s.rds.map rdD), lotD s.aft], .tup [.int s.rows, .int s.len, .tup [lotD s.b1, lotD s.b2], .tup (s.rds.map rdD)], .int 5]) (o := true) (env1 := E s10) (st1 := st) (e_ls (es_cons (x := .non) (o := false) (env1 := E s10) (st1 := st) rfl (es_cons (o := true) (env1 := E s10) (st1 := st) (e_bi (ds := [s.d]) rfl rfl) (es_cons (o := false) (env1 := E s10) (st1 := st) (e_sl (x := s.d) (o := false) (l := none) (u := some 4) (env1 := E s10) (st1 := st) (env2 := E s10) (st2 := st) rfl rfl rfl ?_) (es_cons (o := false) (env1 := E s10) (st1 := st) rfl es_nil)))) rfl) rfl).trans loopS)).trans ?_
  · show some (D.tup (cutBy [.int s.rows, .int s.len, .tup [lotD s.b1, lotD s.b2], .tup (s.rds.map rdD), lotD s.aft] none (some 4)), false) = _
    rw [cut_lo (by omega)]; rfl
  · exact (b_nx ((s_for (x := .lst [.int (-1), .int 5, .bl true, .non, .str "0"]) (o := true) (env1 := E (A (.int 5))) (st1 := st) rfl rfl).trans loopM)).trans rfl
end K11

set_option maxRecDepth 100000
set_option maxHeartbeats 0
/-! K11y7: the law, whole. -/
namespace K11
open PySem Pi Pi.EvR
abbrev bKK : List S := [
  .asg (.n 2) (.call 18 [.v 0, .v 1]),
  .asg (.n 3) (.call 23 [.v 2, .k (.int 3)]),
  .for (.n 4) (.rng [.k (.int 5)]) bN,
  .for (.n 5) (.ls [.g (.gl 16), .g (.gl 17)]) bC]
def IW (d : D) (e : Pi.Env) : Prop := ∃ s1 s2 s3 s4 s5 s8 s9 s10 s11, e = [A d, s1, s2, s3, s4, s5, none, none, s8, s9, s10, s11]
theorem turnW {m : Nat} {ns : List Int} {d : D} {k : Int} {env : Pi.Env} {st : Pi.Sto} (hd : Scr ns d) (h0 : 0 ≤ k) (h1 : k < 100) (hI : IW d env) : ∃ env' st', fStep cd.G (call (m + 20)) 300 (.n 1) bKK (.int k) env st = .ok .nx env' st' ∧ IW d env' := by
  obtain ⟨s1, s2, s3, s4, s5, s8, s9, s10, s11, rfl⟩ := hI
  obtain ⟨st1, e18, r1⟩ := f18 (n := m + 19) (st := st) hd h0 h1
  obtain ⟨s, st2, e23, hok, r2, _⟩ := f23 (n := m + 16) (most := 3) (by omega) r1
  generalize st.length = l at e18 r1 e23 r2
  have e18 : callN cd.G cd.fns 300 (m + 20) 18 [d, .int k] st = _ := e18
  have e23 : callN cd.G cd.fns 300 (m + 20) 23 [.ref l, .int 3] st1 = _ := e23
  obtain ⟨envf, st3, eT, t4, t8, t9, t11, rfl⟩ := for_inv2 (body := fStep cd.G (call (m + 20)) 300 (.n 4) bN) (I := fun e => ∃ s4 s8 s9 s11, e = envV d (A (.int k)) l s s4 s5 s8 s9 s10 s11) (xs := rangeD 0 5) (env := envV d (A (.int k)) l s s4 s5 s8 s9 s10 s11) (st := st2) ⟨_, _, _, _, rfl⟩ (by
    rintro x hx e st ⟨u4, u8, u9, u11, rfl⟩
    obtain ⟨i, rfl, i0, i1⟩ := range_mem hx
    obtain ⟨n, rfl⟩ : ∃ n : Nat, i = (n : Int) := ⟨i.toNat, by omega⟩
    obtain ⟨f, t8, t9, t11, st', e, hf⟩ := turnN (m := m) (l := l) (n := n) (s := s) (d := d) (s1 := A (.int k)) (s4 := u4) (s5 := s5) (s8 := u8) (s9 := u9) (s10 := s10) (s11 := u11) (st := st) hok (by omega)
    exact ⟨f, _, st', e, hf, _, _, _, _, rfl⟩)
  obtain ⟨t10, c1⟩ := turnC (m := m) (l := l) (f := 16) (s := s) (d := d) (s1 := A (.int k)) (s4 := t4) (s5 := s5) (s8 := t8) (s9 := t9) (s10 := s10) (s11 := t11) (st := st3) hok (.inl rfl)
  obtain ⟨v10, c2⟩ := turnC (m := m) (l := l) (f := 17) (s := s) (d := d) (s1 := A (.int k)) (s4 := t4) (s5 := A (.gl 16)) (s8 := t8) (s9 := t9) (s10 := t10) (s11 := t11) (st := st3) hok (.inr rfl)
  refine ⟨envV d (A (.int k)) l s t4 (A (.gl 17)) t8 t9 v10 t11, st3, ?_, _, _, _, _, _, _, _, _, _, rfl⟩
  refine (b_asg (p := (.ref l, false)) (env1 := [A d, A (.int k), s2, s3, s4, s5, none, none, s8, s9, s10, s11]) (env2 := [A d, A (.int k), A (.ref l), s3, s4, s5, none, none, s8, s9, s10, s11]) (st1 := st1) (e_call (ds := [d, .int k]) (es_cons (o := false) rfl (es_cons (o := false) rfl es_nil)) e18) rfl).trans ?_
  refine (b_asg (p := (s.d, false)) (env1 := [A d, A (.int k), A (.ref l), s3, s4, s5, none, none, s8, s9, s10, s11]) (env2 := envV d (A (.int k)) l s s4 s5 s8 s9 s10 s11) (st1 := st2) (e_call (ds := [.ref l, .int 3]) (es_cons (o := false) rfl (es_cons (o := false) rfl es_nil)) e23) rfl).trans ?_
  refine (b_nx ((s_for (x := .lst (rangeD 0 5)) (o := false) (env1 := envV d (A (.int k)) l s s4 s5 s8 s9 s10 s11) (st1 := st2) (e_rng (ds := [.int 5]) rfl rfl) rfl).trans eT)).trans ?_
  refine (b_nx ((s_for (x := .lst [.gl 16, .gl 17]) (o := true) (env1 := envV d (A (.int k)) l s t4 s5 t8 t9 s10 t11) (st1 := st3) rfl rfl).trans ?_)).trans rfl
  rw [go_cons c1, go_cons c2]; rfl
/-! ### four strips -/
def scA : Scp := ⟨1, 2, [], [], [(3, [], [(0, 0)])], []⟩
def scB : Scp := ⟨1, 3, [], [], [(3, [], [])], [(0, 1)]⟩
def scC : Scp := ⟨2, 1, [], [], [(2, [], [(0, 0)]), (2, [], [(1, 0)])], []⟩
theorem lotA {rows len i j : Int} (h : 0 ≤ i ∧ i < rows ∧ 0 ≤ j ∧ j < len) : LotOk rows len [(i, j)] := ⟨⟨List.pairwise_singleton _ _, fun p hp => by rw [List.mem_singleton.mp hp]; exact h⟩, by simp⟩
theorem scA_ok : scA.Ok := ⟨by decide, by decide, LotOk.nil, LotOk.nil, fun r hr => by
  rw [List.mem_singleton.mp (show r ∈ [((3 : Int), [], [((0 : Int), (0 : Int))])] from hr)]
  exact ⟨by decide, LotOk.nil, lotA (by decide)⟩, by decide, by decide, LotOk.nil⟩
theorem scB_ok : scB.Ok := ⟨by decide, by decide, LotOk.nil, LotOk.nil, fun r hr => by
  rw [List.mem_singleton.mp (show r ∈ [((3 : Int), [], [])] from hr)]
  exact ⟨by decide, LotOk.nil, LotOk.nil⟩, by decide, by decide, lotA (by decide)⟩
theorem scC_ok : scC.Ok := ⟨by decide, by decide, LotOk.nil, LotOk.nil, fun r hr => by
  have hr : r ∈ [((2 : Int), [], [((0 : Int), (0 : Int))]), ((2 : Int), [], [((1 : Int), (0 : Int))])] := hr
  simp only [List.mem_cons, List.not_mem_nil, or_false] at hr
  rcases hr with rfl | rfl
  · exact ⟨by decide, LotOk.nil, lotA (by decide)⟩
  · exact ⟨by decide, LotOk.nil, lotA (by decide)⟩, by decide, by decide, LotOk.nil⟩
theorem left_lf {s : Scp} (h : s.Ok) {n : Nat} {row : Int} {a : Nat} (ha : a ≤ 1000) : lfB s n row (a : Nat) = leftN s n row (0 + (a : Nat)) := by
  have e : placeOf (0 + (a : Int)) = (a : Int) := by
    unfold placeOf
    split <;> omega
  have k := left_gp h (n := n) (row := row) (col := 0 + (a : Int)) (by rw [e]; omega)
  rw [e, show decide (0 + (a : Int) < 0) = false from decide_eq_false (by omega)] at k
  unfold lfB
  cases hl : leftN s n row (0 + (a : Int)) with
  | true =>
    have g := k.mp hl
    rw [@decide_eq_false _ (Classical.propDecidable _) g]; rfl
  | false =>
    have g : GP s n false row (a : Nat) := Classical.byContradiction fun z => by
      have := k.mpr z
      rw [hl] at this
      cases this
    rw [@decide_eq_true _ (Classical.propDecidable _) g]; rfl
theorem open_win {s : Scp} (h : s.Ok) {n many : Nat} (hm : many ≤ 100) : openL s n many = winN s n 0 many := by
  unfold openL rowsG winN
  apply List.map_congr_left
  intro r _
  congr 1
  unfold rowS
  congr 1
  apply List.map_congr_left
  intro a ha
  have := List.mem_range.mp ha
  rw [left_lf h (by omega)]
theorem op_is {m n many : Nat} {s : Scp} {st : Pi.Sto} (h : s.Ok) (hn : n ≤ 4) (hc : cols s n = many) (hm : many ≤ 90) : callN cd.G cd.fns 300 (m + 20) 16 [s.d, .int n] st = .ok (.tup (winN s n 0 many)) false (stO s n st) := by
  have e : callN cd.G cd.fns 300 (m + 20) 16 [s.d, .int n] st = _ := f16 (m := m + 14) (st := st) h hn hc (by omega)
  rw [e, open_win h (by omega)]
theorem xA1 : cmpop .ne (.tup (winN scA 1 0 6)) (.tup [.str "#..##."]) = some false := by decide +kernel
theorem xA2 : cmpop .ne (.tup (winN scA 2 0 18)) (.tup [.str "#..##..##..##..##."]) = some false := by decide +kernel
theorem xB : cmpop .ne (.tup (winN scB 2 0 27)) (.tup [.str "#.##.##.##.##.##.##.##.##.#"]) = some false := by decide +kernel
theorem xC : cmpop .eq (.tup (winN scC 3 0 8)) (.tup [.str "........", .str "#..##..#"]) = some true := by decide +kernel
theorem mul9 : binop .mul (.str "#.#") (.int 9) = some (.str "#.##.##.##.##.##.##.##.##.#", false) := by
  show (if (decide (1 ≤ (Str.ofString "#.#").length) && decide ((Str.ofString "#.#").length ≤ 1000) && (decide ((2 : Int) ≤ 9) && decide ((9 : Int) ≤ 1000))) = true then some (D.str ⟨(List.replicate (9 : Int).toNat (Str.ofString "#.#").cps).foldl (· ++ ·) #[]⟩, false) else none) = _
  rw [if_pos (by decide +kernel)]
  have : (⟨(List.replicate (9 : Int).toNat (Str.ofString "#.#").cps).foldl (· ++ ·) #[]⟩ : Str) = "#.##.##.##.##.##.##.##.##.#" := by decide +kernel
  rw [this]
theorem max_min12 {m : Nat} : ∃ r : Int, bifn cd.G .max2 [.int 4, .int (if (m : Int) < 12 then (m : Int) else 12)] = some (.int r, false) ∧ 0 ≤ r ∧ r ≤ 12 := by
  refine ⟨if (if (m : Int) < 12 then (m : Int) else 12) > 4 then (if (m : Int) < 12 then (m : Int) else 12) else 4, rfl, ?_, ?_⟩
  · split <;> split <;> omega
  · split <;> split <;> omega
theorem ne_tx {a : Str} (h : (a == a) = true) : cmpop .ne (.tup [.str a]) (.tup [.str a]) = some false := by
  show some (!((a == a) && true)) = _
  rw [h]; rfl
def topsD : D := .tup (scC.rds.map rdD)
theorem f30 {m : Nat} {ns : List Int} {d : D} (hd : Scr ns d) : ∃ o st, call (m + 21) 30 [d] [] = .ok (.bl true) o st := by
  obtain ⟨r, er, r0, r1⟩ := max_min12 (m := ns.length)
  obtain ⟨envf, st, eK, ⟨s1, s2, s3, s4, s5, s8, s9, s10, s11, rfl⟩⟩ := for_inv (body := fStep cd.G (call (m + 20)) 300 (.n 1) bKK) (I := fun e _ => IW d e) (xs := rangeD 0 r.toNat) (env := [A d, none, none, none, none, none, none, none, none, none, none, none]) (st := []) ⟨_, _, _, _, _, _, _, _, _, rfl⟩ (by
    intro x hx e st hI
    obtain ⟨k, rfl, h0, h1⟩ := range_mem hx
    exact turnW hd h0 (by omega) hI)
  have sm : small r = true := by
    simp [small]; omega
  let F : Slot → Slot → Pi.Env := fun s6 s7 => [A d, s1, s2, s3, s4, s5, s6, s7, s8, s9, s10, s11]
  let G := F (A scA.d) (A topsD)
  let st1 := stO scA 1 st
  let st2 := stO scA 2 st1
  let st3 := stO scB 2 st2
  have c1 : ev cd.G (call (m + 20)) true (.call 16 [.v 6, .k (.int 1)]) G st = .ok (.tup (winN scA 1 0 6), false) G st1 :=
    e_call (ds := [scA.d, .int (1 : Nat)]) (es_cons (o := false) rfl (es_cons (o := false) rfl es_nil)) (op_is scA_ok (by omega) (many := 6) (by decide) (by omega))
  have c2 : ev cd.G (call (m + 20)) true (.call 16 [.v 6, .k (.int 2)]) G st1 = .ok (.tup (winN scA 2 0 18), false) G st2 :=
    e_call (ds := [scA.d, .int (2 : Nat)]) (es_cons (o := false) rfl (es_cons (o := false) rfl es_nil)) (op_is scA_ok (by omega) (many := 18) (by decide) (by omega))
  have c3 : ev cd.G (call (m + 20)) true (.call 16 [.tp [.k (.int 1), .k (.int 3), .tp [.tp [], .tp []], .tp [.tp [.k (.int 3), .tp [], .tp []]], .tp [.tp [.k (.int 0), .k (.int 1)]]], .k (.int 2)]) G st2 = .ok (.tup (winN scB 2 0 27), false) G st3 :=
    e_call (ds := [scB.d, .int (2 : Nat)]) (es_cons (o := false) rfl (es_cons (o := false) rfl es_nil)) (op_is scB_ok (by omega) (many := 27) (by decide) (by omega))
  have c4 : ev cd.G (call (m + 20)) true (.call 16 [.tp [.k (.int 2), .k (.int 1), .tp [.tp [], .tp []], .v 7, .tp []], .k (.int 3)]) G st3 = .ok (.tup (winN scC 3 0 8), false) G (stO scC 3 st3) :=
    e_call (ds := [scC.d, .int (3 : Nat)]) (es_cons (o := false) rfl (es_cons (o := false) rfl es_nil)) (op_is scC_ok (by omega) (many := 8) (by decide) (by omega))
  have d3 : ev cd.G (call (m + 20)) true (.tp [.bin .mul (.k (.str "#.#")) (.k (.int 9))]) G st3 = .ok (.tup [.str "#.##.##.##.##.##.##.##.##.#"], false) G st3 := e_tp (es_cons (o := false) (e_bin (o := false) (o2 := false) rfl rfl mul9) es_nil) rfl
  refine ⟨false, stO scC 3 st3, call_ret (fn := c_law) (env1 := G) rfl rfl ((b_nx ((s_for (x := .lst (rangeD 0 r.toNat)) (o := false) (env1 := [A d, none, none, none, none, none, none, none, none, none, none, none]) (st1 := []) (e_rng (ds := [.int r]) (es_cons (e_bi (es_cons (x := .int 4) (o := false) rfl (es_cons (e_bi (es_cons rfl (es_cons (e_bi (ds := [d]) rfl (scr_len hd)) es_nil)) rfl) es_nil)) er) es_nil) ?_) rfl).trans eK)).trans ?_)⟩
  · show (if small r = true then some (D.lst (rangeD 0 r.toNat)) else none) = _
    rw [sm, if_pos rfl]
  · refine (b_asg (p := (.tup [scA.d, topsD], false)) (env1 := F none none) (env2 := G) (st1 := st) rfl rfl).trans ?_
    refine (b_ifF (q := false) (o := false) (env1 := G) (st1 := st2) (e_orF (o := false) (e_cmp (o2 := false) c1 (y := .tup [.str "#..##."]) rfl xA1) (e_cmp (o2 := false) c2 (y := .tup [.str "#..##..##..##..##."]) rfl xA2)) rfl).trans ?_
    refine (b_ifF (q := false) (o := false) (env1 := G) (st1 := st3) (e_cmp c3 d3 xB) rfl).trans ?_
    exact b_ret rfl (e_cmp (o2 := false) c4 (y := .tup [.str "........", .str "#..##..#"]) rfl xC)
end K11

set_option maxRecDepth 100000
set_option maxHeartbeats 0
/-! K11h: the head. -/
namespace K11
open PySem PySem.Spec PyProof.Rows L2 Pi
abbrev R : PySem.W.OpenRow := PySem.W.OpenLaw.row PySem.Challenge.rw_cutpleats_k11_strips_folded_cut_and_open
abbrev hk : PySem.W.Hook := He.hookX 4 cd.fa cd.fn [] cd.tf cd.ex
def ob (s : PySem.W.SharedT) : He.AlX := He.obsX 4 cd.fa cd.fn [] cd.tf cd.ex (HandSHeadRun.getT s)
theorem ob_eq (s : PySem.W.SharedT) : ob s = hk.obs s.abs := He.obsX_eq (HandSHeadRun.getT_eq s)
def nameOfS : Stmt → Option Str
  | .FunctionDef n .. => some n
  | .ClassDef n .. => some n
  | _ => none
def loose : List Str := ("MOST_OPENED" : Str) :: (body.filterMap nameOfS).filter (fun n => n != ("law" : Str))
theorem run (w : World) : HandSHeadRun.RunEq R (PySem.W.view R.prog [50]) hk ob 30000 loose w := by
  intro os
  kernel_rfl
end K11

set_option maxRecDepth 100000
set_option maxHeartbeats 0
/-! K11f: the end. -/
namespace K11
open PySem PySem.Spec Pi
/-- the plain law -/
def Plain (lev Wl : Nat) : Prop := ∀ (ns : List Int) (d : D), ns.length ≤ 63 → (∀ z ∈ ns, Builtin.Int.intBits z ≤ 1048576) → Scr ns d → ∃ o st, callN cd.G cd.fns Wl (lev + 1) cd.law [d] [] = .ok (.bl true) o st
theorem mL_ok : cd.ms[cd.law]? = some (cd.ms.getD 30 m_law_error) := by rfl
theorem fL_ok : cd.fns[cd.law]? = some c_law := by rfl
end K11
open PySem PySem.W PySem.Calls PyProof.Rows
theorem K11.holds_of (lev Wl : Nat) (hl : lev ≤ 60) (plain : K11.Plain lev Wl) : PySem.Challenge.rw_cutpleats_k11_strips_folded_cut_and_open.Holds := by
  w_on; o_law
  refine HandSHeadRun.head_any (r := OpenLaw.row PySem.Challenge.rw_cutpleats_k11_strips_folded_cut_and_open) (q := view (OpenLaw.row PySem.Challenge.rw_cutpleats_k11_strips_folded_cut_and_open).prog [50]) (H := K11.hk) (ob := K11.ob) (M := 30000) (loose := K11.loose) (d := HandSHeadRun.topDef (OpenLaw.row PySem.Challenge.rw_cutpleats_k11_strips_folded_cut_and_open).prog 50) (kwd := []) K11.ob_eq
    (by kernel_rfl) (fun s => by kernel_rfl) K11.run (by kernel_rfl) (by kernel_rfl) (by kernel_rfl) (by rfl) (by first | assumption | decide +kernel) (by decide +kernel) ⟨rfl, rfl, rfl, rfl, rfl, by decide +kernel⟩ ?hw ?hc
  case hw => w_witness2
  case hc =>
    refine LamX.walk_ofTsE (l := PySem.Challenge.rw_cutpleats_k11_strips_folded_cut_and_open) (n := 63) (k := 3 * (lev + 1) + 0) (x := "script") (CX := fun w => L2N.CX (PySem.Challenge.rw_cutpleats_k11_strips_folded_cut_and_open).prog w) rfl (by decide) (by kernel_rfl) ?hr ?F ?hCX
    case hr =>
      have r : L2.Room 190 callerA := ⟨rfl, by decide +kernel, by decide +kernel⟩
      exact r.mono (by omega)
    case hCX => 
      rintro w H s e s' ⟨_, _, _, _, _, _, _, _, _, _, _, _, z⟩
      exact z
    case F =>
      intro w mg fa h Y G hmg0
      obtain ⟨K, KX, c⟩ := Y
      have hmg : mg (K11.cd.ms.getD 30 K11.m_law_error).name = some (.ref fa) := by
        have e : (HandSHeadRun.topDef (OpenLaw.row PySem.Challenge.rw_cutpleats_k11_strips_folded_cut_and_open).prog 50).name = (K11.cd.ms.getD 30 K11.m_law_error).name := by kernel_rfl
        rw [← e]
        exact hmg0
      refine ⟨K, KX, ?_⟩
      exact Pi.law_at (c := K11.cd) KX G c K11.okT K11.okM K11.okE (Pi.okW_says K11.okW) K11.fL_ok rfl K11.mL_ok (by kernel_rfl) hmg (by kernel_rfl) plain

set_option maxRecDepth 100000 in
set_option maxHeartbeats 0 in
theorem PySem.Challenge.cw_cutpleats_k11_strips_folded_cut_and_open_holds : PySem.Challenge.rw_cutpleats_k11_strips_folded_cut_and_open.Holds := by
  exact K11.holds_of 20 300 (by decide) fun ns d _ _ hd => K11.f30 (m := 0) hd

