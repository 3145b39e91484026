import PyProof.Rows.All
import Wide.All
import OpenK.AllK
import Wide.FinOn
import HandS.ForMost
import HandS.Exc
import HandS.ExcOwn
import HandS.TryOnly
import HandS.WordsExc
import HandS.CallSlots
import HandS.Walk
import HandS.Flow
import HandS.IsInst
import HandS.More
import HandS.TupAny
import HandS.TupLe
import HandS.Style
import HandS.Lambda
import HandS.TupMul
import HandS.Deep
import HandS.ExcIs
import HandS.SetFor
import HandS.Sort
import HandS.SortOrd
import HandS.SortRule
import HandS.SortInts
import HandS.TupSets
import HandS.Strs
import PyProof.Rows.SetFrom
import HandS.Zip
import KE.GoesEnum
import HandS.Conv
import KE.KRevSl
import HandS.HotCalls
import HandS.ExcValue
import HandS.Defaults
import PyProof.ExcBaseAll.ValueError
import KE.KStateDown
import HandS.Words
import HandS.Head0
import HandS.Head1
import HandS.Head2
import HandS.HeadEnd
import HandS.HeadHook1
import HandS.HeadHook2
import HandS.HeadHook3
import HandS.HeadHook4
import HandS.HeadWalk
import HandS.NestedK
import PySem.Challenge.RW_framecodes_k20_whole_spans
set_option Elab.async false
set_option linter.all false
set_option maxRecDepth 100000
set_option maxHeartbeats 0
namespace FD
open PySem
inductive D where
  | non
  | bl (b : Bool)
  | int (i : Int)
  | str (s : Str)
  | tup (xs : List D)
  | lst (xs : List D)
  | dic (kvs : List (Str × D))
  | exc (c : Nat)
  | fn (f : Nat)
  | clo (f : Nat) (xs : List D)
  /-- the law's script -/
  | scr (ns : List Int)
  deriving Inhabited
/-- a result: a datum, an error of an own class (by its number), or nothing that is told -/
inductive R (α : Type) where
  | ok (a : α)
  | exc (c : Nat)
  | bad
@[reducible, inline] def R.bind {α β : Type} (x : R α) (f : α → R β) : R β := match x with
  | .ok a => f a
  | .exc c => .exc c
  | .bad => .bad
def guard' {α : Type} (c : Bool) (x : R α) : R α := match c with
  | true => x
  | false => .bad
/-- how long a list, a text may be -/
def lim : Nat := 16777216
mutual
def eqv : D → D → Bool
  | .non, d => (match d with | .non => true | _ => false)
  | .bl a, d => (match d with | .bl b => a == b | .int j => (if a then (1 : Int) else 0) == j | _ => false)
  | .int i, d => (match d with | .bl b => i == (if b then (1 : Int) else 0) | .int j => i == j | _ => false)
  | .str x, d => (match d with | .str y => x == y | _ => false)
  | .lst xs, d => (match d with | .lst ys => eqvs xs ys | _ => false)
  | .tup xs, d => (match d with | .tup ys => eqvs xs ys | _ => false)
  | .dic _, _ => false
  | .exc _, _ => false
  | .fn _, _ => false
  | .clo _ _, _ => false
  | .scr _, _ => false
def eqvs : List D → List D → Bool
  | [], ys => (match ys with | [] => true | _ :: _ => false)
  | x :: xs, ys => (match ys with | [] => false | y :: r => eqv x y && eqvs xs r)
end
/-- a text of signs that Python has -/
def okStr (x : Str) : Bool := x.cps.toList.all fun c => decide (c < 1114112)
mutual
/-- plain data, not too deep -/
def shp : Nat → D → Bool
  | _, .non => true
  | _, .bl _ => true
  | _, .int _ => true
  | _, .str x => okStr x
  | n, .lst xs => (match n with | 0 => false | m + 1 => shps m xs)
  | n, .tup xs => (match n with | 0 => false | m + 1 => shps m xs)
  | _, .dic _ => false
  | _, .exc _ => false
  | _, .fn _ => false
  | _, .clo _ _ => false
  | _, .scr _ => false
def shps : Nat → List D → Bool
  | _, [] => true
  | n, x :: xs => shp n x && shps n xs
end
/-- one of the flat ones -/
def flat : D → Bool
  | .non => true
  | .bl _ => true
  | .int _ => true
  | .str _ => true
  | _ => false
inductive Cop where
  | eq | ne | lt | le | gt | ge | is | isnot | inn | notin
  deriving DecidableEq
def ordI : Cop → Int → Int → Bool
  | .lt, i, j => decide (i < j)
  | .le, i, j => decide (i ≤ j)
  | .gt, i, j => decide (j < i)
  | _, i, j => decide (j ≤ i)
def ordS : Cop → List Nat → List Nat → Bool
  | .lt, i, j => decide (i < j)
  | .le, i, j => !decide (j < i)
  | .gt, i, j => decide (j < i)
  | _, i, j => !decide (i < j)
/-- what the lengths tell: m against n -/
def ordL : Cop → Nat → Nat → Bool
  | .lt, m, n => decide (m < n)
  | .le, m, n => decide (m ≤ n)
  | .gt, m, n => decide (m > n)
  | _, m, n => decide (m ≥ n)
mutual
/-- a op b of intsD, texts, tuples of such: none where it has no order -/
def ordD (op : Cop) : D → D → Option Bool
  | .int i, d => (match d with | .int j => some (ordI op i j) | _ => none)
  | .str x, d => (match d with | .str y => some (ordS op x.cps.toList y.cps.toList) | _ => none)
  | .tup xs, d => (match d with | .tup ys => ordDs op xs ys | _ => none)
  | .non, _ => none
  | .bl _, _ => none
  | .lst _, _ => none
  | .dic _, _ => none
  | .exc _, _ => none
  | .fn _, _ => none
  | .clo _ _, _ => none
  | .scr _, _ => none
def ordDs (op : Cop) : List D → List D → Option Bool
  | [], ys => some (ordL op 0 ys.length)
  | x :: xs, ys => (match ys with
    | [] => some (ordL op (xs.length + 1) 0)
    | y :: r => (match ordDs op xs r with
      | some c => if eqv x y then some c else ordD op x y
      | none => none))
end
inductive Bop where
  | add | sub | mul | fdiv | mod | pow
  deriving DecidableEq
inductive Ty where
  | int | bool | str | tuple | list | cls (c : Nat) | vale
  deriving DecidableEq
inductive Bi where
  | len | abs | min2 | max2 | all | any | sum | sorted | tuple | list | lrange | int | str | dict | sset | maxl | minl | dict0
  deriving DecidableEq
inductive Mt where
  | get2 | get1 | count | index | join | split | replace
  deriving DecidableEq
inductive Pat where
  | nm (i : Nat)
  | tp (ps : List Pat)
mutual
inductive IE where
  | var (i : Nat)
  | cst (d : D)
  | glo (n : Nat)
  | gfn (f : Nat)
  | bin (op : Bop) (a b : IE)
  | neg (a : IE)
  | nt (a : IE)
  | and (a b : IE)
  | or (a b : IE)
  | ite (c a b : IE)
  | cmp (op : Cop) (a b : IE)
  | cmp2 (o1 o2 : Cop) (a b c : IE)
  | tup (es : IEs)
  | lst (es : IEs)
  | dic (ks : List Str) (es : IEs)
  | idx (a i : IE)
  | slc (a : IE) (lo hi : IEs)
  | rev (a : IE)
  | call (f : Nat) (es : IEs)
  | callv (fs : List Nat) (g : IE) (es : IEs)
  | bi (b : Bi) (es : IEs)
  | mt (m : Mt) (a : IE) (es : IEs)
  | isi (a : IE) (t : Ty)
  | lc (elt : IE) (tg : Pat) (it : II) (ifs : IEs)
  | lam (f : Nat) (caps : List Nat)
  | oidx (i : Nat) (x : IE)
  | olen (i : Nat)
  | oemp (i : Nat)
  | onem (i : Nat)
  | nope
  | lrg (a b : IE)
  | sst (a : IE)
  | oidx2 (i : Nat) (x y : IE)
  /-- what a def tells that calls the lambda it gets: an error of the class c, or of one below it, is told by the def w -/
  | told (w c : Nat) (b : IE)
inductive IEs where
  | nil
  | cons (e : IE) (r : IEs)
inductive II where
  | seq (a : IE)
  | rng1 (a : IE)
  | rng2 (a b : IE)
  | zip2 (a b : IE)
  | zip3 (a b c : IE)
  | enum (a : IE)
  | items (a : IE)
  | values (a : IE)
end
mutual
inductive IS where
  | asg (p : Pat) (e : IE)
  | par (is : List Nat) (es : IEs)
  | own (i : Nat) (e : IE)
  | frz (i : Nat)
  | app (i : Nat) (e : IE)
  | ext (i : Nat) (e : IE)
  | seti (i : Nat) (x e : IE)
  | expr (e : IE)
  | iff (c : IE) (a b : ISs)
  | whl (fuel : Nat) (c : IE) (b : ISs)
  | for (p : Pat) (it : II) (b : ISs)
  | ret (e : IE)
  | retN
  | brk
  | cnt
  | pass
  | raise (c : Nat)
  | try_ (b : ISs) (c : Nat) (as_ : Option Nat) (h : ISs)
  | nope
  | own2 (i : Nat)
  | app2 (i : Nat) (es : IEs)
  | seti2 (i : Nat) (x y e : IE)
  | paro (i j : Nat) (b : Bool) (e : IE)
inductive ISs where
  | nil
  | cons (s : IS) (r : ISs)
end
structure IDef where
  np : Nat
  ns : Nat
  body : ISs
def mulOk (i j : Int) : Bool := decide (i.natAbs < 18446744073709551616) || decide (j.natAbs < 18446744073709551616)
def repeat' {α : Type} (xs : List α) : Nat → List α
  | 0 => []
  | n + 1 => xs ++ repeat' xs n
def strAdd (x y : Str) : Str := ⟨(x.cps.toList ++ y.cps.toList).toArray⟩
def binEv : Bop → D → D → R D
  | .add, a, b => (match a with
    | .int i => (match b with | .int j => .ok (.int (i + j)) | _ => .bad)
    | .str x => (match b with | .str y => guard' (decide (x.cps.toList.length + y.cps.toList.length ≤ lim)) (.ok (.str (strAdd x y))) | _ => .bad)
    | .tup xs => (match b with | .tup ys => guard' (decide (xs.length + ys.length ≤ lim)) (.ok (.tup (xs ++ ys))) | _ => .bad)
    | .lst xs => (match b with | .lst ys => guard' (decide (xs.length + ys.length ≤ lim)) (.ok (.lst (xs ++ ys))) | _ => .bad)
    | _ => .bad)
  | .sub, a, b => (match a with
    | .int i => (match b with | .int j => .ok (.int (i - j)) | _ => .bad)
    | _ => .bad)
  | .mul, a, b => (match a with
    | .int i => (match b with | .int j => guard' (mulOk i j) (.ok (.int (i * j))) | _ => .bad)
    | .lst xs => (match b with | .int j => guard' (decide (0 ≤ j) && decide (j < 1000000) && decide (xs.length * j.toNat ≤ lim)) (.ok (.lst (repeat' xs j.toNat))) | _ => .bad)
    | .tup xs => (match b with | .int j => guard' (!xs.isEmpty && (decide (2 ≤ j) && (decide (j ≤ 1000) && decide (xs.length ≤ 1000)))) (.ok (.tup (repeat' xs j.toNat))) | _ => .bad)
    | .str x => (match b with | .int j => guard' (decide (-1000000 < j) && decide (j < 1000000) && decide (x.cps.toList.length * j.toNat ≤ lim)) (.ok (.str ⟨(repeat' x.cps.toList j.toNat).toArray⟩)) | _ => .bad)
    | _ => .bad)
  | .fdiv, a, b => (match a with
    | .int i => (match b with | .int j => guard' (decide (0 < j) && decide (j < 1073741824)) (.ok (.int (i / j))) | _ => .bad)
    | _ => .bad)
  | .mod, a, b => (match a with
    | .int i => (match b with | .int j => guard' (decide (0 < j)) (.ok (.int (i % j))) | _ => .bad)
    | _ => .bad)
  | .pow, a, b => (match a with
    | .int i => (match b with | .int j => guard' (decide (0 ≤ j) && decide (j ≤ 1000) && decide (i.natAbs < 18446744073709551616)) (.ok (.int (i ^ j.toNat))) | _ => .bad)
    | _ => .bad)
def inD (d : D) : List D → Bool
  | [] => false
  | x :: r => eqv x d || inD d r
def lkD (k : Str) : List (Str × D) → Option D
  | [] => none
  | (x, d) :: r => if k = x then some d else lkD k r
def subAt (x y : List Nat) : Bool := match x, y with
  | [], _ => true
  | _ :: _, [] => false
  | a :: r, b :: t => decide (a = b) && subAt r t
def subIn (x : List Nat) : List Nat → Bool
  | [] => x.isEmpty
  | b :: t => subAt x (b :: t) || subIn x t
/-- a text, beside a flat one -/
def strBy (a b : D) : Bool := match a with
  | .str _ => flat b
  | .non => (match b with | .str _ => true | _ => false)
  | .bl _ => (match b with | .str _ => true | _ => false)
  | .int _ => (match b with | .str _ => true | _ => false)
  | _ => false
def eqOk (a b : D) : Bool := strBy a b || (shp 60 a && shp 60 b)
def isNon : D → Bool
  | .non => true
  | _ => false
def isD (a b : D) : Option Bool := match b with
  | .non => some (isNon a)
  | .bl y => (match a with | .bl x => some (x == y) | _ => none)
  | _ => none
def ordEv (op : Cop) (a b : D) : R D := guard' (shp 60 a && shp 60 b) (match ordD op a b with
  | some x => .ok (.bl x)
  | none => .bad)
def cmpEv : Cop → D → D → R D
  | .eq, a, b => (match a with
    | .scr ns => (match b with | .lst ys => (match ys with | [] => .ok (.bl ns.isEmpty) | _ :: _ => .bad) | _ => .bad)
    | _ => guard' (eqOk a b) (.ok (.bl (eqv a b))))
  | .ne, a, b => guard' (eqOk a b) (.ok (.bl (!eqv a b)))
  | .lt, a, b => ordEv .lt a b
  | .le, a, b => ordEv .le a b
  | .gt, a, b => ordEv .gt a b
  | .ge, a, b => ordEv .ge a b
  | .is, a, b => (match isD a b with | some x => .ok (.bl x) | none => .bad)
  | .isnot, a, b => (match isD a b with | some x => .ok (.bl (!x)) | none => .bad)
  | .inn, a, b => (match b with
    | .tup xs => guard' ((flat a && xs.all flat) || (shp 60 a && shps 59 xs)) (.ok (.bl (inD a xs)))
    | .lst xs => guard' ((flat a && xs.all flat) || (shp 60 a && shps 59 xs)) (.ok (.bl (inD a xs)))
    | .str y => (match a with | .str x => guard' (decide (x.cps.toList.length = 1)) (.ok (.bl (subIn x.cps.toList y.cps.toList))) | _ => .bad)
    | .dic kvs => (match a with | .str x => .ok (.bl (lkD x kvs).isSome) | _ => .bad)
    | _ => .bad)
  | .notin, a, b => (match b with
    | .tup xs => guard' ((flat a && xs.all flat) || (shp 60 a && shps 59 xs)) (.ok (.bl (!inD a xs)))
    | .lst xs => guard' ((flat a && xs.all flat) || (shp 60 a && shps 59 xs)) (.ok (.bl (!inD a xs)))
    | .str y => (match a with | .str x => guard' (decide (x.cps.toList.length = 1)) (.ok (.bl (!subIn x.cps.toList y.cps.toList))) | _ => .bad)
    | .dic kvs => (match a with | .str x => .ok (.bl (!(lkD x kvs).isSome)) | _ => .bad)
    | _ => .bad)
def truth : D → R Bool
  | .non => .ok false
  | .bl b => .ok b
  | .int i => .ok (i != 0)
  | .str x => guard' (decide (x.cps.toList.length ≤ lim)) (.ok (!x.cps.toList.isEmpty))
  | .lst xs => .ok (!xs.isEmpty)
  | .tup xs => .ok (!xs.isEmpty)
  | _ => .bad
/-- the place that i means in a row of n -/
def place (n : Nat) (i : Int) : Option Nat := if 0 ≤ i then (if i < n then some i.toNat else none) else (if 0 ≤ i + n then some (i + n).toNat else none)
def idxEv (a i : D) : R D := match a with
  | .lst xs => (match i with
    | .int k => (match place xs.length k with
      | some m => (match xs[m]? with | some d => .ok d | none => .bad)
      | none => .bad)
    | _ => .bad)
  | .tup xs => (match i with
    | .int k => (match place xs.length k with
      | some m => (match xs[m]? with | some d => .ok d | none => .bad)
      | none => .bad)
    | _ => .bad)
  | .str x => (match i with
    | .int k => guard' (decide (x.cps.toList.length ≤ lim)) (match place x.cps.toList.length k with
      | some m => (match x.cps.toList[m]? with | some c => .ok (.str ⟨#[c]⟩) | none => .bad)
      | none => .bad)
    | _ => .bad)
  | .dic kvs => (match i with
    | .str k => (match lkD k kvs with | some d => .ok d | none => .bad)
    | _ => .bad)
  | .scr ns => (match i with
    | .int k => (match place ns.length k with
      | some m => (match ns[m]? with | some n => .ok (.int n) | none => .bad)
      | none => .bad)
    | _ => .bad)
  | _ => .bad
/-- a bound of a slice: dflt where it is left out -/
def sbound (n : Nat) (dflt : Nat) : Option Int → Nat
  | none => dflt
  | some i => if i < 0 then (if i + n < 0 then 0 else (i + n).toNat) else (if i < n then i.toNat else n)
def cut {α : Type} (xs : List α) (lo hi : Option Int) : List α :=
  let a := sbound xs.length 0 lo
  let b := sbound xs.length xs.length hi
  (xs.drop a).take (b - a)
def slcEv (a : D) (lo hi : Option Int) : R D := match a with
  | .lst xs => .ok (.lst (cut xs lo hi))
  | .tup xs => .ok (.tup (cut xs lo hi))
  | .str x => guard' (decide (x.cps.toList.length ≤ lim)) (.ok (.str ⟨(cut x.cps.toList lo hi).toArray⟩))
  | _ => .bad
def intsD : List D → Option (List Int)
  | [] => some []
  | d :: r => (match d with
    | .int i => (match intsD r with | some l => some (i :: l) | none => none)
    | _ => none)
def bools : List D → Option (List Bool)
  | [] => some []
  | d :: r => (match d with
    | .bl i => (match bools r with | some l => some (i :: l) | none => none)
    | _ => none)
def strs' : List D → Option (List Str)
  | [] => some []
  | d :: r => (match d with
    | .str i => (match strs' r with | some l => some (i :: l) | none => none)
    | _ => none)
def rangeL (a : Int) : Nat → List D
  | 0 => []
  | n + 1 => .int a :: rangeL (a + 1) n
def rngOk (i : Int) : Bool := decide (-4611686018427387904 ≤ i) && decide (i < 4611686018427387904)
/-- one argument, two -/
def un1 (f : D → R D) (ds : List D) : R D := match ds with
  | [] => .bad
  | d :: r => (match r with | [] => f d | _ :: _ => .bad)
def un2 (f : D → D → R D) (ds : List D) : R D := match ds with
  | [] => .bad
  | d :: r => un1 (f d) r
def lenD : D → R D
  | .lst xs => .ok (.int xs.length)
  | .tup xs => .ok (.int xs.length)
  | .str x => guard' (decide (x.cps.toList.length ≤ lim)) (.ok (.int x.cps.toList.length))
  | .scr ns => .ok (.int ns.length)
  | _ => .bad
def absD : D → R D
  | .int i => .ok (.int (if i < 0 then -i else i))
  | _ => .bad
def minD : D → D → R D
  | .int i, d => (match d with | .int j => .ok (.int (if j < i then j else i)) | _ => .bad)
  | .tup xs, d => (match d with
    | .tup ys => guard' (shp 60 (.tup ys) && shp 60 (.tup xs)) (match ordD .lt (.tup ys) (.tup xs) with
      | some c => (match c with | true => .ok (.tup ys) | false => .ok (.tup xs))
      | none => .bad)
    | _ => .bad)
  | _, _ => .bad
def maxD : D → D → R D
  | .int i, d => (match d with | .int j => .ok (.int (if j > i then j else i)) | _ => .bad)
  | .tup xs, d => (match d with
    | .tup ys => guard' (shp 60 (.tup ys) && shp 60 (.tup xs)) (match ordD .gt (.tup ys) (.tup xs) with
      | some c => (match c with | true => .ok (.tup ys) | false => .ok (.tup xs))
      | none => .bad)
    | _ => .bad)
  | _, _ => .bad
def allD : D → R D
  | .lst xs => (match bools xs with | some bs => .ok (.bl (bs.all id)) | none => .bad)
  | _ => .bad
def anyD : D → R D
  | .lst xs => (match bools xs with | some bs => .ok (.bl (bs.any id)) | none => .bad)
  | _ => .bad
def sumD : D → R D
  | .lst xs => (match intsD xs with | some is => .ok (.int is.sum) | none => .bad)
  | _ => .bad
def tupleD : D → R D
  | .lst xs => .ok (.tup xs)
  | .tup xs => .ok (.tup xs)
  | _ => .bad
def listD : D → R D
  | .lst xs => .ok (.lst xs)
  | .tup xs => .ok (.lst xs)
  | _ => .bad
inductive Sh where
  | int
  | str
  | tup (ss : List Sh)
mutual
def hasSh : Sh → D → Bool
  | .int, d => (match d with | .int _ => true | _ => false)
  | .str, d => (match d with | .str _ => true | _ => false)
  | .tup ss, d => (match d with | .tup xs => hasShs ss xs | _ => false)
def hasShs : List Sh → List D → Bool
  | [], xs => xs.isEmpty
  | s :: ss, xs => (match xs with | [] => false | x :: r => hasSh s x && hasShs ss r)
end
mutual
def shOf : D → Sh
  | .str _ => .str
  | .tup xs => .tup (shsOf xs)
  | .non => .int
  | .bl _ => .int
  | .int _ => .int
  | .lst _ => .int
  | .dic _ => .int
  | .exc _ => .int
  | .fn _ => .int
  | .clo _ _ => .int
  | .scr _ => .int
def shsOf : List D → List Sh
  | [] => []
  | x :: r => shOf x :: shsOf r
end
def ltD (a b : D) : Bool := match ordD .lt a b with | some c => c | none => false
def insD (x : D) : List D → List D
  | [] => [x]
  | y :: r => if ltD y x then y :: insD x r else x :: y :: r
def isort : List D → List D
  | [] => []
  | x :: r => insD x (isort r)
def isTupD : D → Bool
  | .tup xs => !xs.isEmpty
  | _ => false
/-- all of one shape: ints, texts, or tuples of such -/
def likeAll (xs : List D) : Bool := match xs with
  | [] => true
  | x :: _ => xs.all fun y => hasSh (shOf x) y && shp 50 y
def sortOk (xs : List D) : Bool := match xs with
  | [] => true
  | x :: _ => (match x with
    | .int _ => true
    | .tup ys => !ys.isEmpty
    | _ => false)
def sortedD : D → R D
  | .lst xs => guard' (likeAll xs && (sortOk xs && decide (xs.length ≤ lim))) (.ok (.lst (isort xs)))
  | _ => .bad
def dedup : List D → List D
  | [] => []
  | x :: r => if inD x r then dedup r else x :: dedup r
/-- a tuple of ints from 0 on, below a bound -/
def nnT : D → Bool
  | .tup ys => !ys.isEmpty && ys.all fun y => (match y with | .int i => decide (0 ≤ i) && decide (i < 1000000) | _ => false)
  | _ => false
def isI : D → Bool
  | .int _ => true
  | _ => false
def setOk (xs : List D) : Bool := xs.all isI || xs.all nnT
def ssetD : D → R D
  | .lst xs => guard' (likeAll xs && (setOk xs && decide (xs.length < 64))) (.ok (.lst (isort (dedup xs))))
  | _ => .bad
def lrgD (x y : D) : R D := match x with
  | .int m => (match y with
    | .int n => guard' (rngOk m && (rngOk n && decide (n - m ≤ 16777216))) (.ok (.lst (rangeL m (n - m).toNat)))
    | _ => .bad)
  | _ => .bad
def biEv : Bi → List D → R D
  | .len, ds => un1 lenD ds
  | .abs, ds => un1 absD ds
  | .min2, ds => un2 minD ds
  | .max2, ds => un2 maxD ds
  | .all, ds => un1 allD ds
  | .any, ds => un1 anyD ds
  | .sum, ds => un1 sumD ds
  | .tuple, ds => un1 tupleD ds
  | .list, ds => un1 listD ds
  | .sorted, ds => un1 sortedD ds
  | _, _ => .bad
def cntB (b : Bool) : List Bool → Nat
  | [] => 0
  | x :: r => if x = b then cntB b r + 1 else cntB b r
def idxB (b : Bool) : List Bool → Option Nat
  | [] => none
  | x :: r => if x = b then some 0 else (match idxB b r with | some k => some (k + 1) | none => none)
def cntI (i : Int) : List Int → Nat
  | [] => 0
  | x :: r => if x = i then cntI i r + 1 else cntI i r
def getD2 (a k d : D) : R D := match a with
  | .dic kvs => (match k with
    | .str x => .ok ((lkD x kvs).getD d)
    | _ => .bad)
  | _ => .bad
def countD (a b : D) : R D := match a with
  | .lst xs => (match b with
    | .bl c => (match bools xs with | some bs => .ok (.int (cntB c bs)) | none => .bad)
    | .int c => (match intsD xs with | some bs => .ok (.int (cntI c bs)) | none => .bad)
    | _ => .bad)
  | _ => .bad
def indexD (a b : D) : R D := match a with
  | .lst xs => (match b with
    | .bl c => (match bools xs with
      | some bs => (match idxB c bs with | some k => .ok (.int k) | none => .bad)
      | none => .bad)
    | _ => .bad)
  | _ => .bad
def mtEv : Mt → D → List D → R D
  | .get2, a, ds => un2 (getD2 a) ds
  | .count, a, ds => un1 (countD a) ds
  | .index, a, ds => un1 (indexD a) ds
  | _, _, _ => .bad
/-- the thing has the method -/
def mtOk : Mt → D → Bool
  | .get2, a => (match a with | .dic _ => true | _ => false)
  | .count, a => (match a with | .lst _ => true | _ => false)
  | .index, a => (match a with | .lst _ => true | _ => false)
  | _, _ => false
/-- sub c: the numbers of the classes above c, c among them -/
def isiEv (sub : Nat → Nat → Bool) (a : D) : Ty → R D
  | .int => (match a with | .int _ => .ok (.bl true) | .bl _ => .ok (.bl true) | .exc _ => .bad | .fn _ => .bad | .clo _ _ => .bad | .scr _ => .bad | _ => .ok (.bl false))
  | .bool => (match a with | .bl _ => .ok (.bl true) | .exc _ => .bad | .fn _ => .bad | .clo _ _ => .bad | .scr _ => .bad | _ => .ok (.bl false))
  | .str => (match a with | .str _ => .ok (.bl true) | .exc _ => .bad | .fn _ => .bad | .clo _ _ => .bad | .scr _ => .bad | _ => .ok (.bl false))
  | .tuple => (match a with | .tup _ => .ok (.bl true) | .exc _ => .bad | .fn _ => .bad | .clo _ _ => .bad | .scr _ => .bad | _ => .ok (.bl false))
  | .list => (match a with | .lst _ => .ok (.bl true) | .exc _ => .bad | .fn _ => .bad | .clo _ _ => .bad | .scr _ => .bad | _ => .ok (.bl false))
  | .cls c => (match a with | .exc d => .ok (.bl (sub d c)) | _ => .bad)
  | .vale => (match a with | .exc _ => .ok (.bl true) | _ => .bad)
inductive SV where
  | un
  | pv (d : D)
  | ow (ds : List D)
  | ow2 (dss : List (List D))
abbrev Env := List SV
def getV (ρ : Env) (i : Nat) : R D := match ρ[i]? with
  | some (.pv d) => .ok d
  | _ => .bad
def getO (ρ : Env) (i : Nat) : R (List D) := match ρ[i]? with
  | some (.ow ds) => .ok ds
  | _ => .bad
def getO2 (ρ : Env) (i : Nat) : R (List (List D)) := match ρ[i]? with
  | some (.ow2 dss) => .ok dss
  | _ => .bad
/-- how long an own list is -/
def getN (ρ : Env) (i : Nat) : R Nat := match ρ[i]? with
  | some (.ow ds) => .ok ds.length
  | some (.ow2 dss) => .ok dss.length
  | _ => .bad
/-- the thing at a place -/
def atPl {α : Type} (xs : List α) (k : D) : R (Nat × α) := match k with
  | .int j => (match place xs.length j with
    | some m => (match xs[m]? with | some d => .ok (m, d) | none => .bad)
    | none => .bad)
  | _ => .bad
def caps (ρ : Env) : List Nat → R (List D)
  | [] => .ok []
  | i :: r => (getV ρ i).bind fun x => (caps ρ r).bind fun xs => .ok (x :: xs)
def setV (ρ : Env) (i : Nat) (d : D) : Env := ρ.set i (.pv d)
mutual
/-- the slots that a target fills -/
def putP : Pat → D → Env → R Env
  | .nm i, d, ρ => .ok (ρ.set i (.pv d))
  | .tp ps, d, ρ => (match d with
    | .tup ds => putPs ps ds ρ
    | .lst ds => putPs ps ds ρ
    | _ => .bad)
def putPs : List Pat → List D → Env → R Env
  | [], ds, ρ => (match ds with | [] => .ok ρ | _ :: _ => .bad)
  | p :: ps, ds, ρ => (match ds with
    | [] => .bad
    | d :: r => (putP p d ρ).bind fun ρ' => putPs ps r ρ')
end
mutual
def slotsP : Pat → List Nat
  | .nm i => [i]
  | .tp ps => slotsPs ps
def slotsPs : List Pat → List Nat
  | [] => []
  | p :: r => slotsP p ++ slotsPs r
end
def wipeV (ρ : Env) : List Nat → Env
  | [] => ρ
  | i :: r => (wipeV ρ r).set i .un
/-- what is outside: the defs by number, the classes' order -/
structure Out where
  call : Nat → List D → R D
  sub : Nat → Nat → Bool
  cst : List D
  nc : Nat
/-- one call deeper: the same defs -/
def low (o : Out) : Out := ⟨fun f ds => o.call (f + 1000) ds, o.sub, o.cst, o.nc⟩
def lowN : Nat → Out → Out
  | 0, o => o
  | n + 1, o => lowN n (low o)
def zipT2 : List D → List D → List D
  | x :: xs, y :: ys => .tup [x, y] :: zipT2 xs ys
  | _, _ => []
def zipT3 : List D → List D → List D → List D
  | x :: xs, y :: ys, z :: zs => .tup [x, y, z] :: zipT3 xs ys zs
  | _, _, _ => []
def enumT (k : Int) : List D → List D
  | [] => []
  | x :: r => .tup [.int k, x] :: enumT (k + 1) r
def seqD : D → R (List D)
  | .lst xs => .ok xs
  | .tup xs => .ok xs
  | .str z => .ok (z.cps.toList.map fun c => .str ⟨#[c]⟩)
  | _ => .bad
def rng1D : D → R (List D)
  | .int n => guard' (rngOk n) (.ok (rangeL 0 n.toNat))
  | _ => .bad
def rng2D (x y : D) : R (List D) := match x with
  | .int m => (match y with
    | .int n => guard' (rngOk m && rngOk n) (.ok (rangeL m (n - m).toNat))
    | _ => .bad)
  | _ => .bad
def zip2D (x y : D) : R (List D) := match x with
  | .lst xs => (match y with | .lst ys => .ok (zipT2 xs ys) | _ => .bad)
  | .tup xs => (match y with | .tup ys => .ok (zipT2 xs ys) | .lst ys => .ok (zipT2 xs ys) | _ => .bad)
  | _ => .bad
def zip3D (x y z : D) : R (List D) := match x with
  | .lst xs => (match y with | .tup ys => (match z with | .tup zs => .ok (zipT3 xs ys zs) | _ => .bad) | _ => .bad)
  | .tup xs => (match y with | .tup ys => (match z with | .tup zs => .ok (zipT3 xs ys zs) | _ => .bad) | _ => .bad)
  | _ => .bad
def enumD : D → R (List D)
  | .lst xs => .ok (enumT 0 xs)
  | _ => .bad
def seqOf : D → Option (List D)
  | .lst xs => some xs
  | .tup xs => some xs
  | _ => none
def negD : D → R D
  | .int i => .ok (.int (-i))
  | _ => .bad
def revD : D → R D
  | .lst xs => .ok (.lst xs.reverse)
  | .tup xs => .ok (.tup xs.reverse)
  | _ => .bad
/-- where nothing may be raised -/
def noexc {α : Type} : R α → R α
  | .ok a => .ok a
  | .exc _ => .bad
  | .bad => .bad
/-- what a comprehension makes of the items -/
def lcGo (f : Env → R Bool) (g : Env → R D) (p : Pat) (ρ : Env) : List D → R (List D)
  | [] => .ok []
  | x :: r => (putP p x ρ).bind fun ρ' => (f ρ').bind fun b => match b with
    | true => (g ρ').bind fun y => (lcGo f g p ρ r).bind fun ys => .ok (y :: ys)
    | false => lcGo f g p ρ r
mutual
def evE (o : Out) : IE → Env → R D
  | .var i, ρ => getV ρ i
  | .cst d, _ => .ok d
  | .glo n, _ => (match o.cst[n]? with | some d => .ok d | none => .bad)
  | .gfn f, _ => .ok (.fn f)
  | .bin op a b, ρ => (evE o a ρ).bind fun x => (evE o b ρ).bind fun y => noexc (binEv op x y)
  | .neg a, ρ => (evE o a ρ).bind fun x => noexc (negD x)
  | .nt a, ρ => (evE o a ρ).bind fun x => (truth x).bind fun b => .ok (.bl (!b))
  | .and a b, ρ => (evE o a ρ).bind fun x => (truth x).bind fun c => match c with
    | true => evE o b ρ
    | false => .ok x
  | .or a b, ρ => (evE o a ρ).bind fun x => (truth x).bind fun c => match c with
    | true => .ok x
    | false => evE o b ρ
  | .ite c a b, ρ => (evE o c ρ).bind fun x => (truth x).bind fun t => match t with
    | true => evE o a ρ
    | false => evE o b ρ
  | .cmp op a b, ρ => (evE o a ρ).bind fun x => (evE o b ρ).bind fun y => noexc (cmpEv op x y)
  | .cmp2 p q a b c, ρ => (evE o a ρ).bind fun x => (evE o b ρ).bind fun y => (noexc (cmpEv p x y)).bind fun t => match t with
    | .bl k => (match k with
      | true => (evE o c ρ).bind fun z => noexc (cmpEv q y z)
      | false => .ok (.bl false))
    | _ => .bad
  | .tup es, ρ => (evL o es ρ).bind fun xs => .ok (.tup xs)
  | .lst es, ρ => (evL o es ρ).bind fun xs => .ok (.lst xs)
  | .dic ks es, ρ => (evL o es ρ).bind fun xs => .ok (.dic (ks.zip xs))
  | .idx a i, ρ => (evE o a ρ).bind fun x => (evE o i ρ).bind fun y => noexc (idxEv x y)
  | .slc a lo hi, ρ => (evE o a ρ).bind fun x => (evO o lo ρ).bind fun i => (evO o hi ρ).bind fun j => noexc (slcEv x i j)
  | .rev a, ρ => (evE o a ρ).bind fun x => noexc (revD x)
  | .call f es, ρ => (evL o es ρ).bind fun xs => o.call f xs
  | .callv fs g es, ρ => (evE o g ρ).bind fun x => match x with
    | .fn f => guard' (fs.contains f) ((evL o es ρ).bind fun xs => o.call f xs)
    | _ => .bad
  | .bi b es, ρ => (evL o es ρ).bind fun xs => noexc (biEv b xs)
  | .mt m a es, ρ => (evE o a ρ).bind fun x => guard' (mtOk m x) ((evL o es ρ).bind fun xs => noexc (mtEv m x xs))
  | .isi a t, ρ => (evE o a ρ).bind fun x => noexc (isiEv o.sub x t)
  | .lc elt p it ifs, ρ => (evI o it ρ).bind fun xs => (noexc (lcGo (evF o ifs) (evE o elt) p (wipeV ρ (slotsP p)) xs)).bind fun ys => guard' (decide (ys.length ≤ lim)) (.ok (.lst ys))
  | .lam f cs, ρ => (caps ρ cs).bind fun xs => .ok (.clo f xs)
  | .oidx i x, ρ => (getO ρ i).bind fun ds => (evE o x ρ).bind fun k => noexc (idxEv (.lst ds) k)
  | .olen i, ρ => (getO ρ i).bind fun ds => .ok (.int ds.length)
  | .oemp i, ρ => (getN ρ i).bind fun n => .ok (.bl (n == 0))
  | .onem i, ρ => (getN ρ i).bind fun n => .ok (.bl (!(n == 0)))
  | .nope, _ => .bad
  | .lrg a b, ρ => (evE o a ρ).bind fun x => (evE o b ρ).bind fun y => noexc (lrgD x y)
  | .sst a, ρ => (evE o a ρ).bind fun x => noexc (ssetD x)
  | .oidx2 i x y, ρ => (getO2 ρ i).bind fun dss => (evE o x ρ).bind fun k => (atPl dss k).bind fun p => (evE o y ρ).bind fun l => noexc (idxEv (.lst p.2) l)
  | .told w c b, ρ => (match (low o).call 999 [] with
    | .ok _ => (match evE (low (low o)) b ρ with
      | .ok d => .ok d
      | .exc e => guard' (decide (e < o.nc) && o.sub e c) (noexc ((low o).call w [.exc e]))
      | .bad => .bad)
    | _ => .bad)
def evL (o : Out) : IEs → Env → R (List D)
  | .nil, _ => .ok []
  | .cons e r, ρ => (evE o e ρ).bind fun x => (evL o r ρ).bind fun xs => .ok (x :: xs)
/-- a bound of a slice -/
def evO (o : Out) : IEs → Env → R (Option Int)
  | .nil, _ => .ok none
  | .cons e r, ρ => (evE o e ρ).bind fun x => match x with
    | .int i => .ok (some i)
    | _ => .bad
/-- the tests of a comprehension: none or one -/
def evF (o : Out) : IEs → Env → R Bool
  | .nil, _ => .ok true
  | .cons e r, ρ => (evE o e ρ).bind truth
def evI (o : Out) : II → Env → R (List D)
  | .seq a, ρ => (evE o a ρ).bind seqD
  | .rng1 a, ρ => (evE o a ρ).bind rng1D
  | .rng2 a b, ρ => (evE o a ρ).bind fun x => (evE o b ρ).bind fun y => rng2D x y
  | .zip2 a b, ρ => (evE o a ρ).bind fun x => (evE o b ρ).bind fun y => zip2D x y
  | .zip3 a b c, ρ => (evE o a ρ).bind fun x => (evE o b ρ).bind fun y => (evE o c ρ).bind fun z => zip3D x y z
  | .enum a, ρ => (evE o a ρ).bind enumD
  | .items a, ρ => .bad
  | .values a, ρ => .bad
end
def evT (o : Out) (e : IE) (ρ : Env) : R Bool := (evE o e ρ).bind truth
inductive SR where
  | nx (ρ : Env)
  | rt (d : D)
  | bk (ρ : Env)
  | ct (ρ : Env)
  | ex (c : Nat) (ρ : Env)
  | bad
@[reducible, inline] def R.st {α : Type} (x : R α) (ρ : Env) (f : α → SR) : SR := match x with
  | .ok a => f a
  | .exc c => .ex c ρ
  | .bad => .bad
def putN : List Nat → List D → Env → SR
  | [], ds, ρ => (match ds with | [] => .nx ρ | _ :: _ => .bad)
  | i :: r, ds, ρ => (match ds with | [] => .bad | d :: t => putN r t (ρ.set i (.pv d)))
def whLoop (c : Env → R Bool) (b : Env → SR) : Nat → Env → SR
  | 0, _ => .bad
  | n + 1, ρ => (c ρ).st ρ fun t => match t with
    | false => .nx ρ
    | true => (match b ρ with
      | .nx ρ' => whLoop c b n ρ'
      | .ct ρ' => whLoop c b n ρ'
      | .bk ρ' => .nx ρ'
      | r => r)
def forLoop (p : Pat) (b : Env → SR) : List D → Env → SR
  | [], ρ => .nx ρ
  | x :: r, ρ => (putP p x ρ).st ρ fun ρ1 => match b ρ1 with
    | .nx ρ' => forLoop p b r ρ'
    | .ct ρ' => forLoop p b r ρ'
    | .bk ρ' => .nx ρ'
    | z => z
def unAs (a : Option Nat) (ρ : Env) : Env := match a with
  | some i => ρ.set i .un
  | none => ρ
def putA (a : Option Nat) (d : Nat) (ρ : Env) : Env := match a with
  | some i => ρ.set i (.pv (.exc d))
  | none => ρ
def SR.unAs (a : Option Nat) : SR → SR
  | .nx ρ => .nx (FD.unAs a ρ)
  | .bk ρ => .bk (FD.unAs a ρ)
  | .ct ρ => .ct (FD.unAs a ρ)
  | .rt d => .rt d
  | .ex _ _ => .bad
  | .bad => .bad
mutual
def exS (o : Out) : IS → Env → SR
  | .asg p e, ρ => (evE o e ρ).st ρ fun d => (putP p d ρ).st ρ fun ρ' => .nx ρ'
  | .par is es, ρ => (evL o es ρ).st ρ fun ds => putN is ds ρ
  | .own i e, ρ => (evE o e ρ).st ρ fun d => match d with
    | .lst ds => .nx (ρ.set i (.ow ds))
    | _ => .bad
  | .frz i, ρ => (match ρ[i]? with
    | some (.ow ds) => .nx (ρ.set i (.pv (.lst ds)))
    | some (.pv _) => .nx ρ
    | some (.ow2 dss) => .nx (ρ.set i (.pv (.lst (dss.map .lst))))
    | _ => .bad)
  | .app i e, ρ => (getO ρ i).st ρ fun ds => (evE o e ρ).st ρ fun d => match decide (ds.length < lim) with
    | true => .nx (ρ.set i (.ow (ds ++ [d])))
    | false => .bad
  | .ext i e, ρ => (getO ρ i).st ρ fun ds => (evE o e ρ).st ρ fun d => match d with
    | .lst es => (match decide (ds.length + es.length ≤ lim) with
      | true => .nx (ρ.set i (.ow (ds ++ es)))
      | false => .bad)
    | _ => .bad
  | .seti i x e, ρ => (getO ρ i).st ρ fun ds => (evE o e ρ).st ρ fun d => (evE o x ρ).st ρ fun k => match k with
    | .int j => (match place ds.length j with
      | some m => .nx (ρ.set i (.ow (ds.set m d)))
      | none => .bad)
    | _ => .bad
  | .expr e, ρ => (evE o e ρ).st ρ fun _ => .nx ρ
  | .iff c a b, ρ => (evT o c ρ).st ρ fun t => match t with
    | true => exSs o a ρ
    | false => exSs o b ρ
  | .whl n c b, ρ => whLoop (evT o c) (exSs o b) n ρ
  | .for p it b, ρ => (evI o it ρ).st ρ fun xs => forLoop p (exSs o b) xs ρ
  | .ret e, ρ => (evE o e ρ).st ρ fun d => .rt d
  | .retN, _ => .rt .non
  | .brk, ρ => .bk ρ
  | .cnt, ρ => .ct ρ
  | .pass, ρ => .nx ρ
  | .raise c, ρ => .ex c ρ
  | .try_ b c a h, ρ => (match exSs o b ρ with
    | .ex d ρ' => (match decide (d < o.nc) with
      | true => (match o.sub d c with
        | true => (exSs o h (putA a d ρ')).unAs a
        | false => .ex d ρ')
      | false => .bad)
    | r => r)
  | .nope, _ => .bad
  | .own2 i, ρ => .nx (ρ.set i (.ow2 []))
  | .app2 i es, ρ => (getO2 ρ i).st ρ fun dss => (evL o es ρ).st ρ fun ds => match decide (dss.length < lim) with
    | true => .nx (ρ.set i (.ow2 (dss ++ [ds])))
    | false => .bad
  | .seti2 i x y e, ρ => (getO2 ρ i).st ρ fun dss => (evE o e ρ).st ρ fun d => (evE o x ρ).st ρ fun k => (atPl dss k).st ρ fun p => (evE o y ρ).st ρ fun l => (atPl p.2 l).st ρ fun q =>
    .nx (ρ.set i (.ow2 (dss.set p.1 (p.2.set q.1 d))))
  | .paro i j b e, ρ => (evE o e ρ).st ρ fun d => match b with
    | true => .nx ((ρ.set i (.ow [])).set j (.pv d))
    | false => .nx ((ρ.set i (.pv d)).set j (.ow []))
def exSs (o : Out) : ISs → Env → SR
  | .nil, ρ => .nx ρ
  | .cons s r, ρ => (match exS o s ρ with
    | .nx ρ' => exSs o r ρ'
    | z => z)
end
def start (d : IDef) (ds : List D) : Env := ds.map .pv ++ List.replicate (d.ns - d.np) .un
def runDef (o : Out) (d : IDef) (ds : List D) : R D := match decide (ds.length = d.np) with
  | false => .bad
  | true => (match exSs o d.body (start d ds) with
    | .nx _ => .ok .non
    | .rt v => .ok v
    | .ex c _ => .exc c
    | _ => .bad)
/-- a program: its defs, its classes' order -/
structure Prg where
  defs : List IDef
  sub : Nat → Nat → Bool
  cst : List D
  nc : Nat
/-- the defs, called at most k deep -/
def lev (P : Prg) : Nat → Nat → List D → R D
  | 0, _, _ => .bad
  | k + 1, f, ds => (match P.defs[f]? with
    | some d => runDef ⟨lev P k, P.sub, P.cst, P.nc⟩ d ds
    | none => (match decide (f = 999) with
      | true => .ok .non
      | false => (match decide (1000 ≤ f) with
        | true => lev P k (f - 1000) ds
        | false => .bad)))
example (o : Out) (a b : IE) (ρ : Env) : evE o (.bin .add a b) ρ = (evE o a ρ).bind fun x => (evE o b ρ).bind fun y => noexc (binEv .add x y) := rfl
example (o : Out) (c : IE) (a b : ISs) (ρ : Env) : exS o (.iff c a b) ρ = (evT o c ρ).st ρ fun t => match t with
    | true => exSs o a ρ
    | false => exSs o b ρ := rfl
theorem lowN_call : ∀ (n : Nat) (o : Out) (f : Nat) (ds : List D), (lowN n o).call f ds = o.call (f + 1000 * n) ds
  | 0, o, f, ds => rfl
  | n + 1, o, f, ds => by
    show (lowN n (low o)).call f ds = _
    rw [lowN_call n (low o) f ds]
    show o.call (f + 1000 * n + 1000) ds = _
    rw [show f + 1000 * n + 1000 = f + 1000 * (n + 1) by omega]
theorem lowN_add : ∀ (m n : Nat) (o : Out), lowN m (lowN n o) = lowN (n + m) o
  | m, 0, o => by rw [Nat.zero_add]; rfl
  | m, n + 1, o => by
    show lowN m (lowN n (low o)) = _
    rw [lowN_add m n (low o), show n + 1 + m = (n + m) + 1 by omega]
    rfl
theorem lowN_sub : ∀ (n : Nat) (o : Out), (lowN n o).sub = o.sub ∧ (lowN n o).cst = o.cst ∧ (lowN n o).nc = o.nc
  | 0, o => ⟨rfl, rfl, rfl⟩
  | n + 1, o => lowN_sub n (low o)
theorem lev_low {P : Prg} (h : P.defs.length ≤ 999) : ∀ (n k f : Nat) (ds : List D), f < 1000 → lev P k (f + 1000 * n) ds = lev P (k - n) f ds
  | 0, k, f, ds, _ => rfl
  | n + 1, 0, f, ds, _ => by
    rw [Nat.zero_sub]
    rfl
  | n + 1, k + 1, f, ds, hf => by
    show (match P.defs[f + 1000 * (n + 1)]? with
      | some d => runDef ⟨lev P k, P.sub, P.cst, P.nc⟩ d ds
      | none => (match decide (f + 1000 * (n + 1) = 999) with
        | true => R.ok D.non
        | false => (match decide (1000 ≤ f + 1000 * (n + 1)) with
          | true => lev P k (f + 1000 * (n + 1) - 1000) ds
          | false => .bad))) = _
    rw [List.getElem?_eq_none (by omega), decide_eq_false (by omega), decide_eq_true (by omega)]
    show lev P k (f + 1000 * (n + 1) - 1000) ds = _
    rw [show f + 1000 * (n + 1) - 1000 = f + 1000 * n by omega, lev_low h n k f ds hf, show k + 1 - (n + 1) = k - n by omega]
theorem lev_ping {P : Prg} {k : Nat} {d : D} (h : lev P k 999 [] = .ok d) : 0 < k := by
  cases k with
  | zero => cases h
  | succ k => omega
end FD
namespace FD
open PySem
theorem strEq {x y : Str} : (x == y) = true ↔ x = y := beq_iff_eq
mutual
theorem sh_eqv : ∀ (s : Sh) (a b : D), hasSh s a = true → hasSh s b = true → (eqv a b = true ↔ a = b)
  | .int, a, b, ha, hb => by
    cases a <;> first | (cases ha; done) | skip
    cases b <;> first | (cases hb; done) | skip
    rename_i i j
    show ((i == j) = true) ↔ _
    simp
  | .str, a, b, ha, hb => by
    cases a <;> first | (cases ha; done) | skip
    cases b <;> first | (cases hb; done) | skip
    rename_i i j
    show ((i == j) = true) ↔ _
    rw [strEq]
    simp
  | .tup ss, a, b, ha, hb => by
    cases a <;> first | (cases ha; done) | skip
    cases b <;> first | (cases hb; done) | skip
    rename_i xs ys
    show (eqvs xs ys = true) ↔ _
    rw [shs_eqv ss xs ys ha hb]
    simp
theorem shs_eqv : ∀ (ss : List Sh) (xs ys : List D), hasShs ss xs = true → hasShs ss ys = true → (eqvs xs ys = true ↔ xs = ys)
  | [], xs, ys, ha, hb => by
    cases xs with
    | cons _ _ => cases ha
    | nil =>
      cases ys with
      | cons _ _ => cases hb
      | nil => simp [eqvs]
  | s :: ss, xs, ys, ha, hb => by
    cases xs with
    | nil => cases ha
    | cons x xs =>
      cases ys with
      | nil => cases hb
      | cons y ys =>
        have h1 : (hasSh s x && hasShs ss xs) = true := ha
        have h2 : (hasSh s y && hasShs ss ys) = true := hb
        rw [Bool.and_eq_true] at h1 h2
        show (eqv x y && eqvs xs ys) = true ↔ _
        rw [Bool.and_eq_true, sh_eqv s x y h1.1 h2.1, shs_eqv ss xs ys h1.2 h2.2]
        simp
end
mutual
theorem sh_some : ∀ (s : Sh) (a b : D), hasSh s a = true → hasSh s b = true → ∃ c, ordD .lt a b = some c
  | .int, a, b, ha, hb => by
    cases a <;> first | (cases ha; done) | skip
    cases b <;> first | (cases hb; done) | skip
    exact ⟨_, rfl⟩
  | .str, a, b, ha, hb => by
    cases a <;> first | (cases ha; done) | skip
    cases b <;> first | (cases hb; done) | skip
    exact ⟨_, rfl⟩
  | .tup ss, a, b, ha, hb => by
    cases a <;> first | (cases ha; done) | skip
    cases b <;> first | (cases hb; done) | skip
    rename_i xs ys
    exact shs_some ss xs ys ha hb
theorem shs_some : ∀ (ss : List Sh) (xs ys : List D), hasShs ss xs = true → hasShs ss ys = true → ∃ c, ordDs .lt xs ys = some c
  | [], xs, ys, ha, hb => by
    cases xs with
    | cons _ _ => cases ha
    | nil => exact ⟨_, rfl⟩
  | s :: ss, xs, ys, ha, hb => by
    cases xs with
    | nil => cases ha
    | cons x xs =>
      cases ys with
      | nil => cases hb
      | cons y ys =>
        have h1 : (hasSh s x && hasShs ss xs) = true := ha
        have h2 : (hasSh s y && hasShs ss ys) = true := hb
        rw [Bool.and_eq_true] at h1 h2
        obtain ⟨c, hc⟩ := shs_some ss xs ys h1.2 h2.2
        obtain ⟨d, hd⟩ := sh_some s x y h1.1 h2.1
        show ∃ c, (match ordDs .lt xs ys with
          | some c => if eqv x y then some c else ordD .lt x y
          | none => none) = some c
        rw [hc]
        cases eqv x y with
        | true => exact ⟨c, rfl⟩
        | false => exact ⟨d, hd⟩
end
/-- less, as a proposition -/
def LtD (a b : D) : Prop := ordD .lt a b = some true
def LtDs (a b : List D) : Prop := ordDs .lt a b = some true
theorem ltD_iff {s : Sh} {a b : D} (ha : hasSh s a = true) (hb : hasSh s b = true) : ltD a b = true ↔ LtD a b := by
  obtain ⟨c, hc⟩ := sh_some s a b ha hb
  unfold ltD LtD
  rw [hc]
  cases c <;> simp
theorem ltDs_cons {s : Sh} {ss : List Sh} {x y : D} {xs ys : List D} (hx : hasSh s x = true) (hy : hasSh s y = true) (hxs : hasShs ss xs = true) (hys : hasShs ss ys = true) : LtDs (x :: xs) (y :: ys) ↔ (x = y ∧ LtDs xs ys) ∨ (x ≠ y ∧ LtD x y) := by
  obtain ⟨c, hc⟩ := shs_some ss xs ys hxs hys
  unfold LtDs LtD
  show (match ordDs .lt xs ys with
          | some c => if eqv x y then some c else ordD .lt x y
          | none => none) = some true ↔ _
  rw [hc]
  by_cases e : x = y
  · have h1 : eqv x y = true := (sh_eqv s x y hx hy).mpr e
    show (if eqv x y then some c else ordD .lt x y) = some true ↔ _
    rw [h1, if_pos rfl]
    simp [e]
  · have h1 : eqv x y = false := by
      cases q : eqv x y with
      | false => rfl
      | true => exact absurd ((sh_eqv s x y hx hy).mp q) e
    show (if eqv x y then some c else ordD .lt x y) = some true ↔ _
    rw [h1, if_neg Bool.false_ne_true]
    simp [e]
theorem nat_irr (l : List Nat) : ¬ l < l := fun h => by
  induction l with
  | nil => exact absurd h (by decide)
  | cons x l ih =>
    rw [List.cons_lt_cons_iff] at h
    rcases h with h | h
    · exact Nat.lt_irrefl _ h
    · exact ih h.2
theorem nat_tr : ∀ {a b c : List Nat}, a < b → b < c → a < c
  | [], [], _, h, _ => absurd h (by decide)
  | [], _ :: _, [], _, h => absurd h (by simp)
  | [], _ :: _, _ :: _, _, _ => by simp
  | _ :: _, [], _, h, _ => absurd h (by simp)
  | _ :: _, _ :: _, [], _, h => absurd h (by simp)
  | x :: a, y :: b, z :: c, h1, h2 => by
    rw [List.cons_lt_cons_iff] at h1 h2 ⊢
    rcases h1 with h1 | h1
    · rcases h2 with h2 | h2
      · exact .inl (Nat.lt_trans h1 h2)
      · exact .inl (h2.1 ▸ h1)
    · rcases h2 with h2 | h2
      · exact .inl (h1.1 ▸ h2)
      · exact .inr ⟨h1.1.trans h2.1, nat_tr h1.2 h2.2⟩
theorem nat_tot : ∀ (a b : List Nat), a < b ∨ a = b ∨ b < a
  | [], [] => .inr (.inl rfl)
  | [], _ :: _ => .inl (by simp)
  | _ :: _, [] => .inr (.inr (by simp))
  | x :: a, y :: b => by
    rw [List.cons_lt_cons_iff, List.cons_lt_cons_iff]
    rcases Nat.lt_trichotomy x y with h | h | h
    · exact .inl (.inl h)
    · rcases nat_tot a b with q | q | q
      · exact .inl (.inr ⟨h, q⟩)
      · exact .inr (.inl (by rw [h, q]))
      · exact .inr (.inr (.inr ⟨h.symm, q⟩))
    · exact .inr (.inr (.inl h))
theorem lt_int {i j : Int} : LtD (.int i) (.int j) ↔ i < j := by
  show some (decide (i < j)) = some true ↔ _
  simp
theorem lt_str {x y : Str} : LtD (.str x) (.str y) ↔ x.cps.toList < y.cps.toList := by
  show some (decide (x.cps.toList < y.cps.toList)) = some true ↔ _
  simp
mutual
theorem sh_irr : ∀ (s : Sh) (a : D), hasSh s a = true → ¬ LtD a a
  | .int, a, ha => by
    cases a <;> first | (cases ha; done) | skip
    rw [lt_int]
    omega
  | .str, a, ha => by
    cases a <;> first | (cases ha; done) | skip
    rw [lt_str]
    exact nat_irr _
  | .tup ss, a, ha => by
    cases a <;> first | (cases ha; done) | skip
    rename_i xs
    exact shs_irr ss xs ha
theorem shs_irr : ∀ (ss : List Sh) (xs : List D), hasShs ss xs = true → ¬ LtDs xs xs
  | [], xs, ha => by
    cases xs with
    | cons _ _ => cases ha
    | nil => exact fun h => by cases h
  | s :: ss, xs, ha => by
    cases xs with
    | nil => cases ha
    | cons x xs =>
      have h1 : (hasSh s x && hasShs ss xs) = true := ha
      rw [Bool.and_eq_true] at h1
      rw [ltDs_cons h1.1 h1.1 h1.2 h1.2]
      rintro (h | h)
      · exact shs_irr ss xs h1.2 h.2
      · exact h.1 rfl
end
mutual
theorem sh_tr : ∀ (s : Sh) (a b c : D), hasSh s a = true → hasSh s b = true → hasSh s c = true → LtD a b → LtD b c → LtD a c
  | .int, a, b, c, ha, hb, hc => by
    cases a <;> first | (cases ha; done) | skip
    cases b <;> first | (cases hb; done) | skip
    cases c <;> first | (cases hc; done) | skip
    rw [lt_int, lt_int, lt_int]
    omega
  | .str, a, b, c, ha, hb, hc => by
    cases a <;> first | (cases ha; done) | skip
    cases b <;> first | (cases hb; done) | skip
    cases c <;> first | (cases hc; done) | skip
    rw [lt_str, lt_str, lt_str]
    exact nat_tr
  | .tup ss, a, b, c, ha, hb, hc => by
    cases a <;> first | (cases ha; done) | skip
    cases b <;> first | (cases hb; done) | skip
    cases c <;> first | (cases hc; done) | skip
    exact shs_tr ss _ _ _ ha hb hc
theorem shs_tr : ∀ (ss : List Sh) (a b c : List D), hasShs ss a = true → hasShs ss b = true → hasShs ss c = true → LtDs a b → LtDs b c → LtDs a c
  | [], a, b, c, ha, hb, hc => by
    cases a <;> first | (cases ha; done) | skip
    cases b <;> first | (cases hb; done) | skip
    intro h
    cases h
  | s :: ss, a, b, c, ha, hb, hc => by
    cases a <;> first | (cases ha; done) | skip
    cases b <;> first | (cases hb; done) | skip
    cases c <;> first | (cases hc; done) | skip
    rename_i x xs y ys z zs
    have h1 : (hasSh s x && hasShs ss xs) = true := ha
    have h2 : (hasSh s y && hasShs ss ys) = true := hb
    have h3 : (hasSh s z && hasShs ss zs) = true := hc
    rw [Bool.and_eq_true] at h1 h2 h3
    rw [ltDs_cons h1.1 h2.1 h1.2 h2.2, ltDs_cons h2.1 h3.1 h2.2 h3.2, ltDs_cons h1.1 h3.1 h1.2 h3.2]
    rintro (⟨rfl, p⟩ | ⟨n, p⟩) (⟨rfl, q⟩ | ⟨m, q⟩)
    · exact .inl ⟨rfl, shs_tr ss _ _ _ h1.2 h2.2 h3.2 p q⟩
    · exact .inr ⟨m, q⟩
    · exact .inr ⟨n, p⟩
    · have r := sh_tr s _ _ _ h1.1 h2.1 h3.1 p q
      exact .inr ⟨fun e => sh_irr s x h1.1 (by rw [← e] at r; exact r), r⟩
end
mutual
theorem sh_tot : ∀ (s : Sh) (a b : D), hasSh s a = true → hasSh s b = true → LtD a b ∨ a = b ∨ LtD b a
  | .int, a, b, ha, hb => by
    cases a <;> first | (cases ha; done) | skip
    cases b <;> first | (cases hb; done) | skip
    rename_i i j
    rw [lt_int, lt_int]
    rcases Int.lt_trichotomy i j with h | h | h
    · exact .inl h
    · exact .inr (.inl (by rw [h]))
    · exact .inr (.inr h)
  | .str, a, b, ha, hb => by
    cases a <;> first | (cases ha; done) | skip
    cases b <;> first | (cases hb; done) | skip
    rename_i x y
    rw [lt_str, lt_str]
    rcases nat_tot x.cps.toList y.cps.toList with h | h | h
    · exact .inl h
    · refine .inr (.inl ?_)
      obtain ⟨⟨x⟩⟩ := x
      obtain ⟨⟨y⟩⟩ := y
      cases h
      rfl
    · exact .inr (.inr h)
  | .tup ss, a, b, ha, hb => by
    cases a <;> first | (cases ha; done) | skip
    cases b <;> first | (cases hb; done) | skip
    rcases shs_tot ss _ _ ha hb with h | h | h
    · exact .inl h
    · exact .inr (.inl (by rw [h]))
    · exact .inr (.inr h)
theorem shs_tot : ∀ (ss : List Sh) (a b : List D), hasShs ss a = true → hasShs ss b = true → LtDs a b ∨ a = b ∨ LtDs b a
  | [], a, b, ha, hb => by
    cases a <;> first | (cases ha; done) | skip
    cases b <;> first | (cases hb; done) | skip
    exact .inr (.inl rfl)
  | s :: ss, a, b, ha, hb => by
    cases a <;> first | (cases ha; done) | skip
    cases b <;> first | (cases hb; done) | skip
    rename_i x xs y ys
    have h1 : (hasSh s x && hasShs ss xs) = true := ha
    have h2 : (hasSh s y && hasShs ss ys) = true := hb
    rw [Bool.and_eq_true] at h1 h2
    rw [ltDs_cons h1.1 h2.1 h1.2 h2.2, ltDs_cons h2.1 h1.1 h2.2 h1.2]
    by_cases e : x = y
    · rcases shs_tot ss xs ys h1.2 h2.2 with h | h | h
      · exact .inl (.inl ⟨e, h⟩)
      · exact .inr (.inl (by rw [e, h]))
      · exact .inr (.inr (.inl ⟨e.symm, h⟩))
    · rcases sh_tot s x y h1.1 h2.1 with h | h | h
      · exact .inl (.inr ⟨e, h⟩)
      · exact absurd h e
      · exact .inr (.inr (.inr ⟨fun z => e z.symm, h⟩))
end
def AllSh (s : Sh) (xs : List D) : Prop := ∀ x ∈ xs, hasSh s x = true
/-- rising, with none below one ahead of it -/
def SrtD (xs : List D) : Prop := xs.Pairwise fun x y => ltD y x = false
theorem ltD_le_tr {s : Sh} {a b c : D} (ha : hasSh s a = true) (hb : hasSh s b = true) (hc : hasSh s c = true) (h1 : ltD b a = false) (h2 : ltD c b = false) : ltD c a = false := by
  cases q : ltD c a with
  | false => rfl
  | true =>
    have q' := (ltD_iff hc ha).mp q
    have n1 : ¬ LtD b a := fun z => by rw [(ltD_iff hb ha).mpr z] at h1; cases h1
    have n2 : ¬ LtD c b := fun z => by rw [(ltD_iff hc hb).mpr z] at h2; cases h2
    rcases sh_tot s b a hb ha with z | z | z
    · exact absurd z n1
    · subst z; exact absurd q' n2
    · exact absurd (sh_tr s c a b hc ha hb q' z) n2
theorem insD_perm (x : D) : ∀ l : List D, (insD x l).Perm (x :: l)
  | [] => List.Perm.refl _
  | y :: r => by
    show (if ltD y x then y :: insD x r else x :: y :: r).Perm _
    split
    · exact ((insD_perm x r).cons y).trans (List.Perm.swap x y r)
    · exact List.Perm.refl _
theorem isort_perm : ∀ l : List D, (isort l).Perm l
  | [] => List.Perm.refl _
  | x :: r => (insD_perm x (isort r)).trans ((isort_perm r).cons x)
theorem isort_len (l : List D) : (isort l).length = l.length := (isort_perm l).length_eq
theorem insD_srt {s : Sh} {x : D} (hx : hasSh s x = true) : ∀ {l : List D}, AllSh s l → SrtD l → SrtD (insD x l)
  | [], _, _ => List.pairwise_singleton _ _
  | y :: r, ha, hs => by
    have hy := ha y (List.mem_cons_self ..)
    have hr : AllSh s r := fun z hz => ha z (List.mem_cons_of_mem _ hz)
    obtain ⟨h1, h2⟩ := List.pairwise_cons.mp hs
    show SrtD (if ltD y x then y :: insD x r else x :: y :: r)
    by_cases q : ltD y x = true
    · rw [if_pos q]
      refine List.pairwise_cons.mpr ⟨fun z hz => ?_, insD_srt hx hr h2⟩
      rcases List.mem_cons.mp ((insD_perm x r).mem_iff.mp hz) with rfl | hz
      · cases w : ltD z y with
        | false => rfl
        | true => exact absurd (sh_tr s z y z hx hy hx ((ltD_iff hx hy).mp w) ((ltD_iff hy hx).mp q)) (sh_irr s z hx)
      · exact h1 z hz
    · rw [if_neg q]
      have q' : ltD y x = false := by simpa using q
      refine List.pairwise_cons.mpr ⟨fun z hz => ?_, hs⟩
      rcases List.mem_cons.mp hz with rfl | hz
      · exact q'
      · exact ltD_le_tr hx hy (hr z hz) q' (h1 z hz)
theorem isort_srt {s : Sh} : ∀ {l : List D}, AllSh s l → SrtD (isort l)
  | [], _ => List.Pairwise.nil
  | x :: r, h => insD_srt (h x (List.mem_cons_self ..)) (fun z hz => h z (List.mem_cons_of_mem _ ((isort_perm r).mem_iff.mp hz))) (isort_srt fun z hz => h z (List.mem_cons_of_mem _ hz))
theorem srt_uniq {s : Sh} : ∀ {l m : List D}, AllSh s l → SrtD l → SrtD m → l.Perm m → l = m
  | [], m, _, _, _, p => (List.Perm.eq_nil p.symm).symm
  | x :: l, [], _, _, _, p => absurd p.length_eq (by simp)
  | x :: l, y :: m, ha, hl, hm, p => by
    have hx := ha x (List.mem_cons_self ..)
    have hy := ha y (p.mem_iff.mpr (List.mem_cons_self ..))
    have h1 : ltD y x = false := by
      rcases List.mem_cons.mp (p.mem_iff.mpr (List.mem_cons_self (a := y) (l := m))) with e | h
      · subst e
        cases q : ltD y y with
        | false => rfl
        | true => exact absurd ((ltD_iff hx hx).mp q) (sh_irr s y hx)
      · exact (List.pairwise_cons.mp hl).1 y h
    have h2 : ltD x y = false := by
      rcases List.mem_cons.mp (p.mem_iff.mp (List.mem_cons_self (a := x) (l := l))) with e | h
      · subst e
        cases q : ltD x x with
        | false => rfl
        | true => exact absurd ((ltD_iff hx hx).mp q) (sh_irr s x hx)
      · exact (List.pairwise_cons.mp hm).1 x h
    have e : x = y := by
      rcases sh_tot s x y hx hy with z | z | z
      · rw [(ltD_iff hx hy).mpr z] at h2; cases h2
      · exact z
      · rw [(ltD_iff hy hx).mpr z] at h1; cases h1
    subst e
    rw [srt_uniq (fun z hz => ha z (List.mem_cons_of_mem _ hz)) (List.pairwise_cons.mp hl).2 (List.pairwise_cons.mp hm).2 (List.Perm.cons_inv p)]
theorem isort_eq {s : Sh} {l m : List D} (ha : AllSh s l) (hm : SrtD m) (p : m.Perm l) : m = isort l :=
  srt_uniq (fun x hx => ha x (p.mem_iff.mp hx)) hm (isort_srt ha) (p.trans (isort_perm l).symm)
theorem likeAll_of {xs : List D} (h : likeAll xs = true) : ∃ s, AllSh s xs ∧ ∀ x ∈ xs, shp 50 x = true := by
  cases xs with
  | nil => exact ⟨.int, (fun x hx => by cases hx), (fun x hx => by cases hx)⟩
  | cons y r =>
    have h' : ((y :: r).all fun z => hasSh (shOf y) z && shp 50 z) = true := h
    rw [List.all_eq_true] at h'
    exact ⟨shOf y, fun x hx => ((Bool.and_eq_true _ _).mp (h' x hx)).1, fun x hx => ((Bool.and_eq_true _ _).mp (h' x hx)).2⟩
end FD
namespace FD
open PySem PySem.Spec PyProof.Rows L2
/-- all stands that is no table of code objects -/
def Same (H H' : Hp) : Prop := LamX.ExtN H H'
theorem Same.refl (H : Hp) : Same H H := LamX.ExtN.refl H
theorem Same.trans {H H1 H2 : Hp} (a : Same H H1) (b : Same H1 H2) : Same H H2 := LamX.ExtN.trans a b
theorem Same.of {H H' : Hp} (e : L2.Same H H') : Same H H' := fun b o h _ => e b o h
theorem Same.l {H H' : Hp} {a : Addr} {vs : List V} (e : Same H H') (h : H a = some (.lst vs)) : H' a = some (.lst vs) := e _ _ h fun _ z => by cases z
theorem Same.d {H H' : Hp} {a : Addr} {vs : List ((Int ⊕ Str) × V)} (e : Same H H') (h : H a = some (.dK vs)) : H' a = some (.dK vs) := e _ _ h fun _ z => by cases z
theorem Same.x {H H' : Hp} {a : Addr} {f : Heap → Prop} (e : Same H H') (h : H a = some (.ext f)) : H' a = some (.ext f) := e _ _ h fun _ z => by cases z
theorem Same.seq {K : PySem.W.Frag} {H H' : Hp} {a : Addr} {xs : List V} (e : Same H H') (h : SqL K H a xs) : SqL K H' a xs := by
  rcases h with (h | ⟨o, h⟩) | h
  · exact .inl (.inl (e _ _ h fun _ z => by cases z))
  · exact .inl (.inr ⟨o, e _ _ h fun _ z => by cases z⟩)
  · exact .inr h
/-- the tables of code objects that are held, and the names of these -/
class Tbls where
  tab : List (Addr × Str)
abbrev TabQ [Tbls] (H : Hp) : Prop := LamX.Tabs Tbls.tab H
/-- a later heap: all stands, and the tables are still tables -/
structure Stp [Tbls] (H H' : Hp) : Prop where
  ext : Same H H'
  tab : TabQ H → TabQ H'
theorem Stp.refl [Tbls] (H : Hp) : Stp H H := ⟨Same.refl H, id⟩
theorem Stp.trans [Tbls] {H H1 H2 : Hp} (a : Stp H H1) (b : Stp H1 H2) : Stp H H2 := ⟨a.ext.trans b.ext, fun t => b.tab (a.tab t)⟩
theorem Stp.of [Tbls] {H H' : Hp} (e : L2.Same H H') : Stp H H' := ⟨Same.of e, fun t => LamX.Tabs.ext t e⟩
/-- what can be a list or a dict of one's own -/
def Lk (o : HO) : Prop := (∃ vs, o = .lst vs) ∨ ∃ es, o = .dK es
theorem Lk.nt {o : HO} (h : Lk o) (ps : Array Value) : o ≠ .tbl ps := fun z => by
  rcases h with ⟨vs, rfl⟩ | ⟨es, rfl⟩ <;> cases z
theorem Lk.nc {o : HO} (h : Lk o) {c : Addr} {q : Str} : o ≠ LamX.CodeO c q := fun z => by
  unfold LamX.CodeO at z
  rcases h with ⟨vs, rfl⟩ | ⟨es, rfl⟩ <;> cases z
theorem Lk.l {vs : List V} : Lk (.lst vs) := .inl ⟨vs, rfl⟩
/-- the tables stand in every heap that has all but lists and dicts -/
theorem tab_but [Tbls] {H H' : Hp} (h : ∀ b o, H b = some o → ¬ Lk o → H' b = some o) (t : TabQ H) : TabQ H' := fun p hp => by
  obtain ⟨ps, a1, a2, a3⟩ := t p hp
  refine ⟨ps, h _ _ a1 fun l => l.nt ps rfl, a2, fun pos cv hc => ?_⟩
  obtain ⟨c, e1, e2⟩ := a3 pos cv hc
  exact ⟨c, e1, h _ _ e2 fun l => l.nc rfl⟩
/-- the written part: where the classes and the defs stand -/
structure Gt where
  K : PySem.W.Frag
  w : World
  cls : Nat → Addr
  fns : Nat → Addr
  nc : Nat
/-- an exception's object of the class at C -/
def excAt (a C : Addr) : Heap → Prop := fun h => ∃ (o : Obj) (vs : Array Value), h.get? a = some o ∧ o.cls = .ref C ∧ o.dict = none ∧ o.data = .fields vs
def lkV (k : Str) : List (Str × V) → Option V
  | [] => none
  | (x, d) :: r => if k = x then some d else lkV k r
/-- a dict with text keys: tracked, or written -/
def DicAt (G : Gt) (H : Hp) (a : Addr) (kvs : List (Str × V)) : Prop :=
  H a = some (.dK (kvs.map fun p => (Sum.inr p.1, p.2))) ∨
    ((∃ es n, KDict G.K G.w a es n) ∧ ∀ k, match lkV k kvs with
      | some v => ∃ u, PySem.W.nsIn G.K a k = some (some u) ∧ RelV v u
      | none => PySem.W.nsIn G.K a k = some none)
mutual
/-- the value v stands for the datum d -/
def Dv (G : Gt) (H : Hp) : D → V → Prop
  | .non, v => v = .non
  | .bl b, v => v = .bl b
  | .int i, v => v = .int i
  | .str x, v => v = .str x
  | .tup ds, v => ∃ a vs, v = .ref a ∧ SqT G.K H a vs ∧ DvL G H ds vs
  | .lst ds, v => ∃ a vs, v = .ref a ∧ H a = some (.lst vs) ∧ DvL G H ds vs
  | .dic kvs, v => ∃ a us, v = .ref a ∧ DicAt G H a us ∧ DvK G H kvs us
  | .exc c, v => c < G.nc ∧ ∃ a, v = .ref a ∧ H a = some (.ext (excAt a (G.cls c)))
  | .fn f, v => v = .ref (G.fns f)
  | .clo _ _, _ => False
  | .scr ns, v => ∃ a, v = .ref a ∧ SqL G.K H a (ns.map V.int)
def DvL (G : Gt) (H : Hp) : List D → List V → Prop
  | [], vs => vs = []
  | d :: ds, vs => ∃ v r, vs = v :: r ∧ Dv G H d v ∧ DvL G H ds r
def DvK (G : Gt) (H : Hp) : List (Str × D) → List (Str × V) → Prop
  | [], vs => vs = []
  | (k, d) :: ds, vs => ∃ v r, vs = (k, v) :: r ∧ Dv G H d v ∧ DvK G H ds r
end
theorem sqT_mono {K : PySem.W.Frag} {H H' : Hp} {a : Addr} {xs : List V} (e : Same H H') (h : SqT K H a xs) : SqT K H' a xs := by
  rcases h with (h | ⟨o, h⟩) | h
  · exact .inl (.inl (e _ _ h fun _ z => by cases z))
  · exact .inl (.inr ⟨o, e _ _ h fun _ z => by cases z⟩)
  · exact .inr h
theorem dicAt_mono {G : Gt} {H H' : Hp} {a : Addr} {kvs : List (Str × V)} (e : Same H H') (h : DicAt G H a kvs) : DicAt G H' a kvs := by
  rcases h with h | h
  · exact .inl (e.d h)
  · exact .inr h
mutual
theorem dv_mono {G : Gt} {H H' : Hp} (e : Same H H') : ∀ (d : D) (v : V), Dv G H d v → Dv G H' d v
  | .non, _, h => h
  | .bl _, _, h => h
  | .int _, _, h => h
  | .str _, _, h => h
  | .tup ds, _, h => by
    obtain ⟨a, vs, h1, h2, h3⟩ := h
    exact ⟨a, vs, h1, sqT_mono e h2, dvL_mono e ds vs h3⟩
  | .lst ds, _, h => by
    obtain ⟨a, vs, h1, h2, h3⟩ := h
    exact ⟨a, vs, h1, e.l h2, dvL_mono e ds vs h3⟩
  | .dic kvs, _, h => by
    obtain ⟨a, us, h1, h2, h3⟩ := h
    exact ⟨a, us, h1, dicAt_mono e h2, dvK_mono e kvs us h3⟩
  | .exc c, _, h => by
    obtain ⟨hc, a, h1, h2⟩ := h
    exact ⟨hc, a, h1, e.x h2⟩
  | .fn _, _, h => h
  | .clo _ _, _, h => h.elim
  | .scr ns, _, h => by
    obtain ⟨a, h1, h2⟩ := h
    exact ⟨a, h1, e.seq h2⟩
theorem dvL_mono {G : Gt} {H H' : Hp} (e : Same H H') : ∀ (ds : List D) (vs : List V), DvL G H ds vs → DvL G H' ds vs
  | [], _, h => h
  | d :: ds, _, h => by
    obtain ⟨v, r, h1, h2, h3⟩ := h
    exact ⟨v, r, h1, dv_mono e d v h2, dvL_mono e ds r h3⟩
theorem dvK_mono {G : Gt} {H H' : Hp} (e : Same H H') : ∀ (ds : List (Str × D)) (vs : List (Str × V)), DvK G H ds vs → DvK G H' ds vs
  | [], _, h => h
  | (k, d) :: ds, _, h => by
    obtain ⟨v, r, h1, h2, h3⟩ := h
    exact ⟨v, r, h1, dv_mono e d v h2, dvK_mono e ds r h3⟩
end
def hid (H : Hp) (O : List Addr) : Hp := fun a => if a ∈ O then none else H a
theorem hid_full {H : Hp} {O : List Addr} : L2.Same (hid H O) H := fun b o h => by
  unfold hid at h
  split at h
  · cases h
  · exact h
theorem hid_same {H : Hp} {O : List Addr} : Same (hid H O) H := Same.of hid_full
theorem hid_mono {H H' : Hp} {O : List Addr} (e : Same H H') : Same (hid H O) (hid H' O) := fun b o h n => by
  unfold hid at h ⊢
  split at h
  · cases h
  · rename_i hn
    rw [if_neg hn]
    exact e _ _ h n
theorem hid_sub {H : Hp} {O O' : List Addr} (e : ∀ p ∈ O', p ∈ O) : Same (hid H O) (hid H O') := fun b o h _ => by
  unfold hid at h ⊢
  split at h
  · cases h
  · rename_i hn
    rw [if_neg (fun q => hn (e _ q))]
    exact h
theorem hid_upd {H : Hp} {O : List Addr} {p : Addr} {o : HO} (hp : p ∈ O) : hid (upd H p o) O = hid H O := by
  funext b
  unfold hid
  by_cases hb : b ∈ O
  · rw [if_pos hb, if_pos hb]
  · rw [if_neg hb, if_neg hb, upd_ne (fun e => hb (by rw [e]; exact hp))]
theorem hid_at {H : Hp} {O : List Addr} {a : Addr} (h : a ∉ O) : hid H O a = H a := by
  unfold hid
  rw [if_neg h]
theorem full_upd' {H : Hp} {p : Addr} {o : HO} (h : H p = none) : L2.Same H (upd H p o) := fun b x e => by
  rw [upd_ne (ne_of_none e h)]
  exact e
theorem same_upd' {H : Hp} {p : Addr} {o : HO} (h : H p = none) : Same H (upd H p o) := Same.of (full_upd' h)
theorem stp_upd' [Tbls] {H : Hp} {p : Addr} {o : HO} (h : H p = none) : Stp H (upd H p o) := Stp.of (full_upd' h)
/-- nothing stands at p but a table -/
def BN (B : Hp) (p : Addr) : Prop := ∀ o, B p = some o → ∃ ps, o = .tbl ps
theorem BN.none {B : Hp} {p : Addr} (h : B p = none) : BN B p := fun o e => by
  rw [h] at e
  cases e
theorem BN.of {B H : Hp} {p : Addr} (s : Same B H) (h : BN H p) : BN B p := fun o e => Classical.byContradiction fun n => by
  exact n (h o (s _ _ e fun ps z => n ⟨ps, z⟩))
theorem BN.ne {B : Hp} {p b : Addr} {o : HO} (h : BN B p) (e : B b = some o) (n : ∀ ps, o ≠ .tbl ps) : b ≠ p := fun z => by
  rw [z] at e
  obtain ⟨ps, q⟩ := h o e
  exact n ps q
/-- a list or a dict of one's own is written -/
theorem Stp.own [Tbls] {B H : Hp} {p : Addr} {o o' : HO} (s : Stp B H) (hB : BN B p) (hp : H p = some o) (l : Lk o) : Stp B (upd H p o') :=
  ⟨fun b u hb n => by rw [upd_ne (hB.ne hb n)]; exact s.ext _ _ hb n,
    fun t => tab_but (fun b u e nl => by
      rw [upd_ne fun z => by
        rw [z, hp] at e
        cases e
        exact nl l]
      exact e) (s.tab t)⟩
theorem Stp.own_t [Tbls] {B H : Hp} {p : Addr} {o o' : HO} (s : Stp B H) (hp : H p = some o) (l : Lk o) (t : TabQ B) : TabQ (upd H p o') := tab_but (fun b u e nl => by
  rw [upd_ne fun z => by
    rw [z, hp] at e
    cases e
    exact nl l]
  exact e) (s.tab t)
structure OkO [Tbls] (O : List Addr) (H : Hp) : Prop where
  at_ : ∀ p ∈ O, ∃ o, H p = some o ∧ Lk o
  tab : TabQ H
theorem OkO.mono [Tbls] {O : List Addr} {H H' : Hp} (h : OkO O H) (e : Stp H H') : OkO O H' := ⟨fun p hp => by
  obtain ⟨o, q, l⟩ := h.at_ p hp
  exact ⟨o, e.ext _ _ q l.nt, l⟩, e.tab h.tab⟩
theorem OkO.fresh [Tbls] {O : List Addr} {H : Hp} {p : Addr} (h : OkO O H) (hp : H p = none) : p ∉ O := fun q => by
  obtain ⟨o, e, _⟩ := h.at_ p q
  rw [hp] at e
  cases e
/-- one more that is one's own -/
theorem OkO.cons [Tbls] {O : List Addr} {H : Hp} {p : Addr} {o : HO} (h : OkO O H) (hp : H p = some o) (l : Lk o) : OkO (p :: O) H := ⟨fun q hq => by
  rcases List.mem_cons.mp hq with rfl | hq
  · exact ⟨o, hp, l⟩
  · exact h.at_ q hq, h.tab⟩
/-- own lists, one for each address -/
def OwnL (G : Gt) (O : List Addr) (H : Hp) : List (List D) → List Addr → Prop
  | [], ps => ps = []
  | ds :: r, ps => ∃ q vs t, ps = q :: t ∧ q ∈ O ∧ H q = some (.lst vs) ∧ DvL G (hid H O) ds vs ∧ OwnL G O H r t
/-- into a heap in which the same stands -/
theorem OwnL.move {G : Gt} {O O' : List Addr} {H H' : Hp} (s : Same (hid H O) (hid H' O')) : ∀ {dss : List (List D)} {ps : List Addr}, (∀ p ∈ ps, p ∈ O → p ∈ O' ∧ ∀ vs, H p = some (.lst vs) → H' p = some (.lst vs)) → OwnL G O H dss ps → OwnL G O' H' dss ps
  | [], _, _, h => h
  | ds :: r, _, hh, h => by
    obtain ⟨q, vs, t, rfl, h1, h2, h3, h4⟩ := h
    have z := hh q (List.mem_cons_self ..) h1
    exact ⟨q, vs, t, rfl, z.1, z.2 vs h2, dvL_mono s ds vs h3, OwnL.move s (fun p hp => hh p (List.mem_cons_of_mem _ hp)) h4⟩
/-- one slot -/
def SvOk (G : Gt) (O : List Addr) (H : Hp) : SV → Option V → Prop
  | .un, _ => True
  | .pv d, x => ∃ v, x = some v ∧ Dv G (hid H O) d v
  | .ow ds, x => ∃ p vs, x = some (.ref p) ∧ p ∈ O ∧ H p = some (.lst vs) ∧ DvL G (hid H O) ds vs
  | .ow2 dss, x => ∃ p ps, x = some (.ref p) ∧ p ∈ O ∧ H p = some (.lst (ps.map V.ref)) ∧ OwnL G O H dss ps
structure Rep [Tbls] (G : Gt) (O : List Addr) (ρ : Env) (σ : L2.St) (H : Hp) : Prop where
  len : σ.length = ρ.length
  at_ : ∀ (i : Nat) (s : SV) (x : Option V), ρ[i]? = some s → σ[i]? = some x → SvOk G O H s x
  ok : OkO O H
theorem SvOk.mono {G : Gt} {O : List Addr} {H H' : Hp} (e : Same H H') : ∀ {s : SV} {x : Option V}, SvOk G O H s x → SvOk G O H' s x
  | .un, _, _ => True.intro
  | .pv d, _, h => by
    obtain ⟨v, h1, h2⟩ := h
    exact ⟨v, h1, dv_mono (hid_mono e) d v h2⟩
  | .ow ds, _, h => by
    obtain ⟨p, vs, h1, h2, h3, h4⟩ := h
    exact ⟨p, vs, h1, h2, e.l h3, dvL_mono (hid_mono e) ds vs h4⟩
  | .ow2 dss, _, h => by
    obtain ⟨p, ps, h1, h2, h3, h4⟩ := h
    exact ⟨p, ps, h1, h2, e.l h3, h4.move (hid_mono e) fun p _ hp => ⟨hp, fun vs hv => e.l hv⟩⟩
theorem Rep.mono [Tbls] {G : Gt} {O : List Addr} {ρ : Env} {σ : L2.St} {H H' : Hp} (r : Rep G O ρ σ H) (e : Stp H H') : Rep G O ρ σ H' :=
  ⟨r.len, fun i s x h1 h2 => (r.at_ i s x h1 h2).mono e.ext, r.ok.mono e⟩
variable [Tbls]
abbrev CW (G : Gt) (W : WX) : Nat → L2.St → Hp → Prop := fun c σ H => W (.ref (G.cls c)) none σ H
/-- what is wanted of a result -/
def Fin {α : Type} (G : Gt) (W : WX) (r : R α) (σ : L2.St) (H : Hp) (Q : α → Hp → Prop) : Prop := match r with
  | .ok a => ∀ H', Stp H H' → Q a H'
  | .exc c => ∀ H', Stp H H' → W (.ref (G.cls c)) none σ H'
  | .bad => False
def tD (G : Gt) (W : WX) (f : Env → R D) : TE := fun σ H Q => ∃ O ρ, Rep G O ρ σ H ∧ Fin G W (f ρ) σ H fun d H' => ∀ v, Dv G (hid H' O) d v → Q v H'
def tDT (G : Gt) (W : WX) (f : Env → R Bool) : TT := fun σ H Q => ∃ O ρ, Rep G O ρ σ H ∧ Fin G W (f ρ) σ H fun b H' => Q b H'
def tDA (G : Gt) (W : WX) (f : Env → R (List D)) : TA := fun σ H Q => ∃ O ρ, Rep G O ρ σ H ∧ Fin G W (f ρ) σ H fun ds H' => ∀ vs, DvL G (hid H' O) ds vs → Q vs H'
section
variable {X : Cx} {e : Expr}
theorem pe_imp {t t' : TE} (h : PE X e t) (i : ∀ σ H Q, t' σ H Q → t σ H Q) : PE X e t' := ⟨fun pins s σ H Q I q => h.run pins s σ H Q I (i σ H Q q)⟩
theorem pt_imp {t t' : TT} (h : PT X e t) (i : ∀ σ H Q, t' σ H Q → t σ H Q) : PT X e t' := ⟨fun pins s σ H Q I q => h.run pins s σ H Q I (i σ H Q q)⟩
theorem pw_imp {t t' : TT} (h : PW X e t) (i : ∀ σ H Q, t' σ H Q → t σ H Q) : PW X e t' := ⟨fun wh pins s σ H Q I q => h.run wh pins s σ H Q I (i σ H Q q)⟩
theorem pa_imp {es : List Expr} {t t' : TA} (h : PA X es t) (i : ∀ σ H Q, t' σ H Q → t σ H Q) : PA X es t' := ⟨fun pos pins s σ H Q I q => h.run pos pins s σ H Q I (i σ H Q q)⟩
theorem ps_imp {st : Stmt} {t t' : TS} (h : PS X st t) (i : ∀ E σ H, t' E σ H → t E σ H) : PS X st t' := ⟨fun pins s σ H E I q => h.run pins s σ H E I (i E σ H q)⟩
theorem pss_imp {st : List Stmt} {t t' : TS} (h : PSs X st t) (i : ∀ E σ H, t' E σ H → t E σ H) : PSs X st t' := ⟨fun pins s σ H E I q => h.run pins s σ H E I (i E σ H q)⟩
end
section
variable {G : Gt} {W : WX} {α β : Type} {σ : L2.St} {H : Hp}
theorem Fin.imp {r : R α} {Q Q' : α → Hp → Prop} (h : Fin G W r σ H Q) (i : ∀ a H', Stp H H' → Q a H' → Q' a H') : Fin G W r σ H Q' := by
  cases r with
  | ok a => exact fun H' s => i a H' s (h H' s)
  | exc c => exact h
  | bad => exact h.elim
/-- first r, then what f makes of it, from every later heap -/
theorem Fin.bind {r : R α} {f : α → R β} {Q : β → Hp → Prop} (h : Fin G W (r.bind f) σ H Q) : Fin G W r σ H fun a H1 => Fin G W (f a) σ H1 Q := by
  cases r with
  | ok a =>
    intro H1 s1
    have h' : Fin G W (f a) σ H Q := h
    show Fin G W (f a) σ H1 Q
    generalize f a = z at h' ⊢
    cases z with
    | ok b => exact fun H2 s2 => h' H2 (s1.trans s2)
    | exc c => exact fun H2 s2 => h' H2 (s1.trans s2)
    | bad => exact h'.elim
  | exc c => exact h
  | bad => exact h.elim
end
end FD
namespace FD
open PySem PySem.Spec PyProof.Rows L2
variable [Tbls]
/-- what is wanted of a plain operation's result -/
def FinV (G : Gt) (O : List Addr) (H : Hp) (r : R D) (Q : VK) : Prop := match r with
  | .ok d => ∀ v H', Stp H H' → Dv G (hid H' O) d v → Q v H'
  | _ => False
theorem FinV.ok {G : Gt} {O : List Addr} {H : Hp} {d : D} {Q : VK} (h : FinV G O H (.ok d) Q) {v : V} {H' : Hp} (s : Stp H H') (x : Dv G (hid H' O) d v) : Q v H' := h v H' s x
theorem FinV.grd {G : Gt} {O : List Addr} {H : Hp} {c : Bool} {r : R D} {Q : VK} (h : FinV G O H (guard' c r) Q) : c = true ∧ FinV G O H r Q := by
  cases c with
  | true => exact ⟨rfl, h⟩
  | false => exact h.elim
/-- two data -/
def rD (G : Gt) (g : D → D → R D) : R2 := fun x y H Q => ∃ O a b, OkO O H ∧ Dv G (hid H O) a x ∧ Dv G (hid H O) b y ∧ FinV G O H (g a b) Q
theorem opr_imp {X : Cx} {f : Value → Value → Sem Value} {r r' : R2} (h : OpR X f r) (i : ∀ x y H Q, r' x y H Q → r x y H Q) : OpR X f r' :=
  fun pins s σ H x y v u Q I rx ry q => h pins s σ H x y v u Q I rx ry (i x y H Q q)
theorem lim_eq : lim = sizeLine := sizeLine_eq.symm
theorem dvL_len {G : Gt} {H : Hp} : ∀ {ds : List D} {vs : List V}, DvL G H ds vs → ds.length = vs.length
  | [], _, h => by cases h; rfl
  | d :: ds, _, h => by
    obtain ⟨v, r, rfl, _, h3⟩ := h
    exact congrArg (· + 1) (dvL_len h3)
theorem dvL_append {G : Gt} {H : Hp} : ∀ {ds es : List D} {vs us : List V}, DvL G H ds vs → DvL G H es us → DvL G H (ds ++ es) (vs ++ us)
  | [], _, _, _, h, q => by cases h; exact q
  | d :: ds, es, _, us, h, q => by
    obtain ⟨v, r, rfl, h2, h3⟩ := h
    exact ⟨v, r ++ us, rfl, h2, dvL_append h3 q⟩
theorem dvL_get {G : Gt} {H : Hp} : ∀ {ds : List D} {vs : List V} {i : Nat} {d : D}, DvL G H ds vs → ds[i]? = some d → ∃ v, vs[i]? = some v ∧ Dv G H d v
  | [], _, _, _, _, e => by simp at e
  | x :: ds, _, 0, d, h, e => by
    obtain ⟨v, r, rfl, h2, h3⟩ := h
    simp at e
    subst e
    exact ⟨v, rfl, h2⟩
  | x :: ds, _, i + 1, d, h, e => by
    obtain ⟨v, r, rfl, h2, h3⟩ := h
    exact dvL_get (i := i) h3 (by simpa using e)
theorem dvL_take {G : Gt} {H : Hp} : ∀ {ds : List D} {vs : List V} (n : Nat), DvL G H ds vs → DvL G H (ds.take n) (vs.take n)
  | _, _, 0, _ => by rw [List.take_zero, List.take_zero]; rfl
  | [], _, n + 1, h => by cases h; rfl
  | d :: ds, _, n + 1, h => by
    obtain ⟨v, r, rfl, h2, h3⟩ := h
    exact ⟨v, r.take n, rfl, h2, dvL_take n h3⟩
theorem dvL_drop {G : Gt} {H : Hp} : ∀ {ds : List D} {vs : List V} (n : Nat), DvL G H ds vs → DvL G H (ds.drop n) (vs.drop n)
  | _, _, 0, h => h
  | [], _, n + 1, h => by cases h; rfl
  | d :: ds, _, n + 1, h => by
    obtain ⟨v, r, rfl, h2, h3⟩ := h
    exact dvL_drop n h3
theorem dvL_rep {G : Gt} {H : Hp} {ds : List D} {vs : List V} (h : DvL G H ds vs) : ∀ n : Nat, DvL G H (repeat' ds n) (List.replicate n vs).flatten
  | 0 => rfl
  | n + 1 => by
    rw [List.replicate_succ, List.flatten_cons]
    exact dvL_append h (dvL_rep h n)
theorem dvL_set {G : Gt} {H : Hp} {d : D} {v : V} (x : Dv G H d v) : ∀ {ds : List D} {vs : List V} (n : Nat), DvL G H ds vs → DvL G H (ds.set n d) (vs.set n v)
  | [], _, n, h => by cases h; cases n <;> rfl
  | _ :: ds, _, 0, h => by
    obtain ⟨v, r, rfl, h2, h3⟩ := h
    exact ⟨_, _, rfl, x, h3⟩
  | _ :: ds, _, n + 1, h => by
    obtain ⟨v, r, rfl, h2, h3⟩ := h
    exact ⟨_, _, rfl, h2, dvL_set x n h3⟩
theorem strAdd_eq (x y : Str) : strAdd x y = x ++ y := by
  show (⟨(x.cps.toList ++ y.cps.toList).toArray⟩ : Str) = ⟨x.cps ++ y.cps⟩
  congr 1
  apply Array.ext'
  simp
theorem strLen (x : Str) : x.cps.toList.length = x.length := by
  show x.cps.toList.length = x.cps.size
  simp
/-- a new tuple, a new list of data -/
theorem dv_newT {G : Gt} {O : List Addr} {H : Hp} {p : Addr} {ds : List D} {vs : List V} (ok : OkO O H) (hp : H p = none) (h : DvL G (hid H O) ds vs) : Dv G (hid (upd H p (.tup vs)) O) (.tup ds) (.ref p) :=
  ⟨p, vs, rfl, .inl (.inl (by rw [hid_at (ok.fresh hp)]; exact upd_same)), dvL_mono (hid_mono (same_upd' hp)) ds vs h⟩
theorem dv_newL {G : Gt} {O : List Addr} {H : Hp} {p : Addr} {ds : List D} {vs : List V} (ok : OkO O H) (hp : H p = none) (h : DvL G (hid H O) ds vs) : Dv G (hid (upd H p (.lst vs)) O) (.lst ds) (.ref p) :=
  ⟨p, vs, rfl, by rw [hid_at (ok.fresh hp)]; exact upd_same, dvL_mono (hid_mono (same_upd' hp)) ds vs h⟩
section
variable {X : Cx} {G : Gt}
theorem od_add (hK : X.K = G.K) : OpR X (binaryOp .Add) (rD G (binEv .add)) := by
  have base : OpR X (binaryOp .Add) _ := (op_add (X := X)).or ((op_add_str (X := X)).or ((op_catA (X := X)).or (op_cat (X := X))))
  refine opr_imp base fun x y H Q h => ?_
  obtain ⟨O, a, b, ok, ha, hb, f⟩ := h
  cases a with
  | int i =>
    cases b with
    | int j =>
      cases ha
      cases hb
      exact .inl ⟨i, j, rfl, rfl, f.ok (Stp.refl H) rfl⟩
    | _ => exact f.elim
  | str i =>
    cases b with
    | str j =>
      cases ha
      cases hb
      obtain ⟨c, f⟩ := f.grd
      refine .inr (.inl ⟨i, j, rfl, rfl, ?_, ?_⟩)
      · have := of_decide_eq_true c
        rw [strLen, strLen, lim_eq] at this
        exact this
      · exact f.ok (Stp.refl H) (by rw [strAdd_eq]; rfl)
    | _ => exact f.elim
  | tup xs =>
    cases b with
    | tup ys =>
      obtain ⟨p, vs, rfl, h1, h2⟩ := ha
      obtain ⟨q, us, rfl, h3, h4⟩ := hb
      obtain ⟨c, f⟩ := f.grd
      have l1 := dvL_len h2
      have l2 := dvL_len h4
      have c' := of_decide_eq_true c
      rw [lim_eq] at c'
      rw [← hK] at h1 h3
      refine .inr (.inr (.inl ⟨p, q, vs, us, rfl, rfl, sqT_mono hid_same h1, sqT_mono hid_same h3, by omega, ?_⟩))
      refine ⟨fun e => ?_, fun e1 e => ?_, fun e1 e2 t ht => f.ok (stp_upd' ht) (dv_newT ok ht (dvL_append h2 h4))⟩
      · subst e
        have : xs = [] := List.eq_nil_of_length_eq_zero (by simpa using l1)
        subst this
        exact f.ok (Stp.refl H) ⟨q, us, rfl, by rw [← hK]; exact h3, h4⟩
      · subst e
        have : ys = [] := List.eq_nil_of_length_eq_zero (by simpa using l2)
        subst this
        rw [List.append_nil] at f
        exact f.ok (Stp.refl H) ⟨p, vs, rfl, by rw [← hK]; exact h1, h2⟩
    | _ => exact f.elim
  | lst xs =>
    cases b with
    | lst ys =>
      obtain ⟨p, vs, rfl, h1, h2⟩ := ha
      obtain ⟨q, us, rfl, h3, h4⟩ := hb
      obtain ⟨c, f⟩ := f.grd
      have l1 := dvL_len h2
      have l2 := dvL_len h4
      have c' := of_decide_eq_true c
      rw [lim_eq] at c'
      refine .inr (.inr (.inr ⟨p, q, vs, us, rfl, rfl, hid_full _ _ h1, hid_full _ _ h3, by omega, fun t ht => ?_⟩))
      exact f.ok (stp_upd' ht) (dv_newL ok ht (dvL_append h2 h4))
    | _ => exact f.elim
  | _ => cases b <;> exact f.elim
theorem od_sub : OpR X (binaryOp .Sub) (rD G (binEv .sub)) := by
  refine opr_imp (op_sub (X := X)) fun x y H Q h => ?_
  obtain ⟨O, a, b, ok, ha, hb, f⟩ := h
  cases a with
  | int i =>
    cases b with
    | int j =>
      cases ha
      cases hb
      exact ⟨i, j, rfl, rfl, f.ok (Stp.refl H) rfl⟩
    | _ => exact f.elim
  | _ => cases b <;> exact f.elim
theorem od_fdiv : OpR X (binaryOp .FloorDiv) (rD G (binEv .fdiv)) := by
  refine opr_imp (op_fdiv (X := X)) fun x y H Q h => ?_
  obtain ⟨O, a, b, ok, ha, hb, f⟩ := h
  cases a with
  | int i =>
    cases b with
    | int j =>
      cases ha
      cases hb
      obtain ⟨c, f⟩ := f.grd
      simp only [Bool.and_eq_true, decide_eq_true_eq] at c
      exact ⟨i, j, rfl, rfl, c, f.ok (Stp.refl H) rfl⟩
    | _ => exact f.elim
  | _ => cases b <;> exact f.elim
theorem od_mod : OpR X (binaryOp .Mod) (rD G (binEv .mod)) := by
  refine opr_imp (op_mod (X := X)) fun x y H Q h => ?_
  obtain ⟨O, a, b, ok, ha, hb, f⟩ := h
  cases a with
  | int i =>
    cases b with
    | int j =>
      cases ha
      cases hb
      obtain ⟨c, f⟩ := f.grd
      exact ⟨i, j, rfl, rfl, of_decide_eq_true c, f.ok (Stp.refl H) rfl⟩
    | _ => exact f.elim
  | _ => cases b <;> exact f.elim
theorem od_pow : OpR X (binaryOp .Pow) (rD G (binEv .pow)) := by
  refine opr_imp (op_pow (X := X)) fun x y H Q h => ?_
  obtain ⟨O, a, b, ok, ha, hb, f⟩ := h
  cases a with
  | int i =>
    cases b with
    | int j =>
      cases ha
      cases hb
      obtain ⟨c, f⟩ := f.grd
      simp only [Bool.and_eq_true, decide_eq_true_eq] at c
      exact ⟨i, j, rfl, rfl, ⟨c.1.1, by omega, c.2⟩, f.ok (Stp.refl H) rfl⟩
    | _ => exact f.elim
  | _ => cases b <;> exact f.elim
theorem rep_len {α : Type} (xs : List α) : ∀ n : Nat, (repeat' xs n).length = xs.length * n
  | 0 => rfl
  | n + 1 => by
    show (xs ++ repeat' xs n).length = _
    rw [List.length_append, rep_len xs n, Nat.mul_succ, Nat.add_comm]
theorem rep_flat {α : Type} (xs : List α) : ∀ n : Nat, (List.replicate n xs).flatten = repeat' xs n
  | 0 => rfl
  | n + 1 => by rw [List.replicate_succ, List.flatten_cons, rep_flat xs n]; rfl
theorem cmul_of {i j : Int} (h : mulOk i j = true) : CMul i j := by
  unfold mulOk at h
  simp only [Bool.or_eq_true, decide_eq_true_eq] at h
  rcases h with h | h
  · exact .inl ⟨by omega, by omega⟩
  · exact .inr ⟨by omega, by omega⟩
theorem foldl_cat {α : Type} (xs : Array α) : ∀ (n : Nat) (acc : Array α), ((List.replicate n xs).foldl (· ++ ·) acc).toList = acc.toList ++ repeat' xs.toList n
  | 0, acc => by simp [repeat']
  | n + 1, acc => by
    rw [List.replicate_succ, List.foldl_cons, foldl_cat xs n]
    simp [repeat', List.append_assoc]
theorem mul_txt (x : Str) (n : Int) : Txt.mul x n = ⟨(repeat' x.cps.toList n.toNat).toArray⟩ := by
  unfold Txt.mul
  by_cases h1 : n < 1
  · rw [if_pos h1, show n.toNat = 0 by omega]
    rfl
  · rw [if_neg h1]
    split
    · rename_i hc
      simp only [Bool.or_eq_true, beq_iff_eq] at hc
      rcases hc with hc | hc
      · subst hc
        show x = ⟨(x.cps.toList ++ []).toArray⟩
        rw [List.append_nil]
      · have hx : x.cps.toList = [] := List.eq_nil_of_length_eq_zero (by rw [strLen]; exact hc)
        have : ∀ m, repeat' ([] : List Nat) m = [] := fun m => by
          induction m with
          | zero => rfl
          | succ m ih => show [] ++ repeat' [] m = []; rw [ih]; rfl
        rw [hx, this]
        obtain ⟨c⟩ := x
        show (⟨c⟩ : Str) = ⟨#[]⟩
        congr 1
        apply Array.ext'
        exact hx
    · congr 1
      apply Array.ext'
      rw [foldl_cat]
      simp
theorem op_mulS : OpR X (binaryOp .Mult) (fun x y H Q => ∃ z j, x = .str z ∧ y = .int j ∧ -1000000 < j ∧ j < 1000000 ∧ z.length * j.toNat ≤ sizeLine ∧ Q (.str ⟨(repeat' z.cps.toList j.toNat).toArray⟩) H) := by
  intro pins s σ H x y v u Q I rx ry h
  obtain ⟨z, j, rfl, rfl, h1, h2, h3, q⟩ := h
  obtain ⟨t, rfl⟩ := rx
  obtain ⟨t', rfl⟩ := ry
  have hs : sizeLine = 16777216 := sizeLine_eq
  refine PySem.SB.mul ⟨?_, fun hn hc => ?_, fun hn hc => ?_⟩ fun t' k => ⟨.str _, H, I.tok _, ⟨_, by rw [mul_txt]⟩, q⟩
  · rw [decide_eq_false (show ¬ j < -(2 ^ 63 : Int) by omega), decide_eq_false (show ¬ j ≥ 2 ^ 63 by omega)]
    rfl
  · have hz : (z.length : Int) ≤ 16777216 := by
      have : z.length ≤ z.length * j.toNat := Nat.le_mul_of_pos_right _ (by omega)
      omega
    have : (16777216 : Int) ≤ (2 ^ 63 - 1) / j := by
      rw [Int.le_ediv_iff_mul_le (by omega)]
      omega
    omega
  · exact decide_eq_false (by omega)
theorem od_mul (hK : G.K = X.K) : OpR X (binaryOp .Mult) (rD G (binEv .mul)) := by
  have base : OpR X (binaryOp .Mult) _ := (op_mul (X := X)).or ((op_rep (X := X)).or ((op_mulS (X := X)).or (op_repT (X := X))))
  refine opr_imp base fun x y H Q h => ?_
  obtain ⟨O, a, b, ok, ha, hb, f⟩ := h
  cases a with
  | int i =>
    cases b with
    | int j =>
      cases ha
      cases hb
      obtain ⟨c, f⟩ := f.grd
      exact .inl ⟨i, j, rfl, rfl, cmul_of c, f.ok (Stp.refl H) rfl⟩
    | _ => exact f.elim
  | lst xs =>
    cases b with
    | int j =>
      obtain ⟨p, vs, rfl, h1, h2⟩ := ha
      cases hb
      obtain ⟨c, f⟩ := f.grd
      simp only [Bool.and_eq_true, decide_eq_true_eq] at c
      have l1 := dvL_len h2
      refine .inr (.inl ⟨p, j, vs, rfl, rfl, hid_full _ _ h1, by omega, by omega, ?_, fun t ht => ?_⟩)
      · rw [← l1, ← lim_eq]
        exact c.2
      · exact f.ok (stp_upd' ht) (dv_newL ok ht (dvL_rep h2 _))
    | _ => exact f.elim
  | str z =>
    cases b with
    | int j =>
      cases ha
      cases hb
      obtain ⟨c, f⟩ := f.grd
      simp only [Bool.and_eq_true, decide_eq_true_eq] at c
      refine .inr (.inr (.inl ⟨z, j, rfl, rfl, c.1.1, c.1.2, ?_, f.ok (Stp.refl H) rfl⟩))
      rw [← strLen, ← lim_eq]
      exact c.2
    | _ => exact f.elim
  | tup xs =>
    cases b with
    | int j =>
      obtain ⟨p, vs, rfl, h1, h2⟩ := ha
      cases hb
      obtain ⟨c, f⟩ := f.grd
      simp only [Bool.and_eq_true, decide_eq_true_eq, Bool.not_eq_true', List.isEmpty_eq_false_iff] at c
      have l1 := dvL_len h2
      rw [hK] at h1
      refine .inr (.inr (.inr ⟨p, j, vs, rfl, rfl, sqT_mono hid_same h1, fun e => c.1 ?_, c.2.1, c.2.2.1, by rw [← l1]; exact c.2.2.2, fun t ht => ?_⟩))
      · rw [e] at l1
        exact List.length_eq_zero_iff.mp l1
      · exact f.ok (stp_upd' ht) (dv_newT ok ht (dvL_rep h2 _))
    | _ => exact f.elim
  | _ => cases b <;> exact f.elim
end
mutual
def py : D → PyData
  | .non => .none
  | .bl b => .bool b
  | .int i => .int i
  | .str x => .str x
  | .lst xs => .list (pys xs)
  | .tup xs => .tuple (pys xs)
  | _ => .none
def pys : List D → List PyData
  | [] => []
  | d :: r => py d :: pys r
end
mutual
theorem eqv_py : ∀ (n m : Nat) (a b : D), shp n a = true → shp m b = true → eqv a b = PyData.eqv (py a) (py b)
  | _, _, .non, b, _, hb => by cases b <;> first | rfl | (cases hb)
  | _, _, .bl x, b, _, hb => by cases b <;> first | rfl | (cases hb)
  | _, _, .int i, b, _, hb => by cases b <;> first | rfl | (cases hb)
  | _, _, .str x, b, _, hb => by cases b <;> first | rfl | (cases hb)
  | 0, _, .lst xs, _, h, _ => by cases h
  | n + 1, m, .lst xs, b, h, hb => by
    cases b with
    | lst ys =>
      cases m with
      | zero => cases hb
      | succ m =>
        show eqvs xs ys = PyData.eqv (.list (pys xs)) (.list (pys ys))
        rw [PyData.eqv]
        exact eqvs_py n m xs ys h hb
    | _ => first | rfl | (cases hb)
  | 0, _, .tup xs, _, h, _ => by cases h
  | n + 1, m, .tup xs, b, h, hb => by
    cases b with
    | tup ys =>
      cases m with
      | zero => cases hb
      | succ m =>
        show eqvs xs ys = PyData.eqv (.tuple (pys xs)) (.tuple (pys ys))
        rw [PyData.eqv]
        exact eqvs_py n m xs ys h hb
    | _ => first | rfl | (cases hb)
  | _, _, .dic _, _, h, _ => by cases h
  | _, _, .exc _, _, h, _ => by cases h
  | _, _, .fn _, _, h, _ => by cases h
  | _, _, .clo _ _, _, h, _ => by cases h
  | _, _, .scr _, _, h, _ => by cases h
theorem eqvs_py : ∀ (n m : Nat) (a b : List D), shps n a = true → shps m b = true → eqvs a b = PyData.eqvAll (pys a) (pys b)
  | _, _, [], [], _, _ => by rfl
  | _, _, [], _ :: _, _, _ => by rfl
  | _, _, _ :: _, [], _, _ => by rfl
  | n, m, x :: xs, y :: ys, h, hb => by
    have h' : (shp n x && shps n xs) = true := h
    have hb' : (shp m y && shps m ys) = true := hb
    rw [Bool.and_eq_true] at h' hb'
    show (eqv x y && eqvs xs ys) = PyData.eqvAll (py x :: pys xs) (py y :: pys ys)
    rw [PyData.eqvAll, eqv_py n m x y h'.1 hb'.1, eqvs_py n m xs ys h'.2 hb'.2]
end
mutual
theorem dp_of {K : PySem.W.Frag} {G : Gt} (hK : G.K = K) {H H' : Hp} (e : Same H H') : ∀ (n : Nat) (d : D) (v : V), shp n d = true → Dv G H d v → Dp K H' v (py d)
  | _, .non, _, _, h => by cases h; exact Dp.non
  | _, .bl b, _, _, h => by cases h; exact Dp.bl b
  | _, .int b, _, _, h => by cases h; exact Dp.int b
  | _, .str b, _, _, h => by cases h; exact Dp.str b
  | 0, .lst xs, _, q, _ => by cases q
  | n + 1, .lst xs, _, q, h => by
    obtain ⟨a, vs, rfl, h1, h2⟩ := h
    exact Dp.lst (.inl (.inl (e.l h1))) (dps_of hK e n xs vs q h2)
  | 0, .tup xs, _, q, _ => by cases q
  | n + 1, .tup xs, _, q, h => by
    obtain ⟨a, vs, rfl, h1, h2⟩ := h
    rw [hK] at h1
    exact Dp.tup (sqT_mono e h1) (dps_of hK e n xs vs q h2)
  | _, .dic _, _, q, _ => by cases q
  | _, .exc _, _, q, _ => by cases q
  | _, .fn _, _, q, _ => by cases q
  | _, .clo _ _, _, q, _ => by cases q
  | _, .scr _, _, q, _ => by cases q
theorem dps_of {K : PySem.W.Frag} {G : Gt} (hK : G.K = K) {H H' : Hp} (e : Same H H') : ∀ (n : Nat) (ds : List D) (vs : List V), shps n ds = true → DvL G H ds vs → DpAll K H' vs (pys ds)
  | _, [], _, _, h => by cases h; exact DpAll.nil
  | n, d :: ds, _, q, h => by
    obtain ⟨v, r, rfl, h1, h2⟩ := h
    have q' : (shp n d && shps n ds) = true := q
    rw [Bool.and_eq_true] at q'
    exact DpAll.cons (dp_of hK e n d v q'.1 h1) (dps_of hK e n ds r q'.2 h2)
end
theorem okStr_of {x : Str} (h : okStr x = true) : PyData.strOk x = true := by
  unfold okStr at h
  unfold PyData.strOk
  rw [← Array.all_toList]
  exact h
mutual
theorem lay_of : ∀ (n : Nat) (d : D), shp n d = true → (py d).canLay0 = true ∧ (py d).depth ≤ n
  | _, .non, _ => ⟨rfl, Nat.zero_le _⟩
  | _, .bl _, _ => ⟨rfl, Nat.zero_le _⟩
  | _, .int _, _ => ⟨rfl, Nat.zero_le _⟩
  | _, .str x, h => ⟨okStr_of h, Nat.zero_le _⟩
  | 0, .lst _, h => by cases h
  | n + 1, .lst xs, h => by
    obtain ⟨h1, h2⟩ := lays_of n xs h
    exact ⟨h1, Nat.succ_le_succ h2⟩
  | 0, .tup _, h => by cases h
  | n + 1, .tup xs, h => by
    obtain ⟨h1, h2⟩ := lays_of n xs h
    exact ⟨h1, Nat.succ_le_succ h2⟩
  | _, .dic _, h => by cases h
  | _, .exc _, h => by cases h
  | _, .fn _, h => by cases h
  | _, .clo _ _, h => by cases h
  | _, .scr _, h => by cases h
theorem lays_of : ∀ (n : Nat) (ds : List D), shps n ds = true → PyData.canLayAll0 (pys ds) = true ∧ PyData.depthAll (pys ds) ≤ n
  | _, [], _ => ⟨rfl, Nat.zero_le _⟩
  | n, d :: ds, h => by
    have h' : (shp n d && shps n ds) = true := h
    rw [Bool.and_eq_true] at h'
    obtain ⟨a1, a2⟩ := lay_of n d h'.1
    obtain ⟨b1, b2⟩ := lays_of n ds h'.2
    refine ⟨?_, Nat.max_le.mpr ⟨a2, b2⟩⟩
    show ((py d).canLay0 && PyData.canLayAll0 (pys ds)) = true
    rw [a1, b1]
    rfl
end
theorem shaped_of {d : D} (h : shp 60 d = true) : SeqAt.shaped (py d) = true := by
  obtain ⟨h1, h2⟩ := lay_of 60 d h
  unfold SeqAt.shaped
  rw [h1, decide_eq_true (Nat.le_trans h2 (by decide))]
  rfl
section
variable {X : Cx} {G : Gt}
theorem eqv_flat {a b : D} {x y : V} {H : Hp} (ha : Dv G H a x) (hb : Dv G H b y) (fa : flat a = true) (fb : flat b = true) : eqv a b = eqV x y := by
  cases a <;> first | exact absurd (show false = true from fa) Bool.false_ne_true | skip
  all_goals (cases ha; cases b <;> first | exact absurd (show false = true from fb) Bool.false_ne_true | (cases hb; rfl))
theorem flatV_of {a : D} {x : V} {H : Hp} (ha : Dv G H a x) (fa : flat a = true) : flatV x = true := by
  cases a <;> first | exact absurd (show false = true from fa) Bool.false_ne_true | (cases ha; rfl)
theorem scal_of {a b : D} {x y : V} {H : Hp} (ha : Dv G H a x) (hb : Dv G H b y) (h : strBy a b = true) : scal x y = true ∧ eqv a b = decide (x = y) := by
  cases a <;> first | exact absurd (show false = true from h) Bool.false_ne_true | skip
  all_goals (cases ha; cases b <;> first | exact absurd (show false = true from h) Bool.false_ne_true | skip)
  all_goals (cases hb; refine ⟨rfl, ?_⟩)
  all_goals first
    | exact (decide_eq_false (by intro e; cases e)).symm
    | (rename_i u v; show (u == v) = decide (V.str u = V.str v); rw [dec_str])
    | (rename_i u v; show (v == u) = decide (V.str v = V.str u); rw [dec_str])
theorem od_eq (hu : X.A.units + 64 < cLine) (hK : G.K = X.K) : OpR X (compareOp .Eq) (rD G (cmpEv .eq)) := by
  have base : OpR X (compareOp .Eq) _ := (op_eq (X := X)).or ((op_eqD (X := X) hu))
  refine opr_imp base fun x y H Q h => ?_
  obtain ⟨O, a, b, ok, ha, hb, f⟩ := h
  have gen : FinV G O H (guard' (eqOk a b) (.ok (.bl (eqv a b)))) Q → rEq x y H Q ∨ rEqD X.K x y H Q := fun f => by
    obtain ⟨c, f⟩ := f.grd
    unfold eqOk at c
    rw [Bool.or_eq_true, Bool.and_eq_true] at c
    rcases c with c | c
    · obtain ⟨h1, h2⟩ := scal_of ha hb c
      exact .inl ⟨h1, f.ok (Stp.refl H) (by rw [h2]; rfl)⟩
    · refine .inr ⟨py a, py b, dp_of hK hid_same 60 a x c.1 ha, dp_of hK hid_same 60 b y c.2 hb, shaped_of c.1, shaped_of c.2, f.ok (Stp.refl H) ?_⟩
      rw [eqv_py 60 60 a b c.1 c.2]
      rfl
  cases a with
  | scr ns =>
    cases b with
    | lst ys =>
      cases ys with
      | nil =>
        obtain ⟨p, rfl, h1⟩ := ha
        obtain ⟨q, vs, rfl, h2, h3⟩ := hb
        cases h3
        rw [hK] at h1
        have dpa : ∀ ns : List Int, DpAll X.K H (ns.map V.int) (ns.map PyData.int) := fun ns => by
          induction ns with
          | nil => exact DpAll.nil
          | cons n r ih => exact DpAll.cons (Dp.int n) ih
        have lay : ∀ ns : List Int, PyData.canLayAll0 (ns.map PyData.int) = true ∧ PyData.depthAll (ns.map PyData.int) ≤ 0 := fun ns => by
          induction ns with
          | nil => exact ⟨rfl, Nat.le_refl _⟩
          | cons n r ih => exact ⟨ih.1, Nat.max_le.mpr ⟨Nat.le_refl _, ih.2⟩⟩
        refine .inr ⟨.list (ns.map PyData.int), .list [], Dp.lst (hid_same.seq h1) (dpa ns), Dp.lst (.inl (.inl (hid_full _ _ h2))) DpAll.nil, ?_, rfl, f.ok (Stp.refl H) ?_⟩
        · unfold SeqAt.shaped
          have h5 : PyData.canLay0 (.list (ns.map PyData.int)) = true := (lay ns).1
          rw [h5, decide_eq_true (show PyData.depth (.list (ns.map PyData.int)) ≤ 64 from Nat.le_trans (Nat.succ_le_succ (lay ns).2) (by decide))]
          rfl
        · cases ns <;> rfl
      | cons _ _ => exact f.elim
    | _ => exact f.elim
  | _ => exact gen f
theorem od_ne (hu : X.A.units + 64 < cLine) (hK : G.K = X.K) : OpR X (compareOp .NotEq) (rD G (cmpEv .ne)) := by
  have base : OpR X (compareOp .NotEq) _ := (op_ne (X := X)).or ((op_neD (X := X) hu))
  refine opr_imp base fun x y H Q h => ?_
  obtain ⟨O, a, b, ok, ha, hb, f⟩ := h
  obtain ⟨c, f⟩ := f.grd
  unfold eqOk at c
  rw [Bool.or_eq_true, Bool.and_eq_true] at c
  rcases c with c | c
  · obtain ⟨h1, h2⟩ := scal_of ha hb c
    exact .inl ⟨h1, f.ok (Stp.refl H) (by rw [h2]; rfl)⟩
  · refine .inr ⟨py a, py b, dp_of hK hid_same 60 a x c.1 ha, dp_of hK hid_same 60 b y c.2 hb, shaped_of c.1, shaped_of c.2, f.ok (Stp.refl H) ?_⟩
    rw [eqv_py 60 60 a b c.1 c.2]
    rfl
theorem inV_of {a : D} {x : V} {H : Hp} (ha : Dv G H a x) (fa : flat a = true) : ∀ {ds : List D} {vs : List V}, DvL G H ds vs → ds.all flat = true → vs.all flatV = true ∧ inV x vs = inD a ds
  | [], _, h, _ => by cases h; exact ⟨rfl, rfl⟩
  | d :: ds, _, h, f => by
    obtain ⟨v, r, rfl, h1, h2⟩ := h
    rw [List.all_cons, Bool.and_eq_true] at f
    obtain ⟨i1, i2⟩ := inV_of ha fa h2 f.2
    refine ⟨by rw [List.all_cons, flatV_of h1 f.1, i1]; rfl, ?_⟩
    show (eqV v x || inV x r) = (eqv d a || inD a ds)
    rw [i2, eqv_flat h1 ha f.1 fa]
theorem dv_non {a : D} {x : V} {H : Hp} (h : Dv G H a x) : isNon a = decide (x = .non) := by
  cases a with
  | non => cases h; rfl
  | bl b => cases h; rfl
  | int b => cases h; rfl
  | str b => cases h; rfl
  | tup b => obtain ⟨_, _, rfl, _⟩ := h; rfl
  | lst b => obtain ⟨_, _, rfl, _⟩ := h; rfl
  | dic b => obtain ⟨_, _, rfl, _⟩ := h; rfl
  | exc b => obtain ⟨_, _, rfl, _⟩ := h; rfl
  | fn b => cases h; rfl
  | clo _ _ => exact h.elim
  | scr b => obtain ⟨_, rfl, _⟩ := h; rfl
theorem od_is : OpR X (compareOp .Is) (rD G (cmpEv .is)) := by
  have base : OpR X (compareOp .Is) _ := (op_isN (X := X)).or (op_isBl (X := X))
  refine opr_imp base fun x y H Q h => ?_
  obtain ⟨O, a, b, ok, ha, hb, f⟩ := h
  cases b with
  | non =>
    cases hb
    exact .inl ⟨rfl, f.ok (Stp.refl H) (by rw [← dv_non ha]; rfl)⟩
  | bl y =>
    cases a with
    | bl x =>
      cases ha
      cases hb
      exact .inr ⟨x, y, rfl, rfl, f.ok (Stp.refl H) (by cases x <;> cases y <;> rfl)⟩
    | _ => exact f.elim
  | _ => exact f.elim
theorem od_isnot : OpR X (compareOp .IsNot) (rD G (cmpEv .isnot)) := by
  have base : OpR X (compareOp .IsNot) _ := (op_notN (X := X)).or (op_notBl (X := X))
  refine opr_imp base fun x y H Q h => ?_
  obtain ⟨O, a, b, ok, ha, hb, f⟩ := h
  cases b with
  | non =>
    cases hb
    exact .inl ⟨rfl, f.ok (Stp.refl H) (by rw [← dv_non ha]; rfl)⟩
  | bl y =>
    cases a with
    | bl x =>
      cases ha
      cases hb
      exact .inr ⟨x, y, rfl, rfl, f.ok (Stp.refl H) (by cases x <;> cases y <;> rfl)⟩
    | _ => exact f.elim
  | _ => exact f.elim
end
def pyOp : Cop → CmpOp
  | .lt => .Lt
  | .le => .LtE
  | .gt => .Gt
  | _ => .GtE
section
open Ob
variable {A : Around} {s : Shared}
theorem rc_int (op : Cop) (i j : Int) (t u : Tok) : RcOp (pyOp op) A s (.int i t) (.int j u) (ordI op i j) := by
  cases op with
  | lt => exact RcOp.lt_int i j t u
  | le => exact RcOp.le_int i j t u
  | gt => exact RcOp.gt_int i j t u
  | _ => exact RcOp.ge_int i j t u
theorem rc_str (op : Cop) (i j : Str) (t u : Tok) : RcOp (pyOp op) A s (.str i t) (.str j u) (ordS op i.cps.toList j.cps.toList) := by
  cases op with
  | lt => exact fun _ _ _ _ h => PyProof.Rows.lt_str h
  | le => exact fun _ _ _ _ h => PySem.P.le_str h
  | gt => exact fun _ _ _ _ h => PySem.P.gt_str h
  | _ => exact fun _ _ _ _ h => PySem.P.ge_str h
theorem rc_tup (op : Cop) {l b : Addr} {items items2 : Array Value} {e r : Nat → Bool} (hl : s.heap.IsTuple l items) (hb : s.heap.IsTuple b items2) (hu : A.units < cLine)
    (he : ∀ j (h1 : j < items.size) (h2 : j < items2.size), SeqAt.EqAt A.in1 s items[j] items2[j] (e j))
    (hr : ∀ j (h1 : j < items.size) (h2 : j < items2.size), e j = false → RcOp (pyOp op) A.in1 s items[j] items2[j] (r j)) :
    RcOp (pyOp op) A s (.ref l) (.ref b) (lexAt e r (ordL op items.size items2.size) 0 (min items.size items2.size)) := by
  cases op with
  | lt => exact RcOp.tuples_lt hl hb hu he hr
  | le => exact RcOp.tuples_le hl hb hu he hr
  | gt => exact RcOp.tuples_gt hl hb hu he hr
  | _ => exact RcOp.tuples_ge hl hb hu he hr
theorem ordL_succ (op : Cop) (m n : Nat) : ordL op (m + 1) (n + 1) = ordL op m n := by
  cases op <;> simp [ordL]
theorem lex_of (op : Cop) {e r : Nat → Bool} : ∀ (xs ys : List D) (i : Nat) (b : Bool), ordDs op xs ys = some b →
    (∀ (j : Nat) (x y : D), xs[j]? = some x → ys[j]? = some y → e (i + j) = eqv x y ∧ (eqv x y = false → ordD op x y = some (r (i + j)))) →
    lexAt e r (ordL op xs.length ys.length) i (min xs.length ys.length) = b
  | [], ys, i, b, h, _ => by
    have h' : some (ordL op 0 ys.length) = some b := h
    rw [List.length_nil, Nat.zero_min]
    exact Option.some.inj h'
  | x :: xs, [], i, b, h, _ => by
    have h' : some (ordL op (xs.length + 1) 0) = some b := h
    rw [List.length_nil, Nat.min_zero]
    exact Option.some.inj h'
  | x :: xs, y :: ys, i, b, h, q => by
    have h' : (match ordDs op xs ys with
      | some c => if eqv x y then some c else ordD op x y
      | none => none) = some b := h
    rw [List.length_cons, List.length_cons, Nat.succ_min_succ, ordL_succ, lexAt_succ]
    obtain ⟨q1, q2⟩ := q 0 x y rfl rfl
    rw [Nat.add_zero] at q1 q2
    cases hc : ordDs op xs ys with
    | none => rw [hc] at h'; cases h'
    | some c =>
      rw [hc] at h'
      have h2 : (if eqv x y then some c else ordD op x y) = some b := h'
      rw [q1]
      cases hx : eqv x y with
      | true =>
        rw [hx, if_pos rfl] at h2
        rw [if_pos rfl]
        rw [← Option.some.inj h2]
        exact lex_of op xs ys (i + 1) c hc fun j x' y' g1 g2 => by
          have := q (j + 1) x' y' (by simpa using g1) (by simpa using g2)
          rw [show i + 1 + j = i + (j + 1) by omega]
          exact this
      | false =>
        rw [hx, if_neg Bool.false_ne_true] at h2
        rw [if_neg Bool.false_ne_true]
        have := q2 hx
        rw [this] at h2
        exact Option.some.inj h2
theorem ordDs_at (op : Cop) : ∀ (xs ys : List D) (b : Bool), ordDs op xs ys = some b → ∀ (j : Nat) (x y : D), xs[j]? = some x → ys[j]? = some y → eqv x y = false → ∃ c, ordD op x y = some c
  | [], _, _, _, _, _, _, g, _, _ => by simp at g
  | _ :: _, [], _, _, _, _, _, _, g, _ => by simp at g
  | x :: xs, y :: ys, b, h, j, x', y', g1, g2, f => by
    have h' : (match ordDs op xs ys with
      | some c => if eqv x y then some c else ordD op x y
      | none => none) = some b := h
    cases hc : ordDs op xs ys with
    | none => rw [hc] at h'; cases h'
    | some c =>
      rw [hc] at h'
      have h2 : (if eqv x y then some c else ordD op x y) = some b := h'
      cases j with
      | zero =>
        simp at g1 g2
        subst g1 g2
        rw [f, if_neg Bool.false_ne_true] at h2
        exact ⟨b, h2⟩
      | succ j => exact ordDs_at op xs ys c hc j x' y' (by simpa using g1) (by simpa using g2) f
end
section
open Ob
variable {X : Cx} {G : Gt} {pins : List (Addr × Obj)} {σ : L2.St} {H H0 : Hp} {s : Shared}
theorem eqAt_D (I : Inv X pins σ H s) (hK : G.K = X.K) (e : Same H0 H) {A : Around} {n : Nat} {a b : D} {x y : V} {u v : Value} (ha : Dv G H0 a x) (hb : Dv G H0 b y) (rx : RelV x u) (ry : RelV y v) (sa : shp n a = true) (sb : shp n b = true) (hu : A.units + n < cLine) :
    SeqAt.EqAt A s u v (eqv a b) := by
  obtain ⟨as, r1⟩ := Dp.reads I _ x u (dp_of hK e n a x sa ha) rx
  obtain ⟨bs, r2⟩ := Dp.reads I _ y v (dp_of hK e n b y sb hb) ry
  obtain ⟨l1, d1⟩ := lay_of n a sa
  obtain ⟨l2, d2⟩ := lay_of n b sb
  rw [eqv_py n n a b sa sb]
  exact SeqAt.eqAt_reads _ _ A s u v as bs r1 r2 l1 l2 (by have := Nat.min_le_left (py a).depth (py b).depth; omega)
theorem shps_get {n : Nat} : ∀ {xs : List D} {j : Nat} {x : D}, shps n xs = true → xs[j]? = some x → shp n x = true
  | [], _, _, _, g => by simp at g
  | y :: r, 0, x, h, g => by
    have h' : (shp n y && shps n r) = true := h
    rw [Bool.and_eq_true] at h'
    simp at g
    subst g
    exact h'.1
  | y :: r, j + 1, x, h, g => by
    have h' : (shp n y && shps n r) = true := h
    rw [Bool.and_eq_true] at h'
    exact shps_get (j := j) h'.2 (by simpa using g)
theorem rc_D (I : Inv X pins σ H s) (hK : G.K = X.K) (e : Same H0 H) (op : Cop) : ∀ (n : Nat) (A : Around) (a b : D) (x y : V) (u v : Value) (c : Bool), Dv G H0 a x → Dv G H0 b y → RelV x u → RelV y v → shp n a = true → shp n b = true → A.units + n < cLine →
    ordD op a b = some c → RcOp (pyOp op) A s u v c
  | n, A, .int i, b, x, y, u, v, c, ha, hb, rx, ry, sa, sb, hu, h => by
    cases b with
    | int j =>
      cases ha
      cases hb
      obtain ⟨t, rfl⟩ := rx
      obtain ⟨t', rfl⟩ := ry
      have h' : some (ordI op i j) = some c := h
      rw [← Option.some.inj h']
      exact rc_int op i j t t'
    | _ => cases h
  | n, A, .str i, b, x, y, u, v, c, ha, hb, rx, ry, sa, sb, hu, h => by
    cases b with
    | str j =>
      cases ha
      cases hb
      obtain ⟨t, rfl⟩ := rx
      obtain ⟨t', rfl⟩ := ry
      have h' : some (ordS op i.cps.toList j.cps.toList) = some c := h
      rw [← Option.some.inj h']
      exact rc_str op i j t t'
    | _ => cases h
  | 0, A, .tup xs, b, x, y, u, v, c, ha, hb, rx, ry, sa, sb, hu, h => by cases sa
  | n + 1, A, .tup xs, b, x, y, u, v, c, ha, hb, rx, ry, sa, sb, hu, h => by
    cases b with
    | tup ys =>
      obtain ⟨p, vs, rfl, h1, h2⟩ := ha
      obtain ⟨q, us, rfl, h3, h4⟩ := hb
      cases rx
      cases ry
      rw [hK] at h1 h3
      obtain ⟨its, r1, p1, _⟩ := I.tuple (sqT_mono e h1)
      obtain ⟨its2, r2, p2, _⟩ := I.tuple (sqT_mono e h3)
      have l1 : its.toArray.size = xs.length := by rw [List.size_toArray, ← r1.length, dvL_len h2]
      have l2 : its2.toArray.size = ys.length := by rw [List.size_toArray, ← r2.length, dvL_len h4]
      have h' : ordDs op xs ys = some c := h
      have fact : ∀ (j : Nat) (g1 : j < its.toArray.size) (g2 : j < its2.toArray.size), ∃ x' y' vx vy, xs[j]? = some x' ∧ ys[j]? = some y' ∧ Dv G H0 x' vx ∧ Dv G H0 y' vy ∧ RelV vx its.toArray[j] ∧ RelV vy its2.toArray[j] := fun j g1 g2 => by
        obtain ⟨vx, a1, a2⟩ := dvL_get h2 (List.getElem?_eq_getElem (show j < xs.length by omega))
        obtain ⟨vy, b1, b2⟩ := dvL_get h4 (List.getElem?_eq_getElem (show j < ys.length by omega))
        obtain ⟨ux, c1, c2⟩ := r1.get a1
        obtain ⟨uy, d1, d2⟩ := r2.get b1
        have e1 : its.toArray[j] = ux := by
          have : its[j]? = some its.toArray[j] := by simp
          rw [c1] at this
          exact (Option.some.inj this).symm
        have e2 : its2.toArray[j] = uy := by
          have : its2[j]? = some its2.toArray[j] := by simp
          rw [d1] at this
          exact (Option.some.inj this).symm
        exact ⟨_, _, vx, vy, List.getElem?_eq_getElem (show j < xs.length by omega), List.getElem?_eq_getElem (show j < ys.length by omega), a2, b2, by rw [e1]; exact c2, by rw [e2]; exact d2⟩
      have hu1 : A.in1.units + n < cLine := by
        show A.units + 1 + n < cLine
        omega
      have R := rc_tup (A := A) (s := s) op (e := fun j => match xs[j]?, ys[j]? with | some x', some y' => eqv x' y' | _, _ => true)
        (r := fun j => match xs[j]?, ys[j]? with | some x', some y' => (ordD op x' y').getD false | _, _ => false) p1 p2 (by omega)
        (fun j g1 g2 => by
          obtain ⟨x', y', vx, vy, f1, f2, f3, f4, f5, f6⟩ := fact j g1 g2
          simp only [f1, f2]
          exact eqAt_D I hK e f3 f4 f5 f6 (shps_get sa f1) (shps_get sb f2) hu1)
        (fun j g1 g2 hn => by
          obtain ⟨x', y', vx, vy, f1, f2, f3, f4, f5, f6⟩ := fact j g1 g2
          simp only [f1, f2] at hn ⊢
          obtain ⟨c', hc'⟩ := ordDs_at op xs ys c h' j x' y' f1 f2 hn
          rw [hc']
          exact rc_D I hK e op n A.in1 x' y' vx vy _ _ c' f3 f4 f5 f6 (shps_get sa f1) (shps_get sb f2) hu1 hc')
      rw [l1, l2, lex_of op xs ys 0 c h' (fun j x' y' f1 f2 => by
        rw [Nat.zero_add]
        simp only [f1, f2]
        refine ⟨trivial, fun hn => ?_⟩
        obtain ⟨c', hc'⟩ := ordDs_at op xs ys c h' j x' y' f1 f2 hn
        rw [hc']
        rfl)] at R
      exact R
    | _ => cases h
  | _, _, .non, _, _, _, _, _, _, _, _, _, _, _, _, _, h => by cases h
  | _, _, .bl _, _, _, _, _, _, _, _, _, _, _, _, _, _, h => by cases h
  | _, _, .lst _, _, _, _, _, _, _, _, _, _, _, _, _, _, h => by cases h
  | _, _, .dic _, _, _, _, _, _, _, _, _, _, _, _, _, _, h => by cases h
  | _, _, .exc _, _, _, _, _, _, _, _, _, _, _, _, _, _, h => by cases h
  | _, _, .fn _, _, _, _, _, _, _, _, _, _, _, _, _, _, h => by cases h
  | _, _, .clo _ _, _, _, _, _, _, _, _, _, _, _, _, _, _, h => by cases h
  | _, _, .scr _, _, _, _, _, _, _, _, _, _, _, _, _, _, h => by cases h
theorem od_ord (hu : X.A.units + 64 < cLine) (hK : G.K = X.K) (op : Cop) : OpR X (compareOp (pyOp op)) (rD G (ordEv op)) := by
  intro pins s σ H x y v u Q I rx ry h
  obtain ⟨O, a, b, ok, ha, hb, f⟩ := h
  obtain ⟨c, f⟩ := f.grd
  rw [Bool.and_eq_true] at c
  cases hc : ordD op a b with
  | none => rw [hc] at f; exact f.elim
  | some z =>
    rw [hc] at f
    have R := rc_D I hK (hid_same (O := O)) op 60 X.A a b x y v u z ha hb rx ry c.1 c.2 (by omega) hc
    have e : compareOp (pyOp op) v u = richCompare (pyOp op) v u := by cases op <;> rfl
    rw [e]
    exact R X.prog X.w X.xe _ ⟨.bl z, H, I, rfl, f.ok (Stp.refl H) rfl⟩
end
end FD
namespace FD
open PySem PySem.Spec PyProof.Rows L2 Ob
theorem best_min {prog : Program} {w : World} {A : Around} {E : Value → Shared → Prop} {s : Shared} {a b : Value} {c : Bool} {Q : Value → Shared → Prop} (hh : A.handled = none)
    (cmp : ∀ (h1 : Heap) (t1 : Nat), (∀ x o, s.heap.get? x = some o → h1.get? x = some o) → RcOp .Lt A.in1 { s with heap := h1, toks := t1 } b a c)
    (fin : ∀ (h1 : Heap) (t1 : Nat), (∀ x o, s.heap.get? x = some o → h1.get? x = some o) → Q (if c = true then b else a) { s with heap := h1, toks := t1 }) : wpAny (model prog w) A (call (.builtin "min") [a, b]) Q E s := by
  have nm : (toString "min" ++ toString ".loop" : String) = "min.loop" := by decide
  have old : ∀ {x o} (e : s.heap.get? x = some o), x < s.heap.objs.size := fun e => Heap.lt_size e
  have isT : (s.heap.push { cls := .type "tuple", data := .seq #[a, b] }).IsTuple s.heap.objs.size #[a, b] := ⟨_, Heap.get?_push_size _ rfl, rfl, 0, rfl⟩
  have sz1 : (s.heap.push { cls := .type "tuple", data := .seq #[a, b] }).objs.size = s.heap.objs.size + 1 := Heap.size_push ..
  refine call_function_tree F.kind_min F.plain_min F.entry_min (F.args_min2 _ _) (wpAny_bind ?_)
  refine wpAny_of_eq (show Builtin.Builtins.bindParams "min" ["key", "default"] 0 ⟨[], []⟩ = pure [none, none] from rfl) ?_
  refine wpAny_bind (show wpAny _ A.in1 (newTuple [a, b]) _ _ s from wpAny_newObj_type ?_)
  refine wpAny_bind (wpAny_pyIter_tuple isT ?_)
  refine wpAny_bind (wpAny_newObj_type ?_)
  generalize hI : (s.heap.push { cls := .type "tuple", data := .seq #[a, b] }).objs.size = I at *
  have Iv : I = s.heap.objs.size + 1 := sz1
  have W := Walks.tuple (prog := prog) (w := w) (A := A.in1) hh I s.heap.objs.size (by rw [Iv]; exact Nat.ne_of_lt (Nat.lt_succ_self _)) #[a, b]
  generalize h2 : (s.heap.push { cls := .type "tuple", data := .seq #[a, b] }).push { cls := .type "tuple_iterator", data := .fields #[.ref s.heap.objs.size, .int 0 0] } = hp2
  have sz2 : hp2.objs.size = s.heap.objs.size + 2 := by rw [← h2, Heap.size_push, hI, Iv]
  have st0 : hp2.IsTupleIter I s.heap.objs.size 0 ∧ hp2.IsTuple s.heap.objs.size #[a, b] := by
    rw [← h2, ← hI]
    exact ⟨⟨_, Heap.get?_push_size _ rfl, rfl, rfl⟩, isT.push _⟩
  have keep2 : ∀ x o, s.heap.get? x = some o → hp2.get? x = some o := fun x o e => by
    rw [← h2]
    exact Heap.get?_push_of_some _ (Heap.get?_push_of_some _ e)
  generalize hS : hp2.objs.size = S
  have Sv : S = s.heap.objs.size + 2 := hS.symm.trans sz2
  generalize h3 : hp2.push { cls := .type "list", data := .seq #[] } = hp3
  have at3 : hp3.get? S = some { cls := .type "list", dict := none, data := .seq #[] 0, slots := #[] } := by
    rw [← h3, ← hS]
    exact Heap.get?_push_size _ rfl
  have keep3 : ∀ x o, hp2.get? x = some o → hp3.get? x = some o := fun x o e => by
    rw [← h3]
    exact Heap.get?_push_of_some _ e
  have outF : ∀ x, x ∈ [I, s.heap.objs.size] → x ≠ S := fun x hx => by
    simp only [List.mem_cons, List.not_mem_nil, or_false] at hx
    omega
  have st3 := W.frame 0 hp2 hp3 st0 fun x _ o e => keep3 x o e
  rw [nm]
  -- the first item
  refine wpAny_pure ⟨plainId_quiet F.plain_min_loop _, codeAny_builtin F.entry_min_loop ?_⟩
  rw [Around.under_plainId F.plain_min_loop _]
  refine wpAny_bind (show wpAny _ A.in1 (seqItems? (.ref S)) _ _ _ from wpAny_seqItems at3 rfl ?_)
  refine wpAny_bind (show wpAny _ A.in1 (tryCatch (pyNext (.ref I)) _) _ _ _ from wpAny_tryCatch (W.item 0 _ _ _ (by show 0 < 2; decide) st3 fun v1 g1 u1 p1 st1 k1 => ?_))
  obtain rfl : a = v1 := Option.some.inj p1
  have S1 : S ∉ [I] := fun hm => outF S (List.mem_cons.mpr (.inl (List.mem_singleton.mp hm))) rfl
  have at4 := k1 S _ S1 at3
  show wpAny _ A.in1 (updateSeq S (fun _ => #[a, a]) >>= fun _ => _) _ _ _
  refine wpAny_bind ?_
  refine wpAny_updateSeq at4 rfl ?_
  rw [nm]
  generalize h4 : g1.update S (Obj.mapSeq fun _ => #[a, a]) = hp4
  obtain ⟨n5, at5⟩ : ∃ n, hp4.get? S = some { cls := .type "list", dict := none, data := .seq #[a, a] n, slots := #[] } := by
    rw [← h4]
    exact ⟨_, Heap.get?_update_self _ at4 rfl⟩
  have keep4 : ∀ x o, x ≠ S → g1.get? x = some o → hp4.get? x = some o := fun x o hx e => by
    rw [← h4]
    exact (Heap.get?_update_other _ _ (Ne.symm hx)).trans e
  have st4 := W.frame 1 g1 hp4 st1 fun x hx o e => keep4 x o (outF x hx) e
  refine wpAny_pure ⟨plainId_quiet F.plain_min_loop _, codeAny_builtin F.entry_min_loop ?_⟩
  rw [Around.under_plainId F.plain_min_loop _]
  refine wpAny_bind (show wpAny _ A.in1 (seqItems? (.ref S)) _ _ _ from wpAny_seqItems at5 rfl ?_)
  refine wpAny_bind (show wpAny _ A.in1 (tryCatch (pyNext (.ref I)) _) _ _ _ from wpAny_tryCatch (W.item 1 _ _ _ (by show 1 < 2; decide) st4 fun v2 g2 u2 p2 st5 k2 => ?_))
  obtain rfl : b = v2 := Option.some.inj p2
  have at6 := k2 S _ S1 at5
  have keepG : ∀ x o, s.heap.get? x = some o → g2.get? x = some o := fun x o e => by
    have lx := old e
    have nI : x ∉ [I] := fun hm => by
      have := List.mem_singleton.mp hm
      rw [this, Iv] at lx
      exact Nat.lt_irrefl _ (Nat.lt_of_succ_lt lx)
    have nS : x ≠ S := fun hm => by
      rw [hm, Sv] at lx
      exact Nat.lt_irrefl _ (Nat.lt_of_succ_lt (Nat.lt_of_succ_lt lx))
    exact k2 x o nI (keep4 x o nS (k1 x o nI (keep3 x o (keep2 x o e))))
  show wpAny _ A.in1 (tryCatch (holding [b, b] (richCompare .Lt b a >>= _)) _ >>= _) _ _ _
  refine wpAny_bind (wpAny_tryCatch (wpAny_holding (wpAny_bind (cmp g2 u2 keepG prog w _ _ ?_))))
  refine wpAny_bind (wpAny_holding (wpAny_truthy_bool ?_))
  refine wpAny_bind (wpAny_letGo (wpAny_pure ?_))
  have over : ∀ (h5 : Heap) (t5 n : Nat) (v : Value), h5.get? S = some { cls := .type "list", dict := none, data := .seq #[v, v] n, slots := #[] } → (h5.IsTupleIter I s.heap.objs.size 2 ∧ h5.IsTuple s.heap.objs.size #[a, b]) → (∀ x o, s.heap.get? x = some o → h5.get? x = some o) → v = (if c = true then b else a) →
      codeAny (model prog w) A (.builtin "min.loop" ⟨[.ref I, .none, .ref S], []⟩) (fun r s' => match r with
        | .ok (.ret v) => Q v s'
        | .ok _ => False
        | .error e => E e s') { s with heap := h5, toks := t5 } := fun h5 t5 n v at7 st7 kp hv => by
    refine codeAny_builtin F.entry_min_loop ?_
    rw [Around.under_plainId F.plain_min_loop _]
    refine wpAny_bind (show wpAny _ A.in1 (seqItems? (.ref S)) _ _ _ from wpAny_seqItems at7 rfl ?_)
    refine wpAny_bind (show wpAny _ A.in1 (tryCatch (pyNext (.ref I)) _) _ _ _ from wpAny_tryCatch (W.done _ _ _ st7 fun g5 u5 k5 => ?_))
    have at8 := k5 S _ S1 at7
    show wpAny _ A.in1 (updateSeq S (fun _ => #[]) >>= fun _ => _) _ _ _
    refine wpAny_bind ?_
    refine wpAny_updateSeq at8 rfl (wpAny_bind (wpAny_letGo (wpAny_pure ?_)))
    show Q v _
    rw [hv]
    refine fin _ u5 fun x o e => ?_
    have lx := old e
    have nI : x ∉ [I] := fun hm => by
      have := List.mem_singleton.mp hm
      rw [this, Iv] at lx
      exact Nat.lt_irrefl _ (Nat.lt_of_succ_lt lx)
    have nS : x ≠ S := fun hm => by
      rw [hm, Sv] at lx
      exact Nat.lt_irrefl _ (Nat.lt_of_succ_lt (Nat.lt_of_succ_lt lx))
    exact (Heap.get?_update_other _ _ (Ne.symm nS)).trans (k5 x o nI (kp x o e))
  cases c with
  | true =>
    simp only [if_true]
    refine wpAny_bind ?_
    refine wpAny_updateSeq at6 rfl (wpAny_bind (wpAny_letGo ?_))
    rw [nm]
    refine wpAny_pure ⟨plainId_quiet F.plain_min_loop _, over (g2.update S (Obj.mapSeq fun _ => #[b, b])) u2 _ b (Heap.get?_update_self _ at6 rfl) (W.frame 2 g2 _ st5 fun x hx o e => (Heap.get?_update_other _ _ (Ne.symm (outF x hx))).trans e) (fun x o e => ?_) rfl⟩
    have lx := old e
    have nS : x ≠ S := fun hm => by
      rw [hm, Sv] at lx
      exact Nat.lt_irrefl _ (Nat.lt_of_succ_lt (Nat.lt_of_succ_lt lx))
    exact (Heap.get?_update_other _ _ (Ne.symm nS)).trans (keepG x o e)
  | false =>
    simp only [Bool.false_eq_true, if_false]
    refine wpAny_bind (wpAny_letGo ?_)
    rw [nm]
    exact wpAny_pure ⟨plainId_quiet F.plain_min_loop _, over g2 u2 _ a at6 st5 keepG rfl⟩
theorem best_max {prog : Program} {w : World} {A : Around} {E : Value → Shared → Prop} {s : Shared} {a b : Value} {c : Bool} {Q : Value → Shared → Prop} (hh : A.handled = none)
    (cmp : ∀ (h1 : Heap) (t1 : Nat), (∀ x o, s.heap.get? x = some o → h1.get? x = some o) → RcOp .Gt A.in1 { s with heap := h1, toks := t1 } b a c)
    (fin : ∀ (h1 : Heap) (t1 : Nat), (∀ x o, s.heap.get? x = some o → h1.get? x = some o) → Q (if c = true then b else a) { s with heap := h1, toks := t1 }) : wpAny (model prog w) A (call (.builtin "max") [a, b]) Q E s := by
  have nm : (toString "max" ++ toString ".loop" : String) = "max.loop" := by decide
  have old : ∀ {x o} (e : s.heap.get? x = some o), x < s.heap.objs.size := fun e => Heap.lt_size e
  have isT : (s.heap.push { cls := .type "tuple", data := .seq #[a, b] }).IsTuple s.heap.objs.size #[a, b] := ⟨_, Heap.get?_push_size _ rfl, rfl, 0, rfl⟩
  have sz1 : (s.heap.push { cls := .type "tuple", data := .seq #[a, b] }).objs.size = s.heap.objs.size + 1 := Heap.size_push ..
  refine call_function_tree F.kind_max F.plain_max F.entry_max (F.args_max2 _ _) (wpAny_bind ?_)
  refine wpAny_of_eq (show Builtin.Builtins.bindParams "max" ["key", "default"] 0 ⟨[], []⟩ = pure [none, none] from rfl) ?_
  refine wpAny_bind (show wpAny _ A.in1 (newTuple [a, b]) _ _ s from wpAny_newObj_type ?_)
  refine wpAny_bind (wpAny_pyIter_tuple isT ?_)
  refine wpAny_bind (wpAny_newObj_type ?_)
  generalize hI : (s.heap.push { cls := .type "tuple", data := .seq #[a, b] }).objs.size = I at *
  have Iv : I = s.heap.objs.size + 1 := sz1
  have W := Walks.tuple (prog := prog) (w := w) (A := A.in1) hh I s.heap.objs.size (by rw [Iv]; exact Nat.ne_of_lt (Nat.lt_succ_self _)) #[a, b]
  generalize h2 : (s.heap.push { cls := .type "tuple", data := .seq #[a, b] }).push { cls := .type "tuple_iterator", data := .fields #[.ref s.heap.objs.size, .int 0 0] } = hp2
  have sz2 : hp2.objs.size = s.heap.objs.size + 2 := by rw [← h2, Heap.size_push, hI, Iv]
  have st0 : hp2.IsTupleIter I s.heap.objs.size 0 ∧ hp2.IsTuple s.heap.objs.size #[a, b] := by
    rw [← h2, ← hI]
    exact ⟨⟨_, Heap.get?_push_size _ rfl, rfl, rfl⟩, isT.push _⟩
  have keep2 : ∀ x o, s.heap.get? x = some o → hp2.get? x = some o := fun x o e => by
    rw [← h2]
    exact Heap.get?_push_of_some _ (Heap.get?_push_of_some _ e)
  generalize hS : hp2.objs.size = S
  have Sv : S = s.heap.objs.size + 2 := hS.symm.trans sz2
  generalize h3 : hp2.push { cls := .type "list", data := .seq #[] } = hp3
  have at3 : hp3.get? S = some { cls := .type "list", dict := none, data := .seq #[] 0, slots := #[] } := by
    rw [← h3, ← hS]
    exact Heap.get?_push_size _ rfl
  have keep3 : ∀ x o, hp2.get? x = some o → hp3.get? x = some o := fun x o e => by
    rw [← h3]
    exact Heap.get?_push_of_some _ e
  have outF : ∀ x, x ∈ [I, s.heap.objs.size] → x ≠ S := fun x hx => by
    simp only [List.mem_cons, List.not_mem_nil, or_false] at hx
    omega
  have st3 := W.frame 0 hp2 hp3 st0 fun x _ o e => keep3 x o e
  rw [nm]
  -- the first item
  refine wpAny_pure ⟨plainId_quiet F.plain_max_loop _, codeAny_builtin F.entry_max_loop ?_⟩
  rw [Around.under_plainId F.plain_max_loop _]
  refine wpAny_bind (show wpAny _ A.in1 (seqItems? (.ref S)) _ _ _ from wpAny_seqItems at3 rfl ?_)
  refine wpAny_bind (show wpAny _ A.in1 (tryCatch (pyNext (.ref I)) _) _ _ _ from wpAny_tryCatch (W.item 0 _ _ _ (by show 0 < 2; decide) st3 fun v1 g1 u1 p1 st1 k1 => ?_))
  obtain rfl : a = v1 := Option.some.inj p1
  have S1 : S ∉ [I] := fun hm => outF S (List.mem_cons.mpr (.inl (List.mem_singleton.mp hm))) rfl
  have at4 := k1 S _ S1 at3
  show wpAny _ A.in1 (updateSeq S (fun _ => #[a, a]) >>= fun _ => _) _ _ _
  refine wpAny_bind ?_
  refine wpAny_updateSeq at4 rfl ?_
  rw [nm]
  generalize h4 : g1.update S (Obj.mapSeq fun _ => #[a, a]) = hp4
  obtain ⟨n5, at5⟩ : ∃ n, hp4.get? S = some { cls := .type "list", dict := none, data := .seq #[a, a] n, slots := #[] } := by
    rw [← h4]
    exact ⟨_, Heap.get?_update_self _ at4 rfl⟩
  have keep4 : ∀ x o, x ≠ S → g1.get? x = some o → hp4.get? x = some o := fun x o hx e => by
    rw [← h4]
    exact (Heap.get?_update_other _ _ (Ne.symm hx)).trans e
  have st4 := W.frame 1 g1 hp4 st1 fun x hx o e => keep4 x o (outF x hx) e
  refine wpAny_pure ⟨plainId_quiet F.plain_max_loop _, codeAny_builtin F.entry_max_loop ?_⟩
  rw [Around.under_plainId F.plain_max_loop _]
  refine wpAny_bind (show wpAny _ A.in1 (seqItems? (.ref S)) _ _ _ from wpAny_seqItems at5 rfl ?_)
  refine wpAny_bind (show wpAny _ A.in1 (tryCatch (pyNext (.ref I)) _) _ _ _ from wpAny_tryCatch (W.item 1 _ _ _ (by show 1 < 2; decide) st4 fun v2 g2 u2 p2 st5 k2 => ?_))
  obtain rfl : b = v2 := Option.some.inj p2
  have at6 := k2 S _ S1 at5
  have keepG : ∀ x o, s.heap.get? x = some o → g2.get? x = some o := fun x o e => by
    have lx := old e
    have nI : x ∉ [I] := fun hm => by
      have := List.mem_singleton.mp hm
      rw [this, Iv] at lx
      exact Nat.lt_irrefl _ (Nat.lt_of_succ_lt lx)
    have nS : x ≠ S := fun hm => by
      rw [hm, Sv] at lx
      exact Nat.lt_irrefl _ (Nat.lt_of_succ_lt (Nat.lt_of_succ_lt lx))
    exact k2 x o nI (keep4 x o nS (k1 x o nI (keep3 x o (keep2 x o e))))
  show wpAny _ A.in1 (tryCatch (holding [b, b] (richCompare .Gt b a >>= _)) _ >>= _) _ _ _
  refine wpAny_bind (wpAny_tryCatch (wpAny_holding (wpAny_bind (cmp g2 u2 keepG prog w _ _ ?_))))
  refine wpAny_bind (wpAny_holding (wpAny_truthy_bool ?_))
  refine wpAny_bind (wpAny_letGo (wpAny_pure ?_))
  have over : ∀ (h5 : Heap) (t5 n : Nat) (v : Value), h5.get? S = some { cls := .type "list", dict := none, data := .seq #[v, v] n, slots := #[] } → (h5.IsTupleIter I s.heap.objs.size 2 ∧ h5.IsTuple s.heap.objs.size #[a, b]) → (∀ x o, s.heap.get? x = some o → h5.get? x = some o) → v = (if c = true then b else a) →
      codeAny (model prog w) A (.builtin "max.loop" ⟨[.ref I, .none, .ref S], []⟩) (fun r s' => match r with
        | .ok (.ret v) => Q v s'
        | .ok _ => False
        | .error e => E e s') { s with heap := h5, toks := t5 } := fun h5 t5 n v at7 st7 kp hv => by
    refine codeAny_builtin F.entry_max_loop ?_
    rw [Around.under_plainId F.plain_max_loop _]
    refine wpAny_bind (show wpAny _ A.in1 (seqItems? (.ref S)) _ _ _ from wpAny_seqItems at7 rfl ?_)
    refine wpAny_bind (show wpAny _ A.in1 (tryCatch (pyNext (.ref I)) _) _ _ _ from wpAny_tryCatch (W.done _ _ _ st7 fun g5 u5 k5 => ?_))
    have at8 := k5 S _ S1 at7
    show wpAny _ A.in1 (updateSeq S (fun _ => #[]) >>= fun _ => _) _ _ _
    refine wpAny_bind ?_
    refine wpAny_updateSeq at8 rfl (wpAny_bind (wpAny_letGo (wpAny_pure ?_)))
    show Q v _
    rw [hv]
    refine fin _ u5 fun x o e => ?_
    have lx := old e
    have nI : x ∉ [I] := fun hm => by
      have := List.mem_singleton.mp hm
      rw [this, Iv] at lx
      exact Nat.lt_irrefl _ (Nat.lt_of_succ_lt lx)
    have nS : x ≠ S := fun hm => by
      rw [hm, Sv] at lx
      exact Nat.lt_irrefl _ (Nat.lt_of_succ_lt (Nat.lt_of_succ_lt lx))
    exact (Heap.get?_update_other _ _ (Ne.symm nS)).trans (k5 x o nI (kp x o e))
  cases c with
  | true =>
    simp only [if_true]
    refine wpAny_bind ?_
    refine wpAny_updateSeq at6 rfl (wpAny_bind (wpAny_letGo ?_))
    rw [nm]
    refine wpAny_pure ⟨plainId_quiet F.plain_max_loop _, over (g2.update S (Obj.mapSeq fun _ => #[b, b])) u2 _ b (Heap.get?_update_self _ at6 rfl) (W.frame 2 g2 _ st5 fun x hx o e => (Heap.get?_update_other _ _ (Ne.symm (outF x hx))).trans e) (fun x o e => ?_) rfl⟩
    have lx := old e
    have nS : x ≠ S := fun hm => by
      rw [hm, Sv] at lx
      exact Nat.lt_irrefl _ (Nat.lt_of_succ_lt (Nat.lt_of_succ_lt lx))
    exact (Heap.get?_update_other _ _ (Ne.symm nS)).trans (keepG x o e)
  | false =>
    simp only [Bool.false_eq_true, if_false]
    refine wpAny_bind (wpAny_letGo ?_)
    rw [nm]
    exact wpAny_pure ⟨plainId_quiet F.plain_max_loop _, over g2 u2 _ a at6 st5 keepG rfl⟩
end FD
namespace FD
open PySem PySem.Spec PyProof.Rows L2
variable [Tbls]
section
variable {X : Cx} {G : Gt}
theorem lkV_val {k : Str} : ∀ {kvs : List (Str × V)}, valV (kvs.map fun p => ((Sum.inr p.1 : Key), p.2)) (Sum.inr k) = lkV k kvs
  | [] => rfl
  | (x, v) :: r => by
    have ih := lkV_val (k := k) (kvs := r)
    show valV ((Sum.inr x, v) :: r.map _) (Sum.inr k) = if k = x then some v else lkV k r
    by_cases h : k = x
    · subst h
      rw [if_pos rfl]
      simp [valV]
    · rw [if_neg h, ← ih]
      have : ¬ (Sum.inr x : Key) = Sum.inr k := fun e => h (Sum.inr.inj e).symm
      simp [valV, this]
theorem dvK_look {H : Hp} {k : Str} : ∀ {kvs : List (Str × D)} {us : List (Str × V)}, DvK G H kvs us → match lkD k kvs with
    | some d => ∃ v, lkV k us = some v ∧ Dv G H d v
    | none => lkV k us = none
  | [], _, h => by cases h; rfl
  | (x, d) :: r, _, h => by
    obtain ⟨v, t, rfl, h1, h2⟩ := h
    have ih := dvK_look (k := k) h2
    unfold lkD lkV
    by_cases e : k = x
    · rw [if_pos e, if_pos e]
      exact ⟨v, rfl, h1⟩
    · rw [if_neg e, if_neg e]
      exact ih
/-- what a dict holds at a text: for the three rules below -/
inductive DGt (G : Gt) (H : Hp) (a : Addr) (z : Str) : Option V → Prop where
  | t {o : Option V} (g : DGet H a (.str z) o) : DGt G H a z o
  | w {es : Array DictEntry} {n : Nat} {v : V} {u : Value} (k : KDict G.K G.w a es n) (e : PySem.W.nsIn G.K a z = some (some u)) (r : RelV v u) : DGt G H a z (some v)
  | wn {es : Array DictEntry} {n : Nat} (k : KDict G.K G.w a es n) (e : PySem.W.nsIn G.K a z = some none) : DGt G H a z none
theorem dgt_of {H : Hp} {O : List Addr} {a : Addr} {us : List (Str × V)} (h : DicAt G (hid H O) a us) (z : Str) : DGt G H a z (lkV z us) := by
  rcases h with h | ⟨⟨es, n, k⟩, h⟩
  · refine .t ?_
    rw [← lkV_val]
    exact DGet.k (k := Sum.inr z) (hid_full _ _ h)
  · have := h z
    cases e : lkV z us with
    | some v =>
      rw [e] at this
      obtain ⟨u, h1, h2⟩ := this
      exact .w k h1 h2
    | none =>
      rw [e] at this
      exact .wn k this
section
theorem op_in_dic (hu : X.A.units + 1 < cLine) (hK : G.K = X.K) (hw : G.w = X.w) : OpR X (compareOp .In) (fun x y H Q => ∃ z a o, x = .str z ∧ y = .ref a ∧ DGt G H a z o ∧ Q (.bl o.isSome) H) := by
  intro pins s σ H x y v u Q I rx ry h
  obtain ⟨z, a, o, rfl, rfl, g, q⟩ := h
  cases g with
  | t g =>
    obtain rfl : u = Value.ref a := ry
    exact d_in hu I g rx fun s3 I3 => ⟨.bl o.isSome, H, I3, rfl, q⟩
  | w k e r =>
    rw [hK, hw] at k
    rw [hK] at e
    exact op_in_kd k pins s σ H _ _ v u Q I rx ry ⟨z, _, rfl, rfl, e, q⟩
  | wn k e =>
    rw [hK, hw] at k
    rw [hK] at e
    exact op_in_kd k pins s σ H _ _ v u Q I rx ry ⟨z, _, rfl, rfl, e, q⟩
theorem op_notin_dic (hu : X.A.units + 1 < cLine) (hK : G.K = X.K) (hw : G.w = X.w) : OpR X (compareOp .NotIn) (fun x y H Q => ∃ z a o, x = .str z ∧ y = .ref a ∧ DGt G H a z o ∧ Q (.bl (!o.isSome)) H) := by
  intro pins s σ H x y v u Q I rx ry h
  obtain ⟨z, a, o, rfl, rfl, g, q⟩ := h
  cases g with
  | t g =>
    obtain rfl : u = Value.ref a := ry
    exact d_notIn hu I g rx fun s3 I3 => ⟨.bl (!o.isSome), H, I3, rfl, q⟩
  | w k e r =>
    rw [hK, hw] at k
    rw [hK] at e
    exact op_notIn_kd k pins s σ H _ _ v u Q I rx ry ⟨z, _, rfl, rfl, e, q⟩
  | wn k e =>
    rw [hK, hw] at k
    rw [hK] at e
    exact op_notIn_kd k pins s σ H _ _ v u Q I rx ry ⟨z, _, rfl, rfl, e, q⟩
theorem ix_dic (hu : X.A.units + 1 < cLine) (hK : G.K = X.K) (hw : G.w = X.w) : IxR X (fun x y H Q => ∃ z a v, x = .ref a ∧ y = .str z ∧ DGt G H a z (some v) ∧ Q v H) := by
  intro value slice pins s σ H x y v u Q I rx ry h hs
  obtain ⟨z, a, o, rfl, rfl, g, q⟩ := h
  cases g with
  | t g =>
    obtain rfl : v = Value.ref a := rx
    exact tail_any (dict_typeIs I g) slot_dict_getitem.lookup (d_getItem hu I g ry fun w' s3 I3 rw' => ⟨o, H, I3, rw', q⟩) hs
  | w k e r =>
    rw [hK, hw] at k
    rw [hK] at e
    obtain rfl : v = Value.ref a := rx
    exact tail_any (kd_type k I) slot_dict_getitem.lookup (op_item_kd k pins s σ H (.ref a) (.str z) _ u Q I rfl ry ⟨z, _, o, rfl, rfl, e, r, q⟩) hs
theorem mt_get2 (hu : X.A.units + 1 < cLine) (hK : G.K = X.K) (hw : G.w = X.w) : MtR X "dict.get" (fun x xs H Q => ∃ a z o d, x = .ref a ∧ xs = [.str z, d] ∧ DGt G H a z o ∧ Q (o.getD d) H) := by
  intro pins s σ H x xs v us Q I rx rs h
  obtain ⟨a, z, o, d, rfl, rfl, g, q⟩ := h
  obtain rfl : v = Value.ref a := rx
  obtain ⟨u1, u2, rfl, r1, r2⟩ := vals2 rs
  cases g with
  | t g => exact d_get2 hu I g r1 r2 fun w' s3 I3 rw' => ⟨_, H, I3, rw', q⟩
  | w k e r =>
    rw [hK, hw] at k
    rw [hK] at e
    obtain ⟨t, rfl⟩ := r1
    have m := PySem.W.mapOf_K (prog := X.prog) (w := X.w) I.kIn k.at_ k.lit
    refine call_meetsIn PySem.F.slot_dict_get m.typeIs PySem.F.entry_dict_get (PySem.F.args_dict_get_3 _ _ _) (meets_dict_get_default (strKind X.prog X.w) a (strKind_is X.prog X.w z t) k.low u2) ⟨_, m, ?_⟩
    rw [PySem.W.find_K k.at_ e]
    exact ⟨_, H, I.tok _, r, q⟩
  | wn k e =>
    rw [hK, hw] at k
    rw [hK] at e
    obtain ⟨t, rfl⟩ := r1
    have m := PySem.W.mapOf_K (prog := X.prog) (w := X.w) I.kIn k.at_ k.lit
    refine call_meetsIn PySem.F.slot_dict_get m.typeIs PySem.F.entry_dict_get (PySem.F.args_dict_get_3 _ _ _) (meets_dict_get_default (strKind X.prog X.w) a (strKind_is X.prog X.w z t) k.low u2) ⟨_, m, ?_⟩
    rw [PySem.W.find_K k.at_ e]
    exact ⟨_, H, I.tok _, r2, q⟩
theorem subIn_one {c : Nat} : ∀ l : List Nat, subIn [c] l = decide (c ∈ l)
  | [] => rfl
  | b :: t => by
    show ((decide (c = b) && subAt [] t) || subIn [c] t) = _
    rw [subIn_one t]
    have : subAt [] t = true := by cases t <;> rfl
    rw [this, Bool.and_true]
    by_cases h1 : c = b <;> by_cases h2 : c ∈ t <;> simp [h1, h2]
theorem sign_of {x : Str} (h : x.cps.toList.length = 1) : ∃ c, x = ⟨#[c]⟩ := by
  obtain ⟨⟨l⟩⟩ := x
  cases l with
  | nil => simp at h
  | cons c r =>
    cases r with
    | nil => exact ⟨c, rfl⟩
    | cons _ _ => simp at h
theorem inD_py {a : D} (ha : shp 60 a = true) : ∀ {xs : List D}, shps 59 xs = true → inD a xs = (pys xs).any fun z => PyData.eqv z (py a)
  | [], _ => rfl
  | x :: r, h => by
    have h' : (shp 59 x && shps 59 r) = true := h
    rw [Bool.and_eq_true] at h'
    show (eqv x a || inD a r) = (PyData.eqv (py x) (py a) || (pys r).any fun z => PyData.eqv z (py a))
    rw [eqv_py 59 60 x a h'.1 ha, inD_py ha h'.2]
theorem op_inT (hu : X.A.units + 65 < cLine) : OpR X (compareOp .In) (fun x y H Q => ∃ d ds, Dp X.K H x d ∧ Dp X.K H y (.tuple ds) ∧ SeqAt.shaped d = true ∧ SeqAt.shaped (.tuple ds) = true ∧ Q (.bl (ds.any fun z => PyData.eqv z d)) H) := by
  intro pins s σ H x y v u Q I rx ry h
  obtain ⟨d, ds, hd, he, sd, se, q⟩ := h
  obtain ⟨as, r1⟩ := Dp.reads I d x v hd rx
  obtain ⟨bs, r2⟩ := Dp.reads I (.tuple ds) y u he ry
  exact SeqAt.in_tuple_reads r2 r1 (SeqAt.canLay_of_shaped se) (SeqAt.canLay_of_shaped sd) (room_in_shaped sd hu) ⟨.bl _, H, I, rfl, q⟩
theorem op_notInT (hu : X.A.units + 65 < cLine) : OpR X (compareOp .NotIn) (fun x y H Q => ∃ d ds, Dp X.K H x d ∧ Dp X.K H y (.tuple ds) ∧ SeqAt.shaped d = true ∧ SeqAt.shaped (.tuple ds) = true ∧ Q (.bl (!ds.any fun z => PyData.eqv z d)) H) := by
  intro pins s σ H x y v u Q I rx ry h
  obtain ⟨d, ds, hd, he, sd, se, q⟩ := h
  obtain ⟨as, r1⟩ := Dp.reads I d x v hd rx
  obtain ⟨bs, r2⟩ := Dp.reads I (.tuple ds) y u he ry
  exact SeqAt.notIn_tuple_reads r2 r1 (SeqAt.canLay_of_shaped se) (SeqAt.canLay_of_shaped sd) (room_in_shaped sd hu) ⟨.bl _, H, I, rfl, q⟩
theorem od_in (hu2 : X.A.units + 66 < cLine) (hK : G.K = X.K) (hw : G.w = X.w) : OpR X (compareOp .In) (rD G (cmpEv .inn)) := by
  have hu : X.A.units + 1 < cLine := by omega
  have base : OpR X (compareOp .In) _ := (op_in_seq (X := X)).or ((op_in_sign (X := X)).or ((op_in_dic hu hK hw).or ((op_inD (X := X) (by omega)).or (op_inT (X := X) (by omega)))))
  refine opr_imp base fun x y H Q h => ?_
  obtain ⟨O, a, b, ok, ha, hb, f⟩ := h
  cases b with
  | tup xs =>
    obtain ⟨p, vs, rfl, h1, h2⟩ := hb
    obtain ⟨c, f⟩ := f.grd
    rcases (Bool.or_eq_true _ _).mp c with c | c
    · rw [Bool.and_eq_true] at c
      obtain ⟨i1, i2⟩ := inV_of ha c.1 h2 c.2
      rw [hK] at h1
      exact .inl ⟨p, vs, rfl, .inr (sqT_mono hid_same h1), flatV_of ha c.1, i1, f.ok (Stp.refl H) (by rw [← i2]; rfl)⟩
    · rw [Bool.and_eq_true] at c
      have s2 : shp 60 (.tup xs) = true := c.2
      refine .inr (.inr (.inr (.inr ⟨py a, pys xs, dp_of hK hid_same 60 a x c.1 ha, dp_of hK hid_same 60 (.tup xs) (.ref p) s2 ⟨p, vs, rfl, h1, h2⟩, shaped_of c.1, shaped_of s2, f.ok (Stp.refl H) ?_⟩)))
      rw [inD_py c.1 c.2]
      rfl
  | lst xs =>
    obtain ⟨p, vs, rfl, h1, h2⟩ := hb
    obtain ⟨c, f⟩ := f.grd
    rcases (Bool.or_eq_true _ _).mp c with c | c
    · rw [Bool.and_eq_true] at c
      obtain ⟨i1, i2⟩ := inV_of ha c.1 h2 c.2
      exact .inl ⟨p, vs, rfl, .inl (.inl (.inl (hid_full _ _ h1))), flatV_of ha c.1, i1, f.ok (Stp.refl H) (by rw [← i2]; rfl)⟩
    · rw [Bool.and_eq_true] at c
      have s2 : shp 60 (.lst xs) = true := c.2
      refine .inr (.inr (.inr (.inl ⟨py a, pys xs, dp_of hK hid_same 60 a x c.1 ha, dp_of hK hid_same 60 (.lst xs) (.ref p) s2 ⟨p, vs, rfl, h1, h2⟩, shaped_of c.1, shaped_of s2, f.ok (Stp.refl H) ?_⟩)))
      rw [inD_py c.1 c.2]
      rfl
  | str z =>
    cases a with
    | str w =>
      cases ha
      cases hb
      obtain ⟨c, f⟩ := f.grd
      obtain ⟨c', rfl⟩ := sign_of (of_decide_eq_true c)
      refine .inr (.inl ⟨c', z, rfl, rfl, f.ok (Stp.refl H) ?_⟩)
      show V.bl _ = V.bl (subIn [c'] z.cps.toList)
      rw [subIn_one]
    | _ => exact f.elim
  | dic kvs =>
    cases a with
    | str z =>
      cases ha
      obtain ⟨p, us, rfl, h1, h2⟩ := hb
      refine .inr (.inr (.inl ⟨z, p, _, rfl, rfl, dgt_of h1 z, f.ok (Stp.refl H) ?_⟩))
      have := dvK_look (k := z) h2
      cases e : lkD z kvs with
      | some d =>
        rw [e] at this
        obtain ⟨v, g, _⟩ := this
        rw [g]
        rfl
      | none =>
        rw [e] at this
        rw [this]
        rfl
    | _ => exact f.elim
  | _ => exact f.elim
theorem od_notin (hu2 : X.A.units + 66 < cLine) (hK : G.K = X.K) (hw : G.w = X.w) : OpR X (compareOp .NotIn) (rD G (cmpEv .notin)) := by
  have hu : X.A.units + 1 < cLine := by omega
  have base : OpR X (compareOp .NotIn) _ := (op_notIn_seq (X := X)).or ((op_notIn_sign (X := X)).or ((op_notin_dic hu hK hw).or ((op_notInD (X := X) (by omega)).or (op_notInT (X := X) (by omega)))))
  refine opr_imp base fun x y H Q h => ?_
  obtain ⟨O, a, b, ok, ha, hb, f⟩ := h
  cases b with
  | tup xs =>
    obtain ⟨p, vs, rfl, h1, h2⟩ := hb
    obtain ⟨c, f⟩ := f.grd
    rcases (Bool.or_eq_true _ _).mp c with c | c
    · rw [Bool.and_eq_true] at c
      obtain ⟨i1, i2⟩ := inV_of ha c.1 h2 c.2
      rw [hK] at h1
      exact .inl ⟨p, vs, rfl, .inr (sqT_mono hid_same h1), flatV_of ha c.1, i1, f.ok (Stp.refl H) (by rw [← i2]; rfl)⟩
    · rw [Bool.and_eq_true] at c
      have s2 : shp 60 (.tup xs) = true := c.2
      refine .inr (.inr (.inr (.inr ⟨py a, pys xs, dp_of hK hid_same 60 a x c.1 ha, dp_of hK hid_same 60 (.tup xs) (.ref p) s2 ⟨p, vs, rfl, h1, h2⟩, shaped_of c.1, shaped_of s2, f.ok (Stp.refl H) ?_⟩)))
      rw [inD_py c.1 c.2]
      rfl
  | lst xs =>
    obtain ⟨p, vs, rfl, h1, h2⟩ := hb
    obtain ⟨c, f⟩ := f.grd
    rcases (Bool.or_eq_true _ _).mp c with c | c
    · rw [Bool.and_eq_true] at c
      obtain ⟨i1, i2⟩ := inV_of ha c.1 h2 c.2
      exact .inl ⟨p, vs, rfl, .inl (.inl (.inl (hid_full _ _ h1))), flatV_of ha c.1, i1, f.ok (Stp.refl H) (by rw [← i2]; rfl)⟩
    · rw [Bool.and_eq_true] at c
      have s2 : shp 60 (.lst xs) = true := c.2
      refine .inr (.inr (.inr (.inl ⟨py a, pys xs, dp_of hK hid_same 60 a x c.1 ha, dp_of hK hid_same 60 (.lst xs) (.ref p) s2 ⟨p, vs, rfl, h1, h2⟩, shaped_of c.1, shaped_of s2, f.ok (Stp.refl H) ?_⟩)))
      rw [inD_py c.1 c.2]
      rfl
  | str z =>
    cases a with
    | str w =>
      cases ha
      cases hb
      obtain ⟨c, f⟩ := f.grd
      obtain ⟨c', rfl⟩ := sign_of (of_decide_eq_true c)
      refine .inr (.inl ⟨c', z, rfl, rfl, f.ok (Stp.refl H) ?_⟩)
      show V.bl _ = V.bl (!subIn [c'] z.cps.toList)
      rw [subIn_one]
    | _ => exact f.elim
  | dic kvs =>
    cases a with
    | str z =>
      cases ha
      obtain ⟨p, us, rfl, h1, h2⟩ := hb
      refine .inr (.inr (.inl ⟨z, p, _, rfl, rfl, dgt_of h1 z, f.ok (Stp.refl H) ?_⟩))
      have := dvK_look (k := z) h2
      cases e : lkD z kvs with
      | some d =>
        rw [e] at this
        obtain ⟨v, g, _⟩ := this
        rw [g]
        rfl
      | none =>
        rw [e] at this
        rw [this]
        rfl
    | _ => exact f.elim
  | _ => exact f.elim
theorem ixr_imp {r r' : R2} (h : IxR X r) (i : ∀ x y H Q, r' x y H Q → r x y H Q) : IxR X r' :=
  fun value slice pins s σ H x y v u Q I rx ry q hs => h value slice pins s σ H x y v u Q I rx ry (i x y H Q q) hs
theorem place_eq (n : Nat) (i : Int) : place n i = ixN n i := by
  unfold place ixN
  by_cases h : 0 ≤ i
  · rw [if_pos h, if_pos h]
  · rw [if_neg h, if_neg h]
    by_cases h2 : 0 ≤ i + n
    · rw [if_pos h2, if_pos (by omega)]
    · rw [if_neg h2, if_neg (by omega)]
theorem at_of {α : Type} {xs : List α} {i : Int} {m : Nat} {d : α} (h : place xs.length i = some m) (g : xs[m]? = some d) : atI xs i = some d := by
  unfold atI
  rw [← place_eq, h]
  exact g
theorem od_idx (hu : X.A.units + 1 < cLine) (hK : G.K = X.K) (hw : G.w = X.w) : IxR X (rD G idxEv) := by
  have base : IxR X _ := (ix_list (X := X)).or ((ix_tup (X := X)).or ((ix_str (X := X)).or (ix_dic hu hK hw)))
  refine ixr_imp base fun x y H Q h => ?_
  obtain ⟨O, a, b, ok, ha, hb, f⟩ := h
  cases a with
  | lst xs =>
    cases b with
    | int k =>
      obtain ⟨p, vs, rfl, h1, h2⟩ := ha
      cases hb
      have f' : FinV G O H (match place xs.length k with
        | some m => (match xs[m]? with | some d => .ok d | none => .bad)
        | none => .bad) Q := f
      cases e : place xs.length k with
      | none => rw [e] at f'; exact f'.elim
      | some m =>
        rw [e] at f'
        have f2 : FinV G O H (match xs[m]? with | some d => .ok d | none => .bad) Q := f'
        cases g : xs[m]? with
        | none => rw [g] at f2; exact f2.elim
        | some d =>
          rw [g] at f2
          obtain ⟨v, g2, dv⟩ := dvL_get h2 g
          rw [dvL_len h2] at e
          exact .inl ⟨p, vs, k, v, rfl, rfl, .inl (.inl (hid_full _ _ h1)), at_of e g2, f2.ok (Stp.refl H) dv⟩
    | _ => exact f.elim
  | tup xs =>
    cases b with
    | int k =>
      obtain ⟨p, vs, rfl, h1, h2⟩ := ha
      cases hb
      have f' : FinV G O H (match place xs.length k with
        | some m => (match xs[m]? with | some d => .ok d | none => .bad)
        | none => .bad) Q := f
      cases e : place xs.length k with
      | none => rw [e] at f'; exact f'.elim
      | some m =>
        rw [e] at f'
        have f2 : FinV G O H (match xs[m]? with | some d => .ok d | none => .bad) Q := f'
        cases g : xs[m]? with
        | none => rw [g] at f2; exact f2.elim
        | some d =>
          rw [g] at f2
          obtain ⟨v, g2, dv⟩ := dvL_get h2 g
          rw [dvL_len h2] at e
          rw [hK] at h1
          exact .inr (.inl ⟨p, vs, k, v, rfl, rfl, sqT_mono hid_same h1, at_of e g2, f2.ok (Stp.refl H) dv⟩)
    | _ => exact f.elim
  | str z =>
    cases b with
    | int k =>
      cases ha
      cases hb
      obtain ⟨c, f⟩ := f.grd
      have f' : FinV G O H (match place z.cps.toList.length k with
        | some m => (match z.cps.toList[m]? with | some c => .ok (.str ⟨#[c]⟩) | none => .bad)
        | none => .bad) Q := f
      cases e : place z.cps.toList.length k with
      | none => rw [e] at f'; exact f'.elim
      | some m =>
        rw [e] at f'
        have f2 : FinV G O H (match z.cps.toList[m]? with | some c => .ok (.str ⟨#[c]⟩) | none => .bad) Q := f'
        cases g : z.cps.toList[m]? with
        | none => rw [g] at f2; exact f2.elim
        | some d =>
          rw [g] at f2
          have c' := of_decide_eq_true c
          rw [strLen, lim_eq] at c'
          exact .inr (.inr (.inl ⟨z, k, d, rfl, rfl, c', at_of e g, f2.ok (Stp.refl H) rfl⟩))
    | _ => exact f.elim
  | dic kvs =>
    cases b with
    | str z =>
      obtain ⟨p, us, rfl, h1, h2⟩ := ha
      cases hb
      have f' : FinV G O H (match lkD z kvs with | some d => .ok d | none => .bad) Q := f
      have := dvK_look (k := z) h2
      cases e : lkD z kvs with
      | some d =>
        rw [e] at this f'
        obtain ⟨v, g, dv⟩ := this
        refine .inr (.inr (.inr ⟨z, p, v, rfl, rfl, ?_, f'.ok (Stp.refl H) dv⟩))
        rw [← g]
        exact dgt_of h1 z
      | none =>
        rw [e] at f'
        exact f'.elim
    | _ => exact f.elim
  | scr ns =>
    cases b with
    | int k =>
      obtain ⟨p, rfl, h1⟩ := ha
      cases hb
      have f' : FinV G O H (match place ns.length k with
        | some m => (match ns[m]? with | some n => .ok (.int n) | none => .bad)
        | none => .bad) Q := f
      cases e : place ns.length k with
      | none => rw [e] at f'; exact f'.elim
      | some m =>
        rw [e] at f'
        have f2 : FinV G O H (match ns[m]? with | some n => .ok (.int n) | none => .bad) Q := f'
        cases g : ns[m]? with
        | none => rw [g] at f2; exact f2.elim
        | some d =>
          rw [g] at f2
          rw [hK] at h1
          refine .inl ⟨p, ns.map V.int, k, .int d, rfl, rfl, hid_same.seq h1, at_of (m := m) (by rw [List.length_map]; exact e) (by rw [List.getElem?_map, g]; rfl), f2.ok (Stp.refl H) rfl⟩
    | _ => exact f.elim
  | _ => exact f.elim
end
theorem slr_imp {r r' : V → Option Int → Option Int → Hp → VK → Prop} (h : SlR X r) (i : ∀ x lo hi H Q, r' x lo hi H Q → r x lo hi H Q) : SlR X r' :=
  fun pins s σ H x v vl vu lo hi sl Q I rx hs pl pu q => h pins s σ H x v vl vu lo hi sl Q I rx hs pl pu (i x lo hi H Q q)
theorem sb_eq (n d : Nat) (o : Option Int) : sbound n d o = HT.sIx n d o := by
  cases o with
  | none => rfl
  | some v =>
    show (if v < 0 then (if v + n < 0 then 0 else (v + n).toNat) else (if v < n then v.toNat else n)) = (if v < 0 then (v + (n : Int)).toNat else min v.toNat n)
    by_cases h : v < 0
    · rw [if_pos h, if_pos h]
      by_cases h2 : v + n < 0
      · rw [if_pos h2]; omega
      · rw [if_neg h2]
    · rw [if_neg h, if_neg h]
      by_cases h2 : v < n
      · rw [if_pos h2]; omega
      · rw [if_neg h2]; omega
theorem dvL_cut {H : Hp} {ds : List D} {vs : List V} (lo hi : Option Int) (h : DvL G H ds vs) : DvL G H (cut ds lo hi) (cutV vs lo hi) := by
  unfold cut cutV
  rw [sb_eq, sb_eq, dvL_len h]
  exact dvL_take _ (dvL_drop _ h)
theorem cut_whole {α : Type} {xs : List α} {lo hi : Option Int} (h1 : HT.sIx xs.length 0 lo = 0) (h2 : HT.sIx xs.length xs.length hi = xs.length) : cut xs lo hi = xs := by
  unfold cut
  rw [sb_eq, sb_eq, h1, h2]
  simp
def rSD (G : Gt) : V → Option Int → Option Int → Hp → VK → Prop := fun x lo hi H Q => ∃ O a, OkO O H ∧ Dv G (hid H O) a x ∧ FinV G O H (slcEv a lo hi) Q
theorem od_slc (hK : G.K = X.K) : SlR X (rSD G) := by
  have base : SlR X _ := (sl_list (X := X)).or ((sl_tupA (X := X)).or (sl_str (X := X)))
  refine slr_imp base fun x lo hi H Q h => ?_
  obtain ⟨O, a, ok, ha, f⟩ := h
  cases a with
  | lst xs =>
    obtain ⟨p, vs, rfl, h1, h2⟩ := ha
    exact .inl ⟨p, vs, rfl, .inl (.inl (hid_full _ _ h1)), fun t ht => f.ok (stp_upd' ht) (dv_newL ok ht (dvL_cut lo hi h2))⟩
  | tup xs =>
    obtain ⟨p, vs, rfl, h1, h2⟩ := ha
    have h1' := h1
    rw [hK] at h1'
    refine .inr (.inl ⟨p, vs, rfl, sqT_mono hid_same h1', fun e => ?_, fun _ t ht => f.ok (stp_upd' ht) (dv_newT ok ht (dvL_cut lo hi h2))⟩)
    have l := dvL_len h2
    refine f.ok (Stp.refl H) ⟨p, vs, rfl, h1, ?_⟩
    rw [cut_whole (by rw [l]; exact e.1) (by rw [l]; exact e.2)]
    exact h2
  | str z =>
    cases ha
    obtain ⟨c, f⟩ := f.grd
    have c' := of_decide_eq_true c
    rw [strLen, lim_eq] at c'
    refine .inr (.inr ⟨z, rfl, c', f.ok (Stp.refl H) ?_⟩)
    show V.str _ = V.str ⟨(cut z.cps.toList lo hi).toArray⟩
    unfold cut
    rw [sb_eq, sb_eq, strLen]
    rfl
  | _ => exact f.elim
theorem tru_D {K : PySem.W.Frag} (hK : G.K = K) {O : List Addr} {H : Hp} {a : D} {x : V} {b : Bool} (ha : Dv G (hid H O) a x) (h : truth a = .ok b) : TruV K x H b := by
  cases a with
  | non => cases ha; cases h; rfl
  | bl c => cases ha; cases h; rfl
  | int c => cases ha; cases h; rfl
  | str z =>
    cases ha
    have h' : guard' (decide (z.cps.toList.length ≤ lim)) (R.ok (!z.cps.toList.isEmpty)) = .ok b := h
    cases c : decide (z.cps.toList.length ≤ lim) with
    | false => rw [c] at h'; cases h'
    | true =>
      rw [c] at h'
      have c' := of_decide_eq_true c
      rw [strLen, lim_eq] at c'
      cases h'
      refine ⟨c', ?_⟩
      rw [← strLen]
      cases z.cps.toList <;> rfl
  | lst xs =>
    obtain ⟨p, vs, rfl, h1, h2⟩ := ha
    cases h
    refine .inl ⟨vs, .inl (.inl (hid_full _ _ h1)), ?_⟩
    have := dvL_len h2
    cases xs <;> cases vs <;> first | rfl | (simp at this)
  | tup xs =>
    obtain ⟨p, vs, rfl, h1, h2⟩ := ha
    cases h
    rw [hK] at h1
    refine .inr (.inl ⟨vs, sqT_mono hid_same h1, ?_⟩)
    have := dvL_len h2
    cases xs <;> cases vs <;> first | rfl | (simp at this)
  | _ => cases h
end
end FD
namespace FD
open PySem PySem.Spec PyProof.Rows L2
variable [Tbls]
/-- what isinstance asks of an exception's class -/
def excB (K : PySem.W.Frag) (D : Addr) : Bool :=
  decide (PySem.W.findIn K (.ref D) "__getattribute__" = some (some (.builtin "BaseException.__getattribute__"))) && (decide (PySem.W.findIn K (.ref D) "__getattr__" = some none) && (decide (PySem.W.subIn K (.ref D) (.type "BaseException") = some true) &&
    (PySem.W.hasDictIn K D && (decide (PySem.W.findIn K (.ref D) "__class__" = some (some (.builtin "object.__class__"))) && (decide (PySem.W.specialIn K (.builtin "object.__class__") "__get__" = some (some (.builtin "getset_descriptor.__get__"))) &&
      (decide (PySem.W.takesIn K (.builtin "object.__class__") = some true) && decide (PySem.W.mroIn K D (.type "object") = some true)))))))
theorem excB_kit {K : PySem.W.Frag} {D x : Addr} {ox : Obj} (h : excB K D = true) : PySem.W.KitX K (.ref x) (.ref D) (fun h => PySem.W.InstAt h x ox D none) := by
  unfold excB at h
  simp only [Bool.and_eq_true, decide_eq_true_eq] at h
  obtain ⟨h1, h2, h3, h4, h5, h6, h7, h8⟩ := h
  exact PySem.W.handS_kitx_exc h1 h2 h3 h4 h5 h6 h7 h8
section
variable {X : Cx} {G : Gt}
def rBD (G : Gt) (g : List D → R D) : List V → Hp → VK → Prop := fun xs H Q => ∃ O ds, OkO O H ∧ DvL G (hid H O) ds xs ∧ FinV G O H (g ds) Q
theorem callr_imp {f : Value} {r r' : List V → Hp → VK → Prop} (h : CallR X f r) (i : ∀ xs H Q, r' xs H Q → r xs H Q) : CallR X f r' :=
  fun pins s σ H xs us Q I rs q => h pins s σ H xs us Q I rs (i xs H Q q)
theorem dvL1 {H : Hp} {d : D} {vs : List V} (h : DvL G H [d] vs) : ∃ v, vs = [v] ∧ Dv G H d v := by
  obtain ⟨v, r, rfl, h1, h2⟩ := h
  cases h2
  exact ⟨v, rfl, h1⟩
theorem dvL2 {H : Hp} {d e : D} {vs : List V} (h : DvL G H [d, e] vs) : ∃ v u, vs = [v, u] ∧ Dv G H d v ∧ Dv G H e u := by
  obtain ⟨v, r, rfl, h1, h2⟩ := h
  obtain ⟨u, rfl, h3⟩ := dvL1 h2
  exact ⟨v, u, rfl, h1, h3⟩
theorem un1_of {f : D → R D} {O : List Addr} {H : Hp} {ds : List D} {Q : VK} (h : FinV G O H (un1 f ds) Q) : ∃ d, ds = [d] ∧ FinV G O H (f d) Q := by
  cases ds with
  | nil => exact h.elim
  | cons d r =>
    cases r with
    | nil => exact ⟨d, rfl, h⟩
    | cons _ _ => exact h.elim
theorem un2_of {f : D → D → R D} {O : List Addr} {H : Hp} {ds : List D} {Q : VK} (h : FinV G O H (un2 f ds) Q) : ∃ d e, ds = [d, e] ∧ FinV G O H (f d e) Q := by
  cases ds with
  | nil => exact h.elim
  | cons d r =>
    obtain ⟨e, rfl, h2⟩ := un1_of (f := f d) h
    exact ⟨d, e, rfl, h2⟩
theorem od_len (hK : G.K = X.K) : CallR X (.builtin "len") (rBD G (un1 lenD)) := by
  refine callr_imp (call_len (X := X)) fun xs H Q h => ?_
  obtain ⟨O, ds, ok, hd, f⟩ := h
  obtain ⟨d, rfl, f⟩ := un1_of f
  obtain ⟨v, rfl, hv⟩ := dvL1 hd
  cases d with
  | lst ys =>
    obtain ⟨p, vs, rfl, h1, h2⟩ := hv
    exact ⟨_, ys.length, rfl, .inl ⟨vs, .inl (.inl (hid_full _ _ h1)), dvL_len h2⟩, f.ok (Stp.refl H) rfl⟩
  | tup ys =>
    obtain ⟨p, vs, rfl, h1, h2⟩ := hv
    rw [hK] at h1
    exact ⟨_, ys.length, rfl, .inr ⟨vs, sqT_mono hid_same h1, dvL_len h2⟩, f.ok (Stp.refl H) rfl⟩
  | scr ns =>
    obtain ⟨p, rfl, h1⟩ := hv
    rw [hK] at h1
    exact ⟨_, ns.length, rfl, .inl ⟨_, hid_same.seq h1, by rw [List.length_map]⟩, f.ok (Stp.refl H) rfl⟩
  | str z =>
    cases hv
    obtain ⟨c, f⟩ := f.grd
    have c' := of_decide_eq_true c
    rw [strLen, lim_eq] at c'
    exact ⟨_, z.length, rfl, ⟨c', rfl⟩, f.ok (Stp.refl H) (by rw [strLen]; rfl)⟩
  | _ => exact f.elim
theorem od_abs : CallR X (.builtin "abs") (rBD G (un1 absD)) := by
  refine callr_imp (call_abs (X := X)) fun xs H Q h => ?_
  obtain ⟨O, ds, ok, hd, f⟩ := h
  obtain ⟨d, rfl, f⟩ := un1_of f
  obtain ⟨v, rfl, hv⟩ := dvL1 hd
  cases d with
  | int i =>
    cases hv
    exact ⟨i, rfl, f.ok (Stp.refl H) rfl⟩
  | _ => exact f.elim
theorem od_min2 (hc : X.calm = true) (hU : X.A.units + 64 < cLine) (hK : G.K = X.K) : CallR X (.builtin "min") (rBD G (un2 minD)) := by
  intro pins s σ H xs us Q I r h
  obtain ⟨O, ds, ok, hd, f⟩ := h
  obtain ⟨d, e, rfl, f⟩ := un2_of f
  obtain ⟨v, u, rfl, hv, hu⟩ := dvL2 hd
  cases d with
  | int i =>
    cases e with
    | int j =>
      cases hv
      cases hu
      exact call_min2 hc pins s σ H _ _ Q I r ⟨i, j, rfl, f.ok (Stp.refl H) rfl⟩
    | _ => exact f.elim
  | tup xs =>
    cases e with
    | tup ys =>
      obtain ⟨u1, u2, rfl, r1, r2⟩ := vals2 r
      obtain ⟨c, f⟩ := f.grd
      rw [Bool.and_eq_true] at c
      cases hz : ordD .lt (.tup ys) (.tup xs) with
      | none => rw [hz] at f; exact f.elim
      | some z =>
        rw [hz] at f
        have hU1 : X.A.in1.units + 60 < cLine := by
          show X.A.units + 1 + 60 < cLine
          omega
        refine best_min (I.ok.hd hc) (fun h1 t1 k => rc_D (I.kept k) hK (hid_same (O := O)) .lt 60 X.A.in1 _ _ _ _ _ _ z hu hv r2 r1 c.1 c.2 hU1 hz) (fun h1 t1 k => ?_)
        cases z with
        | true => exact ⟨u, H, I.kept k, r2, f.ok (Stp.refl H) hu⟩
        | false => exact ⟨v, H, I.kept k, r1, f.ok (Stp.refl H) hv⟩
    | _ => exact f.elim
  | _ => cases e <;> exact f.elim
theorem od_max2 (hc : X.calm = true) (hU : X.A.units + 64 < cLine) (hK : G.K = X.K) : CallR X (.builtin "max") (rBD G (un2 maxD)) := by
  intro pins s σ H xs us Q I r h
  obtain ⟨O, ds, ok, hd, f⟩ := h
  obtain ⟨d, e, rfl, f⟩ := un2_of f
  obtain ⟨v, u, rfl, hv, hu⟩ := dvL2 hd
  cases d with
  | int i =>
    cases e with
    | int j =>
      cases hv
      cases hu
      exact call_max2 hc pins s σ H _ _ Q I r ⟨i, j, rfl, f.ok (Stp.refl H) rfl⟩
    | _ => exact f.elim
  | tup xs =>
    cases e with
    | tup ys =>
      obtain ⟨u1, u2, rfl, r1, r2⟩ := vals2 r
      obtain ⟨c, f⟩ := f.grd
      rw [Bool.and_eq_true] at c
      cases hz : ordD .gt (.tup ys) (.tup xs) with
      | none => rw [hz] at f; exact f.elim
      | some z =>
        rw [hz] at f
        have hU1 : X.A.in1.units + 60 < cLine := by
          show X.A.units + 1 + 60 < cLine
          omega
        refine best_max (I.ok.hd hc) (fun h1 t1 k => rc_D (I.kept k) hK (hid_same (O := O)) .gt 60 X.A.in1 _ _ _ _ _ _ z hu hv r2 r1 c.1 c.2 hU1 hz) (fun h1 t1 k => ?_)
        cases z with
        | true => exact ⟨u, H, I.kept k, r2, f.ok (Stp.refl H) hu⟩
        | false => exact ⟨v, H, I.kept k, r1, f.ok (Stp.refl H) hv⟩
    | _ => exact f.elim
  | _ => cases e <;> exact f.elim
theorem bools_of {H : Hp} : ∀ {ds : List D} {bs : List Bool} {vs : List V}, bools ds = some bs → DvL G H ds vs → vs = bs.map V.bl
  | [], bs, vs, h, d => by
    cases d
    cases h
    rfl
  | x :: r, bs, vs, h, d => by
    obtain ⟨v, t, rfl, h1, h2⟩ := d
    cases x with
    | bl b =>
      have h' : (match bools r with | some l => some (b :: l) | none => none) = some bs := h
      cases e : bools r with
      | none => rw [e] at h'; cases h'
      | some l =>
        rw [e] at h'
        cases h'
        cases h1
        rw [bools_of e h2]
        rfl
    | _ => cases h
theorem ints_of {H : Hp} : ∀ {ds : List D} {bs : List Int} {vs : List V}, intsD ds = some bs → DvL G H ds vs → vs = bs.map V.int
  | [], bs, vs, h, d => by
    cases d
    cases h
    rfl
  | x :: r, bs, vs, h, d => by
    obtain ⟨v, t, rfl, h1, h2⟩ := d
    cases x with
    | int b =>
      have h' : (match intsD r with | some l => some (b :: l) | none => none) = some bs := h
      cases e : intsD r with
      | none => rw [e] at h'; cases h'
      | some l =>
        rw [e] at h'
        cases h'
        cases h1
        rw [ints_of e h2]
        rfl
    | _ => cases h
theorem od_all (hc : X.calm = true) : CallR X (.builtin "all") (rBD G (un1 allD)) := by
  refine callr_imp (cr_all (X := X) hc) fun xs H Q h => ?_
  obtain ⟨O, ds, ok, hd, f⟩ := h
  obtain ⟨d, rfl, f⟩ := un1_of f
  obtain ⟨v, rfl, hv⟩ := dvL1 hd
  cases d with
  | lst ys =>
    obtain ⟨p, vs, rfl, h1, h2⟩ := hv
    have f' : FinV G O H (match bools ys with | some bs => .ok (.bl (bs.all id)) | none => .bad) Q := f
    cases e : bools ys with
    | none => rw [e] at f'; exact f'.elim
    | some bs =>
      rw [e] at f'
      have := bools_of e h2
      subst this
      exact ⟨p, bs, rfl, .inl (.inl (hid_full _ _ h1)), f'.ok (Stp.refl H) rfl⟩
  | _ => exact f.elim
theorem od_any (hc : X.calm = true) : CallR X (.builtin "any") (rBD G (un1 anyD)) := by
  refine callr_imp (cr_any (X := X) hc) fun xs H Q h => ?_
  obtain ⟨O, ds, ok, hd, f⟩ := h
  obtain ⟨d, rfl, f⟩ := un1_of f
  obtain ⟨v, rfl, hv⟩ := dvL1 hd
  cases d with
  | lst ys =>
    obtain ⟨p, vs, rfl, h1, h2⟩ := hv
    have f' : FinV G O H (match bools ys with | some bs => .ok (.bl (bs.any id)) | none => .bad) Q := f
    cases e : bools ys with
    | none => rw [e] at f'; exact f'.elim
    | some bs =>
      rw [e] at f'
      have := bools_of e h2
      subst this
      exact ⟨p, bs, rfl, .inl (.inl (hid_full _ _ h1)), f'.ok (Stp.refl H) rfl⟩
  | _ => exact f.elim
theorem od_sum (hc : X.calm = true) : CallR X (.builtin "sum") (rBD G (un1 sumD)) := by
  refine callr_imp (cr_sum (X := X) hc) fun xs H Q h => ?_
  obtain ⟨O, ds, ok, hd, f⟩ := h
  obtain ⟨d, rfl, f⟩ := un1_of f
  obtain ⟨v, rfl, hv⟩ := dvL1 hd
  cases d with
  | lst ys =>
    obtain ⟨p, vs, rfl, h1, h2⟩ := hv
    have f' : FinV G O H (match intsD ys with | some bs => .ok (.int bs.sum) | none => .bad) Q := f
    cases e : intsD ys with
    | none => rw [e] at f'; exact f'.elim
    | some bs =>
      rw [e] at f'
      have := ints_of e h2
      subst this
      exact ⟨p, bs, rfl, .inl (.inl (hid_full _ _ h1)), f'.ok (Stp.refl H) rfl⟩
  | _ => exact f.elim
theorem od_tuple (hK : G.K = X.K) : CallR X (.type "tuple") (rBD G (un1 tupleD)) := by
  refine callr_imp (call_tuple_of (X := X)) fun xs H Q h => ?_
  obtain ⟨O, ds, ok, hd, f⟩ := h
  obtain ⟨d, rfl, f⟩ := un1_of f
  obtain ⟨v, rfl, hv⟩ := dvL1 hd
  cases d with
  | lst ys =>
    obtain ⟨p, vs, rfl, h1, h2⟩ := hv
    exact ⟨p, vs, rfl, .inl ⟨.inl (.inl (hid_full _ _ h1)), fun l hl => f.ok (stp_upd' hl) (dv_newT ok hl h2)⟩⟩
  | tup ys =>
    obtain ⟨p, vs, rfl, h1, h2⟩ := hv
    have h1' := h1
    rw [hK] at h1'
    exact ⟨p, vs, rfl, .inr ⟨sqT_mono hid_same h1', f.ok (Stp.refl H) ⟨p, vs, rfl, h1, h2⟩⟩⟩
  | _ => exact f.elim
theorem od_list (hK : G.K = X.K) : CallR X (.type "list") (rBD G (un1 listD)) := by
  refine callr_imp (call_list_of (X := X)) fun xs H Q h => ?_
  obtain ⟨O, ds, ok, hd, f⟩ := h
  obtain ⟨d, rfl, f⟩ := un1_of f
  obtain ⟨v, rfl, hv⟩ := dvL1 hd
  cases d with
  | lst ys =>
    obtain ⟨p, vs, rfl, h1, h2⟩ := hv
    exact ⟨p, vs, rfl, .inl (.inl (.inl (hid_full _ _ h1))), fun l hl => f.ok (stp_upd' hl) (dv_newL ok hl h2)⟩
  | tup ys =>
    obtain ⟨p, vs, rfl, h1, h2⟩ := hv
    rw [hK] at h1
    exact ⟨p, vs, rfl, .inr (sqT_mono hid_same h1), fun l hl => f.ok (stp_upd' hl) (dv_newL ok hl h2)⟩
  | _ => exact f.elim
def rMD (G : Gt) (g : D → List D → R D) : V → List V → Hp → VK → Prop := fun x xs H Q => ∃ O a ds, OkO O H ∧ Dv G (hid H O) a x ∧ DvL G (hid H O) ds xs ∧ FinV G O H (g a ds) Q
theorem mtr_imp {id : String} {r r' : V → List V → Hp → VK → Prop} (h : MtR X id r) (i : ∀ x xs H Q, r' x xs H Q → r x xs H Q) : MtR X id r' :=
  fun pins s σ H x xs v us Q I rx rs q => h pins s σ H x xs v us Q I rx rs (i x xs H Q q)
theorem od_get2 (hu : X.A.units + 1 < cLine) (hK : G.K = X.K) (hw : G.w = X.w) : MtR X "dict.get" (rMD G fun a => un2 (getD2 a)) := by
  refine mtr_imp (mt_get2 hu hK hw) fun x xs H Q h => ?_
  obtain ⟨O, a, ds, ok, ha, hd, f⟩ := h
  obtain ⟨kk, d, rfl, f⟩ := un2_of f
  obtain ⟨v, u, rfl, e1, e2⟩ := dvL2 hd
  cases a with
  | dic kvs =>
    cases kk with
    | str k =>
      obtain ⟨p, us, rfl, h1, h2⟩ := ha
      cases e1
      refine ⟨p, k, _, u, rfl, rfl, dgt_of h1 k, ?_⟩
      have f' : FinV G O H (.ok ((lkD k kvs).getD d)) Q := f
      have := dvK_look (k := k) h2
      cases e : lkD k kvs with
      | some d' =>
        rw [e] at this f'
        obtain ⟨v, g, dv⟩ := this
        rw [g]
        exact f'.ok (Stp.refl H) dv
      | none =>
        rw [e] at this f'
        rw [this]
        exact f'.ok (Stp.refl H) e2
    | _ => exact f.elim
  | _ => exact f.elim
def eqb (b : Bool) (u : Value) : Bool := match u with
  | .bool c => c == b
  | _ => false
theorem eqb_count {b : Bool} : ∀ {bs : List Bool} {us : List Value}, Vals (bs.map V.bl) us → us.countP (eqb b) = cntB b bs
  | [], _, .nil => rfl
  | c :: r, u :: us, .cons h t => by
    obtain rfl : u = Value.bool c := h
    rw [List.countP_cons, eqb_count t]
    show _ = if c = b then cntB b r + 1 else cntB b r
    by_cases e : c = b
    · subst e
      simp [eqb]
    · simp [eqb, e]
theorem mt_countB : MtR X "list.count" (fun x xs H Q => ∃ (p : Addr) (bs : List Bool) (b : Bool), x = .ref p ∧ xs = [.bl b] ∧ SqL X.K H p (bs.map V.bl) ∧ Q (.int (cntB b bs : Nat)) H) := by
  intro pins s σ H x xs v us Q I rx rxs h
  obtain ⟨p, bs, b, rfl, rfl, hs, q⟩ := h
  obtain rfl : v = Value.ref p := rx
  obtain ⟨u, rfl, ru⟩ := vals1 rxs
  obtain rfl : u = Value.bool b := ru
  obtain ⟨its, rv, ⟨⟨cls, dd, data, sl⟩, n, ho, hc, hdn, hd⟩, hlen⟩ := I.list hs
  obtain rfl : cls = .type "list" := hc
  obtain rfl : data = .seq its.toArray n := hd
  have key : ∀ y ∈ its, ∃ c, y = Value.bool c := fun y hy => by
    obtain ⟨i, hi, e⟩ := List.mem_iff_getElem.mp hy
    have l := rv.length
    rw [List.length_map] at l
    obtain ⟨w', g1, g2⟩ := rv.get (i := i) (x := .bl bs[i]) (by simp [show i < bs.length by omega])
    rw [List.getElem?_eq_getElem hi, e] at g1
    cases g1
    exact ⟨_, g2⟩
  refine call_meets PySem.F.slot_list_count ⟨_, ho, rfl⟩ PySem.F.entry_list_count (PySem.F.args_list_count_2 _ _)
    (SeqAt.list_countAt p its.toArray n dd sl (.bool b) (eqb b)) ⟨ho, fun y hy => ?_, ?_⟩
  · obtain ⟨c, rfl⟩ := key y (by simpa using hy)
    exact SeqAt.EqAt.bool_bool c b
  · have ec : its.toArray.toList.countP (eqb b) = cntB b bs := eqb_count rv
    refine ⟨.int (cntB b bs : Nat), H, I.tok _, ⟨s.toks, ?_⟩, q⟩
    show Value.int ((its.toArray.toList.countP (eqb b) : Nat) : Int) s.toks = _
    rw [ec]
def eqn (i : Int) (u : Value) : Bool := match u with
  | .int c _ => c == i
  | _ => false
theorem eqn_count {i : Int} : ∀ {bs : List Int} {us : List Value}, Vals (bs.map V.int) us → us.countP (eqn i) = cntI i bs
  | [], _, .nil => rfl
  | c :: r, u :: us, .cons h t => by
    obtain ⟨tk, rfl⟩ := h
    rw [List.countP_cons, eqn_count t]
    show _ = if c = i then cntI i r + 1 else cntI i r
    by_cases e : c = i
    · subst e
      simp [eqn]
    · simp [eqn, e]
theorem mt_countI : MtR X "list.count" (fun x xs H Q => ∃ (p : Addr) (bs : List Int) (i : Int), x = .ref p ∧ xs = [.int i] ∧ SqL X.K H p (bs.map V.int) ∧ Q (.int (cntI i bs : Nat)) H) := by
  intro pins s σ H x xs v us Q I rx rxs h
  obtain ⟨p, bs, b, rfl, rfl, hs, q⟩ := h
  obtain rfl : v = Value.ref p := rx
  obtain ⟨u, rfl, ru⟩ := vals1 rxs
  obtain ⟨tk, rfl⟩ := ru
  obtain ⟨its, rv, ⟨⟨cls, dd, data, sl⟩, n, ho, hc, hdn, hd⟩, hlen⟩ := I.list hs
  obtain rfl : cls = .type "list" := hc
  obtain rfl : data = .seq its.toArray n := hd
  have key : ∀ y ∈ its, ∃ c t, y = Value.int c t := fun y hy => by
    obtain ⟨i, hi, e⟩ := List.mem_iff_getElem.mp hy
    have l := rv.length
    rw [List.length_map] at l
    obtain ⟨w', g1, g2⟩ := rv.get (i := i) (x := .int bs[i]) (by simp [show i < bs.length by omega])
    rw [List.getElem?_eq_getElem hi, e] at g1
    cases g1
    obtain ⟨t2, g2⟩ := g2
    exact ⟨_, t2, g2⟩
  refine call_meets PySem.F.slot_list_count ⟨_, ho, rfl⟩ PySem.F.entry_list_count (PySem.F.args_list_count_2 _ _)
    (SeqAt.list_countAt p its.toArray n dd sl (.int b tk) (eqn b)) ⟨ho, fun y hy => ?_, ?_⟩
  · obtain ⟨c, t, rfl⟩ := key y (by simpa using hy)
    exact SeqAt.EqAt.int_int c t b tk
  · have ec : its.toArray.toList.countP (eqn b) = cntI b bs := eqn_count rv
    refine ⟨.int (cntI b bs : Nat), H, I.tok _, ⟨s.toks, ?_⟩, q⟩
    show Value.int ((its.toArray.toList.countP (eqn b) : Nat) : Int) s.toks = _
    rw [ec]
theorem mtr_or {id : String} {r r' : V → List V → Hp → VK → Prop} (h : MtR X id r) (h' : MtR X id r') : MtR X id (fun x xs H Q => r x xs H Q ∨ r' x xs H Q) :=
  fun pins s σ H x xs v us Q I rx rxs q => q.elim (h pins s σ H x xs v us Q I rx rxs) (h' pins s σ H x xs v us Q I rx rxs)
theorem od_count (hK : G.K = X.K) : MtR X "list.count" (rMD G fun a => un1 (countD a)) := by
  refine mtr_imp (mtr_or (mt_countB (X := X)) (mt_countI (X := X))) fun x xs H Q h => ?_
  obtain ⟨O, a, ds, ok, ha, hd, f⟩ := h
  obtain ⟨d, rfl, f⟩ := un1_of f
  obtain ⟨v, rfl, e1⟩ := dvL1 hd
  cases a with
  | lst ys =>
   cases d with
   | bl b =>
    obtain ⟨p, vs, rfl, h1, h2⟩ := ha
    cases e1
    have f' : FinV G O H (match bools ys with | some bs => .ok (.int (cntB b bs)) | none => .bad) Q := f
    cases e : bools ys with
    | none => rw [e] at f'; exact f'.elim
    | some bs =>
      rw [e] at f'
      have := bools_of e h2
      subst this
      exact .inl ⟨p, bs, b, rfl, rfl, .inl (.inl (hid_full _ _ h1)), f'.ok (Stp.refl H) rfl⟩
   | int b =>
    obtain ⟨p, vs, rfl, h1, h2⟩ := ha
    cases e1
    have f' : FinV G O H (match intsD ys with | some bs => .ok (.int (cntI b bs)) | none => .bad) Q := f
    cases e : intsD ys with
    | none => rw [e] at f'; exact f'.elim
    | some bs =>
      rw [e] at f'
      have := ints_of e h2
      subst this
      exact .inr ⟨p, bs, b, rfl, rfl, .inl (.inl (hid_full _ _ h1)), f'.ok (Stp.refl H) rfl⟩
   | _ => exact f.elim
  | _ => exact f.elim
theorem idxB_at {b : Bool} : ∀ {bs : List Bool} {k : Nat}, idxB b bs = some k → bs[k]? = some b ∧ ∀ m c, m < k → bs[m]? = some c → c ≠ b
  | [], k, h => by cases h
  | x :: r, k, h => by
    have h' : (if x = b then some 0 else (match idxB b r with | some k => some (k + 1) | none => none)) = some k := h
    by_cases e : x = b
    · rw [if_pos e] at h'
      cases h'
      exact ⟨by rw [e]; rfl, fun m c hm => absurd hm (Nat.not_lt_zero _)⟩
    · rw [if_neg e] at h'
      cases q : idxB b r with
      | none => rw [q] at h'; cases h'
      | some j =>
        rw [q] at h'
        cases h'
        obtain ⟨i1, i2⟩ := idxB_at q
        refine ⟨by simpa using i1, fun m c hm hc => ?_⟩
        cases m with
        | zero =>
          simp at hc
          subst hc
          exact e
        | succ m => exact i2 m c (by omega) (by simpa using hc)
theorem od_index (hK : G.K = X.K) : MtR X "list.index" (rMD G fun a => un1 (indexD a)) := by
  refine mtr_imp (mt_index (X := X)) fun x xs H Q h => ?_
  obtain ⟨O, a, ds, ok, ha, hd, f⟩ := h
  obtain ⟨d, rfl, f⟩ := un1_of f
  obtain ⟨v, rfl, e1⟩ := dvL1 hd
  cases a with
  | lst ys =>
   cases d with
   | bl b =>
    obtain ⟨p, vs, rfl, h1, h2⟩ := ha
    cases e1
    have f' : FinV G O H (match bools ys with
        | some bs => (match idxB b bs with | some k => .ok (.int k) | none => .bad)
        | none => .bad) Q := f
    cases e : bools ys with
    | none => rw [e] at f'; exact f'.elim
    | some bs =>
      rw [e] at f'
      have f2 : FinV G O H (match idxB b bs with | some k => .ok (.int k) | none => .bad) Q := f'
      have := bools_of e h2
      subst this
      cases g : idxB b bs with
      | none => rw [g] at f2; exact f2.elim
      | some k =>
        rw [g] at f2
        obtain ⟨i1, i2⟩ := idxB_at g
        refine ⟨p, bs.map V.bl, .bl b, k, .bl b, rfl, rfl, .inl (.inl (hid_full _ _ h1)), rfl, ?_, by rw [List.getElem?_map, i1]; rfl, by show (b == b) = true; simp, fun m z' hm hz => ?_, f2.ok (Stp.refl H) rfl⟩
        · rw [List.all_map, List.all_eq_true]
          intro c _
          rfl
        · rw [List.getElem?_map] at hz
          cases q : bs[m]? with
          | none => rw [q] at hz; cases hz
          | some c =>
            rw [q] at hz
            cases hz
            have := i2 m c hm q
            show (c == b) = false
            simpa using this
   | _ => exact f.elim
  | _ => exact f.elim
def tyName : Ty → String
  | .int => "int"
  | .bool => "bool"
  | .str => "str"
  | .tuple => "tuple"
  | .list => "list"
  | .cls _ => ""
  | .vale => "ValueError"
/-- a plain thing's type -/
def tyOfD : D → String
  | .non => "NoneType"
  | .bl _ => "bool"
  | .int _ => "int"
  | .str _ => "str"
  | .tup _ => "tuple"
  | .lst _ => "list"
  | _ => "dict"
theorem tyx_of (hK : G.K = X.K) {O : List Addr} {H : Hp} {a : D} {x : V} (ha : Dv G (hid H O) a x) (h1 : ∀ c, a ≠ .exc c) (h2 : ∀ f, a ≠ .fn f) (h4 : ∀ ns, a ≠ .scr ns) : TyX X.K H x (.type (tyOfD a)) := by
  cases a with
  | non => cases ha; exact .base .non
  | bl b => cases ha; exact .base (.bl b)
  | int b => cases ha; exact .base (.int b)
  | str b => cases ha; exact .base (.str b)
  | tup ds =>
    obtain ⟨p, vs, rfl, g1, g2⟩ := ha
    rw [hK] at g1
    rcases sqT_mono hid_same g1 with (g | ⟨o, g⟩) | ⟨o, its, n, k1, k2, _⟩
    · exact .base (.tup g)
    · exact .fTuple g
    · exact .kTuple k1 k2
  | lst ds =>
    obtain ⟨p, vs, rfl, g1, g2⟩ := ha
    exact .base (.lst (hid_full _ _ g1))
  | dic kvs =>
    obtain ⟨p, us, rfl, g1, g2⟩ := ha
    rcases g1 with g | ⟨⟨es, n, k⟩, _⟩
    · exact .base (.dK (hid_full _ _ g))
    · rw [hK] at k
      exact .kDict k.at_ rfl
  | exc c => exact absurd rfl (h1 c)
  | fn f => exact absurd rfl (h2 f)
  | clo _ _ => exact ha.elim
  | scr ns => exact absurd rfl (h4 ns)
/-- isinstance(x, T), T a built-in class -/
theorem od_isi (hK : G.K = X.K) (t : Ty) (sub : Nat → Nat → Bool) (ht : ∀ c, t ≠ .cls c) (hv : t ≠ .vale) :
    CallR X (.builtin "isinstance") (fun xs H Q => ∃ O a x, OkO O H ∧ xs = [x, .ty (tyName t)] ∧ Dv G (hid H O) a x ∧ FinV G O H (isiEv sub a t) Q) := by
  refine callr_imp (call_isi (X := X)) fun xs H Q h => ?_
  obtain ⟨O, a, x, ok, rfl, ha, f⟩ := h
  have key : ∀ b, FinV G O H (.ok (.bl b)) Q → (∀ c, a ≠ .exc c) → (∀ f, a ≠ .fn f) → (∀ ns, a ≠ .scr ns) → kitB (tyOfD a) (tyName t) = some b → rIsi X.K [x, .ty (tyName t)] H Q :=
    fun b f h1 h2 h3 h4 => ⟨x, .ty (tyName t), .type (tyOfD a), .type (tyName t), b, rfl, .ty _, tyx_of hK ha h1 h2 h3, kit_ty h4, f.ok (Stp.refl H) rfl⟩
  cases t with
  | cls c => exact absurd rfl (ht c)
  | vale => exact absurd rfl hv
  | int => cases a <;> first | exact f.elim | exact ha.elim | exact key _ f (fun _ e => by cases e) (fun _ e => by cases e) (fun _ e => by cases e) (by simp only [tyOfD, tyName]; decide +kernel)
  | bool => cases a <;> first | exact f.elim | exact ha.elim | exact key _ f (fun _ e => by cases e) (fun _ e => by cases e) (fun _ e => by cases e) (by simp only [tyOfD, tyName]; decide +kernel)
  | str => cases a <;> first | exact f.elim | exact ha.elim | exact key _ f (fun _ e => by cases e) (fun _ e => by cases e) (fun _ e => by cases e) (by simp only [tyOfD, tyName]; decide +kernel)
  | tuple => cases a <;> first | exact f.elim | exact ha.elim | exact key _ f (fun _ e => by cases e) (fun _ e => by cases e) (fun _ e => by cases e) (by simp only [tyOfD, tyName]; decide +kernel)
  | list => cases a <;> first | exact f.elim | exact ha.elim | exact key _ f (fun _ e => by cases e) (fun _ e => by cases e) (fun _ e => by cases e) (by simp only [tyOfD, tyName]; decide +kernel)
/-- isinstance(e, C), e an exception of an own class; cu: the class asked -/
theorem od_isx {c : Nat} {cv : V} {cu : Value} {b : Bool} (he : excB X.K (G.cls c) = true) (hc : ClsV cv cu) (hk : PySem.W.kitOne X.K (.ref (G.cls c)) cu = some b) :
    CallR X (.builtin "isinstance") (fun xs H Q => ∃ O x, OkO O H ∧ xs = [x, cv] ∧ Dv G (hid H O) (.exc c) x ∧ Q (.bl b) H) := by
  intro pins s σ H xs us Q I r h
  obtain ⟨O, x, ok, rfl, ⟨_, a, rfl, ha⟩, q⟩ := h
  obtain ⟨u1, u2, rfl, r1, r2⟩ := vals2 r
  have e2 := hc.eq r2
  subst e2
  obtain rfl : u1 = Value.ref a := r1
  obtain ⟨⟨o, vs, h1, h2, h3, h4⟩, _, _⟩ := (show ObjOk X.prog X.w H s.heap a (.ext (excAt a (G.cls c))) from I.hok a _ (hid_full _ _ ha))
  exact PySem.W.kia_one (excB_kit (ox := o) he) I.kIn ⟨h1, h2, by unfold PySem.W.notCls; rw [h4], by rw [h3]; trivial⟩ hk (fun z => nomatch z) fun tk => ⟨.bl b, H, I.tok tk, rfl, q⟩
end
end FD
namespace FD
open PySem PySem.Spec PyProof.Rows L2
variable [Tbls]
section
variable {X : Cx} {G : Gt} {pins : List (Addr × Obj)} {σ : L2.St} {H H0 : Hp} {s : Shared}
mutual
theorem dv_uniq (I : Inv X pins σ H s) (hK : G.K = X.K) (e : Same H0 H) : ∀ (sh : Sh) (a b : D) (v : V), hasSh sh a = true → hasSh sh b = true → Dv G H0 a v → Dv G H0 b v → a = b
  | .int, a, b, v, ha, hb, da, db => by
    cases a <;> first | (cases ha; done) | skip
    cases b <;> first | (cases hb; done) | skip
    cases da
    cases db
    rfl
  | .str, a, b, v, ha, hb, da, db => by
    cases a <;> first | (cases ha; done) | skip
    cases b <;> first | (cases hb; done) | skip
    cases da
    cases db
    rfl
  | .tup ss, a, b, v, ha, hb, da, db => by
    cases a <;> first | (cases ha; done) | skip
    cases b <;> first | (cases hb; done) | skip
    obtain ⟨p, vs, rfl, h1, h2⟩ := da
    obtain ⟨q, us, eq, h3, h4⟩ := db
    cases eq
    rw [hK] at h1 h3
    have := I.tuple_inj (sqT_mono e h1) (sqT_mono e h3)
    subst this
    rw [dvL_uniq I hK e ss _ _ vs ha hb h2 h4]
theorem dvL_uniq (I : Inv X pins σ H s) (hK : G.K = X.K) (e : Same H0 H) : ∀ (ss : List Sh) (as bs : List D) (vs : List V), hasShs ss as = true → hasShs ss bs = true → DvL G H0 as vs → DvL G H0 bs vs → as = bs
  | [], as, bs, vs, ha, hb, da, db => by
    cases as <;> first | (cases ha; done) | skip
    cases bs <;> first | (cases hb; done) | skip
    rfl
  | sh :: ss, as, bs, vs, ha, hb, da, db => by
    cases as <;> first | (cases ha; done) | skip
    cases bs <;> first | (cases hb; done) | skip
    rename_i a as b bs
    have h1 : (hasSh sh a && hasShs ss as) = true := ha
    have h2 : (hasSh sh b && hasShs ss bs) = true := hb
    rw [Bool.and_eq_true] at h1 h2
    obtain ⟨v, r, rfl, d1, d2⟩ := da
    obtain ⟨v', r', eq, d3, d4⟩ := db
    cases eq
    rw [dv_uniq I hK e sh a b v h1.1 h2.1 d1 d3, dvL_uniq I hK e ss as bs r h1.2 h2.2 d2 d4]
end
/-- what a pair's first items may be where they are compared by their one type -/
def plainSh : Sh → Bool
  | .tup _ => false
  | _ => true
/-- two rows of values compare as their data do -/
theorem katD (I : Inv X pins σ H s) (hK : G.K = X.K) (e : Same H0 H) {A : Around} {n : Nat} (hu : A.units + n < cLine) {b : Bool} {Q : Bool → Shared → Prop} : ∀ (ss : List Sh) (xs ys : List D) (vx vy : List V) (ux uy : List Value) (i : Nat) (c : Bool),
    DvL G H0 xs vx → DvL G H0 ys vy → Vals vx ux → Vals vy uy → hasShs ss xs = true → hasShs ss ys = true → shps n xs = true → shps n ys = true → (b = true → i = 0 → ∀ t r, ss = t :: r → plainSh t = true) →
    ordDs .lt xs ys = some c → Q c s → PySem.W.KatLex X.prog X.w A b false Q (ux.zip uy) i s
  | [], xs, ys, vx, vy, ux, uy, i, c, d1, d2, r1, r2, h1, h2, _, _, _, o, q => by
    cases xs <;> first | (cases h1; done) | skip
    cases ys <;> first | (cases h2; done) | skip
    cases d1
    cases d2
    cases r1
    cases r2
    cases o
    exact q
  | t :: ss, xs, ys, vx, vy, ux, uy, i, c, d1, d2, r1, r2, h1, h2, s1, s2, pl, o, q => by
    cases xs <;> first | (cases h1; done) | skip
    cases ys <;> first | (cases h2; done) | skip
    rename_i x xs y ys
    have k1 : (hasSh t x && hasShs ss xs) = true := h1
    have k2 : (hasSh t y && hasShs ss ys) = true := h2
    have k3 : (shp n x && shps n xs) = true := s1
    have k4 : (shp n y && shps n ys) = true := s2
    rw [Bool.and_eq_true] at k1 k2 k3 k4
    obtain ⟨v, vr, rfl, e1, e2⟩ := d1
    obtain ⟨v', vr', rfl, e3, e4⟩ := d2
    cases r1 with
    | cons rv rr =>
      rename_i u ur
      cases r2 with
      | cons rv' rr' =>
        rename_i u' ur'
        have o' : (match ordDs .lt xs ys with
          | some c => if eqv x y then some c else ordD .lt x y
          | none => none) = some c := o
        refine PySem.W.kat_cons (eqAt_D I hK e e1 e3 rv rv' k3.1 k4.1 hu X.prog X.w _ _ ?_)
        refine PySem.W.kat_go (fun q1 => ?_) (fun q1 => ?_)
        · refine PySem.W.kat_yes ?_
          cases w1 : ordDs .lt xs ys with
          | none => rw [w1] at o'; cases o'
          | some c2 =>
            rw [w1, q1] at o'
            have o2 : some c2 = some c := o'
            cases o2
            exact katD I hK e hu ss xs ys vr vr' ur ur' (i + 1) _ e2 e4 rr rr' k1.2 k2.2 k3.2 k4.2 (fun _ z => absurd z (Nat.succ_ne_zero i)) w1 q
        · refine PySem.W.kat_no ?_
          have o2 : ordD .lt x y = some c := by
            cases w1 : ordDs .lt xs ys with
            | none => rw [w1] at o'; cases o'
            | some c2 =>
              rw [w1, q1] at o'
              exact o'
          cases wb : (b && i == 0) with
          | false =>
            refine PySem.W.kat_one u u' ?_
            exact rc_D I hK e .lt n A x y v v' u u' c e1 e3 rv rv' k3.1 k4.1 hu o2 X.prog X.w _ _ q
          | true =>
            rw [Bool.and_eq_true] at wb
            have pt := pl wb.1 (eq_of_beq wb.2) t ss rfl
            cases t with
            | tup _ => cases pt
            | int =>
              cases x <;> first | (cases k1.1; done) | skip
              cases y <;> first | (cases k2.1; done) | skip
              cases e1
              cases e3
              obtain ⟨t1, rfl⟩ := rv
              obtain ⟨t2, rfl⟩ := rv'
              have o3 : some (decide (_ < _)) = some c := o2
              cases o3
              exact oneLt_int q
            | str =>
              cases x <;> first | (cases k1.1; done) | skip
              cases y <;> first | (cases k2.1; done) | skip
              cases e1
              cases e3
              obtain ⟨t1, rfl⟩ := rv
              obtain ⟨t2, rfl⟩ := rv'
              have o3 : some (decide (_ < _)) = some c := o2
              cases o3
              exact oneLt_str q
/-- the values that stand for tuples of one shape -/
structure Tups (G : Gt) (H0 : Hp) (ss : List Sh) (ds : List D) (vs : List V) : Prop where
  dv : DvL G H0 ds vs
  sh : ∀ d ∈ ds, hasSh (.tup ss) d = true
  lay : ∀ d ∈ ds, shp 50 d = true
theorem shTy (t : Sh) : ∃ T : String, (∀ (x : D) (v : V) (u : Value) (h : Heap), hasSh t x = true → (∀ ss, t = .tup ss → ∃ a o, u = .ref a ∧ h.get? a = some o ∧ o.cls = .type "tuple") → Dv G H0 x v → RelV v u → PySem.W.Looks (model X.prog X.w) h (typeOf u) (.type T)) ∧ ((Value.type T != Value.type "tuple") = plainSh t) := by
  cases t with
  | int =>
    refine ⟨"int", fun x v u h hx _ d r => ?_, by decide +kernel⟩
    cases x <;> first | (cases hx; done) | skip
    cases d
    obtain ⟨t1, rfl⟩ := r
    exact PySem.W.Looks.now
  | str =>
    refine ⟨"str", fun x v u h hx _ d r => ?_, by decide +kernel⟩
    cases x <;> first | (cases hx; done) | skip
    cases d
    obtain ⟨t1, rfl⟩ := r
    exact PySem.W.Looks.now
  | tup ss =>
    refine ⟨"tuple", fun x v u h hx ht d r => ?_, (by decide +kernel : (Value.type "tuple" != Value.type "tuple") = false)⟩
    obtain ⟨a, o, rfl, ho, hc⟩ := ht ss rfl
    have w1 : PySem.W.Looks (model X.prog X.w) h (typeOf (.ref a)) o.cls := (PySem.W.Looks.ld ho).andThen .now
    rw [hc] at w1
    exact w1
theorem tup_at {Hs : Hp} (I : Inv X pins σ Hs s) (hK : G.K = X.K) (e : Same H0 Hs) {ss : List Sh} {d : D} {v : V} (hd : hasSh (.tup ss) d = true) (dv : Dv G H0 d v) : ∃ xs a vs o its n, d = .tup xs ∧ v = .ref a ∧ hasShs ss xs = true ∧ DvL G H0 xs vs ∧ Vals vs its ∧ s.heap.get? a = some o ∧ o.cls = .type "tuple" ∧ o.data = .seq its.toArray n := by
  cases d <;> first | (cases hd; done) | skip
  rename_i xs
  obtain ⟨a, vs, rfl, h1, h2⟩ := dv
  rw [hK] at h1
  obtain ⟨its, r, ⟨o, w1, w2, n, w3⟩, _⟩ := I.tuple (sqT_mono e h1)
  exact ⟨xs, a, vs, o, its, n, rfl, rfl, hd, h2, r, w1, w2, w3⟩
theorem vals_len {xs : List V} {us : List Value} (r : Vals xs us) : xs.length = us.length := r.length
/-- the firsts of some tuples -/
theorem firstsD {Hs : Hp} (I : Inv X pins σ Hs s) (hK : G.K = X.K) (e : Same H0 Hs) {t : Sh} {ss : List Sh} : ∀ {ds : List D} {vs : List V} {us : List Value}, DvL G H0 ds vs → Vals vs us → (∀ d ∈ ds, hasSh (.tup (t :: ss)) d = true) →
    ∃ fs : List Value, PySem.W.KatTups s.heap us fs ∧ fs.length = us.length ∧ ∀ f ∈ fs, ∃ x v, hasSh t x = true ∧ Dv G H0 x v ∧ RelV v f
  | [], vs, us, dv, r, h => by
    cases dv
    cases r
    exact ⟨[], True.intro, rfl, fun f hf => by cases hf⟩
  | d :: ds, vs, us, dv, r, h => by
    obtain ⟨v, vr, rfl, h1, h2⟩ := dv
    cases r with
    | cons rv rr =>
      rename_i u ur
      obtain ⟨fs, k1, k2, k3⟩ := firstsD I hK e h2 rr fun x hx => h x (List.mem_cons_of_mem _ hx)
      obtain ⟨xs, a, ws, o, its, n, rfl, rfl, hx, dx, rx, o1, o2, o3⟩ := tup_at I hK e (h d (List.mem_cons_self ..)) h1
      obtain rfl : u = Value.ref a := rv
      cases xs with
      | nil => cases hx
      | cons x xs =>
        have hx' : (hasSh t x && hasShs ss xs) = true := hx
        rw [Bool.and_eq_true] at hx'
        obtain ⟨w, wr, rfl, d1, d2⟩ := dx
        cases rx with
        | cons rw_ rr_ =>
          rename_i f fr
          refine ⟨f :: fs, ⟨⟨a, o, _, n, rfl, o1, o2, o3, by simp⟩, k1⟩, by rw [List.length_cons, List.length_cons, k2], fun g hg => ?_⟩
          rcases List.mem_cons.mp hg with rfl | hg
          · exact ⟨x, w, hx'.1, d1, rw_⟩
          · exact k3 g hg
/-- what a value of a row stands for -/
noncomputable def keyOf (ds : List D) (us : List Value) (d0 : D) (u : Value) : D := (ds[us.findIdx fun x => @decide (x = u) (Classical.propDecidable _)]?).getD d0
theorem keyOf_at {ss : List Sh} {ds : List D} {vs : List V} {us : List Value} {d0 : D} {Hs : Hp} (I : Inv X pins σ Hs s) (hK : G.K = X.K) (e : Same H0 Hs) (t : Tups G H0 ss ds vs) (r : Vals vs us) {i : Nat} {u : Value} (hi : us[i]? = some u) : ds[i]? = some (keyOf ds us d0 u) ∧ ∃ a, u = .ref a ∧ Dv G H0 (keyOf ds us d0 u) (.ref a) := by
  have key : ∀ (j : Nat), us[j]? = some u → ∃ d a, ds[j]? = some d ∧ u = .ref a ∧ Dv G H0 d (.ref a) ∧ hasSh (.tup ss) d = true := fun j hj => by
    have lu : j < us.length := by
      rcases Nat.lt_or_ge j us.length with h | h
      · exact h
      · rw [List.getElem?_eq_none h] at hj
        cases hj
    have ld : j < ds.length := by rw [dvL_len t.dv, vals_len r]; exact lu
    obtain ⟨v, g1, g2⟩ := dvL_get t.dv (List.getElem?_eq_getElem ld)
    obtain ⟨u', g3, g4⟩ := r.get g1
    rw [hj] at g3
    cases g3
    have hd := t.sh ds[j] (List.getElem_mem ld)
    obtain ⟨xs, a, ws, o, its, n, e1, rfl, _⟩ := tup_at I hK e hd g2
    exact ⟨ds[j], a, List.getElem?_eq_getElem ld, g4, g2, hd⟩
  obtain ⟨d, a, h1, h2, h3, h4⟩ := key i hi
  have hm : u ∈ us := List.mem_of_getElem? hi
  have hf : us[us.findIdx fun x => @decide (x = u) (Classical.propDecidable _)]? = some u := by
    have hex : ∃ x ∈ us, (fun x => @decide (x = u) (Classical.propDecidable _)) x = true := ⟨u, hm, by simp⟩
    have hlt := List.findIdx_lt_length_of_exists hex
    rw [List.getElem?_eq_getElem hlt]
    have := List.findIdx_getElem (w := hlt)
    simp only [decide_eq_true_eq] at this
    rw [this]
  obtain ⟨d', a', k1, k2, k3, k4⟩ := key _ hf
  rw [h2] at k2
  cases k2
  have ek : keyOf ds us d0 u = d' := by
    unfold keyOf
    rw [k1]
    rfl
  have dd : d = d' := dv_uniq I hK e (.tup ss) d d' (.ref a) h4 k4 h3 k3
  rw [ek]
  exact ⟨by rw [← dd]; exact h1, a, h2, k3⟩
theorem keyOf_sh {ss : List Sh} {ds : List D} {us : List Value} {d0 : D} (h0 : hasSh (.tup ss) d0 = true) (h : ∀ d ∈ ds, hasSh (.tup ss) d = true) (u : Value) : hasSh (.tup ss) (keyOf ds us d0 u) = true := by
  unfold keyOf
  cases q : ds[us.findIdx fun x => @decide (x = u) (Classical.propDecidable _)]? with
  | none => exact h0
  | some d => exact h d (List.mem_of_getElem? q)
theorem swoD {sh : Sh} {f : Value → D} (h : ∀ u, hasSh sh (f u) = true) : SrtO.Swo fun v u => ltD (f v) (f u) := by
  refine ⟨fun x y q => ?_, fun x y z q1 q2 => ltD_le_tr (h x) (h y) (h z) q1 q2⟩
  cases w : ltD (f y) (f x) with
  | false => rfl
  | true => exact absurd (sh_tr sh _ _ _ (h x) (h y) (h x) ((ltD_iff (h x) (h y)).mp q) ((ltD_iff (h y) (h x)).mp w)) (sh_irr sh _ (h x))
theorem cr_sortD (hK : G.K = X.K) (hu : X.A.units + 100 < cLine) : CallR X (.builtin "sorted") (fun xs H Q => ∃ (O : List Addr) (t : Sh) (ss : List Sh) (ds : List D) (a : Addr) (vs : List V) (d0 : D), xs = [.ref a] ∧ SqL X.K H a vs ∧ Tups G (hid H O) (t :: ss) ds vs ∧ hasSh (.tup (t :: ss)) d0 = true ∧
    ∀ p us, H p = none → DvL G (hid H O) (isort ds) us → Q (.ref p) (upd H p (.lst us))) := by
  intro pins s σ H xs us Q I r h
  obtain ⟨O, t, ss, ds, a, vs, d0, rfl, hs, tp, h0, q⟩ := h
  obtain ⟨ws, rw_, hlist, hsize⟩ := I.list hs
  obtain ⟨u, rfl, ru⟩ := vals1 r
  obtain rfl : u = Value.ref a := ru
  have e : Same (hid H O) H := hid_same
  have hsh : ∀ u, hasSh (.tup (t :: ss)) (keyOf ds ws d0 u) = true := keyOf_sh h0 tp.sh
  have hlen : vs.length = ws.length := vals_len rw_
  refine SrtO.sorted_ord (swoD hsh) hlist.isList (by rw [← hlen]; exact hsize) (fun h2 h₁ b hb kk => ?_) fun out h1 h2 => ?_
  · intro h' keep
    have kp : ∀ c o, s.heap.get? c = some o → h'.get? c = some o := fun c o w => keep c o (kk c o w).1 (kk c o w).2
    have I' : Inv X pins σ H { s with heap := h', toks := s.toks } := I.kept (t' := s.toks) kp
    obtain ⟨fs, f1, f2, f3⟩ := firstsD I' hK e tp.dv rw_ tp.sh
    obtain ⟨T, t1, t2⟩ := shTy (X := X) (G := G) (H0 := hid H O) t
    refine ⟨tuples' (plainSh t), fun Q E hq => ?_, fun p q' hp hq' => ?_⟩
    · refine PySem.W.kat_kind (T := .type T) f1 (by omega) (fun f hf => ?_) (by simp) (by rw [t2]; exact hq)
      obtain ⟨x, v, w1, w2, w3⟩ := f3 f hf
      refine t1 x v f h' w1 (fun ss2 et => ?_) w2 w3
      subst et
      obtain ⟨xs, c, vs2, o, its, n, rfl, rfl, _, _, _, o1, o2, _⟩ := tup_at I' hK e w1 w2
      exact ⟨c, o, w3, o1, o2⟩
    · obtain ⟨i, hi⟩ := List.mem_iff_getElem?.mp (show p.1 ∈ ws from hp)
      obtain ⟨j, hj⟩ := List.mem_iff_getElem?.mp (show q'.1 ∈ ws from hq')
      obtain ⟨k1, c1, w1, v1⟩ := keyOf_at (d0 := d0) I' hK e tp rw_ hi
      obtain ⟨k2, c2, w2, v2⟩ := keyOf_at (d0 := d0) I' hK e tp rw_ hj
      have l1 := tp.lay _ (List.mem_of_getElem? k1)
      have l2 := tp.lay _ (List.mem_of_getElem? k2)
      show wpAny _ _ (keyLt' (tuples' (plainSh t)) p.1 q'.1) (fun r s' => s' = _ ∧ r = ltD (keyOf ds ws d0 p.1) (keyOf ds ws d0 q'.1)) _ _
      have s1 := hsh p.1
      have s2 := hsh q'.1
      generalize keyOf ds ws d0 p.1 = dp at *
      generalize keyOf ds ws d0 q'.1 = dq at *
      obtain ⟨xs, _, vx, o, ix, n, rfl, ea, hx, dx, rx, o1, o2, o3⟩ := tup_at I' hK e s1 v1
      obtain ⟨ys, _, vy, o', iy, n', rfl, eb, hy, dy, ry, o4, o5, o6⟩ := tup_at I' hK e s2 v2
      cases ea
      cases eb
      rw [w1, w2]
      refine PySem.W.kat_lt o1 o3 o4 o6 ?_
      have lx : ix.length = iy.length := by
        have g1 : ∀ {as bs : List D} {ss : List Sh}, hasShs ss as = true → hasShs ss bs = true → as.length = bs.length := by
          intro as
          induction as with
          | nil =>
            intro bs ss ha hb
            cases ss with
            | cons _ _ => cases ha
            | nil =>
              cases bs with
              | nil => rfl
              | cons _ _ => cases hb
          | cons x as ih =>
            intro bs ss ha hb
            cases ss with
            | nil => cases ha
            | cons z ss =>
              cases bs with
              | nil => cases hb
              | cons y bs => exact congrArg (· + 1) (ih ((Bool.and_eq_true _ _).mp (show (hasSh z x && hasShs ss as) = true from ha)).2 ((Bool.and_eq_true _ _).mp (show (hasSh z y && hasShs ss bs) = true from hb)).2)
        rw [← vals_len rx, ← vals_len ry, ← dvL_len dx, ← dvL_len dy]
        exact g1 hx hy
      have ef : decide (ix.toArray.size < iy.toArray.size) = false := by
        rw [List.size_toArray, List.size_toArray, lx]
        exact decide_eq_false (Nat.lt_irrefl _)
      obtain ⟨c, oc⟩ := sh_some (.tup (t :: ss)) (.tup xs) (.tup ys) hx hy
      have ec : ltD (.tup xs) (.tup ys) = c := by
        unfold ltD
        rw [oc]
      rw [ef, ec]
      have oc' : ordDs .lt xs ys = some c := oc
      refine katD (n := 49) I' hK e ?_ (t :: ss) xs ys vx vy ix iy 0 c dx dy rx ry hx hy l1 l2 (fun hb _ t' r' et => ?_) oc' ⟨rfl, rfl⟩
      · show X.A.units + 1 + 1 + 49 < cLine
        omega
      · cases et
        exact hb
  · have kp : ∀ c o, s.heap.get? c = some o → (sortedAll s.heap ws out.toArray).get? c = some o := fun c o w => sortedAll_old w
    obtain ⟨n, hn⟩ := sortedAll_at s.heap ws out.toArray
    have hmem : ∀ u ∈ out, u ∈ ws := fun u hm => h2.perm.mem_iff.mp hm
    have hkey : ∀ u ∈ ws, ∃ b, u = .ref b ∧ Dv G (hid H O) (keyOf ds ws d0 u) (.ref b) := fun u hm => by
      obtain ⟨i, hi⟩ := List.mem_iff_getElem?.mp hm
      exact (keyOf_at (d0 := d0) I hK e tp rw_ hi).2
    have hrefs : ∀ u ∈ out, ∃ b, u = Value.ref b := fun u hm => by
      obtain ⟨b, w, _⟩ := hkey u (hmem u hm)
      exact ⟨b, w⟩
    have emap : ws.map (keyOf ds ws d0) = ds := by
      refine List.ext_getElem? fun i => ?_
      rw [List.getElem?_map]
      cases hi : ws[i]? with
      | none =>
        have : ws.length ≤ i := List.getElem?_eq_none_iff.mp hi
        rw [List.getElem?_eq_none (by rw [dvL_len tp.dv, hlen]; exact this)]
        rfl
      | some u => exact (keyOf_at (d0 := d0) I hK e tp rw_ hi).1.symm
    have pm : (out.map (keyOf ds ws d0)).Perm ds := by
      have z := h2.perm.map (keyOf ds ws d0)
      rw [emap] at z
      exact z
    have es : out.map (keyOf ds ws d0) = isort ds := isort_eq (s := .tup (t :: ss)) tp.sh (List.pairwise_map.mpr h1) pm
    have dl : ∀ (l : List Value), (∀ u ∈ l, u ∈ ws) → DvL G (hid H O) (l.map (keyOf ds ws d0)) (l.map backV) := by
      intro l
      induction l with
      | nil => intro _; rfl
      | cons u l ih =>
        intro hm
        obtain ⟨b, w, dw⟩ := hkey u (hm u (List.mem_cons_self ..))
        refine ⟨backV u, l.map backV, rfl, ?_, ih fun z hz => hm z (List.mem_cons_of_mem _ hz)⟩
        have eb : backV u = .ref b := by rw [w]; rfl
        rw [eb]
        exact dw
    have dout := dl out hmem
    rw [es] at dout
    have hz : (out.map backV).length ≤ sizeLine := by
      rw [List.length_map, h2.perm.length_eq, ← hlen]
      exact hsize
    exact ⟨.ref (s.heap.objs.size + 1), upd H (s.heap.objs.size + 1) (.lst (out.map backV)), I.laid (t' := s.toks) kp (Nat.le_succ _) ⟨hz, out, n, vals_back hrefs, hn⟩, rfl, q _ _ (I.hok.fresh (Nat.le_succ _)) dout⟩
theorem ints_sh : ∀ {ds : List D}, AllSh .int ds → ∃ ns : List Int, ds = ns.map D.int
  | [], _ => ⟨[], rfl⟩
  | d :: r, h => by
    obtain ⟨ns, e⟩ := ints_sh (ds := r) fun x hx => h x (List.mem_cons_of_mem _ hx)
    have hd := h d (List.mem_cons_self ..)
    cases d <;> first | (cases hd; done) | skip
    rename_i i
    exact ⟨i :: ns, by rw [e]; rfl⟩
theorem dvL_ints {H : Hp} : ∀ {ns : List Int} {vs : List V}, DvL G H (ns.map D.int) vs → vs = ns.map V.int
  | [], _, h => h
  | n :: ns, _, h => by
    obtain ⟨v, r, rfl, h1, h2⟩ := h
    cases h1
    rw [dvL_ints h2]
    rfl
theorem ints_dvL {H : Hp} : ∀ (ns : List Int), DvL G H (ns.map D.int) (ns.map V.int)
  | [] => rfl
  | n :: ns => ⟨.int n, ns.map V.int, rfl, rfl, ints_dvL ns⟩
theorem allSh_ints (ns : List Int) : AllSh .int (ns.map D.int) := fun x hx => by
  obtain ⟨n, _, rfl⟩ := List.mem_map.mp hx
  rfl
theorem ltD_int (i j : Int) : ltD (.int i) (.int j) = decide (i < j) := rfl
theorem srtD_ints {ns : List Int} (h : ns.Pairwise (· ≤ ·)) : SrtD (ns.map D.int) := by
  refine List.pairwise_map.mpr (h.imp fun {a b} q => ?_)
  rw [ltD_int]
  exact decide_eq_false (by omega)
theorem od_sorted (hK : G.K = X.K) (hu : X.A.units + 100 < cLine) : CallR X (.builtin "sorted") (rBD G (un1 sortedD)) := by
  intro pins s σ H xs us Q I r h
  obtain ⟨O, ds, ok, dl, f⟩ := h
  obtain ⟨d, rfl, f⟩ := un1_of f
  obtain ⟨v, rfl, dv⟩ := dvL1 dl
  cases d with
  | lst zs =>
    obtain ⟨c, f⟩ := FinV.grd (show FinV G O H (guard' (likeAll zs && (sortOk zs && decide (zs.length ≤ lim))) (.ok (.lst (isort zs)))) Q from f)
    rw [Bool.and_eq_true, Bool.and_eq_true] at c
    obtain ⟨a, vs, rfl, h1, h2⟩ := dv
    have hsq : SqL X.K H a vs := .inl (.inl (hid_full _ _ h1))
    obtain ⟨sh, hall, hlay⟩ := likeAll_of c.1
    have onInts : ∀ ns : List Int, zs = ns.map D.int → wpAny (model X.prog X.w) X.A (call (.builtin "sorted") us) (EP X pins σ Q) X.xe s := fun ns e => by
      subst e
      have ev := dvL_ints h2
      subst ev
      refine cr_sortedI pins s σ H _ us Q I r ⟨a, ns, rfl, hsq, fun ns' p pm pw hp => f.ok (stp_upd' hp) ?_⟩
      rw [← isort_eq (allSh_ints ns) (srtD_ints pw) (pm.map D.int)]
      exact dv_newL ok hp (ints_dvL ns')
    cases zs with
    | nil => exact onInts [] rfl
    | cons z zr =>
      have hz := hall z (List.mem_cons_self ..)
      cases z with
      | int i =>
        cases sh with
        | int =>
          obtain ⟨ns, e⟩ := ints_sh hall
          exact onInts ns e
        | str => cases hz
        | tup _ => cases hz
      | tup ys =>
        cases sh with
        | int => cases hz
        | str => cases hz
        | tup ss =>
          cases ss with
          | nil =>
            cases ys with
            | nil => cases c.2.1
            | cons _ _ => cases hz
          | cons t ss =>
            exact cr_sortD hK hu pins s σ H _ us Q I r ⟨O, t, ss, _, a, vs, .tup ys, rfl, hsq, ⟨h2, hall, hlay⟩, hz, fun p ws hp dw => f.ok (stp_upd' hp) (dv_newL ok hp dw)⟩
      | _ => cases c.2.1
  | _ => exact f.elim
end
end FD
namespace FD
open PySem PySem.Spec PyProof.Rows L2
variable [Tbls]
theorem eqv_int (i j : Int) : eqv (.int i) (.int j) = decide (i = j) := by
  show (i == j) = _
  by_cases h : i = j
  · rw [decide_eq_true h, h, beq_self_eq_true]
  · rw [decide_eq_false h]
    exact beq_eq_false_iff_ne.mpr h
theorem eqvs_ints : ∀ (n m : List Int), eqvs (n.map D.int) (m.map D.int) = decide (n = m)
  | [], [] => rfl
  | [], _ :: _ => by simp [eqvs]
  | _ :: _, [] => by simp [eqvs]
  | i :: n, j :: m => by
    show (eqv (.int i) (.int j) && eqvs (n.map D.int) (m.map D.int)) = _
    rw [eqv_int, eqvs_ints n m]
    by_cases h : i = j <;> by_cases h2 : n = m <;> simp [h, h2]
theorem ord_code {B : Int} : ∀ {n m : List Int}, n.length = m.length → TS.Bd B n → TS.Bd B m → ∃ c, ordDs .lt (n.map D.int) (m.map D.int) = some c ∧ (c = true → TS.code B n < TS.code B m)
  | [], [], _, _, _ => ⟨false, rfl, fun h => by cases h⟩
  | [], _ :: _, h, _, _ => by simp at h
  | _ :: _, [], h, _, _ => by simp at h
  | i :: n, j :: m, h, hn, hm => by
    have hl : n.length = m.length := by simpa using h
    obtain ⟨c, e, q⟩ := ord_code hl hn.tail hm.tail
    have u : ordDs .lt ((i :: n).map D.int) ((j :: m).map D.int) = if eqv (.int i) (.int j) then some c else some (decide (i < j)) := by
      show (match ordDs .lt (n.map D.int) (m.map D.int) with | some c => if eqv (.int i) (.int j) then some c else ordD .lt (.int i) (.int j) | none => none) = _
      rw [e]
      rfl
    rw [u, eqv_int]
    by_cases hij : i = j
    · subst hij
      refine ⟨c, by rw [decide_eq_true rfl, if_pos rfl], fun hc => ?_⟩
      have := q hc
      show i * B ^ n.length + TS.code B n < i * B ^ m.length + TS.code B m
      rw [hl]
      omega
    · refine ⟨decide (i < j), by rw [decide_eq_false hij, if_neg (by decide)], fun hc => ?_⟩
      exact TS.code_lt hl hn.tail hm.tail (of_decide_eq_true hc)
def tupD (ns : List Int) : D := .tup (ns.map D.int)
theorem ltD_code {B : Int} {n m : List Int} (hl : n.length = m.length) (hn : TS.Bd B n) (hm : TS.Bd B m) (h : TS.code B m ≤ TS.code B n) : ltD (tupD n) (tupD m) = false := by
  obtain ⟨c, e, q⟩ := ord_code hl hn hm
  show (match ordDs .lt (n.map D.int) (m.map D.int) with | some c => c | none => false) = false
  rw [e]
  cases c with
  | false => rfl
  | true =>
    have := q rfl
    omega
theorem tupD_inj {n m : List Int} (h : tupD n = tupD m) : n = m := by
  have h' : n.map D.int = m.map D.int := by injection h
  exact (List.map_inj_right fun a b e => by injection e).mp h'
theorem inD_mem {P : D → Prop} (he : ∀ a b, P a → P b → (eqv a b = true ↔ a = b)) {d : D} (hd : P d) : ∀ {xs : List D}, (∀ x ∈ xs, P x) → (inD d xs = true ↔ d ∈ xs)
  | [], _ => by simp [inD]
  | x :: xs, h => by
    show (eqv x d || inD d xs) = true ↔ _
    rw [Bool.or_eq_true, he x d (h x (List.mem_cons_self ..)) hd, inD_mem he hd fun y hy => h y (List.mem_cons_of_mem _ hy), List.mem_cons]
    constructor
    · rintro (z | z)
      · exact .inl z.symm
      · exact .inr z
    · rintro (z | z)
      · exact .inl z.symm
      · exact .inr z
theorem dedup_mem {P : D → Prop} (he : ∀ a b, P a → P b → (eqv a b = true ↔ a = b)) {d : D} : ∀ {xs : List D}, (∀ x ∈ xs, P x) → (d ∈ dedup xs ↔ d ∈ xs)
  | [], _ => Iff.rfl
  | x :: xs, h => by
    have hx := h x (List.mem_cons_self ..)
    have ht : ∀ y ∈ xs, P y := fun y hy => h y (List.mem_cons_of_mem _ hy)
    show d ∈ (if inD x xs then dedup xs else x :: dedup xs) ↔ _
    split
    · rename_i q
      have := (inD_mem he hx ht).mp q
      rw [dedup_mem he ht, List.mem_cons]
      constructor
      · exact .inr
      · rintro (z | z)
        · rw [z]; exact this
        · exact z
    · rw [List.mem_cons, List.mem_cons, dedup_mem he ht]
theorem dedup_nodup {P : D → Prop} (he : ∀ a b, P a → P b → (eqv a b = true ↔ a = b)) : ∀ {xs : List D}, (∀ x ∈ xs, P x) → (dedup xs).Nodup
  | [], _ => List.Pairwise.nil
  | x :: xs, h => by
    have hx := h x (List.mem_cons_self ..)
    have ht : ∀ y ∈ xs, P y := fun y hy => h y (List.mem_cons_of_mem _ hy)
    show (if inD x xs then dedup xs else x :: dedup xs).Nodup
    split
    · exact dedup_nodup he ht
    · rename_i q
      refine List.nodup_cons.mpr ⟨fun z => q ((inD_mem he hx ht).mpr ((dedup_mem he ht).mp z)), dedup_nodup he ht⟩
def IsTI (d : D) : Prop := ∃ ns, d = tupD ns
theorem ti_eqv (a b : D) (ha : IsTI a) (hb : IsTI b) : eqv a b = true ↔ a = b := by
  obtain ⟨n, rfl⟩ := ha
  obtain ⟨m, rfl⟩ := hb
  show eqvs (n.map D.int) (m.map D.int) = true ↔ _
  rw [eqvs_ints, decide_eq_true_iff]
  exact ⟨fun h => by rw [h], tupD_inj⟩
def IsII (d : D) : Prop := ∃ n, d = .int n
theorem ii_eqv (a b : D) (ha : IsII a) (hb : IsII b) : eqv a b = true ↔ a = b := by
  obtain ⟨n, rfl⟩ := ha
  obtain ⟨m, rfl⟩ := hb
  rw [eqv_int, decide_eq_true_iff]
  exact ⟨fun h => by rw [h], fun h => by injection h⟩
section
variable {X : Cx} {G : Gt} {W : WX}
theorem nn_ints : ∀ ys : List D, (∀ y ∈ ys, (match y with | .int i => decide (0 ≤ i) && decide (i < 1000000) | _ => false) = true) → ∃ ns : List Int, ys = ns.map D.int ∧ TS.Bd 1000000 ns
  | [], _ => ⟨[], rfl, fun _ z => by cases z⟩
  | y :: ys, h => by
    obtain ⟨ns, rfl, hb⟩ := nn_ints ys fun x hx => h x (List.mem_cons_of_mem _ hx)
    have hy := h y (List.mem_cons_self ..)
    cases y with
    | int i =>
      have hy' : (decide (0 ≤ i) && decide (i < 1000000)) = true := hy
      rw [Bool.and_eq_true, decide_eq_true_iff, decide_eq_true_iff] at hy'
      refine ⟨i :: ns, rfl, fun m hm => ?_⟩
      rcases List.mem_cons.mp hm with rfl | hm
      · exact hy'
      · exact hb m hm
    | _ => cases hy
/-- a list of tuples of ints, in the heap -/
theorem tups_of {H : Hp} : ∀ {ds : List D} {vs : List V}, DvL G H ds vs → (∀ d ∈ ds, nnT d = true) → ∃ ks : List (Addr × List Int), vs = ks.map (fun p => V.ref p.1) ∧ ds = ks.map (fun p => tupD p.2) ∧ ∀ p ∈ ks, SqT G.K H p.1 (p.2.map V.int) ∧ TS.Bd 1000000 p.2 ∧ 1 ≤ p.2.length
  | [], _, h, _ => by
    cases h
    exact ⟨[], rfl, rfl, fun _ z => by cases z⟩
  | d :: ds, _, h, hn => by
    obtain ⟨v, vs, rfl, h1, h2⟩ := h
    obtain ⟨ks, e1, e2, e3⟩ := tups_of h2 fun x hx => hn x (List.mem_cons_of_mem _ hx)
    have hd := hn d (List.mem_cons_self ..)
    cases d with
    | tup ys =>
      have hd' : (!ys.isEmpty && ys.all fun y => (match y with | .int i => decide (0 ≤ i) && decide (i < 1000000) | _ => false)) = true := hd
      rw [Bool.and_eq_true, List.all_eq_true] at hd'
      obtain ⟨ns, rfl, hb⟩ := nn_ints ys hd'.2
      obtain ⟨a, us, rfl, g1, g2⟩ := h1
      have g3 := dvL_ints g2
      subst g3
      refine ⟨(a, ns) :: ks, by rw [e1]; rfl, by rw [e2]; rfl, fun p hp => ?_⟩
      rcases List.mem_cons.mp hp with rfl | hp
      · refine ⟨g1, hb, ?_⟩
        cases ns with
        | nil => cases hd'.1
        | cons _ _ => exact Nat.succ_le_succ (Nat.zero_le _)
      · exact e3 p hp
    | _ => cases hd
theorem dvL_tups {H : Hp} : ∀ (ks : List (Addr × List Int)), (∀ p ∈ ks, SqT G.K H p.1 (p.2.map V.int)) → DvL G H (ks.map fun p => tupD p.2) (ks.map fun p => V.ref p.1)
  | [], _ => rfl
  | p :: ks, h => ⟨.ref p.1, ks.map fun p => V.ref p.1, rfl, ⟨p.1, p.2.map V.int, rfl, h p (List.mem_cons_self ..), ints_dvL p.2⟩, dvL_tups ks fun q hq => h q (List.mem_cons_of_mem _ hq)⟩
/-- sorted(set(xs)), tuples -/
def rSst (K : PySem.W.Frag) (P : Program) (w : World) (xs : List V) (H : Hp) (Q : VK) : Prop := rSetOfT K P w xs H fun v H1 => rSortedT K P w [v] H1 Q
theorem sst_tups (hK : G.K = X.K) {O : List Addr} {H : Hp} {zs : List D} {xs : List V} {Q : VK} (ok : OkO O H) (dl : DvL G (hid H O) [.lst zs] xs) (hz : zs ≠ []) (hn : ∀ d ∈ zs, nnT d = true) (hl : likeAll zs = true) (h64 : zs.length < 64) (f : FinV G O H (.ok (.lst (isort (dedup zs)))) Q) : rSst X.K X.prog X.w xs H Q := by
  obtain ⟨v, rfl, dv⟩ := dvL1 dl
  obtain ⟨a, vs, rfl, h1, h2⟩ := dv
  obtain ⟨ks, rfl, e2, e3⟩ := tups_of h2 hn
  obtain ⟨sh, hall, hlay⟩ := likeAll_of hl
  have hsq : SqL X.K H a (ks.map fun p => V.ref p.1) := .inl (.inl (hid_full _ _ h1))
  have hks : ∀ p ∈ ks, SqT X.K H p.1 (p.2.map V.int) := fun p hp => by
    have := (e3 p hp).1
    rw [hK] at this
    exact sqT_mono hid_same this
  have hlen : ks.length < 64 := by
    rw [e2, List.length_map] at h64
    exact h64
  -- all of one length
  obtain ⟨dl0, hdl⟩ : ∃ d, 1 ≤ d ∧ ∀ p ∈ ks, p.2.length = d := by
    cases ks with
    | nil =>
      rw [e2] at hz
      exact absurd rfl hz
    | cons k0 kr =>
      refine ⟨k0.2.length, (e3 k0 (List.mem_cons_self ..)).2.2, fun p hp => ?_⟩
      have s0 : hasSh sh (tupD k0.2) = true := hall _ (by rw [e2]; exact List.mem_map.mpr ⟨k0, List.mem_cons_self .., rfl⟩)
      have s1 : hasSh sh (tupD p.2) = true := hall _ (by rw [e2]; exact List.mem_map.mpr ⟨p, hp, rfl⟩)
      have gen : ∀ (ss : List Sh) (n : List Int), hasShs ss (n.map D.int) = true → n.length = ss.length := by
        intro ss
        induction ss with
        | nil =>
          intro n h
          cases n with
          | nil => rfl
          | cons _ _ => cases h
        | cons s ss ih =>
          intro n h
          cases n with
          | nil => cases h
          | cons x n =>
            have h' : (hasSh s (.int x) && hasShs ss (n.map D.int)) = true := h
            rw [Bool.and_eq_true] at h'
            rw [List.length_cons, List.length_cons, ih n h'.2]
      cases sh with
      | tup ss => rw [gen ss k0.2 s0, gen ss p.2 s1]
      | int => cases s0
      | str => cases s0
  refine ⟨a, ks, rfl, hsq, hks, hlen, fun b L hb hL1 hL2 => ?_⟩
  have su : Stp H (upd H b (SetTO X.prog X.w b L)) := stp_upd' hb
  have hL : ∀ p ∈ L, SqT X.K (upd H b (SetTO X.prog X.w b L)) p.1 (p.2.map V.int) := fun p hp => sqT_mono su.ext (hks p (hL1 p hp))
  refine ⟨b, L, dl0, 1000000, rfl, upd_same, hL, hdl.1, fun p hp => ⟨hdl.2 p (hL1 p hp), (e3 p (hL1 p hp)).2.1⟩, fun L' p pm nd _ pw hp => ?_⟩
  have su2 := su.trans (stp_upd' (o := .lst (L'.map fun q => V.ref q.1)) hp)
  refine f.ok su2 ?_
  have hm : ∀ q ∈ L', q ∈ ks := fun q hq => hL1 q (pm.mem_iff.mp hq)
  have ts : ∀ x ∈ zs, IsTI x := fun x hx => by
    rw [e2] at hx
    obtain ⟨q, _, rfl⟩ := List.mem_map.mp hx
    exact ⟨q.2, rfl⟩
  have eq : L'.map (fun q => tupD q.2) = isort (dedup zs) := by
    refine isort_eq (s := sh) (fun x hx => hall x ((dedup_mem ti_eqv ts).mp hx)) ?_ ?_
    · refine List.pairwise_map.mpr (List.Pairwise.imp_of_mem (fun {x y} hx hy c => ?_) pw)
      exact ltD_code (by rw [hdl.2 y (hm y hy), hdl.2 x (hm x hx)]) (e3 y (hm y hy)).2.1 (e3 x (hm x hx)).2.1 c
    · have nd2 : (L'.map fun q => tupD q.2).Nodup := by
        have := List.pairwise_map.mp nd
        exact List.pairwise_map.mpr (this.imp fun h z => h (tupD_inj z))
      refine (List.perm_ext_iff_of_nodup nd2 (dedup_nodup ti_eqv ts)).mpr fun x => ?_
      rw [dedup_mem ti_eqv ts, e2, List.mem_map, List.mem_map]
      constructor
      · rintro ⟨q, hq, rfl⟩
        exact ⟨q, hm q hq, rfl⟩
      · rintro ⟨q, hq, rfl⟩
        obtain ⟨t, ht, e⟩ := List.mem_map.mp (hL2 q hq)
        exact ⟨t, pm.mem_iff.mpr ht, by rw [e]⟩
  rw [← eq]
  refine dv_newL ((ok.mono su)) hp (dvL_tups L' fun q hq => ?_)
  have := (e3 q (hm q hq)).1
  exact sqT_mono (hid_mono su.ext) this
end
end FD
namespace FD
open PySem PySem.Spec PyProof.Rows L2
section
variable {P : Program} {w : World} {A : Around} {E : Value → Shared → Prop} {s : Shared}
set_option maxRecDepth 100000 in
set_option maxHeartbeats 3200000 in
theorem set_listI {l : Addr} {items : Array Value} (ns : List Int) {Q : Value → Shared → Prop} (hh : A.handled = none) (hl : s.heap.IsList l items) (hit : IntsAre items.toList ns) (hb : ns.length + 1 < scanBound)
    (h : ∀ (h' : Heap) (tk c : Nat), SetR w h' s.heap.objs.size (fun j => decide (j ∈ ns)) c → c ≤ ns.length → (∀ b o, s.heap.get? b = some o → h'.get? b = some o) → Q (.ref s.heap.objs.size) { s with heap := h', toks := tk }) :
    wpAny (model P w) A (call (.type "set") [.ref l]) Q E s := by
  have hisz : items.size = ns.length := by
    have q := IntsAre.length hit
    rw [Array.length_toList] at q
    exact q
  obtain ⟨c, tl, hmro⟩ := F.called_set.mro
  have hmade := F.called_set.made
  have hsub := F.called_set.sub
  refine wpAny_call (codeAny_of_tree ?_)
  show wpAny _ _ (callAny (.type "set") _) _ _ _
  refine wpAny_pure ⟨Code.quiet_builtin _ (by decide +kernel), codeAny_builtin F.entry_type_call ?_⟩
  rw [Around.under_plain (weight_type_call_type "set" [.ref l] []) rfl]
  have h1 := F.called_set.notType
  have h2 := F.called_set.canCreate
  have hct := F.typeCall_set_1 (.ref l)
  repeat (any_goals (first | assumption | wp_step))
  refine codeAny_mono (code_set_led1 (.ref l) (E := E) (Q₁ := fun obj s₁ => obj = .ref s.heap.objs.size ∧ s₁ = { s with heap := s.heap.push { cls := .type "set", dict := none, data := .set #[] 0 (.fresh 0 0 (!w.params.followText "set-order")) } }) ⟨rfl, rfl⟩) fun r s₁ hr => ?_
  cases r with
  | error e => exact hr
  | ok fl =>
    cases fl with
    | ret obj =>
      obtain ⟨rfl, rfl⟩ := hr
      have hS : (s.heap.push { cls := .type "set", dict := none, data := .set #[] 0 (.fresh 0 0 (!w.params.followText "set-order")) }).get? s.heap.objs.size = some { cls := .type "set", dict := none, data := .set #[] 0 (.fresh 0 0 (!w.params.followText "set-order")) } := Heap.get?_push_size _ rfl
      have hT : Shared.TypeIs { s with heap := s.heap.push { cls := .type "set", dict := none, data := .set #[] 0 (.fresh 0 0 (!w.params.followText "set-order")) } } (.ref s.heap.objs.size) "set" := ⟨_, hS, rfl⟩
      have hli := F.called_set.init.lookup
      have hbi := F.called_set.init.bind (.ref s.heap.objs.size)
      repeat (any_goals (first | assumption | wp_step))
      refine codeAny_mono (codeAny_call_builtin (R := wants (fun r s₂ => r = .none ∧ ∃ h' tk c, s₂ = { s with heap := h', toks := tk } ∧ SetR w h' s.heap.objs.size (fun j => decide (j ∈ ns)) c ∧ c ≤ ns.length ∧
          (∀ b o, s.heap.get? b = some o → h'.get? b = some o)) E) F.called_set.init.plain F.entry_set_init (check_set_init_1 hT ?_)) fun r₂ s₂ hr₂ => ?_
      · obtain ⟨ol, hol, hcl, nl, hdl⟩ := hl
        obtain ⟨ocls, odict, odata, oslots⟩ := ol
        simp only at hcl hdl
        subst hcl; subst hdl
        have hol' : (s.heap.push { cls := .type "set", dict := none, data := .set #[] 0 (.fresh 0 0 (!w.params.followText "set-order")) }).get? l = some { cls := .type "list", dict := odict, data := .seq items nl, slots := oslots } := Heap.get?_push_of_some _ hol
        have hsls := F.sub_list_set
        have hslf := F.sub_list_frozenset
        have hne : (Value.type "list" == Value.type "dict") = false := by decide
        have hl1 : (s.heap.push { cls := .type "set", dict := none, data := .set #[] 0 (.fresh 0 0 (!w.params.followText "set-order")) }).IsList l items := ⟨_, hol', rfl, nl, rfl⟩
        unfold Builtin.«set.__init__» noKeywords Builtin.Frozenset.updateFrom
        generalize hPI : pyIter = PI
        wp_walk
        subst hPI
        refine wpAny_pyIter_list hl1 ?_
        refine wpAny_bind (wpAny_runValue ?_)
        have hlS : l < s.heap.objs.size := Heap.lt_size hol
        have hh3 : A.in1.in1.in1.handled = none := by simp [hh]
        have hz1 : (s.heap.push { cls := .type "set", dict := none, data := .set #[] 0 (.fresh 0 0 (!w.params.followText "set-order")) }).objs.size = s.heap.objs.size + 1 := Heap.size_push ..
        have hneI : l ≠ (s.heap.push { cls := .type "set", dict := none, data := .set #[] 0 (.fresh 0 0 (!w.params.followText "set-order")) }).objs.size := by
          rw [Heap.size_push]; exact Nat.ne_of_lt (Nat.lt_succ_of_lt hlS)
        have hSf : s.heap.objs.size ∉ [(s.heap.push { cls := .type "set", dict := none, data := .set #[] 0 (.fresh 0 0 (!w.params.followText "set-order")) }).objs.size, l] := by
          rw [Heap.size_push]; simp only [List.mem_cons, List.mem_singleton, List.not_mem_nil, or_false, not_or]
          exact ⟨Nat.ne_of_lt (Nat.lt_succ_self _), Nat.ne_of_gt hlS⟩
        have hval : ∀ (i : Nat) (v : Value), items[i]? = some v → ∃ k t, ns[i]? = some k ∧ v = .int k t := fun i v hv => by
          have hi : i < ns.length := by rw [← hisz]; exact (Array.getElem?_eq_some_iff.mp hv).1
          obtain ⟨t, e⟩ := PyProof.Rows.IntsAre.int_at hit i v (by rw [Array.getElem?_toList]; exact hv)
          refine ⟨ns[i], t, List.getElem?_eq_getElem hi, ?_⟩
          rw [e, List.getD_eq_getElem?_getD, List.getElem?_eq_getElem hi] <;> rfl
        refine set_update_ints ((Walks.list hh3 _ l hneI items).toS) s.heap.objs.size
          hSf ns hisz hb hval (items.size - 0) 0 _ (by omega) (Nat.zero_le _)
          ⟨⟨_, Heap.get?_push_size _ rfl, rfl, rfl⟩, (hl1.push _)⟩ ?hS0 ?hR
        case hS0 =>
          have hget : ((s.heap.push { cls := .type "set", dict := none, data := .set #[] 0 (.fresh 0 0 (!w.params.followText "set-order")) }).push { cls := .type "list_iterator", data := .fields #[.ref l, .int 0 0] }).get? s.heap.objs.size
              = some { cls := .type "set", dict := none, data := .set #[] 0 (.fresh 0 0 (!w.params.followText "set-order")) } := Heap.get?_push_of_some _ hS
          exact ⟨0, Nat.le_refl 0, setR_new_at hget⟩
        case hR =>
          intro s' c' hm hc' hS'
          obtain ⟨h', g2, d', tk', os'⟩ := s'
          have eg : g2 = s.gens := hm.gens
          have ed : d' = s.drawn := hm.drawn
          have eo : os' = s.os := hm.os
          subst eg; subst ed; subst eo
          show wpAny _ _ _ _ _ _
          refine wpAny_pure ?_
          show wpAny _ _ (ret Value.none) _ _ _
          rw [hisz] at hc'
          refine wpAny_pure ⟨rfl, h', tk', c', rfl, hS', hc', fun b o e => ?_⟩
          have hb0 : b < s.heap.objs.size := Heap.lt_size e
          have hb1 : b ≠ s.heap.objs.size := Nat.ne_of_lt hb0
          have hb2 : b ≠ (s.heap.push { cls := .type "set", dict := none, data := .set #[] 0 (.fresh 0 0 (!w.params.followText "set-order")) }).objs.size := by
            rw [Heap.size_push]; exact Nat.ne_of_lt (Nat.lt_succ_of_lt hb0)
          exact hm.heap b o (by simp only [List.mem_cons, List.mem_singleton, List.not_mem_nil, or_false, not_or]; exact ⟨hb1, hb2⟩) (Heap.get?_push_of_some _ (Heap.get?_push_of_some _ e))
      · cases r₂ with
        | error e => exact hr₂
        | ok fl₂ =>
          cases fl₂ with
          | ret r =>
            obtain ⟨rfl, h', tk, c', rfl, hS', hc', hk'⟩ := hr₂
            repeat (any_goals (first | assumption | wp_step))
            exact h _ _ _ hS' hc' hk'
          | _ => exact hr₂.elim
    | _ => exact hr.elim
end
end FD
namespace FD
open PySem PySem.Spec PyProof.Rows L2
variable [Tbls]
section
variable {G : Gt} {W : WX} {σ : L2.St} {H : Hp}
theorem Fin.st {α : Type} {r : R α} {Q : α → Hp → Prop} (h : Fin G W r σ H Q) {H' : Hp} (s : Stp H H') : Fin G W r σ H' Q := by
  cases r with
  | ok a => exact fun H2 s2 => h H2 (s.trans s2)
  | exc c => exact fun H2 s2 => h H2 (s.trans s2)
  | bad => exact h.elim
theorem Fin.at_ {α : Type} {a : α} {Q : α → Hp → Prop} (h : Fin G W (.ok a) σ H Q) : Q a H := h H (Stp.refl H)
/-- a plain operation at the end -/
theorem finV_of {O : List Addr} {r : R D} {Q : VK} (h : Fin G W (noexc r) σ H fun d H' => ∀ v, Dv G (hid H' O) d v → Q v H') : FinV G O H r Q := by
  cases r with
  | ok d => exact fun v H' s dv => h H' s v dv
  | exc c => exact h.elim
  | bad => exact h.elim
theorem i_bin {fa fb : Env → R D} {g : D → D → R D} {Q : VK} (h : tD G W (fun ρ => (fa ρ).bind fun x => (fb ρ).bind fun y => noexc (g x y)) σ H Q) : tOp (rD G g) (tD G W fa) (tD G W fb) σ H Q := by
  obtain ⟨O, ρ, rep, f⟩ := h
  refine ⟨O, ρ, rep, f.bind.imp fun a H1 s1 f1 x hx => ?_⟩
  refine ⟨O, ρ, rep.mono s1, f1.bind.imp fun b H2 s2 f2 y hy => ?_⟩
  exact ⟨O, a, b, (rep.mono (s1.trans s2)).ok, dv_mono (hid_mono s2.ext) a x hx, hy, finV_of f2⟩
theorem i_chain {fa fb fc : Env → R D} {g g' : D → D → R D} {Q : VK}
    (h : tD G W (fun ρ => (fa ρ).bind fun x => (fb ρ).bind fun y => (noexc (g x y)).bind fun t => match t with
      | .bl k => (match k with
        | true => (fc ρ).bind fun z => noexc (g' y z)
        | false => .ok (.bl false))
      | _ => .bad) σ H Q) : tChain (rD G g) (rD G g') (tD G W fa) (tD G W fb) (tD G W fc) σ H Q := by
  obtain ⟨O, ρ, rep, f⟩ := h
  refine ⟨O, ρ, rep, f.bind.imp fun a H1 s1 f1 x hx => ?_⟩
  refine ⟨O, ρ, rep.mono s1, f1.bind.imp fun b H2 s2 f2 y hy => ?_⟩
  refine ⟨O, a, b, (rep.mono (s1.trans s2)).ok, dv_mono (hid_mono s2.ext) a x hx, hy, ?_⟩
  have f3 := f2.bind
  generalize g a b = r at f3 ⊢
  cases r with
  | exc c => exact f3.elim
  | bad => exact f3.elim
  | ok t =>
    intro v H3 s3 hv
    have f4 := f3 H3 s3
    cases t with
    | bl k =>
      cases hv
      refine ⟨k, rfl, ?_⟩
      cases k with
      | false =>
        rw [if_neg Bool.false_ne_true]
        exact f4.at_ _ rfl
      | true =>
        rw [if_pos rfl]
        refine ⟨O, ρ, rep.mono (s1.trans (s2.trans s3)), f4.bind.imp fun c H4 s4 f5 z hz => ?_⟩
        exact ⟨O, b, c, (rep.mono (s1.trans (s2.trans (s3.trans s4)))).ok, dv_mono (hid_mono (s3.trans s4).ext) b y hy, hz, finV_of f5⟩
    | _ => exact f4.elim
theorem i_neg {fa : Env → R D} {Q : VK} (h : tD G W (fun ρ => (fa ρ).bind fun x => noexc (negD x)) σ H Q) : tUn (rU fun i => .int (-i)) (tD G W fa) σ H Q := by
  obtain ⟨O, ρ, rep, f⟩ := h
  refine ⟨O, ρ, rep, f.bind.imp fun a H1 s1 f1 x hx => ?_⟩
  have f2 := finV_of f1
  cases a with
  | int i =>
    cases hx
    exact ⟨i, rfl, f2.ok (Stp.refl _) rfl⟩
  | _ => exact f2.elim
/-- truth, then on -/
theorem fin_truth {α : Type} {a : D} {g : Bool → R α} {Q : α → Hp → Prop} (h : Fin G W ((truth a).bind g) σ H Q) : ∃ b, truth a = .ok b ∧ Fin G W (g b) σ H Q := by
  cases e : truth a with
  | ok b =>
    rw [e] at h
    exact ⟨b, rfl, h⟩
  | exc c =>
    have no : ∀ d c, truth d ≠ .exc c := fun d c => by
      cases d <;> first | (intro z; cases z) | skip
      rename_i z
      show guard' _ _ ≠ _
      cases decide (z.cps.toList.length ≤ lim) <;> (intro z; cases z)
    exact absurd e (no a c)
  | bad =>
    rw [e] at h
    exact h.elim
theorem i_not {K : PySem.W.Frag} (hK : G.K = K) {fa : Env → R D} {Q : VK} (h : tD G W (fun ρ => (fa ρ).bind fun x => (truth x).bind fun b => .ok (.bl (!b))) σ H Q) : tNotT K (tD G W fa) σ H Q := by
  obtain ⟨O, ρ, rep, f⟩ := h
  refine ⟨O, ρ, rep, f.bind.imp fun a H1 s1 f1 x hx => ?_⟩
  obtain ⟨b, e, f2⟩ := fin_truth f1
  exact ⟨b, tru_D hK hx e, f2.at_ _ rfl⟩
theorem i_and {K : PySem.W.Frag} (hK : G.K = K) {fa fb : Env → R D} {Q : VK} (h : tD G W (fun ρ => (fa ρ).bind fun x => (truth x).bind fun c => match c with
    | true => fb ρ
    | false => .ok x) σ H Q) : tAndT K (tD G W fa) (tD G W fb) σ H Q := by
  obtain ⟨O, ρ, rep, f⟩ := h
  refine ⟨O, ρ, rep, f.bind.imp fun a H1 s1 f1 x hx => ?_⟩
  obtain ⟨b, e, f2⟩ := fin_truth f1
  refine ⟨b, tru_D hK hx e, ?_⟩
  cases b with
  | true =>
    rw [if_pos rfl]
    exact ⟨O, ρ, rep.mono s1, f2⟩
  | false =>
    rw [if_neg Bool.false_ne_true]
    exact f2.at_ _ hx
theorem i_or {K : PySem.W.Frag} (hK : G.K = K) {fa fb : Env → R D} {Q : VK} (h : tD G W (fun ρ => (fa ρ).bind fun x => (truth x).bind fun c => match c with
    | true => .ok x
    | false => fb ρ) σ H Q) : tOrT K (tD G W fa) (tD G W fb) σ H Q := by
  obtain ⟨O, ρ, rep, f⟩ := h
  refine ⟨O, ρ, rep, f.bind.imp fun a H1 s1 f1 x hx => ?_⟩
  obtain ⟨b, e, f2⟩ := fin_truth f1
  refine ⟨b, tru_D hK hx e, ?_⟩
  cases b with
  | true =>
    rw [if_pos rfl]
    exact f2.at_ _ hx
  | false =>
    rw [if_neg Bool.false_ne_true]
    exact ⟨O, ρ, rep.mono s1, f2⟩
theorem i_ite {fc fa fb : Env → R D} {Q : VK} (h : tD G W (fun ρ => (fc ρ).bind fun x => (truth x).bind fun t => match t with
    | true => fa ρ
    | false => fb ρ) σ H Q) : tIf (tDT G W fun ρ => (fc ρ).bind truth) (tD G W fa) (tD G W fb) σ H Q := by
  obtain ⟨O, ρ, rep, f⟩ := h
  try dsimp only at f
  have f' : Fin G W (((fc ρ).bind truth).bind fun t => match t with
    | true => fa ρ
    | false => fb ρ) σ H fun d H' => ∀ v, Dv G (hid H' O) d v → Q v H' := by
    cases e : fc ρ with
    | ok x => rw [e] at f; exact f
    | exc c => rw [e] at f; exact f
    | bad => rw [e] at f; exact f
  refine ⟨O, ρ, rep, f'.bind.imp fun t H1 s1 f1 => ?_⟩
  cases t with
  | true =>
    rw [if_pos rfl]
    exact ⟨O, ρ, rep.mono s1, f1⟩
  | false =>
    rw [if_neg Bool.false_ne_true]
    exact ⟨O, ρ, rep.mono s1, f1⟩
theorem t_truth {K : PySem.W.Frag} (hK : G.K = K) {fa : Env → R D} {Q : Bool → Hp → Prop} (h : tDT G W (fun ρ => (fa ρ).bind truth) σ H Q) : tD G W fa σ H fun x H' => ∃ k, TruV K x H' k ∧ Q k H' := by
  obtain ⟨O, ρ, rep, f⟩ := h
  try dsimp only at f
  refine ⟨O, ρ, rep, f.bind.imp fun a H1 s1 f1 x hx => ?_⟩
  have f2 : Fin G W ((truth a).bind fun b => .ok b) σ H1 fun b H' => Q b H' := by
    cases e : truth a with
    | ok x => rw [e] at f1; exact f1
    | exc c => rw [e] at f1; exact f1
    | bad => rw [e] at f1; exact f1
  obtain ⟨b, e, f3⟩ := fin_truth f2
  exact ⟨b, tru_D hK hx e, f3.at_⟩
/-- a comparison's answer as a test -/
theorem t_bool {f : Env → R D} {t : TE} (i : ∀ Q : VK, tD G W f σ H Q → t σ H Q) (hb : ∀ ρ d, f ρ = .ok d → ∃ b, d = .bl b) {Q : Bool → Hp → Prop} (h : tDT G W (fun ρ => (f ρ).bind truth) σ H Q) : tTest t σ H Q := by
  refine i _ ?_
  obtain ⟨O, ρ, rep, g⟩ := h
  try dsimp only at g
  refine ⟨O, ρ, rep, ?_⟩
  try dsimp only
  cases e : f ρ with
  | exc c => rw [e] at g; exact g
  | bad => rw [e] at g; exact g
  | ok d =>
    obtain ⟨b, rfl⟩ := hb ρ d e
    rw [e] at g
    intro H' s v hv
    cases hv
    exact ⟨b, rfl, g H' s⟩
theorem t_not {fa : Env → R D} {Q : Bool → Hp → Prop} (h : tDT G W (fun ρ => ((fa ρ).bind fun x => (truth x).bind fun b => .ok (.bl (!b))).bind truth) σ H Q) : tNot (tDT G W fun ρ => (fa ρ).bind truth) σ H Q := by
  obtain ⟨O, ρ, rep, f⟩ := h
  try dsimp only at f
  refine ⟨O, ρ, rep, ?_⟩
  try dsimp only
  cases e : fa ρ with
  | exc c => rw [e] at f; exact f
  | bad => rw [e] at f; exact f
  | ok d =>
    rw [e] at f
    have f2 : Fin G W ((truth d).bind fun b => .ok (!b)) σ H fun b H' => Q b H' := by
      cases e2 : truth d with
      | ok b => simp only [R.bind, e2] at f; exact f
      | exc c => simp only [R.bind, e2] at f; exact f
      | bad => simp only [R.bind, e2] at f; exact f
    obtain ⟨b, e2, f3⟩ := fin_truth f2
    show Fin G W (truth d) σ H _
    rw [e2]
    exact f3
theorem t_and {fa fb : Env → R D} {Q : Bool → Hp → Prop} (h : tDT G W (fun ρ => ((fa ρ).bind fun x => (truth x).bind fun c => match c with
    | true => fb ρ
    | false => .ok x).bind truth) σ H Q) : tAnd (tDT G W fun ρ => (fa ρ).bind truth) (tDT G W fun ρ => (fb ρ).bind truth) σ H Q := by
  obtain ⟨O, ρ, rep, f⟩ := h
  try dsimp only at f
  refine ⟨O, ρ, rep, ?_⟩
  try dsimp only
  cases e : fa ρ with
  | exc c => rw [e] at f; exact f
  | bad => rw [e] at f; exact f
  | ok d =>
    rw [e] at f
    have f2 : Fin G W ((truth d).bind fun b => match b with
      | true => (fb ρ).bind truth
      | false => .ok false) σ H fun b H' => Q b H' := by
      cases e2 : truth d with
      | ok b =>
        cases b with
        | true => simp only [R.bind, e2] at f; exact f
        | false => simp only [R.bind, e2] at f; exact f
      | exc c => simp only [R.bind, e2] at f; exact f
      | bad => simp only [R.bind, e2] at f; exact f
    obtain ⟨b, e2, f3⟩ := fin_truth f2
    show Fin G W (truth d) σ H _
    rw [e2]
    intro H1 s1
    cases b with
    | true =>
      rw [if_pos rfl]
      exact ⟨O, ρ, rep.mono s1, Fin.st f3 s1⟩
    | false =>
      rw [if_neg Bool.false_ne_true]
      exact f3 H1 s1
theorem t_or {fa fb : Env → R D} {Q : Bool → Hp → Prop} (h : tDT G W (fun ρ => ((fa ρ).bind fun x => (truth x).bind fun c => match c with
    | true => .ok x
    | false => fb ρ).bind truth) σ H Q) : tOr (tDT G W fun ρ => (fa ρ).bind truth) (tDT G W fun ρ => (fb ρ).bind truth) σ H Q := by
  obtain ⟨O, ρ, rep, f⟩ := h
  try dsimp only at f
  refine ⟨O, ρ, rep, ?_⟩
  try dsimp only
  cases e : fa ρ with
  | exc c => rw [e] at f; exact f
  | bad => rw [e] at f; exact f
  | ok d =>
    rw [e] at f
    have f2 : Fin G W ((truth d).bind fun b => match b with
      | true => .ok true
      | false => (fb ρ).bind truth) σ H fun b H' => Q b H' := by
      cases e2 : truth d with
      | ok b =>
        cases b with
        | true => simp only [R.bind, e2] at f; exact f
        | false => simp only [R.bind, e2] at f; exact f
      | exc c => simp only [R.bind, e2] at f; exact f
      | bad => simp only [R.bind, e2] at f; exact f
    obtain ⟨b, e2, f3⟩ := fin_truth f2
    show Fin G W (truth d) σ H _
    rw [e2]
    intro H1 s1
    cases b with
    | true =>
      rw [if_pos rfl]
      exact f3 H1 s1
    | false =>
      rw [if_neg Bool.false_ne_true]
      exact ⟨O, ρ, rep.mono s1, Fin.st f3 s1⟩
theorem t_ite {fc fa fb : Env → R D} {Q : Bool → Hp → Prop} (h : tDT G W (fun ρ => ((fc ρ).bind fun x => (truth x).bind fun t => match t with
    | true => fa ρ
    | false => fb ρ).bind truth) σ H Q) : (tDT G W fun ρ => (fc ρ).bind truth) σ H fun k H1 => if k = true then (tDT G W fun ρ => (fa ρ).bind truth) σ H1 Q else (tDT G W fun ρ => (fb ρ).bind truth) σ H1 Q := by
  obtain ⟨O, ρ, rep, f⟩ := h
  try dsimp only at f
  refine ⟨O, ρ, rep, ?_⟩
  try dsimp only
  cases e : fc ρ with
  | exc c => rw [e] at f; exact f
  | bad => rw [e] at f; exact f
  | ok d =>
    rw [e] at f
    have f2 : Fin G W ((truth d).bind fun b => match b with
      | true => (fa ρ).bind truth
      | false => (fb ρ).bind truth) σ H fun b H' => Q b H' := by
      cases e2 : truth d with
      | ok b =>
        cases b with
        | true => simp only [R.bind, e2] at f; exact f
        | false => simp only [R.bind, e2] at f; exact f
      | exc c => simp only [R.bind, e2] at f; exact f
      | bad => simp only [R.bind, e2] at f; exact f
    obtain ⟨b, e2, f3⟩ := fin_truth f2
    show Fin G W (truth d) σ H _
    rw [e2]
    intro H1 s1
    cases b with
    | true =>
      rw [if_pos rfl]
      exact ⟨O, ρ, rep.mono s1, Fin.st f3 s1⟩
    | false =>
      rw [if_neg Bool.false_ne_true]
      exact ⟨O, ρ, rep.mono s1, Fin.st f3 s1⟩
theorem i_nil {Q : List V → Hp → Prop} (h : tDA G W (fun _ => .ok []) σ H Q) : tNil σ H Q := by
  obtain ⟨O, ρ, rep, f⟩ := h
  try dsimp only at f
  exact f.at_ _ rfl
theorem i_cons {fa : Env → R D} {fr : Env → R (List D)} {Q : List V → Hp → Prop} (h : tDA G W (fun ρ => (fa ρ).bind fun x => (fr ρ).bind fun xs => .ok (x :: xs)) σ H Q) : tCons (tD G W fa) (tDA G W fr) σ H Q := by
  obtain ⟨O, ρ, rep, f⟩ := h
  try dsimp only at f
  refine ⟨O, ρ, rep, f.bind.imp fun a H1 s1 f1 x hx => ?_⟩
  refine ⟨O, ρ, rep.mono s1, f1.bind.imp fun r H2 s2 f2 vs hvs => ?_⟩
  exact f2.at_ _ ⟨x, vs, rfl, dv_mono (hid_mono s2.ext) a x hx, hvs⟩
theorem i_tup {fa : Env → R (List D)} (hl : ∀ ρ xs, fa ρ = .ok xs → xs.length ≤ sizeLine) {Q : VK} (h : tD G W (fun ρ => (fa ρ).bind fun xs => .ok (.tup xs)) σ H Q) : tTup (tDA G W fa) σ H Q := by
  obtain ⟨O, ρ, rep, f⟩ := h
  try dsimp only at f
  refine ⟨O, ρ, rep, ?_⟩
  try dsimp only
  cases e : fa ρ with
  | exc c => rw [e] at f; exact f
  | bad => rw [e] at f; exact f
  | ok xs =>
    rw [e] at f
    intro H1 s1 vs hvs
    refine ⟨by rw [← dvL_len hvs]; exact hl ρ xs e, fun p hp => ?_⟩
    exact f _ (s1.trans (stp_upd' hp)) _ (dv_newT (rep.mono s1).ok hp hvs)
theorem i_lst {fa : Env → R (List D)} (hl : ∀ ρ xs, fa ρ = .ok xs → xs.length ≤ sizeLine) {Q : VK} (h : tD G W (fun ρ => (fa ρ).bind fun xs => .ok (.lst xs)) σ H Q) : tLst (tDA G W fa) σ H Q := by
  obtain ⟨O, ρ, rep, f⟩ := h
  try dsimp only at f
  refine ⟨O, ρ, rep, ?_⟩
  try dsimp only
  cases e : fa ρ with
  | exc c => rw [e] at f; exact f
  | bad => rw [e] at f; exact f
  | ok xs =>
    rw [e] at f
    intro H1 s1 vs hvs
    refine ⟨by rw [← dvL_len hvs]; exact hl ρ xs e, fun p hp => ?_⟩
    exact f _ (s1.trans (stp_upd' hp)) _ (dv_newL (rep.mono s1).ok hp hvs)
theorem i_po0 {Q : Option Int → Hp → Prop} {O : List Addr} {ρ : Env} (rep : Rep G O ρ σ H) (f : Fin G W (.ok none) σ H Q) : tNoPart σ H Q := f.at_
theorem i_po1 {fa : Env → R D} {Q : Option Int → Hp → Prop} {O : List Addr} {ρ : Env} (rep : Rep G O ρ σ H) (f : Fin G W ((fa ρ).bind fun x => match x with | .int i => .ok (some i) | _ => .bad) σ H Q) : tPart (tD G W fa) σ H Q := by
  refine ⟨O, ρ, rep, f.bind.imp fun a H1 s1 f1 x hx => ?_⟩
  cases a with
  | int i =>
    cases hx
    exact ⟨i, rfl, f1.at_⟩
  | _ => exact f1.elim
end
end FD
namespace FD
open PySem PySem.Spec PyProof.Rows L2
theorem ints_allI : ∀ {zs : List D}, zs.all isI = true → ∃ ns : List Int, zs = ns.map D.int
  | [], _ => ⟨[], rfl⟩
  | z :: zs, h => by
    rw [List.all_cons, Bool.and_eq_true] at h
    obtain ⟨ns, rfl⟩ := ints_allI h.2
    cases z with
    | int i => exact ⟨i :: ns, rfl⟩
    | _ => cases h.1
variable [Tbls]
section
variable {X : Cx} {G : Gt} {W : WX}
/-- set(xs), xs a list of ints -/
def rSetOfI (K : PySem.W.Frag) (w : World) : List V → Hp → VK → Prop := fun xs H Q => ∃ (l : Addr) (ns : List Int), xs = [V.ref l] ∧ SqL K H l (ns.map V.int) ∧ ns.length < 64 ∧
  ∀ a c, H a = none → c ≤ ns.length → Q (.ref a) (upd H a (SetO w a (fun j => decide (j ∈ ns)) c))
theorem cr_setOfI (hc : X.calm = true) : CallR X (.type "set") (rSetOfI X.K X.w) := by
  intro pins s σ H xs us Q I r h
  obtain ⟨l, ns, rfl, hl, hf, q⟩ := h
  rw [Vals.ref1 r]
  obtain ⟨its, rv, pl, hz⟩ := I.list hl
  have hn : H s.heap.objs.size = none := I.hok.fresh (Nat.le_refl _)
  refine set_listI (P := X.prog) (w := X.w) ns (I.ok.hd hc) pl.isList (by simpa using rv.ints) (by unfold scanBound; omega) fun h' tk c R hcn k => ?_
  exact ⟨.ref s.heap.objs.size, upd H s.heap.objs.size (SetO X.w s.heap.objs.size (fun j => decide (j ∈ ns)) c), I.laid (t' := tk) k (Nat.le_refl _) (setO_new R), rfl, q _ c hn hcn⟩
theorem callr_or {f : Value} {r r' : List V → Hp → VK → Prop} (h : CallR X f r) (h' : CallR X f r') : CallR X f (fun xs H Q => r xs H Q ∨ r' xs H Q) :=
  fun pins s σ H xs us Q I rs q => q.elim (h pins s σ H xs us Q I rs) (h' pins s σ H xs us Q I rs)
def rSet2 (K : PySem.W.Frag) (P : Program) (w : World) : List V → Hp → VK → Prop := fun xs H Q => rSetOfT K P w xs H Q ∨ rSetOfI K w xs H Q
def rSorted2 (K : PySem.W.Frag) (P : Program) (w : World) : List V → Hp → VK → Prop := fun xs H Q => rSortedT K P w xs H Q ∨ rSortedSet w xs H Q
theorem sst_ints {O : List Addr} {H : Hp} {ns : List Int} {xs : List V} {Q : VK} (ok : OkO O H) (dl : DvL G (hid H O) [.lst (ns.map D.int)] xs) (h64 : ns.length < 64) (f : FinV G O H (.ok (.lst (isort (dedup (ns.map D.int))))) Q) : rSetOfI X.K X.w xs H fun v H1 => rSortedSet X.w [v] H1 Q := by
  obtain ⟨v, rfl, dv⟩ := dvL1 dl
  obtain ⟨a, vs, rfl, h1, h2⟩ := dv
  have ev := dvL_ints h2
  subst ev
  refine ⟨a, ns, rfl, .inl (.inl (hid_full _ _ h1)), h64, fun b c hb hc => ?_⟩
  have su : Stp H (upd H b (SetO X.w b (fun j => decide (j ∈ ns)) c)) := stp_upd' hb
  refine ⟨b, _, c, rfl, upd_same, by omega, fun ms p pw hm _ hp => ?_⟩
  have su2 := su.trans (stp_upd' (o := .lst (ms.map V.int)) hp)
  refine f.ok su2 ?_
  have ts : ∀ x ∈ ns.map D.int, IsII x := fun x hx => by
    obtain ⟨n, _, rfl⟩ := List.mem_map.mp hx
    exact ⟨n, rfl⟩
  have eq : ms.map D.int = isort (dedup (ns.map D.int)) := by
    refine isort_eq (s := .int) (fun x hx => allSh_ints ns x ((dedup_mem ii_eqv ts).mp hx)) (srtD_ints (pw.imp fun h => Int.le_of_lt h)) ?_
    have nd : (ms.map D.int).Nodup := List.pairwise_map.mpr (pw.imp fun h z => by
      injection z with z
      omega)
    refine (List.perm_ext_iff_of_nodup nd (dedup_nodup ii_eqv ts)).mpr fun x => ?_
    rw [dedup_mem ii_eqv ts, List.mem_map, List.mem_map]
    constructor
    · rintro ⟨n, hn, rfl⟩
      exact ⟨n, of_decide_eq_true ((hm n).mp hn), rfl⟩
    · rintro ⟨n, hn, rfl⟩
      exact ⟨n, (hm n).mpr (decide_eq_true hn), rfl⟩
  rw [← eq]
  exact dv_newL (ok.mono su) hp (ints_dvL ms)
/-- by data -/
theorem i_sst (hK : G.K = X.K) {f : Env → R D} {σ : L2.St} {H : Hp} {Q : VK} (h : tD G W (fun ρ => (f ρ).bind fun x => noexc (ssetD x)) σ H Q) : tCB (rSorted2 X.K X.prog X.w) (tCons (tCB (rSet2 X.K X.prog X.w) (tCons (tD G W f) tNil)) tNil) σ H Q := by
  obtain ⟨O, ρ, rep, q⟩ := h
  refine ⟨O, ρ, rep, q.bind.imp fun d H1 s1 f1 v hv => ?_⟩
  have fv := finV_of f1
  have ok := (rep.mono s1).ok
  cases d with
  | lst zs =>
    obtain ⟨c, fv⟩ := FinV.grd (show FinV G O H1 (guard' (likeAll zs && (setOk zs && decide (zs.length < 64))) (.ok (.lst (isort (dedup zs))))) Q from fv)
    rw [Bool.and_eq_true, Bool.and_eq_true, decide_eq_true_iff] at c
    obtain ⟨c1, c2, c3⟩ := c
    have dl : DvL G (hid H1 O) [.lst zs] [v] := ⟨v, [], rfl, hv, rfl⟩
    cases ci : zs.all isI with
    | true =>
      obtain ⟨ns, rfl⟩ := ints_allI ci
      rw [List.length_map] at c3
      have key := sst_ints (X := X) ok dl c3 fv
      show rSetOfT _ _ _ _ _ _ ∨ rSetOfI _ _ _ _ _
      obtain ⟨l, ms, e1, e2, e3, e4⟩ := key
      exact .inr ⟨l, ms, e1, e2, e3, fun a c ha hc => .inr (e4 a c ha hc)⟩
    | false =>
      have ct : zs.all nnT = true := by
        rcases (Bool.or_eq_true _ _).mp (show (zs.all isI || zs.all nnT) = true from c2) with z | z
        · rw [ci] at z
          cases z
        · exact z
      have hz : zs ≠ [] := fun z => by
        rw [z] at ci
        cases ci
      have key := sst_tups (X := X) hK ok dl hz (List.all_eq_true.mp ct) c1 c3 fv
      show rSetOfT _ _ _ _ _ _ ∨ rSetOfI _ _ _ _ _
      obtain ⟨l, ks, e1, e2, e3, e4, e5⟩ := key
      exact .inl ⟨l, ks, e1, e2, e3, e4, fun a L ha h1 h2 => .inl (e5 a L ha h1 h2)⟩
  | _ => exact fv.elim
end
end FD
namespace FD
open PySem PySem.Spec PyProof.Rows L2
/-- an iterator over a list (true) or a tuple (false) -/
def Cur (b : Bool) (h : Heap) (it l : Addr) (k : Nat) : Prop := match b with
  | true => h.IsListIter it l k
  | false => h.IsTupleIter it l k
def RowA (b : Bool) (h : Heap) (l : Addr) (xs : Array Value) : Prop := match b with
  | true => h.IsList l xs
  | false => h.IsTuple l xs
theorem Cur.extBut {b : Bool} {h h' : Heap} {it l c : Addr} {k : Nat} (x : Cur b h it l k) (e : Heap.ExtBut c h h') (n : it ≠ c) : Cur b h' it l k := by
  cases b with
  | true => exact Heap.IsListIter.extBut x e n
  | false => exact Heap.IsTupleIter.extBut x e n
theorem Cur.at_ {b : Bool} {h h' : Heap} {it l : Addr} {k : Nat} (x : Cur b h it l k) (e : ∀ o, h.get? it = some o → h'.get? it = some o) : Cur b h' it l k := by
  cases b with
  | true => exact Heap.IsListIter.at x e
  | false => exact Heap.IsTupleIter.at x e
theorem RowA.extBut {b : Bool} {h h' : Heap} {l c : Addr} {xs : Array Value} (x : RowA b h l xs) (e : Heap.ExtBut c h h') (n : l ≠ c) : RowA b h' l xs := by
  cases b with
  | true => exact Heap.IsList.extBut x e n
  | false => exact Heap.IsTuple.extBut x e n
theorem Cur.lt {b : Bool} {h : Heap} {it l : Addr} {k : Nat} (x : Cur b h it l k) : ∃ o, h.get? it = some o ∧ ∃ vs, o.data = .fields vs := by
  cases b with
  | true =>
    obtain ⟨o, e, _, d⟩ := x
    exact ⟨o, e, _, d⟩
  | false =>
    obtain ⟨o, e, _, d⟩ := x
    exact ⟨o, e, _, d⟩
section
variable {prog : Program} {w : World} {A : Around} {E : Value → Shared → Prop} {s : Shared}
theorem cur_item {b : Bool} {it l : Addr} {i : Nat} {items : Array Value} {x : Value} {Q : Value → Shared → Prop} (hit : Cur b s.heap it l i) (hl : RowA b s.heap l items) (hx : items[i]? = some x)
    (hQ : ∀ h', Cur b h' it l (i + 1) → Heap.SameBut it s.heap h' → Q x { s with heap := h' }) : wpAny (model prog w) A (Builtin.SmallTypes.nextOf (.ref it)) Q E s := by
  cases b with
  | true => exact wpAny_nextOf_list_item hit hl hx hQ
  | false => exact RZ.nextOf_tuple_item hit hl hx hQ
theorem cur_end {b : Bool} {it l : Addr} {i : Nat} {items : Array Value} {Q : Value → Shared → Prop} (hh : A.handled = none) (hit : Cur b s.heap it l i) (hl : RowA b s.heap l items) (hx : items[i]? = none)
    (hE : ∀ h' e, Heap.ExtBut it s.heap h' → (∃ o, h'.get? e = some o ∧ o.cls = .type "StopIteration") → E (.ref e) { s with heap := h' }) : wpAny (model prog w) A (Builtin.SmallTypes.nextOf (.ref it)) Q E s := by
  cases b with
  | true => exact wpAny_nextOf_list_end hh hit hl hx hE
  | false => exact RZ.nextOf_tuple_end hh hit hl hx hE
/-- the next pair -/
theorem zipM_item {b1 b2 : Bool} {z TI TO i1 i2 l1 l2 : Addr} {k1 k2 : Nat} {xs ys : Array Value} {x y a b : Value} {Q : Value → Shared → Prop} (D : ZipApart z TI TO i1 i2 l1 l2)
    (hz : IsZip s.heap z TI TO .none) (hTI : IsPair s.heap TI (.ref i1) (.ref i2)) (hTO : IsPair s.heap TO a b)
    (h1 : Cur b1 s.heap i1 l1 k1) (h2 : Cur b2 s.heap i2 l2 k2) (hl1 : RowA b1 s.heap l1 xs) (hl2 : RowA b2 s.heap l2 ys) (hx : xs[k1]? = some x) (hy : ys[k2]? = some y)
    (hQ : ∀ h', IsZip h' z TI TO (rawInt s.heap.objs.size) → IsPair h' TO x y → Cur b1 h' i1 l1 (k1 + 1) → Cur b2 h' i2 l2 (k2 + 1) → IsPair h' s.heap.objs.size x y → h'.objs.size = s.heap.objs.size + 1 →
      (∀ c o, c ≠ z → c ≠ TO → c ≠ i1 → c ≠ i2 → s.heap.get? c = some o → h'.get? c = some o) → Q (.ref s.heap.objs.size) { s with heap := h' }) :
    wpAny (model prog w) A (Builtin.«zip.__next__» ⟨[.ref z], []⟩) (fun fin s' => ∃ v, fin = .done (.ret v) ∧ Q v s') E s := by
  show wpAny _ _ (field (.ref z) 2 >>= _) _ _ _
  refine wpAny_bind (wpAny_field hz rfl (x := .bool false) rfl ?_)
  show wpAny _ _ (field (.ref z) 3 >>= _) _ _ _
  refine wpAny_bind (wpAny_field hz rfl (x := .ref TI) rfl ?_)
  refine wpAny_bind (wpAny_seqItems hTI rfl ?_)
  show wpAny _ _ (Builtin.SmallTypes.ownedTupleIsFree (.ref z) >>= _) _ _ _
  refine wpAny_bind ?_
  unfold Builtin.SmallTypes.ownedTupleIsFree
  refine wpAny_bind (wpAny_field hz rfl (x := .none) rfl (wpAny_pure ?_))
  simp only [if_true]
  refine wpAny_bind (wpAny_rule ?_)
  refine wpAny_bind (wpAny_field hz rfl (x := .ref TO) rfl ?_)
  refine wpAny_bind (wpAny_setField_rec hz (by simp) fun ha za sa => ?_)
  replace za : IsZip ha z TI TO .ellipsis := za
  refine wpAny_bind ?_
  simp only [List.zipIdx_cons, List.zipIdx_nil, List.forIn_cons, List.forIn_nil]
  refine wpAny_bind (wpAny_bind (wpAny_onRaise ?_))
  show wpAny _ _ (Builtin.SmallTypes.nextOf (.ref i1) >>= _) _ _ _
  refine wpAny_bind (cur_item (h1.extBut sa.extBut D.i1z) (hl1.extBut sa.extBut D.l1z) hx fun hb c1 sb => wpAny_pure ?_)
  have tb : IsPair hb TO a b := sb.extBut _ _ D.TOi1 (sa.extBut _ _ D.TOz hTO)
  refine wpAny_bind (wpAny_seqItems tb rfl ?_)
  refine wpAny_bind (wpAny_updateSeq_pair tb fun hc tc sc => ?_)
  replace tc : IsPair hc TO x b := tc
  refine wpAny_bind (wpAny_letGo (wpAny_pure ?_))
  refine wpAny_bind (wpAny_bind (wpAny_onRaise ?_))
  show wpAny _ _ (Builtin.SmallTypes.nextOf (.ref i2) >>= _) _ _ _
  refine wpAny_bind (cur_item (((h2.extBut sa.extBut D.i2z).extBut sb.extBut D.i12.symm).extBut sc.extBut D.TOi2.symm) (((hl2.extBut sa.extBut D.l2z).extBut sb.extBut D.l2i1).extBut sc.extBut D.l2TO) hy fun hd c2 sd => wpAny_pure ?_)
  have td : IsPair hd TO x b := sd.extBut _ _ D.TOi2 tc
  refine wpAny_bind (wpAny_seqItems td rfl ?_)
  refine wpAny_bind (wpAny_updateSeq_pair td fun he te se => ?_)
  replace te : IsPair he TO x y := te
  refine wpAny_bind (wpAny_letGo (wpAny_pure (wpAny_pure ?_)))
  refine wpAny_bind (wpAny_seqItems te rfl ?_)
  refine wpAny_bind (wpAny_newTuple ?_)
  have size : he.objs.size = s.heap.objs.size := by rw [se.1, sd.1, sc.1, sb.1, sa.1]
  have ze : IsZip he z TI TO .ellipsis := se.extBut _ _ D.TOz.symm (sd.extBut _ _ D.i2z.symm (sc.extBut _ _ D.TOz.symm (sb.extBut _ _ D.i1z.symm za)))
  have ke : ∀ c o, c ≠ z → c ≠ TO → c ≠ i1 → c ≠ i2 → s.heap.get? c = some o → he.get? c = some o := fun c o n1 n2 n3 n4 e =>
    se.extBut _ _ n2 (sd.extBut _ _ n4 (sc.extBut _ _ n2 (sb.extBut _ _ n3 (sa.extBut _ _ n1 e))))
  have c1e : Cur b1 he i1 l1 (k1 + 1) := ((c1.extBut sc.extBut D.TOi1.symm).extBut sd.extBut D.i12).extBut se.extBut D.TOi1.symm
  have c2e : Cur b2 he i2 l2 (k2 + 1) := c2.extBut se.extBut D.TOi2.symm
  have zlt : z < he.objs.size := Heap.lt_size ze
  show wpAny _ _ (Builtin.SmallTypes.ownedTupleHandOut (.ref z) (.ref he.objs.size) >>= _) _ _ _
  refine wpAny_bind ?_
  unfold Builtin.SmallTypes.ownedTupleHandOut
  have zf : IsZip (he.push { cls := .type "tuple", data := .seq #[x, y] }) z TI TO .ellipsis := Heap.get?_push_of_some _ ze
  refine wpAny_bind (wpAny_setField_rec zf (by simp) fun hg zg sg => ?_)
  replace zg : IsZip hg z TI TO (rawInt he.objs.size) := zg
  refine wpAny_setField_rec zg (by simp) fun hh zh sh => ?_
  replace zh : IsZip hh z TI TO (rawInt he.objs.size) := zh
  have up : ∀ c o, c ≠ z → he.get? c = some o → hh.get? c = some o := fun c o n e => sh.extBut _ _ n (sg.extBut _ _ n (Heap.get?_push_of_some _ e))
  have pr : IsPair hh he.objs.size x y := sh.extBut _ _ (Nat.ne_of_gt zlt) (sg.extBut _ _ (Nat.ne_of_gt zlt) (Heap.get?_push_size _ rfl))
  have sz : hh.objs.size = he.objs.size + 1 := by rw [sh.1, sg.1, Heap.size_push]
  rw [size] at zh pr sz
  refine wpAny_pure ⟨_, rfl, ?_⟩
  show Q (.ref he.objs.size) _
  rw [size]
  exact hQ hh zh (up _ _ D.TOz te) (c1e.at_ fun o e => up _ o D.i1z e) (c2e.at_ fun o e => up _ o D.i2z e) pr sz fun c o n1 n2 n3 n4 e => up c o n1 (ke c o n1 n2 n3 n4 e)
/-- one of the rows is at its end -/
theorem zipM_end {b1 b2 : Bool} {z TI TO i1 i2 l1 l2 : Addr} {k1 k2 : Nat} {xs ys : Array Value} {a b : Value} {Q : PySem.Fin → Shared → Prop} (hn : A.handled = none) (D : ZipApart z TI TO i1 i2 l1 l2)
    (hz : IsZip s.heap z TI TO .none) (hTI : IsPair s.heap TI (.ref i1) (.ref i2)) (hTO : IsPair s.heap TO a b)
    (h1 : Cur b1 s.heap i1 l1 k1) (h2 : Cur b2 s.heap i2 l2 k2) (hl1 : RowA b1 s.heap l1 xs) (hl2 : RowA b2 s.heap l2 ys) (hend : xs[k1]? = none ∨ ys[k2]? = none)
    (hE : ∀ h' e, (∀ c o, c ≠ z → c ≠ TO → c ≠ i1 → c ≠ i2 → s.heap.get? c = some o → h'.get? c = some o) → (∃ o, h'.get? e = some o ∧ o.cls = .type "StopIteration") → E (.ref e) { s with heap := h' }) :
    wpAny (model prog w) A (Builtin.«zip.__next__» ⟨[.ref z], []⟩) Q E s := by
  show wpAny _ _ (field (.ref z) 2 >>= _) _ _ _
  refine wpAny_bind (wpAny_field hz rfl (x := .bool false) rfl ?_)
  show wpAny _ _ (field (.ref z) 3 >>= _) _ _ _
  refine wpAny_bind (wpAny_field hz rfl (x := .ref TI) rfl ?_)
  refine wpAny_bind (wpAny_seqItems hTI rfl ?_)
  show wpAny _ _ (Builtin.SmallTypes.ownedTupleIsFree (.ref z) >>= _) _ _ _
  refine wpAny_bind ?_
  unfold Builtin.SmallTypes.ownedTupleIsFree
  refine wpAny_bind (wpAny_field hz rfl (x := .none) rfl (wpAny_pure ?_))
  simp only [if_true]
  refine wpAny_bind (wpAny_rule ?_)
  refine wpAny_bind (wpAny_field hz rfl (x := .ref TO) rfl ?_)
  refine wpAny_bind (wpAny_setField_rec hz (by simp) fun ha za sa => ?_)
  replace za : IsZip ha z TI TO .ellipsis := za
  refine wpAny_bind ?_
  simp only [List.zipIdx_cons, List.zipIdx_nil, List.forIn_cons, List.forIn_nil]
  refine wpAny_bind (wpAny_bind (wpAny_onRaise ?_))
  show wpAny _ _ (Builtin.SmallTypes.nextOf (.ref i1) >>= _) _ _ _
  cases hx : xs[k1]? with
  | none =>
    refine wpAny_bind (cur_end hn (h1.extBut sa.extBut D.i1z) (hl1.extBut sa.extBut D.l1z) hx fun hb e sb he => ?_)
    obtain ⟨oe, hoe, hce⟩ := he
    have zb : IsZip hb z TI TO .ellipsis := sb _ _ D.i1z.symm za
    have ez : e ≠ z := fun q => by
      subst q
      rw [zb] at hoe
      cases hoe
      simp at hce
    refine wpAny_setField_rec zb (by simp) fun hc _ sc => hE hc e (fun c o n1 _ n3 _ q => sc.extBut _ _ n1 (sb _ _ n3 (sa.extBut _ _ n1 q))) ⟨oe, sc.extBut _ _ ez hoe, hce⟩
  | some x =>
    have hy : ys[k2]? = none := by
      rcases hend with q | q
      · rw [hx] at q
        cases q
      · exact q
    refine wpAny_bind (cur_item (h1.extBut sa.extBut D.i1z) (hl1.extBut sa.extBut D.l1z) hx fun hb c1 sb => wpAny_pure ?_)
    have tb : IsPair hb TO a b := sb.extBut _ _ D.TOi1 (sa.extBut _ _ D.TOz hTO)
    refine wpAny_bind (wpAny_seqItems tb rfl ?_)
    refine wpAny_bind (wpAny_updateSeq_pair tb fun hc tc sc => ?_)
    refine wpAny_bind (wpAny_letGo (wpAny_pure ?_))
    refine wpAny_bind (wpAny_bind (wpAny_onRaise ?_))
    show wpAny _ _ (Builtin.SmallTypes.nextOf (.ref i2) >>= _) _ _ _
    refine wpAny_bind (cur_end hn (((h2.extBut sa.extBut D.i2z).extBut sb.extBut D.i12.symm).extBut sc.extBut D.TOi2.symm) (((hl2.extBut sa.extBut D.l2z).extBut sb.extBut D.l2i1).extBut sc.extBut D.l2TO) hy fun hd e sd he => ?_)
    obtain ⟨oe, hoe, hce⟩ := he
    have zd : IsZip hd z TI TO .ellipsis := sd _ _ D.i2z.symm (sc.extBut _ _ D.TOz.symm (sb.extBut _ _ D.i1z.symm za))
    have ez : e ≠ z := fun q => by
      subst q
      rw [zd] at hoe
      cases hoe
      simp at hce
    refine wpAny_setField_rec zd (by simp) fun hf _ sf => hE hf e (fun c o n1 n2 n3 n4 q => sf.extBut _ _ n1 (sd _ _ n4 (sc.extBut _ _ n2 (sb.extBut _ _ n3 (sa.extBut _ _ n1 q))))) ⟨oe, sf.extBut _ _ ez hoe, hce⟩
theorem nextM_item {b1 b2 : Bool} {z TI TO i1 i2 l1 l2 : Addr} {k1 k2 : Nat} {xs ys : Array Value} {x y a b : Value} {Q : Option Value → Shared → Prop} (D : ZipApart z TI TO i1 i2 l1 l2)
    (hz : IsZip s.heap z TI TO .none) (hTI : IsPair s.heap TI (.ref i1) (.ref i2)) (hTO : IsPair s.heap TO a b)
    (h1 : Cur b1 s.heap i1 l1 k1) (h2 : Cur b2 s.heap i2 l2 k2) (hl1 : RowA b1 s.heap l1 xs) (hl2 : RowA b2 s.heap l2 ys) (hx : xs[k1]? = some x) (hy : ys[k2]? = some y)
    (hQ : ∀ h', IsZip h' z TI TO (rawInt s.heap.objs.size) → IsPair h' TO x y → Cur b1 h' i1 l1 (k1 + 1) → Cur b2 h' i2 l2 (k2 + 1) → IsPair h' s.heap.objs.size x y → h'.objs.size = s.heap.objs.size + 1 →
      (∀ c o, c ≠ z → c ≠ TO → c ≠ i1 → c ≠ i2 → s.heap.get? c = some o → h'.get? c = some o) → Q (some (.ref s.heap.objs.size)) { s with heap := h' }) :
    wpAny (model prog w) A (pyNext (.ref z)) Q E s := by
  have ty : s.TypeIs (.ref z) "zip" := ⟨_, hz, rfl⟩
  unfold pyNext
  exact wpAny_bind (wpAny_attempt (wpAny_callSpecial?_slot (name := Str.ofString "__next__") ty F.slot_zip_next
    (wpAny_call_entry F.slot_zip_next ty F.entry_zip_next (zipM_item D hz hTI hTO h1 h2 hl1 hl2 hx hy fun h' q1 q2 q3 q4 q5 q6 q7 => wpAny_pure (hQ h' q1 q2 q3 q4 q5 q6 q7)) (F.args_zip_next_1 _))))
theorem nextM_end {b1 b2 : Bool} {z TI TO i1 i2 l1 l2 : Addr} {k1 k2 : Nat} {xs ys : Array Value} {a b : Value} {Q : Option Value → Shared → Prop} (hn : A.handled = none) (D : ZipApart z TI TO i1 i2 l1 l2)
    (hz : IsZip s.heap z TI TO .none) (hTI : IsPair s.heap TI (.ref i1) (.ref i2)) (hTO : IsPair s.heap TO a b)
    (h1 : Cur b1 s.heap i1 l1 k1) (h2 : Cur b2 s.heap i2 l2 k2) (hl1 : RowA b1 s.heap l1 xs) (hl2 : RowA b2 s.heap l2 ys) (hend : xs[k1]? = none ∨ ys[k2]? = none)
    (hQ : ∀ h', (∀ c o, c ≠ z → c ≠ TO → c ≠ i1 → c ≠ i2 → s.heap.get? c = some o → h'.get? c = some o) → Q none { s with heap := h' }) : wpAny (model prog w) A (pyNext (.ref z)) Q E s := by
  have ty : s.TypeIs (.ref z) "zip" := ⟨_, hz, rfl⟩
  unfold pyNext
  refine wpAny_bind (wpAny_attempt (wpAny_callSpecial?_slot (name := Str.ofString "__next__") ty F.slot_zip_next
    (wpAny_call_entry F.slot_zip_next ty F.entry_zip_next (zipM_end hn D hz hTI hTO h1 h2 hl1 hl2 hend fun h' e hk he => ?_) (F.args_zip_next_1 _))))
  obtain ⟨o, ho, hc⟩ := he
  exact wpAny_bind (wpAny_isInstance (T := "StopIteration") (b := true) ⟨o, ho, hc⟩ isSubtype_stop (wpAny_pure (hQ _ hk)))
end
/-- a new iterator over a tuple, over a list -/
abbrev itT (l : Addr) : Obj := { cls := .type "tuple_iterator", data := .fields #[.ref l, .int 0 0] }
abbrev itL (l : Addr) : Obj := { cls := .type "list_iterator", data := .fields #[.ref l, .int 0 0] }
abbrev itOf (b : Bool) (l : Addr) : Obj := match b with | true => itL l | false => itT l
abbrev hp1 (h : Heap) (o1 : Obj) : Heap := h.push o1
abbrev hp2 (h : Heap) (o1 o2 : Obj) : Heap := (hp1 h o1).push o2
abbrev hp3 (h : Heap) (o1 o2 : Obj) : Heap := (hp2 h o1 o2).push { cls := .type "tuple", data := .seq #[.ref h.objs.size, .ref (hp1 h o1).objs.size] }
abbrev hp4 (h : Heap) (o1 o2 : Obj) : Heap := (hp3 h o1 o2).push { cls := .type "tuple", data := .seq #[.none, .none] }
abbrev hp5 (h : Heap) (o1 o2 : Obj) : Heap := (hp4 h o1 o2).push { cls := .type "zip", data := .fields #[.none, .bool false, .bool false, .ref (hp2 h o1 o2).objs.size, .ref (hp3 h o1 o2).objs.size] }
theorem newTL (l1 l2 : Addr) (xs ys : Array Value) : Meets (Builtin.«zip.__new__» ⟨[.type "zip", .ref l1, .ref l2], []⟩) (fun _ R s => s.heap.IsTuple l1 xs ∧ s.heap.IsList l2 ys ∧ R (.ok (.ret (.ref (hp4 s.heap (itT l1) (itL l2)).objs.size))) { s with heap := hp5 s.heap (itT l1) (itL l2) }) :=
  .of_wp fun prog w A R s h => by
    obtain ⟨hp, g, d, tk, os⟩ := s
    obtain ⟨hl1, hl2, h⟩ := h
    have hsub := sub_zip
    have r1 : Heap.IsTuple (Shared.heap ⟨hp, g, d, tk, os⟩) l1 xs := hl1
    have r2 : Heap.IsList (Shared.heap ⟨hp.push { cls := .type "tuple_iterator", data := .fields #[.ref l1, .int 0 0] }, g, d, tk, os⟩) l2 ys := Heap.IsList.push hl2 _
    wp_walk using wpAny_pyIter_tuple r1, wpAny_pyIter_list r2
    exact ⟨_, rfl, h⟩
theorem callTL {prog : Program} {w : World} {A : Around} {E : Value → Shared → Prop} {s : Shared} {l1 l2 : Addr} {xs ys : Array Value} {Q : Value → Shared → Prop} (hl1 : s.heap.IsTuple l1 xs) (hl2 : s.heap.IsList l2 ys)
    (h : ∀ h', IsZip h' (s.heap.objs.size + 4) (s.heap.objs.size + 2) (s.heap.objs.size + 3) .none → IsPair h' (s.heap.objs.size + 2) (.ref s.heap.objs.size) (.ref (s.heap.objs.size + 1)) →
      IsPair h' (s.heap.objs.size + 3) .none .none → Cur false h' s.heap.objs.size l1 0 → Cur true h' (s.heap.objs.size + 1) l2 0 → h'.objs.size = s.heap.objs.size + 5 →
      (∀ c o, s.heap.get? c = some o → h'.get? c = some o) → Q (.ref (s.heap.objs.size + 4)) { s with heap := h' }) :
    wpAny (model prog w) A (call (.type "zip") [.ref l1, .ref l2]) Q E s := by
  refine callType_new F.called_zip (by decide) (F.typeCall_zip_2 _ _) (F.newCall_zip_2 _ _) (fun obj => F.args_object_init_3 obj _ _) F.entry_zip_new (newTL l1 l2 xs ys) ⟨hl1, hl2, ?_⟩
  generalize ho1 : itT l1 = o1
  generalize ho2 : itL l2 = o2
  have f1 : o1.isFreed = false := by rw [← ho1]; rfl
  have f2 : o2.isFreed = false := by rw [← ho2]; rfl
  have z1 : (hp1 s.heap o1).objs.size = s.heap.objs.size + 1 := Heap.size_push ..
  have z2 : (hp2 s.heap o1 o2).objs.size = s.heap.objs.size + 2 := by rw [Heap.size_push, z1]
  have z3 : (hp3 s.heap o1 o2).objs.size = s.heap.objs.size + 3 := by rw [Heap.size_push, z2]
  have z4 : (hp4 s.heap o1 o2).objs.size = s.heap.objs.size + 4 := by rw [Heap.size_push, z3]
  have z5 : (hp5 s.heap o1 o2).objs.size = s.heap.objs.size + 5 := by rw [Heap.size_push, z4]
  have g5 : (hp5 s.heap o1 o2).get? (hp4 s.heap o1 o2).objs.size = some _ := Heap.get?_push_size _ rfl
  have g4 : (hp5 s.heap o1 o2).get? (hp3 s.heap o1 o2).objs.size = some _ := Heap.get?_push_of_some _ (Heap.get?_push_size _ rfl)
  have g3 : (hp5 s.heap o1 o2).get? (hp2 s.heap o1 o2).objs.size = some _ := Heap.get?_push_of_some _ (Heap.get?_push_of_some _ (Heap.get?_push_size _ rfl))
  have g2 : (hp5 s.heap o1 o2).get? (hp1 s.heap o1).objs.size = some o2 := Heap.get?_push_of_some _ (Heap.get?_push_of_some _ (Heap.get?_push_of_some _ (Heap.get?_push_size _ f2)))
  have g1 : (hp5 s.heap o1 o2).get? s.heap.objs.size = some o1 := Heap.get?_push_of_some _ (Heap.get?_push_of_some _ (Heap.get?_push_of_some _ (Heap.get?_push_of_some _ (Heap.get?_push_size _ f1))))
  show _ ∧ _
  rw [z2, z3, z4] at g5
  rw [z1, z2] at g3
  rw [z3] at g4
  rw [z1] at g2
  rw [z4]
  exact ⟨⟨_, g5, rfl⟩, h _ g5 g3 g4 ⟨_, g1, by rw [← ho1], by rw [← ho1]; rfl⟩ ⟨_, g2, by rw [← ho2], by rw [← ho2]; rfl⟩ z5 fun c o x =>
    Heap.get?_push_of_some _ (Heap.get?_push_of_some _ (Heap.get?_push_of_some _ (Heap.get?_push_of_some _ (Heap.get?_push_of_some _ x))))⟩
/-- the tuple at a and the list at b as they stand at each turn, the items in new pairs -/
def ItzM (K : PySem.W.Frag) (a b : Addr) : It :=
  ⟨fun i H => ∃ (xs ys : List V) (x y : V), SqT K H a xs ∧ SqL K H b ys ∧ xs[i]? = some x ∧ ys[i]? = some y,
    fun i H v H' => ∃ T x y, v = .ref T ∧ H T = none ∧ H' = upd H T (.tup [x, y]) ∧ (∀ xs, SqT K H a xs → xs[i]? = some x) ∧ ∀ ys, SqL K H b ys → ys[i]? = some y,
    fun i H => ∃ xs ys : List V, SqT K H a xs ∧ SqL K H b ys ∧ (xs.length ≤ i ∨ ys.length ≤ i)⟩
theorem turn_zipM {P : Program} {w : World} {K : PySem.W.Frag} {elts : List Expr} {kk : Nat} {tpos : Pos} {a b z TI TO i1 i2 : Addr} (D : ZipApart z TI TO i1 i2 a b) :
    Turn P w K (.Tuple elts kk tpos) (ItzM K a b) [z, TI, TO, i1, i2] z (fun i h => IsZip h z TI TO .none ∧ IsPair h TI (.ref i1) (.ref i2) ∧ (∃ x y, IsPair h TO x y) ∧ Cur false h i1 a i ∧ Cur true h i2 b i) where
  mem := by simp
  obj := fun i h st c hc => by
    obtain ⟨hz, hTI, ⟨x, y, hTO⟩, q1, q2⟩ := st
    obtain ⟨o1, e1, v1, d1⟩ := q1.lt
    obtain ⟨o2, e2, v2, d2⟩ := q2.lt
    have e' : c = z ∨ c = TI ∨ c = TO ∨ c = i1 ∨ c = i2 := by simpa using hc
    rcases e' with rfl | rfl | rfl | rfl | rfl
    · exact ⟨_, hz, fun v q => nomatch q⟩
    · exact ⟨_, hTI, fun v q => nomatch q⟩
    · exact ⟨_, hTO, fun v q => nomatch q⟩
    · exact ⟨o1, e1, fun v q => by rw [d1] at q; cases q⟩
    · exact ⟨o2, e2, fun v q => by rw [d2] at q; cases q⟩
  keep := fun i h h' st k => by
    obtain ⟨hz, hTI, ⟨x, y, hTO⟩, q1, q2⟩ := st
    exact ⟨k z (by simp) _ hz, k TI (by simp) _ hTI, ⟨x, y, k TO (by simp) _ hTO⟩, q1.at_ fun o q => k i1 (by simp) o q, q2.at_ fun o q => k i2 (by simp) o q⟩
  item := by
    intro X hP hw hK hc i pins s σ H E I hf st hg
    subst hP hw hK
    obtain ⟨hz, hTI, ⟨x0, y0, hTO⟩, q1, q2⟩ := st
    obtain ⟨xs, ys, x, y, hqx, hqy, hx, hy⟩ := hg
    obtain ⟨its, rv, p, _⟩ := I.tuple hqx
    obtain ⟨its2, rv2, p2, _⟩ := I.list hqy
    obtain ⟨u, hu, ru⟩ := rv.get hx
    obtain ⟨u2, hu2, ru2⟩ := rv2.get hy
    have zlt : z < s.heap.objs.size := Heap.lt_size hz
    refine nextM_item (b1 := false) (b2 := true) D hz hTI hTO q1 q2 p p2.isList (x := u) (y := u2) (by simpa using hu) (by simpa using hu2) fun h' z' TO' q1' q2' hT hsz hk => ?_
    refine ⟨_, rfl, wpAny_letOwnedTupleGo_zip (s := { s with heap := h' }) z' fun h'' z'' sb => ?_⟩
    have hT2 : h''.get? s.heap.objs.size = some { cls := .type "tuple", data := .seq #[u, u2] } := (sb.2 _ (Nat.ne_of_gt zlt)).trans hT
    have new : ObjOk X.prog X.w (upd H s.heap.objs.size (.tup [x, y])) h'' s.heap.objs.size (.tup [x, y]) :=
      ⟨by show 2 ≤ sizeLine; decide, [u, u2], .cons ru (.cons ru2 .nil), ⟨_, hT2, rfl, _, rfl⟩⟩
    have I1 : Inv X pins σ (upd H s.heap.objs.size (.tup [x, y])) { s with heap := h'' } :=
      I.turnedNew (t' := s.toks) (ch := [z, TI, TO, i1, i2]) (fun c o hb q => (sb.2 c (fun q' => hb (by simp [q']))).trans (hk c o (fun q' => hb (by simp [q'])) (fun q' => hb (by simp [q'])) (fun q' => hb (by simp [q'])) (fun q' => hb (by simp [q'])) q)) hf (Nat.le_refl _) new
    refine ⟨.ref s.heap.objs.size, _, I1, rfl, ⟨_, x, y, rfl, I.hok.fresh (Nat.le_refl _), rfl, fun l hl => by rw [I.tuple_inj hl hqx]; exact hx, fun l hl => by rw [I.list_inj hl hqy]; exact hy⟩, ⟨z'', ?_, ⟨u, u2, ?_⟩, ?_, ?_⟩, fun c hcm => ?_⟩
    · exact (sb.2 _ D.TIz).trans (hk _ _ D.TIz D.TITO D.TIi1 D.TIi2 hTI)
    · exact (sb.2 _ D.TOz).trans TO'
    · exact q1'.at_ fun o q => (sb.2 _ D.i1z).trans q
    · exact q2'.at_ fun o q => (sb.2 _ D.i2z).trans q
    · have hlt : c < s.heap.objs.size := by
        have e' : c = z ∨ c = TI ∨ c = TO ∨ c = i1 ∨ c = i2 := by simpa using hcm
        obtain ⟨_, e1, _⟩ := q1.lt
        obtain ⟨_, e2, _⟩ := q2.lt
        rcases e' with rfl | rfl | rfl | rfl | rfl
        · exact zlt
        · exact Heap.lt_size hTI
        · exact Heap.lt_size hTO
        · exact Heap.lt_size e1
        · exact Heap.lt_size e2
      rw [upd_ne (Nat.ne_of_lt hlt)]
      exact (hf c hcm).1
  done := by
    intro X hP hw hK hc i pins s σ H E I hf st hg
    subst hP hw hK
    obtain ⟨hz, hTI, ⟨x0, y0, hTO⟩, q1, q2⟩ := st
    obtain ⟨xs, ys, hqx, hqy, hend⟩ := hg
    obtain ⟨its, rv, p, _⟩ := I.tuple hqx
    obtain ⟨its2, rv2, p2, _⟩ := I.list hqy
    have l1 := rv.length
    have l2 := rv2.length
    have he : its.toArray[i]? = none ∨ its2.toArray[i]? = none := by
      rcases hend with q | q
      · exact .inl (by simp; omega)
      · exact .inr (by simp; omega)
    exact nextM_end (b1 := false) (b2 := true) (I.ok.hd hc) D hz hTI hTO q1 q2 p p2.isList he fun h' hk => ⟨rfl, I.turnedL (t' := s.toks) (ch := [z, TI, TO, i1, i2]) (fun c o hb q =>
      hk c o (fun q' => hb (by simp [q'])) (fun q' => hb (by simp [q'])) (fun q' => hb (by simp [q'])) (fun q' => hb (by simp [q'])) q) hf⟩
  self := fun A i s Q E st h => wpAny_pyIter_zip st.1 h
def iZipM (K : PySem.W.Frag) (ta : TA) : TI := fun σ H R => ta σ H fun vs H1 => ∃ a b xs ys, vs = [.ref a, .ref b] ∧ ((SqL K H1 a xs ∧ SqL K H1 b ys ∧ R (Itz K a b) H1) ∨ (SqT K H1 a xs ∧ SqT K H1 b ys ∧ R (RZ.ItzT K a b) H1) ∨ (SqT K H1 a xs ∧ SqL K H1 b ys ∧ R (ItzM K a b) H1))
theorem pi_zipM {X : Cx} {e e2 : Expr} {ta : TA} {p pos tpos : Pos} {elts : List Expr} {kk : Nat} (hg : Gl X "zip") (hm : X.mg "zip" = none) (ha : PA X [e, e2] ta)
    (hs : starEach [e, e2] X.env = (false, eval e X.env) :: starEach [e2] X.env := by rfl) (hpl : (backTo pos (starEach [e2] X.env)).any (·.1) = false := by rfl) :
    PI X (.Tuple elts kk tpos) (.Call (.Name "zip" p) [e, e2] [] pos) (iZipM X.K ta) := by
  refine ⟨fun pins s σ H R I h => ?_⟩
  refine Call_ (ld_blt I hg hm PyProof.Rows.boot_zip (PyProof.Rows.callWith_type1 (thn (ha.run pos pins s σ H _ I h) fun us s1 ⟨vs, H1, I1, r1, q1⟩ => ?_) hs hpl))
  obtain ⟨a, b, xs, ys, rfl, q1⟩ := q1
  cases r1 with
  | cons r rr =>
    cases rr with
    | cons r' rr =>
      cases rr
      cases r
      cases r'
      have fresh : ∀ c, c ∈ [s1.heap.objs.size + 4, s1.heap.objs.size + 2, s1.heap.objs.size + 3, s1.heap.objs.size, s1.heap.objs.size + 1] → FpOk X pins H1 c := fun c hcm => by
        have le : s1.heap.objs.size ≤ c := by
          simp only [List.mem_cons, List.not_mem_nil, or_false] at hcm
          omega
        exact I1.fpOk le (I1.hok.fresh le)
      rcases q1 with ⟨qx, qy, q⟩ | ⟨qx, qy, q⟩ | ⟨qx, qy, q⟩
      · obtain ⟨its, rv, p1, _⟩ := I1.list qx
        obtain ⟨its2, rv2, p2, _⟩ := I1.list qy
        refine call_zip_2 p1.isList p2.isList fun h' hz hTI hTO c1 c2 hsz hk => wpAny_pyIter_zip hz ?_
        exact ⟨_, [s1.heap.objs.size + 4, s1.heap.objs.size + 2, s1.heap.objs.size + 3, s1.heap.objs.size, s1.heap.objs.size + 1], _, _, H1, rfl, I1.kept (t' := s1.toks) hk, turn_zip (PySem.W.ktu_apart s1.heap.objs.size a b p1.lt p2.lt), ⟨hz, hTI, ⟨_, _, hTO⟩, c1, c2⟩, fresh, q⟩
      · obtain ⟨its, rv, p1, _⟩ := I1.tuple qx
        obtain ⟨its2, rv2, p2, _⟩ := I1.tuple qy
        obtain ⟨o1, ho1, _⟩ := id p1
        obtain ⟨o2, ho2, _⟩ := id p2
        refine RZ.call_zipT (show s1.heap.IsTuple a its.toArray from p1) (show s1.heap.IsTuple b its2.toArray from p2) fun h' hz hTI hTO c1 c2 hsz hk => wpAny_pyIter_zip hz ?_
        exact ⟨_, [s1.heap.objs.size + 4, s1.heap.objs.size + 2, s1.heap.objs.size + 3, s1.heap.objs.size, s1.heap.objs.size + 1], _, _, H1, rfl, I1.kept (t' := s1.toks) hk, RZ.turn_zipT (PySem.W.ktu_apart s1.heap.objs.size a b (Heap.lt_size ho1) (Heap.lt_size ho2)), ⟨hz, hTI, ⟨_, _, hTO⟩, c1, c2⟩, fresh, q⟩
      · obtain ⟨its, rv, p1, _⟩ := I1.tuple qx
        obtain ⟨its2, rv2, p2, _⟩ := I1.list qy
        obtain ⟨o1, ho1, _⟩ := id p1
        refine callTL (show s1.heap.IsTuple a its.toArray from p1) p2.isList fun h' hz hTI hTO c1 c2 hsz hk => wpAny_pyIter_zip hz ?_
        exact ⟨_, [s1.heap.objs.size + 4, s1.heap.objs.size + 2, s1.heap.objs.size + 3, s1.heap.objs.size, s1.heap.objs.size + 1], _, _, H1, rfl, I1.kept (t' := s1.toks) hk, turn_zipM (PySem.W.ktu_apart s1.heap.objs.size a b (Heap.lt_size ho1) p2.lt), ⟨hz, hTI, ⟨_, _, hTO⟩, c1, c2⟩, fresh, q⟩
end FD
namespace FD
open PySem PySem.Spec PyProof.Rows L2
theorem RowA.at_ {b : Bool} {h h' : Heap} {l : Addr} {xs : Array Value} (x : RowA b h l xs) (e : ∀ o, h.get? l = some o → h'.get? l = some o) : RowA b h' l xs := by
  cases b with
  | true => exact Heap.IsList.at x e
  | false => exact Heap.IsTuple.at x e
theorem RowA.lt {b : Bool} {h : Heap} {l : Addr} {xs : Array Value} (x : RowA b h l xs) : l < h.objs.size := by
  cases b with
  | true =>
    obtain ⟨o, e, _⟩ := x
    exact Heap.lt_size e
  | false =>
    obtain ⟨o, e, _⟩ := x
    exact Heap.lt_size e
def drawsB (b : Bool) {prog : Program} {w : World} {A : Around} (hh : A.handled = none) (it l : Addr) (hne : l ≠ it) (items : Array Value) : Draws prog w A it [it, l] items.size (fun i v => items[i]? = some v) (fun i h => Cur b h it l i ∧ RowA b h l items) := by
  cases b with
  | true => exact Draws.list hh it l hne items
  | false => exact Draws.tuple hh it l hne items
theorem beginsB (b : Bool) (l : Addr) (items : Array Value) : Begins (.ref l) (itOf b l) fun h => RowA b h l items := by
  cases b with
  | true => exact begins_list l items
  | false => exact begins_tuple l items
theorem cur_new {b : Bool} {h : Heap} {it l : Addr} (e : h.get? it = some (itOf b l)) : Cur b h it l 0 := by
  cases b with
  | true => exact ⟨_, e, rfl, rfl⟩
  | false => exact ⟨_, e, rfl, rfl⟩
/-- a row of the heap: a list (true) or a tuple (false) -/
def SqB (b : Bool) (K : PySem.W.Frag) (H : Hp) (a : Addr) (xs : List V) : Prop := match b with
  | true => SqL K H a xs
  | false => SqT K H a xs
theorem row_of {b : Bool} {X : Cx} {pins : List (Addr × Obj)} {σ : L2.St} {H : Hp} {s : Shared} {a : Addr} {xs : List V} (I : Inv X pins σ H s) (h : SqB b X.K H a xs) : ∃ its : List Value, Vals xs its ∧ RowA b s.heap a its.toArray := by
  cases b with
  | true =>
    obtain ⟨its, rv, p, _⟩ := I.list h
    exact ⟨its, rv, p.isList⟩
  | false =>
    obtain ⟨its, rv, p, _⟩ := I.tuple h
    exact ⟨its, rv, p⟩
theorem row_inj {b : Bool} {X : Cx} {pins : List (Addr × Obj)} {σ : L2.St} {H : Hp} {s : Shared} {a : Addr} {xs ys : List V} (I : Inv X pins σ H s) (h1 : SqB b X.K H a xs) (h2 : SqB b X.K H a ys) : xs = ys := by
  cases b with
  | true => exact I.list_inj h1 h2
  | false => exact I.tuple_inj h1 h2
/-- three rows, as they stand at each turn, the items in new tuples -/
def It3 (b1 b2 b3 : Bool) (K : PySem.W.Frag) (a b c : Addr) : It :=
  ⟨fun i H => ∃ (xs ys zs : List V) (x y z : V), SqB b1 K H a xs ∧ SqB b2 K H b ys ∧ SqB b3 K H c zs ∧ xs[i]? = some x ∧ ys[i]? = some y ∧ zs[i]? = some z,
    fun i H v H' => ∃ T x y z, v = .ref T ∧ H T = none ∧ H' = upd H T (.tup [x, y, z]) ∧ (∀ xs, SqB b1 K H a xs → xs[i]? = some x) ∧ (∀ ys, SqB b2 K H b ys → ys[i]? = some y) ∧ ∀ zs, SqB b3 K H c zs → zs[i]? = some z,
    fun i H => ∃ xs ys zs : List V, SqB b1 K H a xs ∧ SqB b2 K H b ys ∧ SqB b3 K H c zs ∧ (i ≤ xs.length ∧ i ≤ ys.length ∧ i ≤ zs.length) ∧ (i = xs.length ∨ i = ys.length ∨ i = zs.length)⟩
theorem turn_zip3 {b1 b2 b3 : Bool} {P : Program} {w : World} {K : PySem.W.Frag} {elts : List Expr} {kk : Nat} {tpos : Pos} {a b c z TI TO i1 i2 i3 : Addr} (D : ZipSep3 z TI TO i1 i2 i3 [i1, a] [i2, b] [i3, c]) (n1 : a ≠ i1) (n2 : b ≠ i2) (n3 : c ≠ i3) :
    Turn P w K (.Tuple elts kk tpos) (It3 b1 b2 b3 K a b c) [z, TI, TO, i1, i2, i3] z (fun i h => IsZip h z TI TO .none ∧ IsTupOf3 h TI (.ref i1) (.ref i2) (.ref i3) ∧ (∃ x y q, IsTupOf3 h TO x y q) ∧ Cur b1 h i1 a i ∧ Cur b2 h i2 b i ∧ Cur b3 h i3 c i) where
  mem := by simp
  obj := fun i h st d hd => by
    obtain ⟨hz, hTI, ⟨x, y, q, hTO⟩, q1, q2, q3⟩ := st
    obtain ⟨o1, e1, v1, d1⟩ := q1.lt
    obtain ⟨o2, e2, v2, d2⟩ := q2.lt
    obtain ⟨o3, e3, v3, d3⟩ := q3.lt
    have e' : d = z ∨ d = TI ∨ d = TO ∨ d = i1 ∨ d = i2 ∨ d = i3 := by simpa using hd
    rcases e' with rfl | rfl | rfl | rfl | rfl | rfl
    · exact ⟨_, hz, fun v q => nomatch q⟩
    · exact ⟨_, hTI, fun v q => nomatch q⟩
    · exact ⟨_, hTO, fun v q => nomatch q⟩
    · exact ⟨o1, e1, fun v q => by rw [d1] at q; cases q⟩
    · exact ⟨o2, e2, fun v q => by rw [d2] at q; cases q⟩
    · exact ⟨o3, e3, fun v q => by rw [d3] at q; cases q⟩
  keep := fun i h h' st k => by
    obtain ⟨hz, hTI, ⟨x, y, q, hTO⟩, q1, q2, q3⟩ := st
    exact ⟨k z (by simp) _ hz, k TI (by simp) _ hTI, ⟨x, y, q, k TO (by simp) _ hTO⟩, q1.at_ fun o q => k i1 (by simp) o q, q2.at_ fun o q => k i2 (by simp) o q, q3.at_ fun o q => k i3 (by simp) o q⟩
  item := by
    intro X hP hw hK hc i pins s σ H E I hf st hg
    subst hP hw hK
    obtain ⟨hz, hTI, ⟨x0, y0, q0, hTO⟩, q1, q2, q3⟩ := st
    obtain ⟨xs, ys, zs, x, y, q, hqx, hqy, hqz, hx, hy, hq⟩ := hg
    obtain ⟨its, rv, p⟩ := row_of I hqx
    obtain ⟨its2, rv2, p2⟩ := row_of I hqy
    obtain ⟨its3, rv3, p3⟩ := row_of I hqz
    obtain ⟨u, hu, ru⟩ := rv.get hx
    obtain ⟨u2, hu2, ru2⟩ := rv2.get hy
    obtain ⟨u3, hu3, ru3⟩ := rv3.get hq
    have zlt : z < s.heap.objs.size := Heap.lt_size hz
    have hd : X.A.in1.handled = none := I.ok.hd hc
    have lt1 : i < its.toArray.size := by
      have := (List.getElem?_eq_some_iff.mp hu).1
      simpa using this
    have lt2 : i < its2.toArray.size := by
      have := (List.getElem?_eq_some_iff.mp hu2).1
      simpa using this
    have lt3 : i < its3.toArray.size := by
      have := (List.getElem?_eq_some_iff.mp hu3).1
      simpa using this
    have ty : s.TypeIs (.ref z) "zip" := ⟨_, hz, rfl⟩
    unfold pyNext
    refine wpAny_bind (wpAny_attempt (wpAny_callSpecial?_slot (name := Str.ofString "__next__") ty F.slot_zip_next
      (wpAny_call_entry F.slot_zip_next ty F.entry_zip_next (zipD3_next_item D (drawsB b1 hd i1 a n1 its.toArray) (drawsB b2 hd i2 b n2 its2.toArray) (drawsB b3 hd i3 c n3 its3.toArray) hz hTI hTO ⟨q1, p⟩ ⟨q2, p2⟩ ⟨q3, p3⟩ lt1 lt2 lt3 fun v1 v2 v3 h' tk g1 g2 g3 z' TO' s1' s2' s3' hT hsz hk => wpAny_pure ?_) (F.args_zip_next_1 _))))
    refine ⟨_, rfl, wpAny_letOwnedTupleGo_zip (s := { s with heap := h', toks := tk }) z' fun h'' z'' sb => ?_⟩
    have ev1 : v1 = u := by
      have : its.toArray[i]? = some u := by simpa using hu
      rw [this] at g1
      cases g1
      rfl
    have ev2 : v2 = u2 := by
      have : its2.toArray[i]? = some u2 := by simpa using hu2
      rw [this] at g2
      cases g2
      rfl
    have ev3 : v3 = u3 := by
      have : its3.toArray[i]? = some u3 := by simpa using hu3
      rw [this] at g3
      cases g3
      rfl
    subst ev1 ev2 ev3
    have hT2 : h''.get? s.heap.objs.size = some { cls := .type "tuple", data := .seq #[v1, v2, v3] } := (sb.2 _ (Nat.ne_of_gt zlt)).trans hT
    have new : ObjOk X.prog X.w (upd H s.heap.objs.size (.tup [x, y, q])) h'' s.heap.objs.size (.tup [x, y, q]) :=
      ⟨by show 3 ≤ sizeLine; decide, [v1, v2, v3], .cons ru (.cons ru2 (.cons ru3 .nil)), ⟨_, hT2, rfl, _, rfl⟩⟩
    have I1 : Inv X pins σ (upd H s.heap.objs.size (.tup [x, y, q])) { s with heap := h'', toks := tk } :=
      I.turnedNew (t' := tk) (ch := [z, TI, TO, i1, i2, i3]) (fun d o hb e => (sb.2 d (fun q' => hb (by simp [q']))).trans (hk d o (fun q' => hb (by simp [q'])) (fun q' => hb (by simp [q'])) (fun q' => hb (by simp [q'])) (fun q' => hb (by simp [q'])) (fun q' => hb (by simp [q'])) e)) hf (Nat.le_refl _) new
    refine ⟨.ref s.heap.objs.size, _, I1, rfl, ⟨_, x, y, q, rfl, I.hok.fresh (Nat.le_refl _), rfl, fun l hl => by rw [row_inj I hl hqx]; exact hx, fun l hl => by rw [row_inj I hl hqy]; exact hy, fun l hl => by rw [row_inj I hl hqz]; exact hq⟩, ⟨z'', ?_, ⟨v1, v2, v3, ?_⟩, ?_, ?_, ?_⟩, fun d hcm => ?_⟩
    · exact (sb.2 _ D.TIz).trans (hk _ _ D.TIz D.TITO D.TIi1 D.TIi2 D.TIi3 hTI)
    · exact (sb.2 _ D.TOz).trans TO'
    · exact s1'.1.at_ fun o q => (sb.2 _ D.zi1.symm).trans q
    · exact s2'.1.at_ fun o q => (sb.2 _ D.zi2.symm).trans q
    · exact s3'.1.at_ fun o q => (sb.2 _ D.zi3.symm).trans q
    · have hlt : d < s.heap.objs.size := by
        have e' : d = z ∨ d = TI ∨ d = TO ∨ d = i1 ∨ d = i2 ∨ d = i3 := by simpa using hcm
        obtain ⟨_, e1, _⟩ := q1.lt
        obtain ⟨_, e2, _⟩ := q2.lt
        obtain ⟨_, e3, _⟩ := q3.lt
        rcases e' with rfl | rfl | rfl | rfl | rfl | rfl
        · exact zlt
        · exact Heap.lt_size hTI
        · exact Heap.lt_size hTO
        · exact Heap.lt_size e1
        · exact Heap.lt_size e2
        · exact Heap.lt_size e3
      rw [upd_ne (Nat.ne_of_lt hlt)]
      exact (hf d hcm).1
  done := by
    intro X hP hw hK hc i pins s σ H E I hf st hg
    subst hP hw hK
    obtain ⟨hz, hTI, ⟨x0, y0, q0, hTO⟩, q1, q2, q3⟩ := st
    obtain ⟨xs, ys, zs, hqx, hqy, hqz, hle, hend⟩ := hg
    obtain ⟨its, rv, p⟩ := row_of I hqx
    obtain ⟨its2, rv2, p2⟩ := row_of I hqy
    obtain ⟨its3, rv3, p3⟩ := row_of I hqz
    have l1 := rv.length
    have l2 := rv2.length
    have l3 := rv3.length
    have hd : X.A.in1.handled = none := I.ok.hd hc
    have ty : s.TypeIs (.ref z) "zip" := ⟨_, hz, rfl⟩
    unfold pyNext
    refine wpAny_bind (wpAny_attempt (wpAny_callSpecial?_slot (name := Str.ofString "__next__") ty F.slot_zip_next
      (wpAny_call_entry F.slot_zip_next ty F.entry_zip_next (zipD3_next_end D (drawsB b1 hd i1 a n1 its.toArray) (drawsB b2 hd i2 b n2 its2.toArray) (drawsB b3 hd i3 c n3 its3.toArray) hz hTI hTO ⟨q1, p⟩ ⟨q2, p2⟩ ⟨q3, p3⟩ (by simp; omega) (by simp; omega) (by simp; omega) (by simp; omega) fun h' tk e hk he => ?_) (F.args_zip_next_1 _))))
    obtain ⟨o, ho, hce⟩ := he
    refine wpAny_bind (wpAny_isInstance (T := "StopIteration") (b := true) ⟨o, ho, hce⟩ isSubtype_stop (wpAny_pure ?_))
    exact ⟨rfl, I.turnedL (t' := tk) (ch := [z, TI, TO, i1, i2, i3]) (fun d o hb q =>
      hk d o (fun q' => hb (by simp [q'])) (fun q' => hb (by simp [q'])) (fun q' => hb (by simp [q'])) (fun q' => hb (by simp [q'])) (fun q' => hb (by simp [q'])) q) hf⟩
  self := fun A i s Q E st h => wpAny_pyIter_zip st.1 h
def iZip3 (K : PySem.W.Frag) (ta : TA) : TI := fun σ H R => ta σ H fun vs H1 => ∃ b1 b2 b3 a b c xs ys zs, vs = [.ref a, .ref b, .ref c] ∧ SqB b1 K H1 a xs ∧ SqB b2 K H1 b ys ∧ SqB b3 K H1 c zs ∧ R (It3 b1 b2 b3 K a b c) H1
theorem pi_zip3 {X : Cx} {e e2 e3 : Expr} {ta : TA} {p pos tpos : Pos} {elts : List Expr} {kk : Nat} (hg : Gl X "zip") (hm : X.mg "zip" = none) (ha : PA X [e, e2, e3] ta)
    (hs : starEach [e, e2, e3] X.env = (false, eval e X.env) :: starEach [e2, e3] X.env := by rfl) (hpl : (backTo pos (starEach [e2, e3] X.env)).any (·.1) = false := by rfl) :
    PI X (.Tuple elts kk tpos) (.Call (.Name "zip" p) [e, e2, e3] [] pos) (iZip3 X.K ta) := by
  refine ⟨fun pins s σ H R I h => ?_⟩
  refine Call_ (ld_blt I hg hm PyProof.Rows.boot_zip (PyProof.Rows.callWith_type1 (thn (ha.run pos pins s σ H _ I h) fun us s1 ⟨vs, H1, I1, r1, q1⟩ => ?_) hs hpl))
  obtain ⟨b1, b2, b3, a, b, c, xs, ys, zs, rfl, qx, qy, qz, q⟩ := q1
  cases r1 with
  | cons r rr =>
    cases rr with
    | cons r' rr =>
      cases rr with
      | cons r'' rr =>
        cases rr
        cases r
        cases r'
        cases r''
        have fresh : ∀ d, d ∈ [s1.heap.objs.size + 5, s1.heap.objs.size + 3, s1.heap.objs.size + 4, s1.heap.objs.size, s1.heap.objs.size + 1, s1.heap.objs.size + 2] → FpOk X pins H1 d := fun d hcm => by
          have le : s1.heap.objs.size ≤ d := by
            simp only [List.mem_cons, List.not_mem_nil, or_false] at hcm
            omega
          exact I1.fpOk le (I1.hok.fresh le)
        obtain ⟨its, rv, p1⟩ := row_of I1 qx
        obtain ⟨its2, rv2, p2⟩ := row_of I1 qy
        obtain ⟨its3, rv3, p3⟩ := row_of I1 qz
        have t1 := p1.lt
        have t2 := p2.lt
        have t3 := p3.lt
        refine zip_begins3 (beginsB b1 a its.toArray) (beginsB b2 b its2.toArray) (beginsB b3 c its3.toArray) p1 p2 p3 fun h' hz hTI hTO g1 g2 g3 hsz hk => wpAny_pyIter_zip hz ?_
        exact ⟨_, [s1.heap.objs.size + 5, s1.heap.objs.size + 3, s1.heap.objs.size + 4, s1.heap.objs.size, s1.heap.objs.size + 1, s1.heap.objs.size + 2], _, _, H1, rfl, I1.kept (t' := s1.toks) hk,
          turn_zip3 (zip_sep3 (fp1 := [a]) (fp2 := [b]) (fp3 := [c]) (fun d hd => by rw [List.mem_singleton.mp hd]; exact t1) (fun d hd => by rw [List.mem_singleton.mp hd]; exact t2) (fun d hd => by rw [List.mem_singleton.mp hd]; exact t3)) (Nat.ne_of_lt t1) (Nat.ne_of_lt (Nat.lt_of_lt_of_le t2 (Nat.le_add_right _ _))) (Nat.ne_of_lt (Nat.lt_of_lt_of_le t3 (Nat.le_add_right _ _))),
          ⟨hz, hTI, ⟨_, _, _, hTO⟩, cur_new g1, cur_new g2, cur_new g3⟩, fresh, q⟩
end FD
namespace FD
open PySem PySem.Spec PyProof.Rows L2
variable [Tbls]
section
variable {prog : Program} {w : World} {A : Around} {E : Value → Shared → Prop} {s : Shared}
theorem back_applied {sl : Addr} {vl vu vs : Value} {n : Nat} {Q : Int × Int × Nat → Shared → Prop} (hs : s.heap.IsSliceOf sl vl vu vs) (pl : IsPart vl none) (pu : IsPart vu none) (ps : IsPart vs (some (-1)))
    (h : Q ((n : Int) - 1, -1, n) s) : wpAny (model prog w) A (Builtin.Slice.sliceApplied (.ref sl) (pure (n : Int))) Q E s := by
  obtain ⟨ob, g1, g2, g3⟩ := id hs
  unfold Builtin.Slice.sliceApplied Builtin.Slice.sliceFields
  refine wpAny_bind (wpAny_bind (wpAny_field g1 g3 (x := vl) rfl (wpAny_bind (wpAny_field g1 g3 (x := vu) rfl (wpAny_bind (wpAny_field g1 g3 (x := vs) rfl (wpAny_pure ?_)))))))
  refine wpAny_bind (HT.slicePart_ ps ?_)
  show wpAny _ _ (if ((-1 : Int) == 0) = true then _ else _) _ _ s
  rw [if_neg (by decide)]
  refine wpAny_bind (HT.slicePart_ pl (wpAny_bind (HT.slicePart_ pu (wpAny_bind (wpAny_pure ?_)))))
  have e1 : Builtin.Slice.sliceAdjust none none (-1) (n : Int) = ((n : Int) - 1, -1) := by
    unfold Builtin.Slice.sliceAdjust
    simp
  have e2 : Builtin.Slice.slicePlaces ((n : Int) - 1) (-1) (-1) = n := by
    unfold Builtin.Slice.slicePlaces
    rw [if_neg (by decide)]
    by_cases h0 : n = 0
    · subst h0
      decide
    · rw [if_pos (by omega)]
      have : ((n : Int) - 1 - -1 - 1) / (- -1) = (n : Int) - 1 := by
        rw [show (- -1 : Int) = 1 by decide, Int.ediv_one]
        omega
      rw [this]
      omega
  show wpAny _ _ (match Builtin.Slice.sliceAdjust none none (-1) (n : Int) with | (lo, hi) => pure (lo, (-1 : Int), Builtin.Slice.slicePlaces lo hi (-1))) _ _ s
  rw [e1]
  show wpAny _ _ (pure ((n : Int) - 1, (-1 : Int), Builtin.Slice.slicePlaces ((n : Int) - 1) (-1) (-1))) _ _ s
  rw [e2]
  exact wpAny_pure h
theorem back_pick (xs : Array Value) : ((List.range xs.size).filterMap fun (k : Nat) => xs[((xs.size : Int) - 1 + (k : Int) * (-1)).toNat]?) = xs.toList.reverse := by
  have e : (List.range xs.size).filterMap (fun (k : Nat) => xs[((xs.size : Int) - 1 + (k : Int) * (-1)).toNat]?) = ((List.range xs.size).map fun k => xs.size - 1 - k).filterMap (xs[·]?) := by
    rw [List.filterMap_map]
    congr 1
    funext k
    show xs[((xs.size : Int) - 1 + (k : Int) * (-1)).toNat]? = xs[xs.size - 1 - k]?
    congr 1
    omega
  rw [e, PySem.W.krv_range, List.filterMap_reverse, PySem.W.krv_all]
theorem getItem_back {t sl : Addr} {items : Array Value} {vl vu vs : Value} {Q : Value → Shared → Prop} (ht : IsTup s.heap t items) (hs : s.heap.IsSliceOf sl vl vu vs) (pl : IsPart vl none) (pu : IsPart vu none) (ps : IsPart vs (some (-1)))
    (h : Q (.ref s.heap.objs.size) { s with heap := s.heap.push { cls := .type "tuple", data := .seq items.toList.reverse.toArray } }) (hsz : items.size ≤ sizeLine) : wpAny (model prog w) A (getItem (.ref t) (.ref sl)) Q E s := by
  have hok : sizeOk (.seq items.toList.reverse.toArray) := by
    show items.toList.reverse.toArray.size ≤ sizeLine
    rw [List.size_toArray, List.length_reverse, Array.length_toList]
    exact hsz
  obtain ⟨ob, g1, g2, g3⟩ := id hs
  have hty : s.TypeIs (.ref sl) "slice" := ⟨ob, g1, g2⟩
  unfold getItem
  try with_reducible refine wpAny_holding ?_
  first | refine wpAny_bind (wpAny_pure ?_) | skip
  refine wpAny_bind (wpAny_sequenceKey ht.typeIs (by decide) ?_)
  refine wpAny_bind (wpAny_callSpecial?_slot (name := Str.ofString "__getitem__") ht.typeIs PyProof.Rows.slot_tuple_getitem (wpAny_call_entry PyProof.Rows.slot_tuple_getitem ht.typeIs entry_tuple_getitem ?_ (args_tuple_getitem _ _)))
  show wpAny _ _ (Builtin.Tuple.tupleItemsOf (.ref t) >>= _) _ _ s
  refine wpAny_bind (tupleItemsOf_ ht ?_)
  refine wpAny_bind (wpAny_typeOf hty ?_)
  rw [if_pos (by decide)]
  refine wpAny_bind (back_applied hs pl pu ps ?_)
  show wpAny _ _ (if (((items.size : Int) - 1) == 0 && (-1 : Int) == 1 && items.size == items.size) = true then _ else _) _ _ s
  rw [if_neg (by simp), back_pick]
  first
    | exact wpAny_bind (m := Builtin.Tuple.tupleExact _) (wpAny_newObj_type (wpAny_pure ⟨_, rfl, wpAny_pure h⟩) hok)
    | exact wpAny_bind (m := Builtin.Tuple.tupleExact _) (wpAny_newObj_type (wpAny_bind (wpAny_pure (wpAny_pure ⟨_, rfl, wpAny_pure h⟩))) hok)
    | exact wpAny_bind (wpAny_bind (m := Builtin.Tuple.tupleExact _) (wpAny_newObj_type (wpAny_pure (wpAny_pure ⟨_, rfl, wpAny_pure h⟩)) hok))
    | exact wpAny_bind (wpAny_bind (m := Builtin.Tuple.tupleExact _) (wpAny_newObj_type (wpAny_pure ⟨_, rfl, wpAny_pure h⟩) hok))
end
section
variable {X : Cx} {G : Gt} {W : WX}
/-- e[::-1] of a list or of a tuple -/
def tRevA (K : PySem.W.Frag) (te : TE) : TE := fun σ H Q => te σ H fun x H1 => (∃ a xs, x = .ref a ∧ SqL K H1 a xs ∧ ∀ p, H1 p = none → Q (.ref p) (upd H1 p (.lst xs.reverse))) ∨ (∃ a xs, x = .ref a ∧ SqT K H1 a xs ∧ ∀ p, H1 p = none → Q (.ref p) (upd H1 p (.tup xs.reverse)))
theorem pe_revA {e : Expr} {te : TE} {k : Nat} {p1 p2 p3 pos : Pos} (he : PE X e te) : PE X (.Subscript e (.Slice none none (some (.UnaryOp .USub (.Constant (.int 1) k p1) p2)) p3) pos) (tRevA X.K te) := by
  refine ⟨fun pins s σ H Q I h => ?_⟩
  refine Subscript_ (thn (he.run pins s σ H _ I h) fun v s1 ⟨x, H1, I1, r1, q1⟩ => ?_)
  have part : PO X (some (.UnaryOp .USub (.Constant (.int 1) k p1) p2)) (tPart (tUn (rU fun i => .int (-i)) (tC (.int 1)))) := po_some (pe_un un_neg pe_int)
  refine wpAny_Slice (thn (po_none.run pins s1 σ H1 (fun o H2 => o = none ∧ H2 = H1) I1 ⟨rfl, rfl⟩) fun vl s2 ⟨l, H2, I2, pl, el, e2⟩ => ?_)
  subst el e2
  refine thn (po_none.run pins s2 σ H2 (fun o H3 => o = none ∧ H3 = H2) I2 ⟨rfl, rfl⟩) fun vu s3 ⟨u, H3, I3, pu, eu, e3⟩ => ?_
  subst eu e3
  refine thn (part.run pins s3 σ H3 (fun o H4 => o = some (-1) ∧ H4 = H3) I3 ⟨1, rfl, -1, rfl, rfl, rfl⟩) fun vs s4 ⟨o, H4, I4, ps, eo, e4⟩ => ?_
  subst eo e4
  have I5 : Inv X pins σ H4 { s4 with heap := s4.heap.push { cls := .type "slice", data := .fields #[vl, vu, vs] }, toks := s4.toks } := I4.kept (t' := s4.toks) fun b ob w => Heap.get?_push_of_some _ w
  rcases q1 with ⟨a, xs, rfl, hx, q⟩ | ⟨a, xs, rfl, hx, q⟩
  · cases r1
    obtain ⟨its, r, ht, hz⟩ := I5.list hx
    have hl := r.length
    show wpAny (model X.prog X.w) X.A (subscriptTail e (.Slice none none (some (.UnaryOp .USub (.Constant (.int 1) k p1) p2)) p3) (.ref a) (.ref s4.heap.objs.size)) _ _ _
    refine tail_any (ops := [.ref a, .ref s4.heap.objs.size]) ht.isList.typeIs (PySem.slot_list_getitem.lookup) ?_ (by with_unfolding_all rfl)
    refine wpAny_getItem_list_slice ht.isList (Heap.IsSliceOf.new _ vl vu vs) pl pu ps (by decide) ?_ (by rw [List.size_toArray]; omega)
    rw [PySem.W.krv_pick]
    refine ⟨.ref _, _, I5.laid (t' := s4.toks) (o := .lst xs.reverse) (fun b ob w => Heap.get?_push_of_some _ w) (Nat.le_refl _) ?_, rfl, q _ (I5.hok.fresh (Nat.le_refl _))⟩
    exact ⟨by rw [List.length_reverse]; exact hz, _, 0, r.reverse, Heap.get?_push_size _ rfl⟩
  · cases r1
    obtain ⟨its, r, ht, hz⟩ := I5.tuple hx
    have hl := r.length
    show wpAny (model X.prog X.w) X.A (subscriptTail e (.Slice none none (some (.UnaryOp .USub (.Constant (.int 1) k p1) p2)) p3) (.ref a) (.ref s4.heap.objs.size)) _ _ _
    refine tail_any (ops := [.ref a, .ref s4.heap.objs.size]) ht.typeIs (PyProof.Rows.slot_tuple_getitem.lookup) ?_ (by with_unfolding_all rfl)
    refine getItem_back ht (Heap.IsSliceOf.new _ vl vu vs) pl pu ps ?_ (by rw [List.size_toArray]; omega)
    refine ⟨.ref _, _, I5.laid (t' := s4.toks) (o := .tup xs.reverse) (fun b ob w => Heap.get?_push_of_some _ w) (Nat.le_refl _) ?_, rfl, q _ (I5.hok.fresh (Nat.le_refl _))⟩
    exact ⟨by rw [List.length_reverse]; exact hz, its.reverse, r.reverse, ⟨_, Heap.get?_push_size _ rfl, rfl, 0, rfl⟩⟩
theorem dvL_rev {H : Hp} : ∀ {ds : List D} {vs : List V}, DvL G H ds vs → DvL G H ds.reverse vs.reverse
  | [], _, h => by
    cases h
    rfl
  | d :: ds, _, h => by
    obtain ⟨v, r, rfl, h1, h2⟩ := h
    rw [List.reverse_cons, List.reverse_cons]
    exact dvL_append (dvL_rev h2) ⟨v, [], rfl, h1, rfl⟩
theorem i_rev {K : PySem.W.Frag} (hK : G.K = K) {fa : Env → R D} {σ : L2.St} {H : Hp} {Q : VK} (h : tD G W (fun ρ => (fa ρ).bind fun x => noexc (revD x)) σ H Q) : tRevA K (tD G W fa) σ H Q := by
  obtain ⟨O, ρ, rep, f⟩ := h
  refine ⟨O, ρ, rep, f.bind.imp fun d H1 s1 f1 v hv => ?_⟩
  have ok := (rep.mono s1).ok
  have f2 := finV_of f1
  cases d with
  | lst xs =>
    obtain ⟨a, vs, rfl, h1, h2⟩ := hv
    exact .inl ⟨a, vs, rfl, .inl (.inl (hid_full _ _ h1)), fun p hp => f2.ok (stp_upd' hp) (dv_newL ok hp (dvL_rev h2))⟩
  | tup xs =>
    obtain ⟨a, vs, rfl, h1, h2⟩ := hv
    rw [hK] at h1
    exact .inr ⟨a, vs, rfl, sqT_mono hid_same h1, fun p hp => f2.ok (stp_upd' hp) (dv_newT ok hp (dvL_rev h2))⟩
  | _ => exact f2.elim
theorem rgV_dv {H : Hp} (a : Int) : ∀ n : Nat, DvL G H (rangeL a n) ((List.range n).map fun i => V.int (a + (i : Nat))) := by
  intro n
  induction n generalizing a with
  | zero => rfl
  | succ n ih =>
    rw [List.range_succ_eq_map, List.map_cons, List.map_map]
    refine ⟨_, _, rfl, ?_, ?_⟩
    · show V.int (a + ((0 : Nat) : Int)) = V.int a
      rw [show a + ((0 : Nat) : Int) = a by omega]
    · have e : ((fun i : Nat => V.int (a + (i : Nat))) ∘ Nat.succ) = fun i : Nat => V.int (a + 1 + (i : Nat)) := by
        funext i
        show V.int (a + ((i + 1 : Nat) : Int)) = V.int (a + 1 + (i : Int))
        congr 1
        omega
      rw [e]
      exact ih (a + 1)
theorem i_lrg {fa fb : Env → R D} {σ : L2.St} {H : Hp} {Q : VK} (h : tD G W (fun ρ => (fa ρ).bind fun x => (fb ρ).bind fun y => noexc (lrgD x y)) σ H Q) : tLstRg (tRg2 (tD G W fa) (tD G W fb)) σ H Q := by
  obtain ⟨O, ρ, rep, f⟩ := h
  refine ⟨O, ρ, rep, f.bind.imp fun d H1 s1 f1 v hv => ?_⟩
  refine ⟨O, ρ, rep.mono s1, f1.bind.imp fun e H2 s2 f2 u hu => ?_⟩
  have ok := (rep.mono (s1.trans s2)).ok
  have f3 := finV_of f2
  cases d with
  | int m =>
    cases e with
    | int n =>
      cases hv
      cases hu
      obtain ⟨c, f4⟩ := FinV.grd (show FinV G O H2 (guard' (rngOk m && (rngOk n && decide (n - m ≤ 16777216))) (.ok (.lst (rangeL m (n - m).toNat)))) Q from f3)
      rw [Bool.and_eq_true, Bool.and_eq_true, decide_eq_true_eq] at c
      unfold rngOk at c
      simp only [Bool.and_eq_true, decide_eq_true_eq] at c
      refine ⟨m, n, rfl, rfl, ⟨by omega, by omega, by omega, by omega, by omega⟩, fun p hp => f4.ok (stp_upd' hp) (dv_newL ok hp ?_)⟩
      exact rgV_dv m _
    | _ => exact f3.elim
  | _ => exact f3.elim
end
end FD
namespace FD
open PySem PySem.Spec PyProof.Rows L2
variable [Tbls]
/-- J gives the data ds one after another, whatever else the heap becomes, as long as F stands in it -/
def WalkD (G : Gt) (F : Hp) (J : It) (ds : List D) : Prop := ∃ (Gd : Hp → Prop) (Y : Nat → Hp → V → Hp → Prop), Walk J ds.length Gd Y ∧ (∀ H, Same F H → Gd H) ∧
  ∀ (i : Nat) (H : Hp) (O : List Addr) (x : V) (H' : Hp), i < ds.length → OkO O H → Same F (hid H O) → Y i H x H' → Stp H H' ∧ ∃ d, ds[i]? = some d ∧ Dv G (hid H' O) d x
def iD (G : Gt) (W : WX) (f : Env → R (List D)) : TI := fun σ H R => ∃ O ρ, Rep G O ρ σ H ∧ Fin G W (f ρ) σ H fun ds H' => ∀ J, WalkD G (hid H' O) J ds → R J H'
section
variable {G : Gt}
theorem walkD_list {K : PySem.W.Frag} {F : Hp} {a : Addr} {ds : List D} {vs : List V} (h : F a = some (.lst vs)) (hd : DvL G F ds vs) : WalkD G F (Itl K a) ds := by
  refine ⟨fun H => SqL K H a vs, YAt vs, ?_, fun H s => .inl (.inl (s.l h)), fun i H O x H' hi ok s y => ?_⟩
  · rw [dvL_len hd]
    exact walk_list
  · obtain ⟨rfl, hx⟩ := y
    refine ⟨Stp.refl _, ds[i], List.getElem?_eq_getElem hi, ?_⟩
    obtain ⟨v, g1, g2⟩ := dvL_get hd (List.getElem?_eq_getElem hi)
    rw [hx] at g1
    cases g1
    exact dv_mono s _ _ g2
theorem walkD_tup {K : PySem.W.Frag} (hK : G.K = K) {F : Hp} {a : Addr} {ds : List D} {vs : List V} (h : SqT G.K F a vs) (hd : DvL G F ds vs) : WalkD G F (Itt K a) ds := by
  subst hK
  refine ⟨fun H => SqT G.K H a vs, YAt vs, ?_, fun H s => sqT_mono s h, fun i H O x H' hi ok s y => ?_⟩
  · rw [dvL_len hd]
    exact walk_tup
  · obtain ⟨rfl, hx⟩ := y
    refine ⟨Stp.refl _, ds[i], List.getElem?_eq_getElem hi, ?_⟩
    obtain ⟨v, g1, g2⟩ := dvL_get hd (List.getElem?_eq_getElem hi)
    rw [hx] at g1
    cases g1
    exact dv_mono s _ _ g2
theorem rangeL_len (a : Int) : ∀ n : Nat, (rangeL a n).length = n
  | 0 => rfl
  | n + 1 => congrArg (· + 1) (rangeL_len (a + 1) n)
theorem rangeL_get (a : Int) : ∀ (n i : Nat), i < n → (rangeL a n)[i]? = some (.int (a + i))
  | 0, i, h => absurd h (Nat.not_lt_zero _)
  | n + 1, 0, _ => by
    show some (D.int a) = some (.int (a + ((0 : Nat) : Int)))
    congr 2
    omega
  | n + 1, i + 1, h => by
    show (rangeL (a + 1) n)[i]? = _
    rw [rangeL_get (a + 1) n i (by omega)]
    congr 2
    omega
theorem walkD_rng {F : Hp} (a : Int) (n : Nat) : WalkD G F (Itr a n) (rangeL a n) := by
  refine ⟨fun _ => True, YFn fun i => .int (a + i), ?_, fun _ _ => trivial, fun i H O x H' hi ok s y => ?_⟩
  · rw [rangeL_len]
    exact walk_range
  · obtain ⟨rfl, rfl⟩ := y
    rw [rangeL_len] at hi
    exact ⟨Stp.refl _, _, rangeL_get a n i hi, rfl⟩
theorem walkD_str {F : Hp} (z : Str) : WalkD G F (Its z) (z.cps.toList.map fun c => .str ⟨#[c]⟩) := by
  refine ⟨fun _ => True, (fun i H v H' => H' = H ∧ ∃ c, z.cps[i]? = some c ∧ v = .str ⟨#[c]⟩), ?_, fun _ _ => trivial, fun i H O x H' hi ok s y => ?_⟩
  · rw [List.length_map, Array.length_toList]
    exact walk_str
  · obtain ⟨rfl, c, hc, rfl⟩ := y
    refine ⟨Stp.refl _, .str ⟨#[c]⟩, ?_, rfl⟩
    rw [List.getElem?_map, Array.getElem?_toList, hc]
    rfl
theorem zipT2_len : ∀ (xs ys : List D), (zipT2 xs ys).length = min xs.length ys.length
  | [], _ => by simp [zipT2]
  | _ :: _, [] => by simp [zipT2]
  | x :: xs, y :: ys => by
    show (zipT2 xs ys).length + 1 = _
    rw [zipT2_len xs ys, List.length_cons, List.length_cons]
    omega
theorem zipT2_get : ∀ (xs ys : List D) (i : Nat) (x y : D), xs[i]? = some x → ys[i]? = some y → (zipT2 xs ys)[i]? = some (.tup [x, y])
  | [], _, _, _, _, h, _ => by simp at h
  | _ :: _, [], _, _, _, _, h => by simp at h
  | a :: xs, b :: ys, 0, x, y, h1, h2 => by
    simp at h1 h2
    subst h1 h2
    rfl
  | a :: xs, b :: ys, i + 1, x, y, h1, h2 => by
    show (zipT2 xs ys)[i]? = _
    exact zipT2_get xs ys i x y (by simpa using h1) (by simpa using h2)
/-- new pairs of what two rows give -/
theorem walkD_pair {F : Hp} {J : It} {n : Nat} {Gd : Hp → Prop} {f g : Nat → Option V} {ds : List D} (hn : n = ds.length) (w : Walk J n Gd (YPair f g)) (hG : ∀ H, Same F H → Gd H)
    (h : ∀ i x y, i < n → f i = some x → g i = some y → ∃ a b, ds[i]? = some (.tup [a, b]) ∧ Dv G F a x ∧ Dv G F b y) : WalkD G F J ds := by
  subst hn
  refine ⟨Gd, YPair f g, w, hG, fun i H O x H' hi ok s y => ?_⟩
  obtain ⟨T, p, q, rfl, hT, rfl, h1, h2⟩ := y
  obtain ⟨a, b, e, d1, d2⟩ := h i p q hi h1 h2
  refine ⟨stp_upd' hT, _, e, dv_newT ok hT ⟨p, [q], rfl, dv_mono s a p d1, q, [], rfl, dv_mono s b q d2, rfl⟩⟩
theorem walkD_zipL {K : PySem.W.Frag} {F : Hp} {a b : Addr} {ds es : List D} {vs us : List V} (ha : F a = some (.lst vs)) (hd : DvL G F ds vs) (hb : F b = some (.lst us)) (he : DvL G F es us) : WalkD G F (Itz K a b) (zipT2 ds es) := by
  refine walkD_pair (n := min vs.length us.length) (by rw [zipT2_len, dvL_len hd, dvL_len he]) (walk_zip rfl) (fun H s => ⟨.inl (.inl (s.l ha)), .inl (.inl (s.l hb))⟩) fun i x y hi h1 h2 => ?_
  have l1 := dvL_len hd
  have l2 := dvL_len he
  obtain ⟨v, g1, g2⟩ := dvL_get hd (List.getElem?_eq_getElem (show i < ds.length by omega))
  obtain ⟨u, k1, k2⟩ := dvL_get he (List.getElem?_eq_getElem (show i < es.length by omega))
  rw [h1] at g1
  rw [h2] at k1
  cases g1
  cases k1
  exact ⟨_, _, zipT2_get ds es i _ _ (List.getElem?_eq_getElem (show i < ds.length by omega)) (List.getElem?_eq_getElem (show i < es.length by omega)), g2, k2⟩
theorem walk_zipT {K : PySem.W.Frag} {a b : Addr} {xs ys : List V} : Walk (RZ.ItzT K a b) (min xs.length ys.length) (fun H => SqT K H a xs ∧ SqT K H b ys) (YPair (fun i => xs[i]?) (fun i => ys[i]?)) := by
  refine ⟨fun i _ hi q => ?_, fun _ q => ⟨xs, ys, q.1, q.2, by omega⟩, fun i H v H' _ q y => ?_⟩
  · have h1 : i < xs.length := by omega
    have h2 : i < ys.length := by omega
    exact ⟨xs, ys, xs[i], ys[i], q.1, q.2, by simp [h1], by simp [h2]⟩
  · obtain ⟨T, x, z, h1, h2, h3, h4, h5⟩ := y
    exact ⟨T, x, z, h1, h2, h3, h4 xs q.1, h5 ys q.2⟩
theorem walkD_zipT {K : PySem.W.Frag} (hK : G.K = K) {F : Hp} {a b : Addr} {ds es : List D} {vs us : List V} (ha : SqT G.K F a vs) (hd : DvL G F ds vs) (hb : SqT G.K F b us) (he : DvL G F es us) : WalkD G F (RZ.ItzT K a b) (zipT2 ds es) := by
  subst hK
  refine walkD_pair (n := min vs.length us.length) (by rw [zipT2_len, dvL_len hd, dvL_len he]) walk_zipT (fun H s => ⟨sqT_mono s ha, sqT_mono s hb⟩) fun i x y hi h1 h2 => ?_
  have l1 := dvL_len hd
  have l2 := dvL_len he
  obtain ⟨v, g1, g2⟩ := dvL_get hd (List.getElem?_eq_getElem (show i < ds.length by omega))
  obtain ⟨u, k1, k2⟩ := dvL_get he (List.getElem?_eq_getElem (show i < es.length by omega))
  rw [h1] at g1
  rw [h2] at k1
  cases g1
  cases k1
  exact ⟨_, _, zipT2_get ds es i _ _ (List.getElem?_eq_getElem (show i < ds.length by omega)) (List.getElem?_eq_getElem (show i < es.length by omega)), g2, k2⟩
theorem walk_zipM {K : PySem.W.Frag} {a b : Addr} {xs ys : List V} : Walk (ItzM K a b) (min xs.length ys.length) (fun H => SqT K H a xs ∧ SqL K H b ys) (YPair (fun i => xs[i]?) (fun i => ys[i]?)) := by
  refine ⟨fun i _ hi q => ?_, fun _ q => ⟨xs, ys, q.1, q.2, by omega⟩, fun i H v H' _ q y => ?_⟩
  · have h1 : i < xs.length := by omega
    have h2 : i < ys.length := by omega
    exact ⟨xs, ys, xs[i], ys[i], q.1, q.2, by simp [h1], by simp [h2]⟩
  · obtain ⟨T, x, z, h1, h2, h3, h4, h5⟩ := y
    exact ⟨T, x, z, h1, h2, h3, h4 xs q.1, h5 ys q.2⟩
theorem walkD_zipM {K : PySem.W.Frag} (hK : G.K = K) {F : Hp} {a b : Addr} {ds es : List D} {vs us : List V} (ha : SqT G.K F a vs) (hd : DvL G F ds vs) (hb : F b = some (.lst us)) (he : DvL G F es us) : WalkD G F (ItzM K a b) (zipT2 ds es) := by
  subst hK
  refine walkD_pair (n := min vs.length us.length) (by rw [zipT2_len, dvL_len hd, dvL_len he]) walk_zipM (fun H s => ⟨sqT_mono s ha, .inl (.inl (s.l hb))⟩) fun i x y hi h1 h2 => ?_
  have l1 := dvL_len hd
  have l2 := dvL_len he
  obtain ⟨v, g1, g2⟩ := dvL_get hd (List.getElem?_eq_getElem (show i < ds.length by omega))
  obtain ⟨u, k1, k2⟩ := dvL_get he (List.getElem?_eq_getElem (show i < es.length by omega))
  rw [h1] at g1
  rw [h2] at k1
  cases g1
  cases k1
  exact ⟨_, _, zipT2_get ds es i _ _ (List.getElem?_eq_getElem (show i < ds.length by omega)) (List.getElem?_eq_getElem (show i < es.length by omega)), g2, k2⟩
/-- new tuples of what three rows give -/
def YTrip (f g h : Nat → Option V) : Nat → Hp → V → Hp → Prop := fun i H v H' => ∃ T x y z, v = .ref T ∧ H T = none ∧ H' = upd H T (.tup [x, y, z]) ∧ f i = some x ∧ g i = some y ∧ h i = some z
theorem walkD_trip {F : Hp} {J : It} {n : Nat} {Gd : Hp → Prop} {f g h : Nat → Option V} {ds : List D} (hn : n = ds.length) (w : Walk J n Gd (YTrip f g h)) (hG : ∀ H, Same F H → Gd H)
    (hd : ∀ i x y z, i < n → f i = some x → g i = some y → h i = some z → ∃ a b c, ds[i]? = some (.tup [a, b, c]) ∧ Dv G F a x ∧ Dv G F b y ∧ Dv G F c z) : WalkD G F J ds := by
  subst hn
  refine ⟨Gd, YTrip f g h, w, hG, fun i H O x H' hi ok s y => ?_⟩
  obtain ⟨T, p, q, t, rfl, hT, rfl, h1, h2, h3⟩ := y
  obtain ⟨a, b, c, e, d1, d2, d3⟩ := hd i p q t hi h1 h2 h3
  refine ⟨stp_upd' hT, _, e, dv_newT ok hT ⟨p, [q, t], rfl, dv_mono s a p d1, q, [t], rfl, dv_mono s b q d2, t, [], rfl, dv_mono s c t d3, rfl⟩⟩
theorem zipT3_len : ∀ (xs ys zs : List D), (zipT3 xs ys zs).length = min xs.length (min ys.length zs.length)
  | [], _, _ => by simp [zipT3]
  | _ :: _, [], _ => by simp [zipT3]
  | _ :: _, _ :: _, [] => by simp [zipT3]
  | x :: xs, y :: ys, z :: zs => by
    show (zipT3 xs ys zs).length + 1 = _
    rw [zipT3_len xs ys zs, List.length_cons, List.length_cons, List.length_cons]
    omega
theorem zipT3_get : ∀ (xs ys zs : List D) (i : Nat) (x y z : D), xs[i]? = some x → ys[i]? = some y → zs[i]? = some z → (zipT3 xs ys zs)[i]? = some (.tup [x, y, z])
  | [], _, _, _, _, _, _, h, _, _ => by simp at h
  | _ :: _, [], _, _, _, _, _, _, h, _ => by simp at h
  | _ :: _, _ :: _, [], _, _, _, _, _, _, h => by simp at h
  | a :: xs, b :: ys, c :: zs, 0, x, y, z, h1, h2, h3 => by
    simp at h1 h2 h3
    subst h1 h2 h3
    rfl
  | a :: xs, b :: ys, c :: zs, i + 1, x, y, z, h1, h2, h3 => by
    show (zipT3 xs ys zs)[i]? = _
    exact zipT3_get xs ys zs i x y z (by simpa using h1) (by simpa using h2) (by simpa using h3)
theorem walk_zip3 {b1 b2 b3 : Bool} {K : PySem.W.Frag} {a b c : Addr} {xs ys zs : List V} : Walk (It3 b1 b2 b3 K a b c) (min xs.length (min ys.length zs.length)) (fun H => SqB b1 K H a xs ∧ SqB b2 K H b ys ∧ SqB b3 K H c zs) (YTrip (fun i => xs[i]?) (fun i => ys[i]?) (fun i => zs[i]?)) := by
  refine ⟨fun i _ hi q => ?_, fun _ q => ⟨xs, ys, zs, q.1, q.2.1, q.2.2, by omega, by omega⟩, fun i H v H' _ q y => ?_⟩
  · have h1 : i < xs.length := by omega
    have h2 : i < ys.length := by omega
    have h3 : i < zs.length := by omega
    exact ⟨xs, ys, zs, xs[i], ys[i], zs[i], q.1, q.2.1, q.2.2, by simp [h1], by simp [h2], by simp [h3]⟩
  · obtain ⟨T, x, z, t, h1, h2, h3, h4, h5, h6⟩ := y
    exact ⟨T, x, z, t, h1, h2, h3, h4 xs q.1, h5 ys q.2.1, h6 zs q.2.2⟩
theorem walkD_zip3 {b1 b2 b3 : Bool} {K : PySem.W.Frag} {F : Hp} {a b c : Addr} {ds es fs : List D} {vs us ts : List V} (ha : ∀ H, Same F H → SqB b1 K H a vs) (hd : DvL G F ds vs) (hb : ∀ H, Same F H → SqB b2 K H b us) (he : DvL G F es us) (hc : ∀ H, Same F H → SqB b3 K H c ts) (hf : DvL G F fs ts) : WalkD G F (It3 b1 b2 b3 K a b c) (zipT3 ds es fs) := by
  refine walkD_trip (n := min vs.length (min us.length ts.length)) (by rw [zipT3_len, dvL_len hd, dvL_len he, dvL_len hf]) walk_zip3 (fun H s => ⟨ha H s, hb H s, hc H s⟩) fun i x y z hi h1 h2 h3 => ?_
  have l1 := dvL_len hd
  have l2 := dvL_len he
  have l3 := dvL_len hf
  obtain ⟨v, g1, g2⟩ := dvL_get hd (List.getElem?_eq_getElem (show i < ds.length by omega))
  obtain ⟨u, k1, k2⟩ := dvL_get he (List.getElem?_eq_getElem (show i < es.length by omega))
  obtain ⟨t, m1, m2⟩ := dvL_get hf (List.getElem?_eq_getElem (show i < fs.length by omega))
  rw [h1] at g1
  rw [h2] at k1
  rw [h3] at m1
  cases g1
  cases k1
  cases m1
  exact ⟨_, _, _, zipT3_get ds es fs i _ _ _ (List.getElem?_eq_getElem (show i < ds.length by omega)) (List.getElem?_eq_getElem (show i < es.length by omega)) (List.getElem?_eq_getElem (show i < fs.length by omega)), g2, k2, m2⟩
theorem enumT_len : ∀ (k : Int) (xs : List D), (enumT k xs).length = xs.length
  | _, [] => rfl
  | k, x :: r => congrArg (· + 1) (enumT_len (k + 1) r)
theorem enumT_get : ∀ (k : Int) (xs : List D) (i : Nat) (x : D), xs[i]? = some x → (enumT k xs)[i]? = some (.tup [.int (k + i), x])
  | _, [], _, _, h => by simp at h
  | k, y :: r, 0, x, h => by
    simp at h
    subst h
    show some (D.tup [.int k, y]) = some (.tup [.int (k + ((0 : Nat) : Int)), y])
    rw [show k + ((0 : Nat) : Int) = k by omega]
  | k, y :: r, i + 1, x, h => by
    show (enumT (k + 1) r)[i]? = _
    rw [enumT_get (k + 1) r i x (by simpa using h)]
    rw [show k + 1 + (i : Int) = k + ((i + 1 : Nat) : Int) by omega]
theorem walkD_enum {K : PySem.W.Frag} {F : Hp} {a : Addr} {ds : List D} {vs : List V} (ha : F a = some (.lst vs)) (hd : DvL G F ds vs) : WalkD G F (Ite K a) (enumT 0 ds) := by
  refine walkD_pair (n := vs.length) (by rw [enumT_len, dvL_len hd]) walk_enum (fun H s => .inl (.inl (s.l ha))) fun i x y hi h1 h2 => ?_
  have l1 := dvL_len hd
  obtain ⟨v, g1, g2⟩ := dvL_get hd (List.getElem?_eq_getElem (show i < ds.length by omega))
  rw [h2] at g1
  cases g1
  refine ⟨_, _, enumT_get 0 ds i _ (List.getElem?_eq_getElem (show i < ds.length by omega)), ?_, g2⟩
  cases h1
  show V.int (i : Nat) = V.int (0 + (i : Nat))
  rw [Int.zero_add]
end
section
variable {X : Cx} {G : Gt} {W : WX} {tg : Expr}
theorem pi_imp {iter : Expr} {w w' : TI} (h : PI X tg iter w) (i : ∀ σ H R, w' σ H R → w σ H R) : PI X tg iter w' := ⟨fun pins s σ H R I q => h.run pins s σ H R I (i σ H R q)⟩
theorem pd_seq (hK : G.K = X.K) {e : Expr} {f : Env → R D} (he : PE X e (tD G W f)) : PI X tg e (iD G W fun ρ => (f ρ).bind seqD) := by
  refine ⟨fun pins s σ H R I h => ?_⟩
  obtain ⟨O, ρ, rep, q⟩ := h
  dsimp only at q
  cases hf : f ρ with
  | bad => rw [hf] at q; exact q.elim
  | exc c =>
    rw [hf] at q
    exact (pi_list he).run pins s σ H R I ⟨O, ρ, rep, by rw [hf]; exact q⟩
  | ok d =>
    rw [hf] at q
    cases d with
    | lst ds =>
      refine (pi_list he).run pins s σ H R I ⟨O, ρ, rep, ?_⟩
      rw [hf]
      intro H' sm v hv
      obtain ⟨a, vs, rfl, h1, h2⟩ := hv
      exact ⟨a, rfl, ⟨vs, .inl (.inl (hid_full _ _ h1))⟩, q H' sm _ (walkD_list h1 h2)⟩
    | tup ds =>
      refine (pi_tup he).run pins s σ H R I ⟨O, ρ, rep, ?_⟩
      rw [hf]
      intro H' sm v hv
      obtain ⟨a, vs, rfl, h1, h2⟩ := hv
      have h1' := h1
      rw [hK] at h1'
      exact ⟨a, rfl, ⟨vs, sqT_mono hid_same h1'⟩, q H' sm _ (walkD_tup hK h1 h2)⟩
    | str z =>
      refine (pi_str he).run pins s σ H R I ⟨O, ρ, rep, ?_⟩
      rw [hf]
      intro H' sm v hv
      cases hv
      exact ⟨z, rfl, q H' sm _ (walkD_str z)⟩
    | _ => exact q.elim
theorem rng_ok {i : Int} (h : rngOk i = true) : -(2 ^ 62) ≤ i ∧ i < 2 ^ 62 := by
  unfold rngOk at h
  simp only [Bool.and_eq_true, decide_eq_true_eq] at h
  exact ⟨by omega, by omega⟩
theorem pd_rng1 {e : Expr} {f : Env → R D} {p pos : Pos} (hg : Gl X "range") (hm : X.mg "range" = none) (he : PE X e (tD G W f)) (hs : starEach [e] X.env = [(false, eval e X.env)]) : PI X tg (.Call (.Name "range" p) [e] [] pos) (iD G W fun ρ => (f ρ).bind rng1D) := by
  refine pi_imp (pi_range1 hg hm (pa_cons he pa_nil hs) hs) fun σ H R h => ?_
  obtain ⟨O, ρ, rep, q⟩ := h
  refine ⟨O, ρ, rep, q.bind.imp fun d H1 s1 f1 v hv => ?_⟩
  cases d with
  | int n =>
    cases hv
    have f2 : Fin G W (guard' (rngOk n) (.ok (rangeL 0 n.toNat))) σ H1 fun ds H' => ∀ J, WalkD G (hid H' O) J ds → R J H' := f1
    cases c : rngOk n with
    | false => rw [c] at f2; exact f2.elim
    | true =>
      rw [c] at f2
      obtain ⟨c1, c2⟩ := rng_ok c
      exact ⟨n, rfl, c1, c2, f2.at_ _ (walkD_rng 0 n.toNat)⟩
  | _ => exact f1.elim
theorem pd_rng2 {a b : Expr} {f g : Env → R D} {p pos : Pos} (hg : Gl X "range") (hm : X.mg "range" = none) (ha : PE X a (tD G W f)) (hb : PE X b (tD G W g)) (hs : starEach [a, b] X.env = [(false, eval a X.env), (false, eval b X.env)])
    (hs2 : starEach [b] X.env = [(false, eval b X.env)]) : PI X tg (.Call (.Name "range" p) [a, b] [] pos) (iD G W fun ρ => (f ρ).bind fun x => (g ρ).bind fun y => rng2D x y) := by
  refine pi_imp (pi_range2 hg hm (pa_cons ha (pa_cons hb pa_nil hs2) (by rw [hs, hs2])) hs hs2) fun σ H R h => ?_
  obtain ⟨O, ρ, rep, q⟩ := h
  refine ⟨O, ρ, rep, q.bind.imp fun d H1 s1 f1 v hv => ?_⟩
  refine ⟨O, ρ, rep.mono s1, f1.bind.imp fun e H2 s2 f2 u hu => ?_⟩
  cases d with
  | int m =>
    cases e with
    | int n =>
      cases hv
      cases hu
      have f3 : Fin G W (guard' (rngOk m && rngOk n) (.ok (rangeL m (n - m).toNat))) σ H2 fun ds H' => ∀ J, WalkD G (hid H' O) J ds → R J H' := f2
      cases c : rngOk m && rngOk n with
      | false => rw [c] at f3; exact f3.elim
      | true =>
        rw [c] at f3
        rw [Bool.and_eq_true] at c
        obtain ⟨c1, c2⟩ := rng_ok c.1
        obtain ⟨c3, c4⟩ := rng_ok c.2
        exact ⟨m, n, rfl, ⟨c1, c2, c3, c4⟩, f3.at_ _ (walkD_rng m (n - m).toNat)⟩
    | _ => exact f2.elim
  | _ => exact f2.elim
theorem pd_zip2 (hK : G.K = X.K) {a b : Expr} {f g : Env → R D} {p pos tpos : Pos} {elts : List Expr} {kk : Nat} (hg : Gl X "zip") (hm : X.mg "zip" = none) (ha : PE X a (tD G W f)) (hb : PE X b (tD G W g)) (hs : starEach [a, b] X.env = (false, eval a X.env) :: starEach [b] X.env)
    (hs2 : starEach [b] X.env = [(false, eval b X.env)]) (hpl : (backTo pos (starEach [b] X.env)).any (·.1) = false) :
    PI X (.Tuple elts kk tpos) (.Call (.Name "zip" p) [a, b] [] pos) (iD G W fun ρ => (f ρ).bind fun x => (g ρ).bind fun y => zip2D x y) := by
  refine pi_imp (pi_zipM hg hm (pa_cons ha (pa_cons hb pa_nil hs2) hs) hs hpl) fun σ H R h => ?_
  obtain ⟨O, ρ, rep, q⟩ := h
  refine ⟨O, ρ, rep, q.bind.imp fun d H1 s1 f1 v hv => ?_⟩
  refine ⟨O, ρ, rep.mono s1, f1.bind.imp fun e H2 s2 f2 u hu => ?_⟩
  have hv2 := dv_mono (hid_mono s2.ext) d v hv
  cases d with
  | lst ds =>
    cases e with
    | lst es =>
      obtain ⟨p1, vs, rfl, h1, h2⟩ := hv2
      obtain ⟨p2, us, rfl, h3, h4⟩ := hu
      exact ⟨p1, p2, vs, us, rfl, .inl ⟨.inl (.inl (hid_full _ _ h1)), .inl (.inl (hid_full _ _ h3)), f2.at_ _ (walkD_zipL h1 h2 h3 h4)⟩⟩
    | _ => exact f2.elim
  | tup ds =>
    cases e with
    | tup es =>
      obtain ⟨p1, vs, rfl, h1, h2⟩ := hv2
      obtain ⟨p2, us, rfl, h3, h4⟩ := hu
      have h1' := h1
      have h3' := h3
      rw [hK] at h1' h3'
      exact ⟨p1, p2, vs, us, rfl, .inr (.inl ⟨sqT_mono hid_same h1', sqT_mono hid_same h3', f2.at_ _ (walkD_zipT hK h1 h2 h3 h4)⟩)⟩
    | lst es =>
      obtain ⟨p1, vs, rfl, h1, h2⟩ := hv2
      obtain ⟨p2, us, rfl, h3, h4⟩ := hu
      have h1' := h1
      rw [hK] at h1'
      exact ⟨p1, p2, vs, us, rfl, .inr (.inr ⟨sqT_mono hid_same h1', .inl (.inl (hid_full _ _ h3)), f2.at_ _ (walkD_zipM hK h1 h2 h3 h4)⟩)⟩
    | _ => exact f2.elim
  | _ => exact f2.elim
theorem pd_zip3 (hK : G.K = X.K) {a b c : Expr} {f g h : Env → R D} {p pos tpos : Pos} {elts : List Expr} {kk : Nat} (hg : Gl X "zip") (hm : X.mg "zip" = none) (ha : PE X a (tD G W f)) (hb : PE X b (tD G W g)) (hc : PE X c (tD G W h)) (hs : starEach [a, b, c] X.env = (false, eval a X.env) :: starEach [b, c] X.env)
    (hs2 : starEach [b, c] X.env = (false, eval b X.env) :: starEach [c] X.env) (hs3 : starEach [c] X.env = [(false, eval c X.env)]) (hpl : (backTo pos (starEach [b, c] X.env)).any (·.1) = false) :
    PI X (.Tuple elts kk tpos) (.Call (.Name "zip" p) [a, b, c] [] pos) (iD G W fun ρ => (f ρ).bind fun x => (g ρ).bind fun y => (h ρ).bind fun z => zip3D x y z) := by
  refine pi_imp (pi_zip3 hg hm (pa_cons ha (pa_cons hb (pa_cons hc pa_nil hs3) hs2) hs) hs hpl) fun σ H R h => ?_
  obtain ⟨O, ρ, rep, q⟩ := h
  refine ⟨O, ρ, rep, q.bind.imp fun d H1 s1 f1 v hv => ?_⟩
  refine ⟨O, ρ, rep.mono s1, f1.bind.imp fun e H2 s2 f2 u hu => ?_⟩
  refine ⟨O, ρ, (rep.mono s1).mono s2, f2.bind.imp fun t H3 s3 f3 w hw => ?_⟩
  have hv2 := dv_mono (hid_mono s3.ext) d v (dv_mono (hid_mono s2.ext) d v hv)
  have hu2 := dv_mono (hid_mono s3.ext) e u hu
  cases e with
  | tup es =>
    cases t with
    | tup ts =>
      obtain ⟨p2, us, rfl, h3, h4⟩ := hu2
      obtain ⟨p3, ws, rfl, h5, h6⟩ := hw
      have h3' := h3
      have h5' := h5
      rw [hK] at h3' h5'
      cases d with
      | lst ds =>
        obtain ⟨p1, vs, rfl, h1, h2⟩ := hv2
        exact ⟨true, false, false, p1, p2, p3, vs, us, ws, rfl, .inl (.inl (hid_full _ _ h1)), sqT_mono hid_same h3', sqT_mono hid_same h5', f3.at_ _ (walkD_zip3 (fun H s => .inl (.inl (s.l h1))) h2 (fun H s => sqT_mono s h3') h4 (fun H s => sqT_mono s h5') h6)⟩
      | tup ds =>
        obtain ⟨p1, vs, rfl, h1, h2⟩ := hv2
        have h1' := h1
        rw [hK] at h1'
        exact ⟨false, false, false, p1, p2, p3, vs, us, ws, rfl, sqT_mono hid_same h1', sqT_mono hid_same h3', sqT_mono hid_same h5', f3.at_ _ (walkD_zip3 (fun H s => sqT_mono s h1') h2 (fun H s => sqT_mono s h3') h4 (fun H s => sqT_mono s h5') h6)⟩
      | _ => exact f3.elim
    | _ => cases d <;> exact f3.elim
  | _ => cases d <;> exact f3.elim
theorem pd_enum {e : Expr} {f : Env → R D} {p pos tpos : Pos} {elts : List Expr} {kk : Nat} (hg : Gl X "enumerate") (hm : X.mg "enumerate" = none) (he : PE X e (tD G W f)) (hs : starEach [e] X.env = [(false, eval e X.env)]) :
    PI X (.Tuple elts kk tpos) (.Call (.Name "enumerate" p) [e] [] pos) (iD G W fun ρ => (f ρ).bind enumD) := by
  refine pi_imp (pi_enum hg hm (pa_cons he pa_nil hs) hs) fun σ H R h => ?_
  obtain ⟨O, ρ, rep, q⟩ := h
  refine ⟨O, ρ, rep, q.bind.imp fun d H1 s1 f1 v hv => ?_⟩
  cases d with
  | lst ds =>
    obtain ⟨p1, vs, rfl, h1, h2⟩ := hv
    exact ⟨p1, vs, rfl, .inl (.inl (hid_full _ _ h1)), f1.at_ _ (walkD_enum h1 h2)⟩
  | _ => exact f1.elim
end
end FD
namespace FD
open PySem PySem.Spec PyProof.Rows L2
variable [Tbls]
/-- a tuple or a list of that length -/
def gEi (K : PySem.W.Frag) (n : Nat) (t : TGs) : TG := fun v σ H Q => gTup K n t v σ H Q ∨ gLst K n t v σ H Q
theorem pg_ei {X : Cx} {pos : Pos} {es : List Expr} {k : Nat} {t : TGs} {n : Nat} (hc : X.calm = true) (h : PGs X es t) (hn : (assignEach es X.env).length = n) (hst : (assignEach es X.env).findIdx? (·.1) = none) : PG X (.Tuple es k pos) (gEi X.K n t) := by
  refine ⟨fun pins s σ H v u Q I r hw => ?_⟩
  rcases hw with hw | hw
  · exact (pg_tup hc h hn hst).run pins s σ H v u Q I r hw
  · exact (pg_lst hc h hn hst).run pins s σ H v u Q I r hw
mutual
def gPat (K : PySem.W.Frag) : Pat → TG
  | .nm i => gName i
  | .tp ps => gEi K ps.length (gPats K ps)
def gPats (K : PySem.W.Frag) : List Pat → TGs
  | [] => gNil
  | p :: r => gCons (gPat K p) (gPats K r)
end
section
variable {G : Gt} {O O' : List Addr} {ρ ρ' : Env} {σ : L2.St} {H H' : Hp}
theorem Rep.set (r : Rep G O ρ σ H) {d : D} {v : V} (h : Dv G (hid H O) d v) (i : Nat) : Rep G O (ρ.set i (.pv d)) (σ.set i (some v)) H := by
  refine ⟨by rw [List.length_set, List.length_set]; exact r.len, fun j s x h1 h2 => ?_, r.ok⟩
  by_cases e : i = j
  · subst e
    by_cases hl : i < ρ.length
    · rw [List.getElem?_set_self hl] at h1
      rw [List.getElem?_set_self (by rw [r.len]; exact hl)] at h2
      cases h1
      cases h2
      exact ⟨v, rfl, h⟩
    · rw [List.getElem?_eq_none (by rw [List.length_set]; omega)] at h1
      cases h1
  · rw [List.getElem?_set_ne e] at h1 h2
    exact r.at_ j s x h1 h2
theorem Rep.un (r : Rep G O ρ σ H) (i : Nat) (y : Option V) : Rep G O (ρ.set i .un) (σ.set i y) H := by
  refine ⟨by rw [List.length_set, List.length_set]; exact r.len, fun j s x h1 h2 => ?_, r.ok⟩
  by_cases e : i = j
  · subst e
    by_cases hl : i < ρ.length
    · rw [List.getElem?_set_self hl] at h1
      cases h1
      exact True.intro
    · rw [List.getElem?_eq_none (by rw [List.length_set]; omega)] at h1
      cases h1
  · rw [List.getElem?_set_ne e] at h1 h2
    exact r.at_ j s x h1 h2
theorem Rep.wipe (r : Rep G O ρ σ H) : ∀ l : List Nat, Rep G O (wipeV ρ l) (L2.wipe σ l) H
  | [] => r
  | i :: l => (Rep.wipe r l).un i none
/-- into a heap in which the same stands -/
theorem Rep.move (r : Rep G O ρ σ H) (s : Same (hid H O) (hid H' O')) (h : ∀ p ∈ O, p ∈ O' ∧ ∀ vs, H p = some (.lst vs) → H' p = some (.lst vs)) (ok : OkO O' H') : Rep G O' ρ σ H' := by
  refine ⟨r.len, fun i sv x h1 h2 => ?_, ok⟩
  have := r.at_ i sv x h1 h2
  cases sv with
  | un => exact True.intro
  | pv d =>
    obtain ⟨v, e, dv⟩ := this
    exact ⟨v, e, dv_mono s d v dv⟩
  | ow ds =>
    obtain ⟨p, vs, e, hp, hv, dv⟩ := this
    exact ⟨p, vs, e, (h p hp).1, (h p hp).2 vs hv, dvL_mono s ds vs dv⟩
  | ow2 dss =>
    obtain ⟨p, ps, e, hp, hv, dv⟩ := this
    exact ⟨p, ps, e, (h p hp).1, (h p hp).2 _ hv, dv.move s fun q _ hq => h q hq⟩
theorem wipe_set {i : Nat} {x : Option V} : ∀ {l : List Nat}, i ∈ l → L2.wipe (σ.set i x) l = L2.wipe σ l
  | [], h => by cases h
  | j :: l, h => by
    show (L2.wipe (σ.set i x) l).set j none = (L2.wipe σ l).set j none
    by_cases e : i = j
    · subst e
      have key : ∀ (l : List Nat) (σ : L2.St), (L2.wipe (σ.set i x) l).set i none = (L2.wipe σ l).set i none := by
        intro l
        induction l with
        | nil => intro σ; show (σ.set i x).set i none = σ.set i none; rw [List.set_set]
        | cons k l ih =>
          intro σ
          show ((L2.wipe (σ.set i x) l).set k none).set i none = ((L2.wipe σ l).set k none).set i none
          by_cases hk : k = i
          · subst hk
            rw [List.set_set, List.set_set, ih σ]
          · rw [List.set_comm _ _ hk, List.set_comm _ _ hk, ih σ]
      exact key l σ
    · rcases List.mem_cons.mp h with q | q
      · exact absurd q e
      · rw [wipe_set q]
mutual
theorem gPat_run {K : PySem.W.Frag} (hK : G.K = K) : ∀ (p : Pat) (d : D) (v : V) (ρ ρ' : Env) (σ : L2.St) (Q : L2.St → Hp → Prop), Rep G O ρ σ H → Dv G (hid H O) d v → putP p d ρ = .ok ρ' →
    (∀ σ', Rep G O ρ' σ' H → (∀ l : List Nat, (∀ i ∈ slotsP p, i ∈ l) → L2.wipe σ' l = L2.wipe σ l) → Q σ' H) → gPat K p v σ H Q
  | .nm i, d, v, ρ, ρ', σ, Q, r, dv, e, q => by
    have e' : (R.ok (ρ.set i (.pv d)) : R Env) = .ok ρ' := e
    cases e'
    exact q _ (r.set dv i) fun l hl => wipe_set (hl i (by show i ∈ [i]; simp))
  | .tp ps, d, v, ρ, ρ', σ, Q, r, dv, e, q => by
    cases d with
    | tup ds =>
      obtain ⟨a, vs, rfl, h1, h2⟩ := dv
      have e' : putPs ps ds ρ = .ok ρ' := e
      rw [hK] at h1
      refine .inl ⟨a, vs, rfl, sqT_mono hid_same h1, ?_, gPats_run hK ps ds vs ρ ρ' σ Q r h2 e' q⟩
      rw [← dvL_len h2]
      exact (putPs_len ps ds ρ ρ' e').symm
    | lst ds =>
      obtain ⟨a, vs, rfl, h1, h2⟩ := dv
      have e' : putPs ps ds ρ = .ok ρ' := e
      refine .inr ⟨a, vs, rfl, .inl (.inl (hid_full _ _ h1)), ?_, gPats_run hK ps ds vs ρ ρ' σ Q r h2 e' q⟩
      rw [← dvL_len h2]
      exact (putPs_len ps ds ρ ρ' e').symm
    | _ => cases e
theorem gPats_run {K : PySem.W.Frag} (hK : G.K = K) : ∀ (ps : List Pat) (ds : List D) (vs : List V) (ρ ρ' : Env) (σ : L2.St) (Q : L2.St → Hp → Prop), Rep G O ρ σ H → DvL G (hid H O) ds vs → putPs ps ds ρ = .ok ρ' →
    (∀ σ', Rep G O ρ' σ' H → (∀ l : List Nat, (∀ i ∈ slotsPs ps, i ∈ l) → L2.wipe σ' l = L2.wipe σ l) → Q σ' H) → gPats K ps vs σ H Q
  | [], ds, vs, ρ, ρ', σ, Q, r, dv, e, q => by
    cases ds with
    | nil =>
      cases dv
      cases e
      exact ⟨rfl, q _ r fun l _ => rfl⟩
    | cons _ _ => cases e
  | p :: ps, ds, vs, ρ, ρ', σ, Q, r, dv, e, q => by
    cases ds with
    | nil => cases e
    | cons d ds =>
      obtain ⟨v, t, rfl, h1, h2⟩ := dv
      have e' : (putP p d ρ).bind (fun ρ' => putPs ps ds ρ') = .ok ρ' := e
      cases e1 : putP p d ρ with
      | exc c => rw [e1] at e'; cases e'
      | bad => rw [e1] at e'; cases e'
      | ok ρ1 =>
        rw [e1] at e'
        refine ⟨v, t, rfl, gPat_run hK p d v ρ ρ1 σ _ r h1 e1 fun σ1 r1 w1 => ?_⟩
        exact gPats_run hK ps ds t ρ1 ρ' σ1 Q r1 h2 e' fun σ2 r2 w2 => q σ2 r2 fun l hl => by
          rw [w2 l fun i hi => hl i (by show i ∈ slotsP p ++ slotsPs ps; simp [hi]), w1 l fun i hi => hl i (by show i ∈ slotsP p ++ slotsPs ps; simp [hi])]
theorem putPs_len : ∀ (ps : List Pat) (ds : List D) (ρ ρ' : Env), putPs ps ds ρ = .ok ρ' → ps.length = ds.length
  | [], ds, ρ, ρ', e => by
    cases ds with
    | nil => rfl
    | cons _ _ => cases e
  | p :: ps, ds, ρ, ρ', e => by
    cases ds with
    | nil => cases e
    | cons d ds =>
      have e' : (putP p d ρ).bind (fun ρ' => putPs ps ds ρ') = .ok ρ' := e
      cases e1 : putP p d ρ with
      | exc c => rw [e1] at e'; cases e'
      | bad => rw [e1] at e'; cases e'
      | ok ρ1 =>
        rw [e1] at e'
        exact congrArg (· + 1) (putPs_len ps ds ρ1 ρ' e')
end
end
section
variable {G : Gt} {W : WX} {σ : L2.St} {H : Hp}
abbrev W0 : WX := fun _ _ _ _ => False
theorem hid_cons {H H' : Hp} {O : List Addr} {p : Addr} (hp : H p = none) (s : Same H H') : Same (hid H O) (hid H' (p :: O)) := fun b o h n => by
  have hb : H b = some o := hid_full _ _ h
  have hn : b ∉ O := fun q => by
    unfold hid at h
    rw [if_pos q] at h
    cases h
  rw [hid_at (by simp only [List.mem_cons, not_or]; exact ⟨ne_of_none hb hp, hn⟩)]
  exact s _ _ hb n
/-- the list that is made is a new one -/
theorem i_lcG {K : PySem.W.Frag} (hK : G.K = K) {fi : Env → R (List D)} {ft : Env → R Bool} {fe : Env → R D} {p : Pat} {Q : VK} {O : List Addr} {ρ : Env} (rep : Rep G O ρ σ H)
    (h : Fin G W (fi ρ) σ H fun xs H1 => ∃ ys, lcGo ft fe p (wipeV ρ (slotsP p)) xs = .ok ys ∧ ys.length ≤ lim ∧ ∀ (D0 : Addr) (H2 : Hp) (vs : List V), H1 D0 = none → Stp H1 H2 → H2 D0 = some (.lst vs) → DvL G (hid H2 (D0 :: O)) ys vs → Q (.ref D0) H2) :
    tLc (iD G W fi) (gPat K p) (tDT G W0 ft) (tD G W0 fe) (slotsP p) σ H Q := by
  refine ⟨O, ρ, rep, h.imp fun xs H1 s1 ⟨ys, e, hlen, fin⟩ J hJ D0 hD => ?_⟩
  obtain ⟨Gd, Y, wk, hG, hY⟩ := hJ
  have rep1 := rep.mono s1
  have okD : ∀ H2 : Hp, Stp H1 H2 → (∃ vs, H2 D0 = some (.lst vs)) → OkO (D0 :: O) H2 := fun H2 s ⟨vs, hv⟩ => (rep1.ok.mono s).cons hv Lk.l
  refine lc_it wk (fun i H2 => Stp H1 H2 ∧ ∃ (acc rest : List D) (vs : List V), lcGo ft fe p (wipeV ρ (slotsP p)) (xs.drop i) = .ok rest ∧ ys = acc ++ rest ∧ H2 D0 = some (.lst vs) ∧ DvL G (hid H2 (D0 :: O)) acc vs)
    ⟨stp_upd' hD, [], ys, [], by rw [List.drop_zero]; exact e, rfl, upd_same, rfl⟩ (fun i H2 hi ⟨sm, _⟩ => hG H2 (hid_same.trans sm.ext)) ?_ ?_
  · rintro i x H2 H3 hi ⟨sm, acc, rest, vs, hr, hys, hv, dvs⟩ hy
    have fs : Same (hid H1 O) (hid H2 (D0 :: O)) := hid_cons hD sm.ext
    obtain ⟨s23, d, hd, dx⟩ := hY i H2 (D0 :: O) x H3 hi (okD H2 sm ⟨vs, hv⟩) fs hy
    have ed : xs.drop i = d :: xs.drop (i + 1) := by
      rw [List.drop_eq_getElem_cons hi]
      congr 1
      rw [List.getElem?_eq_getElem hi] at hd
      exact Option.some.inj hd
    rw [ed] at hr
    have s13 : Stp H1 H3 := sm.trans s23
    have hv3 : H3 D0 = some (.lst vs) := s23.ext.l hv
    have r3 : Rep G (D0 :: O) (wipeV ρ (slotsP p)) (L2.wipe σ (slotsP p)) H3 := (rep1.move (hid_cons hD s13.ext) (fun q hq => ⟨List.mem_cons_of_mem _ hq, fun vs hvs => s13.ext.l hvs⟩) (okD H3 s13 ⟨vs, hv3⟩)).wipe _
    have hr' : (putP p d (wipeV ρ (slotsP p))).bind (fun ρ' => (ft ρ').bind fun b => match b with
      | true => (fe ρ').bind fun y => (lcGo ft fe p (wipeV ρ (slotsP p)) (xs.drop (i + 1))).bind fun ys => .ok (y :: ys)
      | false => lcGo ft fe p (wipeV ρ (slotsP p)) (xs.drop (i + 1))) = .ok rest := hr
    cases e1 : putP p d (wipeV ρ (slotsP p)) with
    | exc c => rw [e1] at hr'; cases hr'
    | bad => rw [e1] at hr'; cases hr'
    | ok ρ1 =>
      rw [e1] at hr'
      refine gPat_run hK p d x _ ρ1 _ _ r3 dx e1 fun σ1 r1 w1 => ?_
      refine ⟨by
        rw [w1 _ fun _ h => h]
        have idem : ∀ (l m : List Nat), (∀ i ∈ l, i ∈ m) → ∀ σ : L2.St, L2.wipe (L2.wipe σ l) m = L2.wipe σ m := by
          intro l
          induction l with
          | nil => intro m _ σ; rfl
          | cons a l ih =>
            intro m hm σ
            show L2.wipe ((L2.wipe σ l).set a none) m = _
            rw [wipe_set (hm a List.mem_cons_self), ih m (fun i hi => hm i (List.mem_cons_of_mem _ hi))]
        exact idem _ _ (fun _ h => h) σ, ?_⟩
      have hr2 : (ft ρ1).bind (fun b => match b with
        | true => (fe ρ1).bind fun y => (lcGo ft fe p (wipeV ρ (slotsP p)) (xs.drop (i + 1))).bind fun ys => .ok (y :: ys)
        | false => lcGo ft fe p (wipeV ρ (slotsP p)) (xs.drop (i + 1))) = .ok rest := hr'
      refine ⟨D0 :: O, ρ1, r1, ?_⟩
      cases e2 : ft ρ1 with
      | exc c => rw [e2] at hr2; cases hr2
      | bad => rw [e2] at hr2; cases hr2
      | ok b =>
        rw [e2] at hr2
        intro H4 s34
        cases b with
        | false =>
          rw [if_neg Bool.false_ne_true]
          exact ⟨s13.trans s34, acc, rest, vs, hr2, hys, s34.ext.l hv3, dvL_mono (hid_mono (s23.trans s34).ext) acc vs dvs⟩
        | true =>
          rw [if_pos rfl]
          have hr3 : (fe ρ1).bind (fun y => (lcGo ft fe p (wipeV ρ (slotsP p)) (xs.drop (i + 1))).bind fun ys => .ok (y :: ys)) = .ok rest := hr2
          refine ⟨D0 :: O, ρ1, r1.mono s34, ?_⟩
          cases e3 : fe ρ1 with
          | exc c => rw [e3] at hr3; cases hr3
          | bad => rw [e3] at hr3; cases hr3
          | ok y =>
            rw [e3] at hr3
            have hr4 : (lcGo ft fe p (wipeV ρ (slotsP p)) (xs.drop (i + 1))).bind (fun ys => R.ok (y :: ys)) = .ok rest := hr3
            intro H5 s45 v hvv
            cases e4 : lcGo ft fe p (wipeV ρ (slotsP p)) (xs.drop (i + 1)) with
            | exc c => rw [e4] at hr4; cases hr4
            | bad => rw [e4] at hr4; cases hr4
            | ok rest2 =>
              rw [e4] at hr4
              cases hr4
              have hv5 : H5 D0 = some (.lst vs) := s45.ext.l (s34.ext.l hv3)
              refine ⟨vs, hv5, ?_, (s13.trans (s34.trans s45)).own (.none hD) hv5 Lk.l, acc ++ [y], rest2, vs ++ [v], rfl, by rw [hys, List.append_assoc]; rfl, upd_same, ?_⟩
              · rw [← dvL_len dvs, ← lim_eq]
                rw [hys, List.length_append, List.length_cons] at hlen
                omega
              · rw [hid_upd List.mem_cons_self]
                exact dvL_append (dvL_mono (hid_mono (s23.trans (s34.trans s45)).ext) acc vs dvs) ⟨v, [], rfl, hvv, rfl⟩
  · rintro H2 ⟨sm, acc, rest, vs, hr, hys, hv, dvs⟩
    rw [List.drop_length] at hr
    cases hr
    rw [List.append_nil] at hys
    subst hys
    exact fin D0 H2 vs hD sm hv dvs
theorem i_lc {K : PySem.W.Frag} (hK : G.K = K) {fi : Env → R (List D)} {ft : Env → R Bool} {fe : Env → R D} {p : Pat} {Q : VK}
    (h : tD G W (fun ρ => (fi ρ).bind fun xs => (noexc (lcGo ft fe p (wipeV ρ (slotsP p)) xs)).bind fun ys => guard' (decide (ys.length ≤ lim)) (.ok (.lst ys))) σ H Q) :
    tLc (iD G W fi) (gPat K p) (tDT G W0 ft) (tD G W0 fe) (slotsP p) σ H Q := by
  obtain ⟨O, ρ, rep, f⟩ := h
  refine i_lcG hK rep (f.bind.imp fun xs H1 s1 f1 => ?_)
  have rep1 := rep.mono s1
  cases e : lcGo ft fe p (wipeV ρ (slotsP p)) xs with
  | exc c => rw [e] at f1; exact f1.elim
  | bad => rw [e] at f1; exact f1.elim
  | ok ys =>
    rw [e] at f1
    have f2 : Fin G W (guard' (decide (ys.length ≤ lim)) (.ok (.lst ys))) σ H1 fun d H' => ∀ v, Dv G (hid H' O) d v → Q v H' := f1
    cases c : decide (ys.length ≤ lim) with
    | false => rw [c] at f2; exact f2.elim
    | true =>
      rw [c] at f2
      refine ⟨ys, rfl, of_decide_eq_true c, fun D0 H2 vs hD sm hv dvs => ?_⟩
      refine f2 H2 sm _ ⟨D0, vs, rfl, ?_, dvL_mono (hid_sub fun q hq => List.mem_cons_of_mem _ hq) ys vs dvs⟩
      rw [hid_at (rep1.ok.fresh hD)]
      exact hv
end
end FD
namespace FD
open PySem PySem.Spec PyProof.Rows L2 L2H
/-- what a def promises wherever it is called, whatever is being handled -/
structure FnC (P : Program) (w : World) (K : PySem.W.Frag) (mg : Str → Option Value) (base : Heap) (CX : CXT) (k : Nat) (f : Addr) (fd : FuncData) (ps : List Str) (sp : Sp) : Prop where
  len : ∀ vs H Q E, sp vs H Q E → vs.length = ps.length
  run : ∀ (A : Around) (outer : List PySem.Env) (s : Shared) (H : Hp) (args : Args) (us : List Value) (vs : List V) (Q : VK) (E : XK), RoomH k A → Env0 P w K mg base A outer s H → BindsTo s fd args (ps.zip us) → Vals vs us → sp vs H Q E →
    codeAny (model P w) A (.call (.ref f) args) (CR CX outer P w H s Q E) s
/-- the context of such a def's body -/
def cxC (CX : CXT) (P : Program) (w : World) (K : PySem.W.Frag) (mg : Str → Option Value) (base : Heap) (N : List Str) (qual : Str) (scope : Scope) (f : Addr) (cd : Value) (A : Around) (outer : List PySem.Env) (s : Shared) (H : Hp) (E : XK) : Cx :=
  { cxOf CX P w K mg base N qual scope f cd A outer s H E with calm := false }
theorem inv_unpin {X : Cx} {pn : List (Addr × Obj)} {pins : List (Addr × Obj)} {σ : L2.St} {H : Hp} {s : Shared} (hp : ∀ q ∈ X.pn, q ∈ pn) (I : Inv { X with pn := pn } pins σ H s) : Inv X pins σ H s :=
  ⟨⟨I.ok.mod, I.ok.kind, I.ok.glob, I.ok.blt, I.ok.above, I.ok.inj, I.ok.has, I.ok.cab, I.ok.hd, I.ok.frames, I.ok.stk, I.ok.exf, I.ok.bs, I.ok.bsz, I.ok.noex, I.ok.exfs, I.ok.funs, I.ok.frf⟩, I.os, I.bare, I.base, I.loc, I.cell, I.free, I.freeC,
    fun q hq => I.pin q (by
      rcases List.mem_append.mp hq with z | z
      · exact List.mem_append_left _ (hp q z)
      · exact List.mem_append_right _ z), I.hok, I.len⟩
theorem fn_ofC {CX : CXT} {P : Program} {w : World} {K : PySem.W.Frag} {mg : Str → Option Value} {base : Heap} {k : Nat} {f : Addr} {name qual : Str} {params : Arguments} {body : List Stmt} {scope : Scope} {dV kV doc pm cdv ct oc : Value} {an od : Option Addr}
    {osl : Array (Option Value)} {N ps : List Str} {sp : Sp} (lk : K.lookup f = some ⟨oc, od, .func (PySem.W.fnOf name qual params body scope dV kV doc pm an cdv ct), osl⟩) (hcd : PySem.W.codeIn K cdv qual = true) (S : FnScope N ps scope)
    (len : ∀ vs H Q E, sp vs H Q E → vs.length = ps.length)
    (hbody : ∀ (A : Around) (outer : List PySem.Env) (s : Shared) (H : Hp) (vs : List V) (Q : VK) (E : XK), RoomH k (A.deeper (envOfC qual scope s.heap.objs.size f cdv)) → sp vs H Q E →
      ∃ t, PSs (cxC CX P w K mg base N qual scope f cdv A outer s H E) body t ∧ t { nx := fun _ H' => Q .non H', rt := Q } (L2.start N vs) H) :
    FnC P w K mg base CX (k + 1) f (PySem.W.fnOf name qual params body scope dV kV doc pm an cdv ct) ps sp := by
  refine ⟨len, fun A outer s H args us vs Q E hr e0 hb rv hsp => ?_⟩
  have lenE := len _ _ _ _ hsp
  have inS : K.In s.heap := e0.mod.kin.keeps fun b o e => (e0.bs b o e).1
  have noL : s.heap.NoLimit := e0.mod.nolimit.keeps fun b o e => (e0.bs b o e).1
  have kinds : ∀ y ∈ ps.zip us, scope.names.lookup y.1 = some .local ∨ (scope.names.lookup y.1 = some .cell ∧ ((cellsFrom (s.heap.objs.size + 1) scope.names []).lookup y.1).isSome = true) := fun ⟨n, v⟩ hy => by
    rcases S.par n (List.of_mem_zip hy).1 with z | z
    · exact .inl z
    · exact .inr ⟨z, PySem.W.cellsFrom_some _ _ _ (.inl z)⟩
  have atF := e0.bs _ _ (e0.mod.kin f _ lk)
  have pin : PinOk outer H s (f, ⟨oc, od, .func (PySem.W.fnOf name qual params body scope dV kV doc pm an cdv ct), osl⟩) := ⟨atF.1, atF.2, (fun hm => by
    obtain ⟨z, _⟩ := e0.funs.mem hm
    rw [e0.mod.kin f _ lk] at z
    cases z), (fun v z => by cases z)⟩
  refine codeAny_call_function hr.depth (inS _ _ lk) rfl S.co S.gen rfl (PySem.W.codeRec_of inS hcd) (hb _ _ _ _ ?_)
  refine wpAny_newFunctionEnv_cells S.kind kinds fun env he s1 x => ?_
  subst he
  refine ⟨noL.keeps x.toInCall.keep, codeAny_func ?_⟩
  obtain ⟨t, ht, hq⟩ := hbody A outer s H vs Q E (hr.deeper _) hsp
  have I : Inv (cxC CX P w K mg base N qual scope f cdv A outer s H E) [] (L2.start N vs) H s1 := inv_unpin (fun q hq => absurd (show q ∈ ([] : List (Addr × Obj)) from hq) (by simp)) (inv_startH S pin e0 lenE rv x)
  refine wpAny_mono (ht.run [] s1 (L2.start N vs) H _ I hq) (fun fl s2 hs => ?_) fun e s2 hs => hs
  cases fl with
  | ret u =>
    obtain ⟨v, σ2, H2, J, r2, q⟩ := hs
    exact ⟨v, H2, J.os, J.bare, J.base, J.hok, r2, q⟩
  | next =>
    obtain ⟨σ2, H2, J, q⟩ := hs
    exact ⟨.non, H2, J.os, J.bare, J.base, J.hok, rfl, q⟩
  | brk =>
    obtain ⟨_, _, _, q⟩ := hs
    exact q.elim
  | cont =>
    obtain ⟨_, _, _, q⟩ := hs
    exact q.elim
section
variable {X : Cx} {CX : CXT} {k : Nat} {f : Addr} {fd : FuncData} {ps : List Str} {sp : Sp} {E : L2.St → XK} {x : Str} {p pos : Pos} {e : Expr} {es : List Expr} {t : TA}
theorem pe_callC (F : FnC X.prog X.w X.K X.mg X.base CX k f fd ps sp) (hr : RoomH k X.A) (hg : Gl X x) (hm : X.mg x = some (.ref f)) (hk : PySem.W.keepIn X.K (.ref f) = true) (hb : Binds X.K fd ps []) (hx : ∀ σ, PassesAt CX X σ (E σ))
    (ha : PA X (e :: es) t) (hdb : (x == ("__debug__" : Str)) = false := by decide) (he : starEach (e :: es) X.env = (false, eval e X.env) :: starEach es X.env := by rfl) (hpl : (backTo pos (starEach es X.env)).any (·.1) = false := by rfl) :
    PE X (.Call (.Name x p) (e :: es) [] pos) (tCallS sp E t) := by
  refine ⟨fun pins s σ H Q I h => ?_⟩
  refine wpAny_Call_Name_kw (ld_glob I hg hm ?_ hdb)
  refine PySem.W.callWith_K (h₀ := X.base) I.ok.mod.kin hk (thn (ha.run pos pins s σ H _ I h) fun us s1 ⟨vs, H1, I1, rv, q⟩ => ⟨I1.kIn, ?_⟩) he hpl
  have lenE : us.length = ps.length := by rw [← rv.length]; exact F.len _ _ _ _ q
  have b := hb s1 us I1.kIn (by rw [List.append_nil]; exact lenE)
  rw [List.append_nil] at b
  refine wpAny_call (codeAny_mono (F.run X.A X.stack s1 H1 ⟨us, []⟩ us vs Q (E σ) hr I1.env0 b rv q) fun r s2 hq => ?_)
  cases r with
  | error er => exact hx σ pins H1 s1 er s2 I1 hq
  | ok fl =>
    cases fl with
    | ret u => exact I1.after hq
    | next => exact False.elim hq
    | brk => exact False.elim hq
    | cont => exact False.elim hq
end
/-- an error's own object, by its class and its dict -/
def exA (a : Addr) (cls : Value) (d : Option Addr) : Heap → Prop := fun h => ∃ (o : Obj) (vs : Array Value), h.get? a = some o ∧ o.cls = cls ∧ o.dict = d ∧ o.data = .fields vs
def wKept (K : PySem.W.Frag) (c : Value) (i : Nat) (ts : Addr → Value → Option Addr → TS) (Wo : WX) (D0 : Ends) : WX := fun cls d σ H =>
  ∃ b, PySem.W.exmOne K cls c = some b ∧ (b = true → ∀ a, H a = none → ts a cls d { nx := fun σ2 H2 => H2 a = none → D0.nx (σ2.set i none) (upd H2 a (.ext (exA a cls d))), rt := fun _ _ => False } (σ.set i (some (.ref a))) H) ∧
    (b = false → Wo cls d σ H)
/-- an error that is held from its suite on; the suite returns -/
def wTrk (K : PySem.W.Frag) (c : Value) (i n : Nat) (ts : Addr → Value → Option Addr → TS) (Wo : WX) (D0 : Ends) : WX := fun cls d σ H =>
  ∃ b, PySem.W.exmOne K cls c = some b ∧ (b = true → σ.length = n → ∀ a, H a = none → ts a cls d { nx := fun _ _ => False, rt := D0.rt } (σ.set i (some (.ref a))) (upd H a (.ext (exA a cls d)))) ∧
    (b = false → Wo cls d σ H)
section
variable {X : Cx} {x n : Str} {c : Value} {i : Nat} {body suite : List Stmt} {b0 : Stmt} {np pos pos2 : Pos} {tb : WX → TS} {ts : Addr → Value → Option Addr → TS} {Wo : WX}
theorem track {pins : List (Addr × Obj)} {σ : L2.St} {H : Hp} {s : Shared} {a : Addr} {oe : Obj} {cls : Value} {d : Option Addr} {vs : Array Value} (I : Inv X ((a, oe) :: pins) σ H s) (hz : Zc cls d oe) (hd : oe.data = .fields vs) (new : X.s_0.heap.get? a = none) (np : ∀ p ∈ X.pn ++ pins, p.1 ≠ a) : Inv X pins σ (upd H a (.ext (exA a cls d))) s := by
  obtain ⟨p1, p2, p3, p4, p5⟩ := I.pin (a, oe) (List.mem_append_right _ (List.mem_cons_self ..))
  have keep : ∀ b u, H b = some u → upd H a (.ext (exA a cls d)) b = some u := fun b u e => by
    rw [upd_ne (ne_of_none e p2)]
    exact e
  have xo : ObjOk X.prog X.w (upd H a (.ext (exA a cls d))) s.heap a (.ext (exA a cls d)) :=
    ⟨⟨oe, vs, p1, hz.1, hz.2, hd⟩, ⟨oe, p1⟩, fun h1 h2 ⟨o, ws, e, q⟩ st => ⟨o, ws, st o e, q⟩⟩
  refine ⟨I.ok, I.os, I.bare, ⟨I.base.keep, I.base.slot, fun b o e1 e2 e3 => ?_, I.base.there, fun b xs e => keep b _ (I.base.tups b xs e), fun b o u e => keep b _ (I.base.frzs b o u e), fun b ps e => ?_⟩, I.loc, I.cell, ?_, fun y z e => ?_, fun p hp => ?_, ?_, I.len⟩
  · have nb : b ≠ a := fun z => by
      rw [z, new] at e1
      cases e1
    rw [upd_ne nb]
    exact I.base.free b o e1 e2 e3
  · obtain ⟨more, q⟩ := I.base.tbls b ps e
    exact ⟨more, keep b _ q⟩
  · rw [upd_ne fun z => p3 z.symm]
    exact I.free
  · have nz : z ≠ a := fun w => by
      obtain ⟨v, o, q1, q2⟩ := I.cell y z e
      rw [w, p1] at q1
      cases q1
      exact p5 v q2
    rw [upd_ne nz]
    exact I.freeC y z e
  · obtain ⟨q1, q2, q3, q4, q5⟩ := I.pin p (by
      rcases List.mem_append.mp hp with h | h
      · exact List.mem_append_left _ h
      · exact List.mem_append_right _ (List.mem_cons_of_mem _ h))
    refine ⟨q1, ?_, q3, q4, q5⟩
    rw [upd_ne (np p hp)]
    exact q2
  · exact I.hok.laidN (fun _ _ e => e) p2 xo
theorem ps_try_kept (hex : X.ex = []) (stk : X.stack = X.env :: X.outer) (frm : X.env.frame = some X.env.locals) (nd : X.N.Nodup) (ni : X.N[i]? = some n) (loc : X.env.kindOf n = some .local) (nam : Names X x c) (tk : Takes X Wo)
    (hb : ∀ (W2 : WX) (pn : List (Addr × Obj)) (xe : Value → Shared → Prop), Takes (X.tr pn xe) W2 → PassesOwn (model X.prog X.w) X.A X.env xe → PSs (X.tr pn xe) body (tb W2))
    (hsu : ∀ (a : Addr) (oe : Obj) (cls : Value) (d : Option Addr) (pn : List (Addr × Obj)), Zc cls d oe → (∃ ws, oe.data = .fields ws) → PSs (X.suite a ((a, oe) :: pn)) (b0 :: suite) (ts a cls d)) :
    PS X (.Try body [.ExceptHandler (some (.Name x np)) (some n) (b0 :: suite) pos2] [] [] pos) (fun D0 σ H => tb (wKept X.K c i ts Wo D0) D0 σ H) := by
  refine ⟨fun pins s σ H D0 I h => ?_⟩
  have ok := I.ok
  have frs2 : X.A.frames = some (X.env :: X.outer) := by rw [ok.frames, stk]
  refine wpAny_Try_except ?_
  refine wpAny_mono ((hb (wKept X.K c i ts Wo D0) (X.pn ++ pins) (fun er t1 => wpAny (model X.prog X.w) X.A (noteFrame er X.env) (fun _ t2 => wpAny (model X.prog X.w) X.A (setFlight er none) (fun _ t3 =>
    wpAny (model X.prog X.w) X.A (handleBy er X.env [.ExceptHandler (some (.Name x np)) (some n) (b0 :: suite) pos2]) (SP X pins D0) X.xe t3) X.xe t2) X.xe t1) (fun u s2 xx => ?_) PassesOwn.looking).run [] s σ H D0 (I.toTry _) h) (fun f s1 hsp => ?_) (fun er s1 he => he)
  · obtain ⟨a, Bs, sI, pins2, σ2, H2, cls, d, rfl, J2, nb, up, sky, na, os, ag, b, hb1, hyes, hno⟩ := xx
    have J : Inv X pins σ2 H2 sI := J2.ofTry ok
    have sky2 : Sky Bs (X.env :: X.outer) a (Zc cls d) X.env.locals s2.heap := by rw [← stk]; exact sky
    show wpAny (model X.prog X.w) X.A (noteFrame (.ref a) X.env) _ _ _
    refine Sky.land Zc.steady frs2 frm sky2 fun h3 fl3 up3 => ?_
    have J3 : Inv X pins σ2 H2 { s2 with heap := h3 } := J.landed nb fl3.1 (up.trans up3) os ag
    obtain ⟨oe3, vs3, he3, hz3, hd3⟩ := fl3.there
    have notFr : ∀ {hh : Heap} {o : Obj} {ws : Array Value}, hh.FunFrames Bs (X.env :: X.outer) → hh.get? a = some o → o.data = .fields ws → a ∉ frs (X.env :: X.outer) := fun {hh o ws} ff e dd hm => by
      obtain ⟨_, o2, e2, hnf⟩ := ff.mem hm
      rw [e] at e2
      cases e2
      exact hnf _ dd
    have nfr := notFr fl3.2.2.1 he3 hd3
    have nL : a ≠ X.env.locals := fun z => nfr (List.mem_filterMap.mpr ⟨X.env, List.mem_cons_self, by rw [frm, z]⟩)
    have nF : a ∉ X.fs := fun hm => by
      obtain ⟨ev, he, q⟩ := List.mem_filterMap.mp hm
      exact nfr (List.mem_filterMap.mpr ⟨ev, List.mem_cons_of_mem _ he, q⟩)
    have ba : Bs.get? a = none := fl3.2.1
    have sa : sI.heap.get? a = none := by
      cases q : sI.heap.get? a with
      | none => rfl
      | some o =>
        have := nb a o q (by rw [stk]; exact nfr)
        rw [ba] at this
        cases this
    have new : X.s_0.heap.get? a = none := by
      cases q : X.s_0.heap.get? a with
      | none => rfl
      | some o =>
        by_cases hx : a ∈ X.ex
        · rw [hex] at hx
          cases hx
        · obtain ⟨o2, q2⟩ := J.base.there a o q hx
          rw [sa] at q2
          cases q2
    have np2 : ∀ p ∈ X.pn ++ pins, p.1 ≠ a := fun p hp z => by
      have q := (J.pin p hp).1
      rw [z, sa] at q
      cases q
    have S3 := J3.suite he3 hd3 na nL nF
    refine wpAny_handleBy_cons (codeAny_handlers_test ?_) (by intro q; cases q)
    have LT : PySem.W.Looks (model X.prog X.w) h3 (typeOf (.ref a)) cls := fun A0 Q0 E0 s0 k0 q0 => wpAny_typeOf_ref (k0 _ _ he3) (by rw [hz3.1]; exact q0)
    have LM := PySem.W.exm_one (M := model X.prog X.w) (J3.kIn) LT hb1
    have test : ∀ {Q : Value → Shared → Prop} {E : Value → Shared → Prop}, Q c { s2 with heap := h3 } → wpAny (model X.prog X.w) (X.A.mark (some (.ref a))) (eval (.Name x np) X.env) Q E { s2 with heap := h3 } := fun {Q E} q => by
      obtain ⟨hg, hdbg, hm | ⟨hm, hv, hnn⟩⟩ := nam
      · exact ld_glob (X := X.suite a ((a, oe3) :: (X.pn ++ pins))) S3 hg hm q hdbg
      · exact ld_blt (X := X.suite a ((a, oe3) :: (X.pn ++ pins))) S3 hg hm hv q hnn hdbg
    refine test (LM.here ?_)
    cases b with
    | true =>
      refine codeAny_handlers_suite_as ?_
      refine HandSPX.lands_againZ fl3 fun h4 fl4 up4 => ?_
      have J4 : Inv X pins σ2 H2 { s2 with heap := h4 } := J.landed nb fl4.1 ((up.trans up3).trans up4) os ag
      obtain ⟨oe4, vs4, he4, hz4, hd4⟩ := fl4.there
      have S4 := J4.suite he4 hd4 na nL nF
      refine store_ok (X := X.suite a ((a, oe4) :: (X.pn ++ pins))) (v := .ref a) S4 nd ni (.inl loc) rfl (fun s5 S5 => ?_) (.inr loc)
      refine wpAny_mono ((hsu a oe4 cls d (X.pn ++ pins) hz4 ⟨_, hd4⟩).run [] s5 _ H2 _ S5 (hyes rfl a na)) (fun f s6 hsp => ?_) (fun _ _ z => False.elim z)
      cases f with
      | next =>
        obtain ⟨σ6, H6, S6, q6⟩ := hsp
        have I6 : Inv X ((a, oe4) :: pins) σ6 H6 s6 := ⟨ok, S6.os, S6.bare, S6.base, S6.loc, S6.cell, S6.free, S6.freeC, fun p hp => S6.pin p (by
          rw [List.append_nil]
          rcases List.mem_append.mp hp with z | z
          · exact List.mem_cons_of_mem _ (List.mem_append_left _ z)
          · rcases List.mem_cons.mp z with z | z
            · rw [z]
              exact List.mem_cons_self ..
            · exact List.mem_cons_of_mem _ (List.mem_append_right _ z)), S6.hok, S6.len⟩
        have n6 : H6 a = none := (I6.pin (a, oe4) (List.mem_append_right _ (List.mem_cons_self ..))).2.1
        exact gone_ok I6 nd ni loc fun s7 I7 => ⟨_, _, track I7 hz4 hd4 new np2, q6 n6⟩
      | brk =>
        obtain ⟨σ6, H6, S6, q6⟩ := hsp
        exact q6.elim
      | cont =>
        obtain ⟨σ6, H6, S6, q6⟩ := hsp
        exact q6.elim
      | ret u =>
        obtain ⟨v6, σ6, H6, S6, r6, q6⟩ := hsp
        exact q6.elim
    | false =>
      show wpAny _ X.A (handleBy (.ref a) X.env []) _ _ _
      refine wpAny_handleBy_nil ?_
      obtain ⟨k1, k2, k3, oe, ws, Tb, oT, tr, he, hz, hd, h1, hr⟩ := id fl3
      unfold PySem.passOn
      refine wpAny_bind (wpAny_field he hd h1 ?_)
      rw [if_neg (show ¬ ((Value.ref Tb == Value.none) = true) from by simp)]
      have fin : wpAny (model X.prog X.w) X.A (setFlight (.ref a) X.env.frame) (fun _ t4 => wpAny (model X.prog X.w) X.A (throw (.ref a) : Sem Flow) (SP X pins D0) X.xe t4) X.xe { s2 with heap := h3 } := by
        rw [frm]
        refine HandSPX.setFlight_upZ fl3 fun h4 hh4 up4 => wpAny_throw (tk _ _ ?_)
        exact ⟨a, Bs, sI, pins, σ2, H2, cls, d, rfl, J, nb, (up.trans up3).trans up4, .inr (.inr (by rw [stk]; exact hh4)), na, os, ag, hno rfl⟩
      first
        | exact wpAny_bind (wpAny_pure (wpAny_bind fin))
        | exact wpAny_bind fin
  · cases f with
    | next =>
      obtain ⟨σ2, H2, J2, q⟩ := hsp
      exact wpAny_execs_nil ⟨σ2, H2, J2.ofTry ok, q⟩
    | brk =>
      obtain ⟨σ2, H2, J2, q⟩ := hsp
      exact ⟨σ2, H2, J2.ofTry ok, q⟩
    | cont =>
      obtain ⟨σ2, H2, J2, q⟩ := hsp
      exact ⟨σ2, H2, J2.ofTry ok, q⟩
    | ret u =>
      obtain ⟨v, σ2, H2, J2, r, q⟩ := hsp
      exact ⟨v, σ2, H2, J2.ofTry ok, r, q⟩
theorem ps_try_trk (hex : X.ex = []) (stk : X.stack = X.env :: X.outer) (frm : X.env.frame = some X.env.locals) (nd : X.N.Nodup) (ni : X.N[i]? = some n) (loc : X.env.kindOf n = some .local) (nam : Names X x c) (tk : Takes X Wo)
    (hb : ∀ (W2 : WX) (pn : List (Addr × Obj)) (xe : Value → Shared → Prop), Takes (X.tr pn xe) W2 → PassesOwn (model X.prog X.w) X.A X.env xe → PSs (X.tr pn xe) body (tb W2))
    (hsu : ∀ (a : Addr) (oe : Obj) (cls : Value) (d : Option Addr) (pn : List (Addr × Obj)), Zc cls d oe → (∃ ws, oe.data = .fields ws) → PSs (X.suite a pn) (b0 :: suite) (ts a cls d)) :
    PS X (.Try body [.ExceptHandler (some (.Name x np)) (some n) (b0 :: suite) pos2] [] [] pos) (fun D0 σ H => tb (wTrk X.K c i X.N.length ts Wo D0) D0 σ H) := by
  refine ⟨fun pins s σ H D0 I h => ?_⟩
  have ok := I.ok
  have frs2 : X.A.frames = some (X.env :: X.outer) := by rw [ok.frames, stk]
  refine wpAny_Try_except ?_
  refine wpAny_mono ((hb (wTrk X.K c i X.N.length ts Wo D0) (X.pn ++ pins) (fun er t1 => wpAny (model X.prog X.w) X.A (noteFrame er X.env) (fun _ t2 => wpAny (model X.prog X.w) X.A (setFlight er none) (fun _ t3 =>
    wpAny (model X.prog X.w) X.A (handleBy er X.env [.ExceptHandler (some (.Name x np)) (some n) (b0 :: suite) pos2]) (SP X pins D0) X.xe t3) X.xe t2) X.xe t1) (fun u s2 xx => ?_) PassesOwn.looking).run [] s σ H D0 (I.toTry _) h) (fun f s1 hsp => ?_) (fun er s1 he => he)
  · obtain ⟨a, Bs, sI, pins2, σ2, H2, cls, d, rfl, J2, nb, up, sky, na, os, ag, b, hb1, hyes, hno⟩ := xx
    have J : Inv X pins σ2 H2 sI := J2.ofTry ok
    have sky2 : Sky Bs (X.env :: X.outer) a (Zc cls d) X.env.locals s2.heap := by rw [← stk]; exact sky
    show wpAny (model X.prog X.w) X.A (noteFrame (.ref a) X.env) _ _ _
    refine Sky.land Zc.steady frs2 frm sky2 fun h3 fl3 up3 => ?_
    have J3 : Inv X pins σ2 H2 { s2 with heap := h3 } := J.landed nb fl3.1 (up.trans up3) os ag
    obtain ⟨oe3, vs3, he3, hz3, hd3⟩ := fl3.there
    have notFr : ∀ {hh : Heap} {o : Obj} {ws : Array Value}, hh.FunFrames Bs (X.env :: X.outer) → hh.get? a = some o → o.data = .fields ws → a ∉ frs (X.env :: X.outer) := fun {hh o ws} ff e dd hm => by
      obtain ⟨_, o2, e2, hnf⟩ := ff.mem hm
      rw [e] at e2
      cases e2
      exact hnf _ dd
    have nfr := notFr fl3.2.2.1 he3 hd3
    have nL : a ≠ X.env.locals := fun z => nfr (List.mem_filterMap.mpr ⟨X.env, List.mem_cons_self, by rw [frm, z]⟩)
    have nF : a ∉ X.fs := fun hm => by
      obtain ⟨ev, he, q⟩ := List.mem_filterMap.mp hm
      exact nfr (List.mem_filterMap.mpr ⟨ev, List.mem_cons_of_mem _ he, q⟩)
    have ba : Bs.get? a = none := fl3.2.1
    have sa : sI.heap.get? a = none := by
      cases q : sI.heap.get? a with
      | none => rfl
      | some o =>
        have := nb a o q (by rw [stk]; exact nfr)
        rw [ba] at this
        cases this
    have new : X.s_0.heap.get? a = none := by
      cases q : X.s_0.heap.get? a with
      | none => rfl
      | some o =>
        by_cases hx : a ∈ X.ex
        · rw [hex] at hx
          cases hx
        · obtain ⟨o2, q2⟩ := J.base.there a o q hx
          rw [sa] at q2
          cases q2
    have np2 : ∀ p ∈ X.pn ++ pins, p.1 ≠ a := fun p hp z => by
      have q := (J.pin p hp).1
      rw [z, sa] at q
      cases q
    have S3 := J3.suite he3 hd3 na nL nF
    refine wpAny_handleBy_cons (codeAny_handlers_test ?_) (by intro q; cases q)
    have LT : PySem.W.Looks (model X.prog X.w) h3 (typeOf (.ref a)) cls := fun A0 Q0 E0 s0 k0 q0 => wpAny_typeOf_ref (k0 _ _ he3) (by rw [hz3.1]; exact q0)
    have LM := PySem.W.exm_one (M := model X.prog X.w) (J3.kIn) LT hb1
    have test : ∀ {Q : Value → Shared → Prop} {E : Value → Shared → Prop}, Q c { s2 with heap := h3 } → wpAny (model X.prog X.w) (X.A.mark (some (.ref a))) (eval (.Name x np) X.env) Q E { s2 with heap := h3 } := fun {Q E} q => by
      obtain ⟨hg, hdbg, hm | ⟨hm, hv, hnn⟩⟩ := nam
      · exact ld_glob (X := X.suite a ((a, oe3) :: (X.pn ++ pins))) S3 hg hm q hdbg
      · exact ld_blt (X := X.suite a ((a, oe3) :: (X.pn ++ pins))) S3 hg hm hv q hnn hdbg
    refine test (LM.here ?_)
    cases b with
    | true =>
      refine codeAny_handlers_suite_as ?_
      refine HandSPX.lands_againZ fl3 fun h4 fl4 up4 => ?_
      have J4 : Inv X pins σ2 H2 { s2 with heap := h4 } := J.landed nb fl4.1 ((up.trans up3).trans up4) os ag
      obtain ⟨oe4, vs4, he4, hz4, hd4⟩ := fl4.there
      have S4 := J4.suite he4 hd4 na nL nF
      refine store_ok (X := X.suite a ((a, oe4) :: (X.pn ++ pins))) (v := .ref a) S4 nd ni (.inl loc) rfl (fun s5 S5 => ?_) (.inr loc)
      have S6 : Inv (X.suite a (X.pn ++ pins)) [(a, oe4)] (σ2.set i (some (.ref a))) H2 s5 := ⟨⟨S5.ok.mod, S5.ok.kind, S5.ok.glob, S5.ok.blt, S5.ok.above, S5.ok.inj, S5.ok.has, S5.ok.cab, S5.ok.hd, S5.ok.frames, S5.ok.stk, S5.ok.exf, S5.ok.bs, S5.ok.bsz, S5.ok.noex, S5.ok.exfs, S5.ok.funs, S5.ok.frf⟩, S5.os, S5.bare, S5.base, S5.loc, S5.cell, S5.free, S5.freeC, fun p hp => S5.pin p (by
          rw [List.append_nil]
          rcases List.mem_append.mp hp with z | z
          · exact List.mem_cons_of_mem _ z
          · rw [List.mem_singleton.mp z]
            exact List.mem_cons_self ..), S5.hok, S5.len⟩
      have T6 := track S6 hz4 hd4 new (fun p hp => np2 p (by rw [List.append_nil] at hp; exact hp))
      refine wpAny_mono ((hsu a oe4 cls d (X.pn ++ pins) hz4 ⟨_, hd4⟩).run [] s5 _ _ _ T6 (hyes rfl J.len a na)) (fun f s6 hsp => ?_) (fun _ _ z => False.elim z)
      cases f with
      | ret u =>
        obtain ⟨v6, σ6, H6, S7, r6, q6⟩ := hsp
        have I6 : Inv X pins σ6 H6 s6 := ⟨ok, S7.os, S7.bare, S7.base, S7.loc, S7.cell, S7.free, S7.freeC, fun p hp => S7.pin p (by rw [List.append_nil]; exact hp), S7.hok, S7.len⟩
        exact gone_ok I6 nd ni loc fun s7 I7 => ⟨_, _, _, I7, r6, q6⟩
      | next =>
        obtain ⟨σ6, H6, S7, q6⟩ := hsp
        exact q6.elim
      | brk =>
        obtain ⟨σ6, H6, S7, q6⟩ := hsp
        exact q6.elim
      | cont =>
        obtain ⟨σ6, H6, S7, q6⟩ := hsp
        exact q6.elim
    | false =>
      show wpAny _ X.A (handleBy (.ref a) X.env []) _ _ _
      refine wpAny_handleBy_nil ?_
      obtain ⟨k1, k2, k3, oe, ws, Tb, oT, tr, he, hz, hd, h1, hr⟩ := id fl3
      unfold PySem.passOn
      refine wpAny_bind (wpAny_field he hd h1 ?_)
      rw [if_neg (show ¬ ((Value.ref Tb == Value.none) = true) from by simp)]
      have fin : wpAny (model X.prog X.w) X.A (setFlight (.ref a) X.env.frame) (fun _ t4 => wpAny (model X.prog X.w) X.A (throw (.ref a) : Sem Flow) (SP X pins D0) X.xe t4) X.xe { s2 with heap := h3 } := by
        rw [frm]
        refine HandSPX.setFlight_upZ fl3 fun h4 hh4 up4 => wpAny_throw (tk _ _ ?_)
        exact ⟨a, Bs, sI, pins, σ2, H2, cls, d, rfl, J, nb, (up.trans up3).trans up4, .inr (.inr (by rw [stk]; exact hh4)), na, os, ag, hno rfl⟩
      first
        | exact wpAny_bind (wpAny_pure (wpAny_bind fin))
        | exact wpAny_bind fin
  · cases f with
    | next =>
      obtain ⟨σ2, H2, J2, q⟩ := hsp
      exact wpAny_execs_nil ⟨σ2, H2, J2.ofTry ok, q⟩
    | brk =>
      obtain ⟨σ2, H2, J2, q⟩ := hsp
      exact ⟨σ2, H2, J2.ofTry ok, q⟩
    | cont =>
      obtain ⟨σ2, H2, J2, q⟩ := hsp
      exact ⟨σ2, H2, J2.ofTry ok, q⟩
    | ret u =>
      obtain ⟨v, σ2, H2, J2, r, q⟩ := hsp
      exact ⟨v, σ2, H2, J2.ofTry ok, r, q⟩
end
end FD
namespace FD
open PySem PySem.Spec PyProof.Rows L2
/-- what the text's names stand for -/
structure Tb where
  fns : List Str
  ar : List Nat
  cst : List Str
  cls : List Str
  /-- the def that calls the lambda it gets, the def that tells an error, the class that is caught -/
  tld : Option (Str × Nat × Nat)
  /-- the defs that hold lambdas -/
  lamd : List Str
  /-- lambdas may stand here -/
  here : Bool
  /-- no error is being handled -/
  cold : Bool
def visB (sc : Scope) (x : Str) : Bool := match sc.names.lookup x with
  | some .local => true
  | some .cell => true
  | some .free => true
  | _ => false
def locB (fnB : Str → Bool) (sc : Scope) (x : Str) : Bool := match sc.names.lookup x with
  | some .local => true
  | some .cell => fnB x
  | _ => false
def glB (sc : Scope) (x : Str) : Bool := match sc.names.lookup x with
  | some .globalImplicit => true
  | _ => false
def nmOk (x : Str) : Bool := !(x == ("__debug__" : Str)) && (!(x == ("__classdict__" : Str)) && !(x == ("__name__" : Str)))
def plainE : Expr → Bool
  | .Starred _ _ => false
  | .Set _ _ _ => false
  | .Slice _ _ _ _ => false
  | _ => true
def recvE : Expr → Bool
  | .Call (.Name _ _) [] [] _ => false
  | _ => true
def xName : Expr → Option Str
  | .Name x _ => some x
  | _ => none
def xConst : Expr → Option Const
  | .Constant c _ _ => some c
  | _ => none
def xBin : Expr → Option (Expr × Operator × Expr)
  | .BinOp a o b _ => some (a, o, b)
  | _ => none
def xUn : Expr → Option (UnaryOp × Expr)
  | .UnaryOp o a _ => some (o, a)
  | _ => none
def xBool : Expr → Option (BoolOp × List Expr × Pos)
  | .BoolOp o a p => some (o, a, p)
  | _ => none
def xIf : Expr → Option (Expr × Expr × Expr)
  | .IfExp c a b _ => some (c, a, b)
  | _ => none
def xCmp : Expr → Option (Expr × List CmpOp × List Expr)
  | .Compare a os bs _ => some (a, os, bs)
  | _ => none
def xTup : Expr → Option (List Expr)
  | .Tuple es _ _ => some es
  | _ => none
def xLst : Expr → Option (List Expr)
  | .List es _ => some es
  | _ => none
def xDict : Expr → Option (List (Option Expr) × List Expr)
  | .Dict ks vs _ => some (ks, vs)
  | _ => none
def xSub : Expr → Option (Expr × Expr)
  | .Subscript a b _ => some (a, b)
  | _ => none
def xSlice : Expr → Option (Option Expr × Option Expr × Option Expr)
  | .Slice a b c _ => some (a, b, c)
  | _ => none
def xCall : Expr → Option (Expr × List Expr × List Keyword × Pos)
  | .Call f a k p => some (f, a, k, p)
  | _ => none
def xAttr : Expr → Option (Expr × Str × Pos)
  | .Attribute o n p => some (o, n, p)
  | _ => none
def xLc : Expr → Option (Expr × List Comprehension × Scope × Pos)
  | .ListComp e g s p => some (e, g, s, p)
  | _ => none
def xRev : Expr → Option Expr
  | .Subscript a (.Slice none none (some (.UnaryOp .USub (.Constant (.int 1) _ _) _)) _) _ => some a
  | _ => none
theorem xRev_eq {e a : Expr} (h : xRev e = some a) : ∃ k p1 p2 p3 p4, e = .Subscript a (.Slice none none (some (.UnaryOp .USub (.Constant (.int 1) k p1) p2)) p3) p4 := by
  unfold xRev at h
  split at h
  · cases h
    exact ⟨_, _, _, _, _, rfl⟩
  · cases h
/-- list(range(a, b)) -/
def xLrg : Expr → Option (Str × Str × Expr × Expr)
  | .Call (.Name l _) [.Call (.Name r _) [a, b] [] _] [] _ => some (l, r, a, b)
  | _ => none
theorem xLrg_eq {e a b : Expr} {l r : Str} (h : xLrg e = some (l, r, a, b)) : ∃ p1 p2 p3 p4, e = .Call (.Name l p1) [.Call (.Name r p2) [a, b] [] p3] [] p4 := by
  unfold xLrg at h
  split at h
  · cases h
    exact ⟨_, _, _, _, rfl⟩
  · cases h
/-- sorted(set(a)) -/
def xSst : Expr → Option (Str × Str × Expr)
  | .Call (.Name l _) [.Call (.Name r _) [a] [] _] [] _ => some (l, r, a)
  | _ => none
theorem xSst_eq {e a : Expr} {l r : Str} (h : xSst e = some (l, r, a)) : ∃ p1 p2 p3 p4, e = .Call (.Name l p1) [.Call (.Name r p2) [a] [] p3] [] p4 := by
  unfold xSst at h
  split at h
  · cases h
    exact ⟨_, _, _, _, rfl⟩
  · cases h
/-- x == [], x != [] -/
def xNil : Expr → Option (Str × CmpOp)
  | .Compare (.Name x _) [o] [.List [] _] _ => some (x, o)
  | _ => none
theorem xNil_eq {e : Expr} {x : Str} {o : CmpOp} (h : xNil e = some (x, o)) : ∃ p1 p2 p3, e = .Compare (.Name x p1) [o] [.List [] p2] p3 := by
  unfold xNil at h
  split at h
  · cases h
    exact ⟨_, _, _, rfl⟩
  · cases h
theorem xName_eq {e : Expr} {x : Str} (h : xName e = some x) : ∃ p, e = .Name x p := by cases e <;> first | (cases h; exact ⟨_, rfl⟩) | cases h
theorem xConst_eq {e : Expr} {x : Const} (h : xConst e = some x) : ∃ k p, e = .Constant x k p := by cases e <;> first | (cases h; exact ⟨_, _, rfl⟩) | cases h
theorem xBin_eq {e a b : Expr} {o : Operator} (h : xBin e = some (a, o, b)) : ∃ p, e = .BinOp a o b p := by cases e <;> first | (cases h; exact ⟨_, rfl⟩) | cases h
theorem xUn_eq {e a : Expr} {o : UnaryOp} (h : xUn e = some (o, a)) : ∃ p, e = .UnaryOp o a p := by cases e <;> first | (cases h; exact ⟨_, rfl⟩) | cases h
theorem xBool_eq {e : Expr} {o : BoolOp} {a : List Expr} {p : Pos} (h : xBool e = some (o, a, p)) : e = .BoolOp o a p := by cases e <;> first | (cases h; rfl) | cases h
theorem xIf_eq {e c a b : Expr} (h : xIf e = some (c, a, b)) : ∃ p, e = .IfExp c a b p := by cases e <;> first | (cases h; exact ⟨_, rfl⟩) | cases h
theorem xCmp_eq {e a : Expr} {os : List CmpOp} {bs : List Expr} (h : xCmp e = some (a, os, bs)) : ∃ p, e = .Compare a os bs p := by cases e <;> first | (cases h; exact ⟨_, rfl⟩) | cases h
theorem xTup_eq {e : Expr} {es : List Expr} (h : xTup e = some es) : ∃ k p, e = .Tuple es k p := by cases e <;> first | (cases h; exact ⟨_, _, rfl⟩) | cases h
theorem xLst_eq {e : Expr} {es : List Expr} (h : xLst e = some es) : ∃ p, e = .List es p := by cases e <;> first | (cases h; exact ⟨_, rfl⟩) | cases h
theorem xDict_eq {e : Expr} {ks : List (Option Expr)} {vs : List Expr} (h : xDict e = some (ks, vs)) : ∃ p, e = .Dict ks vs p := by cases e <;> first | (cases h; exact ⟨_, rfl⟩) | cases h
theorem xSub_eq {e a b : Expr} (h : xSub e = some (a, b)) : ∃ p, e = .Subscript a b p := by cases e <;> first | (cases h; exact ⟨_, rfl⟩) | cases h
theorem xSlice_eq {e : Expr} {a b c : Option Expr} (h : xSlice e = some (a, b, c)) : ∃ p, e = .Slice a b c p := by cases e <;> first | (cases h; exact ⟨_, rfl⟩) | cases h
theorem xCall_eq {e f : Expr} {a : List Expr} {k : List Keyword} {p : Pos} (h : xCall e = some (f, a, k, p)) : e = .Call f a k p := by cases e <;> first | (cases h; rfl) | cases h
theorem xAttr_eq {e o : Expr} {n : Str} {p : Pos} (h : xAttr e = some (o, n, p)) : e = .Attribute o n p := by cases e <;> first | (cases h; rfl) | cases h
theorem xLc_eq {e x : Expr} {g : List Comprehension} {s : Scope} {p : Pos} (h : xLc e = some (x, g, s, p)) : e = .ListComp x g s p := by cases e <;> first | (cases h; rfl) | cases h
def constB : Const → D → Bool
  | .none, .non => true
  | .bool a, .bl b => a == b
  | .int a, .int b => decide (a = b)
  | .str a, .str b => decide (a = b)
  | _, _ => false
def bopB : Operator → Bop → Bool
  | .Add, .add => true
  | .Sub, .sub => true
  | .Mult, .mul => true
  | .FloorDiv, .fdiv => true
  | .Mod, .mod => true
  | .Pow, .pow => true
  | _, _ => false
def copOf : Cop → CmpOp
  | .eq => .Eq
  | .ne => .NotEq
  | .lt => .Lt
  | .le => .LtE
  | .gt => .Gt
  | .ge => .GtE
  | .is => .Is
  | .isnot => .IsNot
  | .inn => .In
  | .notin => .NotIn
def biName : Bi → Str
  | .len => "len"
  | .abs => "abs"
  | .min2 => "min"
  | .max2 => "max"
  | .all => "all"
  | .any => "any"
  | .sum => "sum"
  | .tuple => "tuple"
  | .list => "list"
  | .sorted => "sorted"
  | _ => ""
def mtName : Mt → Str
  | .get2 => "get"
  | .count => "count"
  | .index => "index"
  | _ => ""
def tyStr : Ty → Str
  | .int => "int"
  | .bool => "bool"
  | .str => "str"
  | .tuple => "tuple"
  | .list => "list"
  | .vale => "ValueError"
  | .cls _ => ""
/-- the built-in names that a text may use -/
def bltNames : List Str := ["len", "abs", "min", "max", "all", "any", "sum", "tuple", "list", "range", "zip", "enumerate", "isinstance", "int", "bool", "str", "ValueError", "sorted", "set", "dict"]
def isiC (T : Tb) (t : Ty) (y : Str) : Bool := match t with
  | .cls k => decide (T.cls[k]? = some y)
  | _ => decide (y = tyStr t) && decide (y ∈ bltNames)
def keysB : List (Option Expr) → List Str → Bool
  | [], [] => true
  | some e :: r, k :: ks => (match xConst e with
    | some (.str x) => decide (x = k) && keysB r ks
    | _ => false)
  | _, _ => false
def ownOf (N : List Str) (p : Pat) : List (Str × Nat) := (slotsP p).map fun i => (N.getD i "", i)
mutual
def chkP (N : List Str) (fnB : Str → Bool) (sc : Scope) : Expr → Pat → Bool
  | e, .nm i => (match xName e with
    | some x => decide (N[i]? = some x) && locB fnB sc x
    | none => false)
  | e, .tp ps => (match xTup e with
    | some es => chkPs N fnB sc es ps
    | none => false)
def chkPs (N : List Str) (fnB : Str → Bool) (sc : Scope) : List Expr → List Pat → Bool
  | [], [] => true
  | e :: es, p :: ps => plainE e && (chkP N fnB sc e p && chkPs N fnB sc es ps)
  | _, _ => false
end
def xLam : Expr → Option (Arguments × Expr × Scope)
  | .Lambda params body scope _ => some (params, body, scope)
  | _ => none
theorem xLam_eq {e : Expr} {a : Arguments} {b : Expr} {sc : Scope} (h : xLam e = some (a, b, sc)) : ∃ p, e = .Lambda a b sc p := by cases e <;> first | (cases h; exact ⟨_, rfl⟩) | cases h
/-- no parameter at all -/
def noPar : Arguments → Bool
  | ⟨[], [], none, [], [], none, []⟩ => true
  | _ => false
theorem noPar_eq {a : Arguments} (h : noPar a = true) : a = ⟨[], [], none, [], [], none, []⟩ := by
  unfold noPar at h
  split at h
  · rfl
  · cases h
mutual
def chkE (T : Tb) (N : List Str) : IE → (Str → Bool) → Scope → Expr → Bool
  | .var i, _, sc, e => (match xName e with
    | some x => decide (N[i]? = some x) && (visB sc x && nmOk x)
    | none => false)
  | .cst d, _, _, e => (match xConst e with
    | some c => constB c d
    | none => false)
  | .glo n, _, sc, e => (match xName e with
    | some x => decide (T.cst[n]? = some x) && (glB sc x && nmOk x)
    | none => false)
  | .gfn f, _, sc, e => (match xName e with
    | some x => decide (T.fns[f]? = some x) && (glB sc x && nmOk x)
    | none => false)
  | .bin op a b, fb, sc, e => (match xBin e with
    | some (x, o, y) => bopB o op && (chkE T N a fb sc x && chkE T N b fb sc y)
    | none => false)
  | .neg a, fb, sc, e => (match xUn e with
    | some (.USub, x) => chkE T N a fb sc x
    | _ => false)
  | .nt a, fb, sc, e => (match xUn e with
    | some (.Not, x) => chkE T N a fb sc x
    | _ => false)
  | .and a b, fb, sc, e => (match xBool e with
    | some (.And, x :: y :: r, pos) => chkE T N a fb sc x && (match r with
      | [] => chkE T N b fb sc y
      | _ :: _ => chkE T N b fb sc (.BoolOp .And (y :: r) pos))
    | _ => false)
  | .or a b, fb, sc, e => (match xBool e with
    | some (.Or, x :: y :: r, pos) => chkE T N a fb sc x && (match r with
      | [] => chkE T N b fb sc y
      | _ :: _ => chkE T N b fb sc (.BoolOp .Or (y :: r) pos))
    | _ => false)
  | .ite c a b, fb, sc, e => (match xIf e with
    | some (z, x, y) => chkE T N c fb sc z && (chkE T N a fb sc x && chkE T N b fb sc y)
    | none => false)
  | .cmp op a b, fb, sc, e => (match xCmp e with
    | some (x, [o], [y]) => decide (o = copOf op) && (plainE y && (chkE T N a fb sc x && chkE T N b fb sc y))
    | _ => false)
  | .cmp2 p q a b c, fb, sc, e => (match xCmp e with
    | some (x, [o, o'], [y, z]) => decide (o = copOf p) && (decide (o' = copOf q) && (plainE z && (chkE T N a fb sc x && (chkE T N b fb sc y && chkE T N c fb sc z))))
    | _ => false)
  | .tup es, fb, sc, e => (match xTup e with
    | some xs => decide (xs.length ≤ 1000) && chkL T N es fb sc xs
    | none => false)
  | .lst es, fb, sc, e => (match xLst e with
    | some xs => decide (xs.length ≤ 1000) && chkL T N es fb sc xs
    | none => false)
  | .dic ks es, fb, sc, e => (match xDict e with
    | some (kx, vx) => keysB kx ks && (decide (ks.Nodup) && (decide (ks ≠ []) && (decide (ks.length ≤ 15) && (decide (kx.length = vx.length) && chkL T N es fb sc vx))))
    | none => false)
  | .idx a i, fb, sc, e => (match xSub e with
    | some (x, y) => plainE y && (chkE T N a fb sc x && chkE T N i fb sc y)
    | none => false)
  | .slc a lo hi, fb, sc, e => (match xSub e with
    | some (x, y) => (match xSlice y with
      | some (l, h, none) => chkE T N a fb sc x && (chkO T N lo fb sc l && chkO T N hi fb sc h)
      | _ => false)
    | none => false)
  | .rev a, fb, sc, e => (match xRev e with
    | some x => chkE T N a fb sc x
    | none => false)
  | .call f es, fb, sc, e => (T.cold && (match xCall e with
    | some (g, xs, [], _) => (match xName g with
      | some x => (decide (T.fns[f]? = some x) && decide (xs.length = T.ar.getD f 0)) && (glB sc x && (nmOk x && (decide (xs ≠ []) && chkL T N es fb sc xs)))
      | none => false)
    | _ => false))
  | .callv fs g es, fb, sc, e => (T.cold && (match xCall e with
    | some (gx, xs, [], _) => (match xSub gx with
      | some _ => (fs.all fun f => decide (f < T.fns.length) && decide (xs.length = T.ar.getD f 0)) && (chkE T N g fb sc gx && (decide (xs ≠ []) && chkL T N es fb sc xs))
      | none => false)
    | _ => false))
  | .bi b es, fb, sc, e => (T.cold && (match xCall e with
    | some (g, xs, [], _) => (match xName g with
      | some x => decide (x = biName b) && (decide (x ∈ bltNames) && (glB sc x && (nmOk x && (decide (xs ≠ []) && chkL T N es fb sc xs))))
      | none => false)
    | _ => false))
  | .mt m a es, fb, sc, e => (match xCall e with
    | some (g, xs, [], cpos) => (match xAttr g with
      | some (o, n, apos) => (decide (n = mtName m) && decide (n ≠ ("" : Str))) && (recvE o && ((apos.endLine == cpos.line) && (decide (xs.length < 20) && (decide (xs ≠ []) && (chkE T N a fb sc o && chkL T N es fb sc xs)))))
      | none => false)
    | _ => false)
  | .isi a t, fb, sc, e => (match xCall e with
    | some (g, [x, c], [], _) => (match xName g, xName c with
      | some n, some y => decide (n = ("isinstance" : Str)) && (glB sc n && (glB sc y && (nmOk y && (plainE x && (chkE T N a fb sc x && isiC T t y)))))
      | _, _ => false)
    | _ => false)
  | .lc elt p it ifs, fb, sc, e => (T.cold && (match xLc e with
    | some (x, [⟨tg, iter, xi, as_⟩], scope, _) => decide (as_ = 0) && (plainE iter && (blkC N sc scope (ownOf N p) && (chkP N (fun y => scope.names.lookup y == some .cell) (relS scope sc) tg p &&
        (chkI T N it fb sc tg iter && (chkF T N ifs (fun y => scope.names.lookup y == some .cell) (relS scope sc) xi && chkE T N elt (fun y => scope.names.lookup y == some .cell) (relS scope sc) x)))))
    | _ => false))
  | .lam _ _, _, _, _ => false
  | .oidx i x, fb, sc, e => (match xSub e with
    | some (o, y) => (match xName o with
      | some z => decide (N[i]? = some z) && (visB sc z && (nmOk z && (plainE y && chkE T N x fb sc y)))
      | none => false)
    | none => false)
  | .olen i, _, sc, e => (match xCall e with
    | some (g, [o], [], _) => (match xName g, xName o with
      | some x, some z => decide (x = ("len" : Str)) && (glB sc x && (decide (N[i]? = some z) && (visB sc z && nmOk z)))
      | _, _ => false)
    | _ => false)
  | .oemp i, _, sc, e => (match xNil e with
    | some (z, p) => decide (p = .Eq) && (decide (N[i]? = some z) && (visB sc z && nmOk z))
    | none => false)
  | .onem i, _, sc, e => (match xNil e with
    | some (z, p) => decide (p = .NotEq) && (decide (N[i]? = some z) && (visB sc z && nmOk z))
    | none => false)
  | .nope, _, _, _ => true
  | .lrg a b, fb, sc, e => (T.cold && (match xLrg e with
    | some (l, r, x, y) => (decide (l = ("list" : Str)) && decide (r = ("range" : Str))) && ((glB sc l && glB sc r) && ((plainE x && plainE y) && (chkE T N a fb sc x && chkE T N b fb sc y)))
    | none => false))
  | .sst a, fb, sc, e => (T.cold && (match xSst e with
    | some (l, r, x) => (decide (l = ("sorted" : Str)) && decide (r = ("set" : Str))) && ((glB sc l && glB sc r) && (plainE x && chkE T N a fb sc x))
    | none => false))
  | .oidx2 i x y, fb, sc, e => (match xSub e with
    | some (o, v) => (match xSub o with
      | some (n, u) => (match xName n with
        | some z => decide (N[i]? = some z) && (visB sc z && (nmOk z && ((plainE u && plainE v) && (chkE T N x fb sc u && chkE T N y fb sc v))))
        | none => false)
      | none => false)
    | none => false)
  | .told w c b, fb, sc, e => ((T.cold && T.here) && (match xCall e with
    | some (g, [x], [], _) => (match xName g, xLam x with
      | some n, some (params, body, scope) => decide (T.tld = some (n, w, c)) && (glB sc n && (nmOk n && (LamX.lamSB sc scope && (noPar params && chkE { T with here := false, cold := true } N b (fun _ => false) scope body))))
      | _, _ => false)
    | _ => false))
def chkL (T : Tb) (N : List Str) : IEs → (Str → Bool) → Scope → List Expr → Bool
  | .nil, _, _, xs => xs.isEmpty
  | .cons e r, fb, sc, xs => (match xs with
    | [] => false
    | x :: t => plainE x && (chkE T N e fb sc x && chkL T N r fb sc t))
def chkO (T : Tb) (N : List Str) : IEs → (Str → Bool) → Scope → Option Expr → Bool
  | .nil, _, _, x => x.isNone
  | .cons e _, fb, sc, x => (match x with
    | none => false
    | some y => chkE T N e fb sc y)
def chkF (T : Tb) (N : List Str) : IEs → (Str → Bool) → Scope → List Expr → Bool
  | .nil, _, _, xs => xs.isEmpty
  | .cons e _, fb, sc, xs => (match xs with
    | [x] => chkE T N e fb sc x
    | _ => false)
def chkI (T : Tb) (N : List Str) : II → (Str → Bool) → Scope → Expr → Expr → Bool
  | .seq a, fb, sc, _, e => chkE T N a fb sc e
  | .rng1 a, fb, sc, _, e => (match xCall e with
    | some (g, [x], [], _) => (match xName g with
      | some n => decide (n = ("range" : Str)) && (glB sc n && (plainE x && chkE T N a fb sc x))
      | none => false)
    | _ => false)
  | .rng2 a b, fb, sc, _, e => (match xCall e with
    | some (g, [x, y], [], _) => (match xName g with
      | some n => decide (n = ("range" : Str)) && (glB sc n && (plainE x && (plainE y && (chkE T N a fb sc x && chkE T N b fb sc y))))
      | none => false)
    | _ => false)
  | .zip2 a b, fb, sc, tg, e => (match xCall e with
    | some (g, [x, y], [], _) => (match xName g with
      | some n => decide (n = ("zip" : Str)) && (glB sc n && ((xTup tg).isSome && (plainE x && (plainE y && (chkE T N a fb sc x && chkE T N b fb sc y)))))
      | none => false)
    | _ => false)
  | .zip3 a b c, fb, sc, tg, e => (match xCall e with
    | some (g, [x, y, z], [], _) => (match xName g with
      | some n => decide (n = ("zip" : Str)) && (glB sc n && ((xTup tg).isSome && ((plainE x && (plainE y && (plainE z && true))) && (chkE T N a fb sc x && (chkE T N b fb sc y && chkE T N c fb sc z)))))
      | none => false)
    | _ => false)
  | .enum a, fb, sc, tg, e => (match xCall e with
    | some (g, [x], [], _) => (match xName g with
      | some n => decide (n = ("enumerate" : Str)) && (glB sc n && ((xTup tg).isSome && (plainE x && chkE T N a fb sc x)))
      | none => false)
    | _ => false)
  | .items _, _, _, _, _ => false
  | .values _, _, _, _, _ => false
end
end FD
namespace FD
open PySem PySem.Spec PyProof.Rows L2 L2H
variable [Tbls]
/-- what a def promises, by data -/
def spD (G : Gt) (n : Nat) (r : List D → R D) : Sp := fun vs H Q E => vs.length = n ∧ ∃ O ds, OkO O H ∧ DvL G (hid H O) ds vs ∧ (match r ds with
  | .ok d => ∀ v H', Stp H H' → Dv G (hid H' O) d v → Q v H'
  | .exc c => ∀ H', Stp H H' → E (.ref (G.cls c)) none H'
  | .bad => False)
/-- the body of the def that calls the lambda it gets -/
def toldB (T : Tb) (w c : Nat) (sg : Scope) (a en : Str) (bg : List Stmt) : Bool := match bg with
  | [.Try [.Return (some (.Call (.Name a' _) [] [] _)) _] [.ExceptHandler (some (.Name ce _)) (some en') [.Return (some (.Call (.Name wn _) [.Name en'' _] [] _)) _] _] [] [] _] =>
    decide (a' = a) && (decide (en' = en) && (decide (en'' = en) && (decide (T.cls[c]? = some ce) && (decide (T.fns[w]? = some wn) && (glB sg ce && (glB sg wn && (nmOk ce && (nmOk wn && (nmOk a && (nmOk en && (visB sg a && decide (sg.names.lookup en = some .local))))))))))))
  | _ => false
theorem toldB_eq {T : Tb} {w c : Nat} {sg : Scope} {a en : Str} {bg : List Stmt} (h : toldB T w c sg a en bg = true) : ∃ ce wn p1 p2 p3 p4 p5 p6 p7 p8 p9 p10, bg = [.Try [.Return (some (.Call (.Name a p1) [] [] p2)) p3] [.ExceptHandler (some (.Name ce p4)) (some en) [.Return (some (.Call (.Name wn p5) [.Name en p6] [] p7)) p8] p9] [] [] p10] ∧
    T.cls[c]? = some ce ∧ T.fns[w]? = some wn ∧ glB sg ce = true ∧ glB sg wn = true ∧ nmOk ce = true ∧ nmOk wn = true ∧ nmOk a = true ∧ nmOk en = true ∧ visB sg a = true ∧ sg.names.lookup en = some .local := by
  unfold toldB at h
  split at h
  · rename_i a' p1 p2 p3 ce p4 en' wn p5 en'' p6 p7 p8 p9 p10
    simp only [Bool.and_eq_true, decide_eq_true_eq] at h
    obtain ⟨rfl, rfl, rfl, h1, h2, h3, h4, h5, h6, h7, h8, h9, h10⟩ := h
    exact ⟨ce, wn, p1, p2, p3, p4, p5, p6, p7, p8, p9, p10, rfl, h1, h2, h3, h4, h5, h6, h7, h8, h9, h10⟩
  · cases h
/-- the module's part, as the walk needs it -/
structure MdOk (T : Tb) (G : Gt) (o : Out) (k : Nat) (X : Cx) : Prop where
  hK : G.K = X.K
  hw : G.w = X.w
  fn : ∀ (n i : Nat) (x : Str), T.fns[i]? = some x → X.mg x = some (.ref (G.fns i)) ∧ PySem.W.keepIn X.K (.ref (G.fns i)) = true ∧
    ∃ (fd : FuncData) (ps : List Str), ps.length = T.ar.getD i 0 ∧ Binds X.K fd ps [] ∧ FnOk X.prog X.w X.K X.mg X.base (L2.CX X.prog X.w) (k - n) (G.fns i) fd ps (spD G ps.length ((lowN n o).call i))
  cst : ∀ (i : Nat) (x : Str) (d : D), T.cst[i]? = some x → o.cst[i]? = some d → ∃ u v, X.mg x = some u ∧ RelV v u ∧ ∀ H, Dv G H d v
  free : ∀ x ∈ bltNames, X.mg x = none
  cls : ∀ (c : Nat) (x : Str), T.cls[c]? = some x → X.mg x = some (.ref (G.cls c))
  exc : ∀ (c : Nat), c < T.cls.length → excB X.K (G.cls c) = true
  sub : ∀ (c d : Nat), c < T.cls.length → d < T.cls.length → PySem.W.kitOne X.K (.ref (G.cls c)) (.ref (G.cls d)) = some (o.sub c d)
  exm : ∀ (c d : Nat), c < T.cls.length → d < T.cls.length → PySem.W.exmOne X.K (.ref (G.cls c)) (.ref (G.cls d)) = some (o.sub c d)
  vale : ∀ (c : Nat), c < T.cls.length → PySem.W.kitOne X.K (.ref (G.cls c)) (.type "ValueError") = some true
  mkx : ∀ (c : Nat), c < T.cls.length → PySem.W.excIn X.K (G.cls c) [.type "ValueError", .type "Exception", .type "BaseException", .type "object"] "ValueError.__new__" = true ∧ PySem.W.keepIn X.K (.ref (G.cls c)) = true ∧
    PySem.W.subIn X.K (.ref (G.cls c)) (.type "BaseException") = some true ∧ PySem.W.typeIn X.K (.ref (G.cls c)) = some (.type "type")
  nc : G.nc = T.cls.length
  onc : o.nc = T.cls.length
  deep : ∀ (n : Nat) (d : D), (lowN n o).call 999 [] = .ok d → n < k
  tld : ∀ (x : Str) (w c : Nat), T.tld = some (x, w, c) → ∃ (ga : Addr) (pg : Arguments) (bg : List Stmt) (sg : Scope) (fd : FuncData) (a en : Str), X.mg x = some (.ref ga) ∧ FunD X.K x x pg bg sg [] [] ga fd ∧ Binds X.K fd [a] [] ∧ FnScope [a, en] [a] sg ∧ toldB T w c sg a en bg = true
  hot : ∀ (n : Nat) (x : Str) (w c : Nat), T.tld = some (x, w, c) → ∃ (fd : FuncData) (ps : List Str), ps.length = 1 ∧ Binds X.K fd ps [] ∧ FnC X.prog X.w X.K X.mg X.base (L2.CX X.prog X.w) (k - n) (G.fns w) fd ps (spD G 1 ((lowN n o).call w))
/-- the table of code objects of the def that is run -/
def LamAt (X : Cx) : Prop := ∃ c P, LamX.TabB X.base X.mg c P ∧ X.env.code = .ref c ∧ (P, X.env.qual ++ "<lambda>") ∈ (Tbls.tab : List (Addr × Str)) ∧ ∀ p ∈ (Tbls.tab : List (Addr × Str)), p.1 = P → p.2 = X.env.qual ++ "<lambda>"
structure Good (T : Tb) (G : Gt) (o : Out) (k : Nat) (N : List Str) (fb : Str → Bool) (sc : Scope) (X : Cx) (W : WX) : Prop where
  md : MdOk T G o k X
  hN : X.N = N
  nd : N.Nodup
  sc : X.env.scope = sc
  fb : ∀ x, fb x = true → X.fn x = true
  calm : T.cold = true → X.calm = true
  roomC : T.cold = true → Room k X.A
  room : RoomH k X.A
  tk : Takes X W
  own : PassesOwn (model X.prog X.w) X.A X.env X.xe
  lam : T.here = true → LamAt X
theorem Good.units {T : Tb} {G : Gt} {o : Out} {k : Nat} {N : List Str} {fb : Str → Bool} {sc : Scope} {X : Cx} {W : WX} (g : Good T G o k N fb sc X W) : X.A.units + 64 < cLine := by
  have := g.room.un
  omega
section
variable {T : Tb} {G : Gt} {o : Out} {k : Nat} {N : List Str} {fb : Str → Bool} {sc : Scope} {X : Cx} {W : WX}
theorem vis_of (g : Good T G o k N fb sc X W) {x : Str} (h : visB sc x = true) : Vis X.env.scope x := by
  rw [g.sc]
  unfold visB at h
  split at h <;> first | exact .inl (by assumption) | exact .inr (.inl (by assumption)) | exact .inr (.inr (by assumption)) | cases h
theorem gl_of (g : Good T G o k N fb sc X W) {x : Str} (h : glB sc x = true) : Gl X x := by
  show X.env.scope.names.lookup x = some .globalImplicit
  rw [g.sc]
  unfold glB at h
  split at h
  · assumption
  · cases h
theorem nm1 {x : Str} (h : nmOk x = true) : (x == ("__debug__" : Str)) = false := by
  unfold nmOk at h
  simp only [Bool.and_eq_true, Bool.not_eq_true'] at h
  exact h.1
theorem nm2 {x : Str} (h : nmOk x = true) : (x == ("__classdict__" : Str)) = false := by
  unfold nmOk at h
  simp only [Bool.and_eq_true, Bool.not_eq_true'] at h
  exact h.2.1
theorem nm3 {x : Str} (h : nmOk x = true) : x ≠ "__name__" := by
  unfold nmOk at h
  simp only [Bool.and_eq_true, Bool.not_eq_true'] at h
  intro e
  have := h.2.2
  rw [e] at this
  simp at this
theorem star1 {e : Expr} {es : List Expr} {env : PySem.Env} (h : plainE e = true) : starEach (e :: es) env = (false, eval e env) :: starEach es env := by
  cases e <;> first | rfl | (cases h)
theorem fold1 {e : Expr} {env : PySem.Env} (h : plainE e = true) : ∀ x, foldedSetIterable e env x = pure x := by
  cases e <;> first | (intro _; rfl) | (cases h)
theorem mark1 {e : Expr} (op : CmpOp) (h : plainE e = true) : behindInMarks op e = false := by
  cases e <;> first | rfl | (cases h)
theorem mark2 {e a : Expr} (op p : CmpOp) (h : plainE e = true) : lastMarks [p, op] [a, e] = false := mark1 op h
theorem slice1 {e : Expr} (h : plainE e = true) : PlainIx e := by
  intro ov iv
  cases e <;> first | rfl | (cases h)
theorem base1 {e : Expr} {f : Str} {env : PySem.Env} (h : recvE e = true) : attributeBase e f env (eval e env) = eval e env := by
  cases e with
  | Call g a kws p =>
    cases g with
    | Name x q =>
      cases a with
      | nil =>
        cases kws with
        | nil => cases h
        | cons _ _ => rfl
      | cons _ _ => rfl
    | _ => rfl
  | _ => rfl
def allPlain : List Expr → Bool
  | [] => true
  | e :: r => plainE e && allPlain r
theorem stars {env : PySem.Env} {pos : Pos} : ∀ {es : List Expr}, allPlain es = true → (backTo pos (starEach es env)).any (·.1) = false
  | [], _ => rfl
  | e :: r, h => by
    have h' : (plainE e && allPlain r) = true := h
    rw [Bool.and_eq_true] at h'
    rw [star1 h'.1]
    show (false || (backTo pos (starEach r env)).any (·.1)) = false
    rw [stars h'.2]
    rfl
theorem starsAll {env : PySem.Env} {pos : Pos} : ∀ {es : List Expr}, allPlain es = true → (backTo pos (starEach es env)).all (fun x => !x.1) = true
  | [], _ => rfl
  | e :: r, h => by
    have h' : (plainE e && allPlain r) = true := h
    rw [Bool.and_eq_true] at h'
    rw [star1 h'.1]
    show (true && (backTo pos (starEach r env)).all (fun x => !x.1)) = true
    rw [starsAll h'.2]
    rfl
theorem chkL_plain : ∀ {es : IEs} {xs : List Expr}, chkL T N es fb sc xs = true → allPlain xs = true
  | .nil, xs, h => by
    cases xs with
    | nil => rfl
    | cons _ _ => cases h
  | .cons e r, xs, h => by
    cases xs with
    | nil => cases h
    | cons x t =>
      have h' : (plainE x && (chkE T N e fb sc x && chkL T N r fb sc t)) = true := h
      simp only [Bool.and_eq_true] at h'
      show (plainE x && allPlain t) = true
      rw [h'.1, chkL_plain h'.2.2]
      rfl
theorem chkL_len : ∀ {es : IEs} {xs : List Expr}, chkL T N es fb sc xs = true → ∀ {o : Out} {ρ : Env} {ds : List D}, evL o es ρ = .ok ds → ds.length = xs.length
  | .nil, xs, h, o, ρ, ds, e => by
    cases xs with
    | nil =>
      cases e
      rfl
    | cons _ _ => cases h
  | .cons e r, xs, h, o, ρ, ds, q => by
    cases xs with
    | nil => cases h
    | cons x t =>
      have h' : (plainE x && (chkE T N e fb sc x && chkL T N r fb sc t)) = true := h
      simp only [Bool.and_eq_true] at h'
      have q' : (evE o e ρ).bind (fun x => (evL o r ρ).bind fun xs => .ok (x :: xs)) = .ok ds := q
      cases e1 : evE o e ρ with
      | exc c => rw [e1] at q'; cases q'
      | bad => rw [e1] at q'; cases q'
      | ok y =>
        rw [e1] at q'
        have q2 : (evL o r ρ).bind (fun xs => R.ok (y :: xs)) = .ok ds := q'
        cases e2 : evL o r ρ with
        | exc c => rw [e2] at q2; cases q2
        | bad => rw [e2] at q2; cases q2
        | ok ys =>
          rw [e2] at q2
          cases q2
          exact congrArg (· + 1) (chkL_len h'.2.2 e2)
theorem od_bin (g : Good T G o k N fb sc X W) {p : Operator} {op : Bop} (h : bopB p op = true) : OpR X (binaryOp p) (rD G (binEv op)) := by
  cases p <;> cases op <;> first | exact absurd (show false = true from h) Bool.false_ne_true | exact od_add g.md.hK.symm | exact od_sub | exact od_mul g.md.hK | exact od_fdiv | exact od_mod | exact od_pow
theorem od_cmp (g : Good T G o k N fb sc X W) (op : Cop) : OpR X (compareOp (copOf op)) (rD G (cmpEv op)) := by
  have hu := g.units
  have hu1 : X.A.units + 66 < cLine := by
    have := g.room.un
    omega
  cases op with
  | eq => exact od_eq hu g.md.hK
  | ne => exact od_ne hu g.md.hK
  | lt => exact od_ord hu g.md.hK .lt
  | le => exact od_ord hu g.md.hK .le
  | gt => exact od_ord hu g.md.hK .gt
  | ge => exact od_ord hu g.md.hK .ge
  | is => exact od_is
  | isnot => exact od_isnot
  | inn => exact od_in hu1 g.md.hK g.md.hw
  | notin => exact od_notin hu1 g.md.hK g.md.hw
theorem grd_ok {α : Type} {c : Bool} {r : R α} {a : α} (h : guard' c r = .ok a) : r = .ok a := by
  cases c with
  | true => exact h
  | false => cases h
theorem cmp_bl {op : Cop} {a b d : D} (h : cmpEv op a b = .ok d) : ∃ t, d = .bl t := by
  have ord : ∀ p, ordEv p a b = .ok d → ∃ t, d = .bl t := fun p h => by
    have h1 := grd_ok h
    cases e : ordD p a b with
    | none => rw [e] at h1; cases h1
    | some t => rw [e] at h1; cases h1; exact ⟨_, rfl⟩
  have gen : ∀ {c : Bool} {t : Bool}, guard' c (R.ok (D.bl t)) = .ok d → ∃ t, d = .bl t := fun h => by
    have h1 := grd_ok h
    cases h1
    exact ⟨_, rfl⟩
  cases op with
  | eq =>
    cases a with
    | scr ns =>
      cases b with
      | lst ys =>
        cases ys with
        | nil => cases h; exact ⟨_, rfl⟩
        | cons _ _ => cases h
      | _ => cases h
    | dic kvs => exact @gen (eqOk (.dic kvs) b) (eqv (.dic kvs) b) h
    | exc c => exact @gen (eqOk (.exc c) b) (eqv (.exc c) b) h
    | fn c => exact @gen (eqOk (.fn c) b) (eqv (.fn c) b) h
    | clo c l => exact @gen (eqOk (.clo c l) b) (eqv (.clo c l) b) h
    | non => exact @gen (eqOk .non b) (eqv .non b) h
    | bl c => exact @gen (eqOk (.bl c) b) (eqv (.bl c) b) h
    | int c => exact @gen (eqOk (.int c) b) (eqv (.int c) b) h
    | str c => exact @gen (eqOk (.str c) b) (eqv (.str c) b) h
    | tup c => exact @gen (eqOk (.tup c) b) (eqv (.tup c) b) h
    | lst c => exact @gen (eqOk (.lst c) b) (eqv (.lst c) b) h
  | ne => exact gen h
  | lt => exact ord .lt h
  | le => exact ord .le h
  | gt => exact ord .gt h
  | ge => exact ord .ge h
  | is =>
    have h' : (match isD a b with | some x => R.ok (D.bl x) | none => .bad) = .ok d := h
    cases e : isD a b with
    | none => rw [e] at h'; cases h'
    | some t => rw [e] at h'; cases h'; exact ⟨_, rfl⟩
  | isnot =>
    have h' : (match isD a b with | some x => R.ok (D.bl (!x)) | none => .bad) = .ok d := h
    cases e : isD a b with
    | none => rw [e] at h'; cases h'
    | some t => rw [e] at h'; cases h'; exact ⟨_, rfl⟩
  | inn =>
    cases b <;> first | (cases h; done) | exact gen h | skip
    · cases a <;> first | (cases h; done) | exact gen h
    · cases a <;> first | (cases h; done) | (cases h; exact ⟨_, rfl⟩)
  | notin =>
    cases b <;> first | (cases h; done) | exact gen h | skip
    · cases a <;> first | (cases h; done) | exact gen h
    · cases a <;> first | (cases h; done) | (cases h; exact ⟨_, rfl⟩)
theorem noexc_ok {α : Type} {r : R α} {a : α} (h : noexc r = .ok a) : r = .ok a := by
  cases r with
  | ok b => exact h
  | exc c => cases h
  | bad => cases h
theorem bind_ok {α β : Type} {r : R α} {f : α → R β} {b : β} (h : r.bind f = .ok b) : ∃ a, r = .ok a ∧ f a = .ok b := by
  cases r with
  | ok a => exact ⟨a, rfl, h⟩
  | exc c => cases h
  | bad => cases h
theorem cmpE_bl {op : Cop} {a b : IE} {o : Out} {ρ : Env} {d : D} (h : evE o (.cmp op a b) ρ = .ok d) : ∃ t, d = .bl t := by
  obtain ⟨x, _, h⟩ := bind_ok (show (evE o a ρ).bind (fun x => (evE o b ρ).bind fun y => noexc (cmpEv op x y)) = .ok d from h)
  obtain ⟨y, _, h⟩ := bind_ok h
  exact cmp_bl (noexc_ok h)
theorem cmp2E_bl {p q : Cop} {a b c : IE} {o : Out} {ρ : Env} {d : D} (h : evE o (.cmp2 p q a b c) ρ = .ok d) : ∃ t, d = .bl t := by
  obtain ⟨x, _, h⟩ := bind_ok (show (evE o a ρ).bind (fun x => (evE o b ρ).bind fun y => (noexc (cmpEv p x y)).bind fun t => match t with
    | .bl k => (match k with
      | true => (evE o c ρ).bind fun z => noexc (cmpEv q y z)
      | false => .ok (.bl false))
    | _ => .bad) = .ok d from h)
  obtain ⟨y, _, h⟩ := bind_ok h
  obtain ⟨t, ht, h⟩ := bind_ok h
  obtain ⟨k, rfl⟩ := cmp_bl (noexc_ok ht)
  cases k with
  | false =>
    cases h
    exact ⟨_, rfl⟩
  | true =>
    obtain ⟨z, _, h⟩ := bind_ok h
    exact cmp_bl (noexc_ok h)
theorem pe_bi (g : Good T G o k N fb sc X W) (hcl : T.cold = true) {b : Bi} {x : Str} {p pos : Pos} {e : Expr} {es : List Expr} {f : Env → R (List D)} (hx : x = biName b) (hb : x ∈ bltNames) (hg : glB sc x = true) (hn : nmOk x = true) (ha : PA X (e :: es) (tDA G W f)) (hp : allPlain (e :: es) = true) :
    PE X (.Call (.Name x p) (e :: es) [] pos) (tD G W fun ρ => (f ρ).bind fun xs => noexc (biEv b xs)) := by
  have h' : (plainE e && allPlain es) = true := hp
  rw [Bool.and_eq_true] at h'
  have fin : ∀ σ H Q, tD G W (fun ρ => (f ρ).bind fun xs => noexc (biEv b xs)) σ H Q → tCB (rBD G (biEv b)) (tDA G W f) σ H Q := fun σ H Q h => by
    obtain ⟨O, ρ, rep, q⟩ := h
    exact ⟨O, ρ, rep, q.bind.imp fun ds H1 s1 f1 vs hvs => ⟨O, ds, (rep.mono s1).ok, hvs, finV_of f1⟩⟩
  have B : ∀ {id : String}, CallR X (.builtin id) (rBD G (biEv b)) → bootBuiltins x = some (.builtin id) → PE X (.Call (.Name x p) (e :: es) [] pos) (tD G W fun ρ => (f ρ).bind fun xs => noexc (biEv b xs)) := fun hc hv =>
    pe_imp (pe_callB hc (gl_of g hg) (g.md.free x hb) hv ha (nm3 hn) (nm1 hn) (star1 h'.1) (stars h'.2)) fin
  have BT : ∀ {id : String}, CallR X (.type id) (rBD G (biEv b)) → bootBuiltins x = some (.type id) → PE X (.Call (.Name x p) (e :: es) [] pos) (tD G W fun ρ => (f ρ).bind fun xs => noexc (biEv b xs)) := fun hc hv =>
    pe_imp (pe_callTy hc (gl_of g hg) (g.md.free x hb) hv ha (nm3 hn) (nm1 hn) (star1 h'.1) (stars h'.2)) fin
  cases b with
  | len => exact B (od_len g.md.hK) (by rw [hx]; decide +kernel)
  | abs => exact B od_abs (by rw [hx]; decide +kernel)
  | min2 => exact B (od_min2 (g.calm hcl) g.units g.md.hK) (by rw [hx]; decide +kernel)
  | max2 => exact B (od_max2 (g.calm hcl) g.units g.md.hK) (by rw [hx]; decide +kernel)
  | all => exact B (od_all (g.calm hcl)) (by rw [hx]; decide +kernel)
  | any => exact B (od_any (g.calm hcl)) (by rw [hx]; decide +kernel)
  | sum => exact B (od_sum (g.calm hcl)) (by rw [hx]; decide +kernel)
  | tuple => exact BT (od_tuple g.md.hK) (by rw [hx]; decide +kernel)
  | list => exact BT (od_list g.md.hK) (by rw [hx]; decide +kernel)
  | sorted =>
    have hun := g.room.un
    exact B (od_sorted g.md.hK (by omega)) (by rw [hx]; decide +kernel)
  | _ => exact pe_imp (pe_callB (od_len g.md.hK) (gl_of g hg) (g.md.free x hb) (by subst hx; exact absurd hb (by decide +kernel)) ha (nm3 hn) (nm1 hn) (star1 h'.1) (stars h'.2)) (fun σ H Q h => by subst hx; exact absurd hb (by decide +kernel))
end
end FD
namespace FD
open PySem PySem.Spec PyProof.Rows L2
variable [Tbls]
section
variable {T : Tb} {G : Gt} {o : Out} {k : Nat} {N : List Str} {fb : Str → Bool} {sc : Scope} {X : Cx} {W : WX}
theorem fin_at {α : Type} {r : R α} {σ : L2.St} {H : Hp} {Q : α → Hp → Prop} {a : α} (f : Fin G W r σ H Q) (e : r = .ok a) : Q a H := by
  rw [e] at f
  exact f.at_
theorem pt_ifE {c a b : Expr} {pos : Pos} {tc ta tb : TT} (hc : PT X c tc) (ha : PT X a ta) (hb : PT X b tb) :
    PT X (.IfExp c a b pos) (fun σ H Q => tc σ H fun z H1 => if z = true then ta σ H1 Q else tb σ H1 Q) := by
  refine ⟨fun pins s σ H Q I h => ?_⟩
  show wpAny _ _ (isTrue c X.env (eval c X.env) >>= fun z => if z = true then isTrue a X.env (eval a X.env) else isTrue b X.env (eval b X.env)) _ _ _
  refine wpAny_bind (thn (hc.run pins s σ H _ I h) fun d s1 ⟨H1, I1, q1⟩ => ?_)
  cases d with
  | true => exact ha.run pins s1 σ H1 Q I1 q1
  | false => exact hb.run pins s1 σ H1 Q I1 q1
/-- where the method's name leads, by the datum -/
theorem ty_dic (hK : G.K = X.K) (hw : G.w = X.w) {O : List Addr} {kvs : List (Str × D)} {x : V} {v : Value} {pins : List (Addr × Obj)} {σ : L2.St} {H : Hp} {s : Shared} (I : Inv X pins σ H s) (r : RelV x v) (h : Dv G (hid H O) (.dic kvs) x) :
    s.TypeIs v "dict" ∧ ∀ a, v = .ref a → ∃ ob, s.heap.get? a = some ob ∧ ob.dict = none := by
  obtain ⟨a, us, rfl, h1, h2⟩ := h
  rcases h1 with h1 | ⟨⟨es, n, kd⟩, _⟩
  · exact tyV_is I r (.inr (.inr (.inl ⟨rfl, .inl ⟨_, hid_full _ _ h1⟩⟩)))
  · cases r
    rw [hK, hw] at kd
    refine ⟨kd_type kd I, fun b e => ?_⟩
    cases e
    exact ⟨_, I.kIn _ _ kd.at_, rfl⟩
theorem ty_lst {O : List Addr} {ds : List D} {x : V} {v : Value} {pins : List (Addr × Obj)} {σ : L2.St} {H : Hp} {s : Shared} (I : Inv X pins σ H s) (r : RelV x v) (h : Dv G (hid H O) (.lst ds) x) :
    s.TypeIs v "list" ∧ ∀ a, v = .ref a → ∃ ob, s.heap.get? a = some ob ∧ ob.dict = none := by
  obtain ⟨a, us, rfl, h1, h2⟩ := h
  exact tyV_is I r (.inl ⟨rfl, us, SqL.of (hid_full _ _ h1)⟩)
theorem fin_grd {α : Type} {c : Bool} {r : R α} {σ : L2.St} {H : Hp} {Q : α → Hp → Prop} (f : Fin G W (guard' c r) σ H Q) : c = true ∧ Fin G W r σ H Q := by
  cases c with
  | true => exact ⟨rfl, f⟩
  | false => exact f.elim
theorem pe_mt1 (g : Good T G o k N fb sc X W) {id ty : String} {name : Str} {apos cpos : Pos} {ob e : Expr} {es : List Expr} {c : D → Bool} {h : D → List D → R D} {fa : Env → R D} {f : Env → R (List D)}
    (pa : PlainAttrs ty) (slot : Slot ty name id) (hty : typeOf (.builtin id) = pure (.type "method_descriptor")) (hm : MtR X id (rMD G h))
    (isT : ∀ {O : List Addr} {a : D} {x : V} {v : Value} {pins : List (Addr × Obj)} {σ : L2.St} {H : Hp} {s : Shared}, c a = true → Inv X pins σ H s → RelV x v → Dv G (hid H O) a x → s.TypeIs v ty ∧ ∀ a, v = .ref a → ∃ ob, s.heap.get? a = some ob ∧ ob.dict = none)
    (ho : PE X ob (tD G W fa)) (ha : PA X (e :: es) (tDA G W f)) (hr : recvE ob = true) (hline : (apos.endLine == cpos.line) = true) (hn : (e :: es).length < 20) (hp : allPlain (e :: es) = true) :
    PE X (.Call (.Attribute ob name apos) (e :: es) [] cpos) (tD G W fun ρ => (fa ρ).bind fun x => guard' (c x) ((f ρ).bind fun xs => noexc (h x xs))) := by
  have h' : (plainE e && allPlain es) = true := hp
  rw [Bool.and_eq_true] at h'
  refine ⟨fun pins s σ H Q I hq => ?_⟩
  obtain ⟨O, ρ, rep, q⟩ := hq
  dsimp only at q
  have hfew : ((backTo cpos (starEach (e :: es) X.env)).all (fun x => !x.1) && (backToKw cpos (keywordEach [] X.env)).all (fun x => x.1.isSome)
      && decide ((e :: es).length + ([] : List Keyword).length + (if ([] : List Keyword).isEmpty then 0 else 1) < 30)) = true := by
    rw [starsAll hp]
    have z : (e :: es).length < 30 := by omega
    simp only [Bool.true_and, Bool.and_eq_true]
    exact ⟨rfl, decide_eq_true z⟩
  have hv : tD G W fa σ H fun x H1 => ∃ a, Stp H H1 ∧ Dv G (hid H1 O) a x ∧ Fin G W (guard' (c a) ((f ρ).bind fun xs => noexc (h a xs))) σ H1 fun d H' => ∀ v, Dv G (hid H' O) d v → Q v H' :=
    ⟨O, ρ, rep, q.bind.imp fun a H1 s1 f1 x hx => ⟨a, s1, hx, f1⟩⟩
  refine wpAny_Call_method_late (base1 hr) hfew hline rfl (thn (ho.run pins s σ H _ I hv) fun v s1 ⟨x, H1, I1, r1, a, sm, hx, q1⟩ => ?_)
  obtain ⟨hc, q2⟩ := fin_grd q1
  obtain ⟨h1, h2⟩ := isT hc I1 r1 hx
  refine ⟨ty, id, pa, slot, hty, h1, h2, ?_⟩
  have hA := ha.run cpos pins s1 σ H1 (fun xs H2 => rMD G h x xs H2 Q) I1 ⟨O, ρ, rep.mono sm, q2.bind.imp fun ds H2 s2 f2 vs hvs => ⟨O, a, ds, (rep.mono (sm.trans s2)).ok, dv_mono (hid_mono s2.ext) a x hx, hvs, finV_of f2⟩⟩
  rw [star1 h'.1] at hA ⊢
  refine Calls.callWith_builtin (by show (false || (backTo cpos (starEach es X.env)).any (·.1)) = false; rw [stars h'.2] <;> rfl) (Calls.evalArgs_plain ?_)
  exact thn hA fun us s2 ⟨vs, H2, I2, r2, q2⟩ => hm pins s2 σ H2 x vs v us Q I2 r1 r2 q2
theorem pe_mt (g : Good T G o k N fb sc X W) {m : Mt} {name : Str} {apos cpos : Pos} {ob e : Expr} {es : List Expr} {fa : Env → R D} {f : Env → R (List D)} (hx : name = mtName m) (h0 : name ≠ ("" : Str))
    (ho : PE X ob (tD G W fa)) (ha : PA X (e :: es) (tDA G W f)) (hr : recvE ob = true) (hline : (apos.endLine == cpos.line) = true) (hn : (e :: es).length < 20) (hp : allPlain (e :: es) = true) :
    PE X (.Call (.Attribute ob name apos) (e :: es) [] cpos) (tD G W fun ρ => (fa ρ).bind fun x => guard' (mtOk m x) ((f ρ).bind fun xs => noexc (mtEv m x xs))) := by
  have hu := g.units
  have hu1 : X.A.units + 1 < cLine := by omega
  have lst : ∀ {c : D → Bool}, (∀ a, c a = true → ∃ ds, a = .lst ds) → ∀ {O : List Addr} {a : D} {x : V} {v : Value} {pins : List (Addr × Obj)} {σ : L2.St} {H : Hp} {s : Shared}, c a = true → Inv X pins σ H s → RelV x v → Dv G (hid H O) a x → s.TypeIs v "list" ∧ ∀ a, v = .ref a → ∃ ob, s.heap.get? a = some ob ∧ ob.dict = none := fun hc _ _ _ _ _ _ _ _ h I r d => by
    obtain ⟨ds, rfl⟩ := hc _ h
    exact ty_lst I r d
  have isl : ∀ a : D, (match a with | .lst _ => true | _ => false) = true → ∃ ds, a = .lst ds := fun a h => by
    cases a <;> first | exact ⟨_, rfl⟩ | cases h
  cases m with
  | get2 =>
    rw [hx]
    refine pe_mt1 g (c := mtOk .get2) PySem.F.plainAttrs_dict PySem.F.slot_dict_get PySem.F.type_dict_get (od_get2 hu1 g.md.hK g.md.hw) (fun {_ a} _ _ _ _ _ _ h I r d => ?_) ho ha hr hline hn hp
    cases a <;> first | exact ty_dic g.md.hK g.md.hw I r d | cases h
  | count =>
    rw [hx]
    exact pe_mt1 g (c := mtOk .count) PySem.F.plainAttrs_list PySem.F.slot_list_count PySem.F.type_list_count (od_count g.md.hK) (lst isl) ho ha hr hline hn hp
  | index =>
    rw [hx]
    exact pe_mt1 g (c := mtOk .index) PySem.F.plainAttrs_list PySem.F.slot_list_index PySem.F.type_list_index (od_index g.md.hK) (lst isl) ho ha hr hline hn hp
  | _ => exact absurd hx h0
theorem pe_isi (g : Good T G o k N fb sc X W) {t : Ty} {n y : Str} {p q pos : Pos} {x : Expr} {fa : Env → R D} (hn : n = "isinstance") (hg : glB sc n = true) (hy : glB sc y = true) (hny : nmOk y = true) (hp : plainE x = true)
    (ht : isiC T t y = true)
    (ha : PE X x (tD G W fa)) :
    PE X (.Call (.Name n p) [x, .Name y q] [] pos) (tD G W fun ρ => (fa ρ).bind fun a => noexc (isiEv o.sub a t)) := by
  subst hn
  have hgi := gl_of g hg
  have hmi : X.mg "isinstance" = none := g.md.free _ (by decide +kernel)
  have stx : starEach [x, .Name y q] X.env = (false, eval x X.env) :: starEach [.Name y q] X.env := star1 hp
  have fin : ∀ {cv : V} {r : List V → Hp → VK → Prop}, (∀ {O : List Addr} {H : Hp} {Q : VK} {a : D} {v : V}, OkO O H → Dv G (hid H O) a v → FinV G O H (isiEv o.sub a t) Q → r [v, cv] H Q) →
      ∀ σ H Q, tD G W (fun ρ => (fa ρ).bind fun a => noexc (isiEv o.sub a t)) σ H Q → tCB r (tCons (tD G W fa) (tCons (tC cv) tNil)) σ H Q := fun {cv r} hr σ H Q h => by
    obtain ⟨O, ρ, rep, f⟩ := h
    exact ⟨O, ρ, rep, f.bind.imp fun a H1 s1 f1 v hv => hr (rep.mono s1).ok hv (finV_of f1)⟩
  have run : ∀ {cv : V} {r : List V → Hp → VK → Prop}, CallR X (.builtin "isinstance") r → PE X (.Name y q) (tC cv) → (∀ {O : List Addr} {H : Hp} {Q : VK} {a : D} {v : V}, OkO O H → Dv G (hid H O) a v → FinV G O H (isiEv o.sub a t) Q → r [v, cv] H Q) →
      PE X (.Call (.Name "isinstance" p) [x, .Name y q] [] pos) (tD G W fun ρ => (fa ρ).bind fun a => noexc (isiEv o.sub a t)) := fun hc hcv hr =>
    pe_imp (pe_callB hc hgi hmi (by decide +kernel) (pa_cons ha (pa_cons hcv pa_nil rfl) stx) (by decide +kernel) (by decide +kernel) stx rfl) (fin hr)
  have plain : (∀ c, t ≠ .cls c) → t ≠ .vale → y = tyStr t → y ∈ bltNames → bootBuiltins (tyStr t) = some (.type (tyName t)) → PE X (.Call (.Name "isinstance" p) [x, .Name y q] [] pos) (tD G W fun ρ => (fa ρ).bind fun a => noexc (isiEv o.sub a t)) := fun h1 h2 h3 h4 h5 =>
    run (od_isi g.md.hK t o.sub h1 h2) (pe_bltn (v := .ty (tyName t)) (gl_of g hy) (g.md.free _ h4) (by rw [h3]; exact h5) rfl (nm3 hny) (nm1 hny)) (fun ok dv f => ⟨_, _, _, ok, rfl, dv, f⟩)
  have cls : ∀ {cv : V} {cu : Value} (b : Nat → Bool), PE X (.Name y q) (tC cv) → ClsV cv cu → (∀ c, c < T.cls.length → PySem.W.kitOne X.K (.ref (G.cls c)) cu = some (b c)) → (∀ a, isiEv o.sub a t = (match a with | .exc d => R.ok (.bl (b d)) | _ => .bad)) →
      PE X (.Call (.Name "isinstance" p) [x, .Name y q] [] pos) (tD G W fun ρ => (fa ρ).bind fun a => noexc (isiEv o.sub a t)) := fun {cv cu} b hcv hc hk he =>
    run (r := fun xs H Q => ∃ c O x, OkO O H ∧ xs = [x, cv] ∧ Dv G (hid H O) (.exc c) x ∧ Q (.bl (b c)) H)
      (fun pins s σ H xs us Q I r h => by
        obtain ⟨c, O, x, ok, e, dv, q⟩ := h
        have hc' : c < T.cls.length := by rw [← g.md.nc]; exact dv.1
        exact od_isx (g.md.exc c hc') hc (hk c hc') pins s σ H xs us Q I r ⟨O, x, ok, e, dv, q⟩) hcv
      (fun {O H Q a v} ok dv f => by
        rw [he] at f
        cases a with
        | exc c => exact ⟨c, O, v, ok, rfl, dv, f.ok (Stp.refl H) rfl⟩
        | _ => exact f.elim)
  cases t with
  | cls c =>
    have hT : T.cls[c]? = some y := of_decide_eq_true ht
    have hlt : c < T.cls.length := by
      rcases Nat.lt_or_ge c T.cls.length with h | h
      · exact h
      · rw [List.getElem?_eq_none h] at hT
        cases hT
    exact cls (cv := .ref (G.cls c)) (cu := .ref (G.cls c)) (fun d => o.sub d c) (pe_glob (gl_of g hy) (g.md.cls c y hT) rfl (nm1 hny)) (.own _) (fun d hd => g.md.sub d c hd hlt) (fun a => by cases a <;> rfl)
  | vale =>
    have h2 := (Bool.and_eq_true _ _).mp ht
    have h3 : y = "ValueError" := of_decide_eq_true h2.1
    exact cls (cv := .ty "ValueError") (cu := .type "ValueError") (fun _ => true) (pe_bltn (v := .ty "ValueError") (gl_of g hy) (g.md.free _ (of_decide_eq_true h2.2)) (by rw [h3]; decide +kernel) rfl (nm3 hny) (nm1 hny)) (.ty _) (fun d hd => g.md.vale d hd) (fun a => by cases a <;> rfl)
  | int =>
    have h2 := (Bool.and_eq_true _ _).mp ht
    exact plain (fun _ e => by cases e) (fun e => by cases e) (of_decide_eq_true h2.1) (of_decide_eq_true h2.2) (by decide +kernel)
  | bool =>
    have h2 := (Bool.and_eq_true _ _).mp ht
    exact plain (fun _ e => by cases e) (fun e => by cases e) (of_decide_eq_true h2.1) (of_decide_eq_true h2.2) (by decide +kernel)
  | str =>
    have h2 := (Bool.and_eq_true _ _).mp ht
    exact plain (fun _ e => by cases e) (fun e => by cases e) (of_decide_eq_true h2.1) (of_decide_eq_true h2.2) (by decide +kernel)
  | tuple =>
    have h2 := (Bool.and_eq_true _ _).mp ht
    exact plain (fun _ e => by cases e) (fun e => by cases e) (of_decide_eq_true h2.1) (of_decide_eq_true h2.2) (by decide +kernel)
  | list =>
    have h2 := (Bool.and_eq_true _ _).mp ht
    exact plain (fun _ e => by cases e) (fun e => by cases e) (of_decide_eq_true h2.1) (of_decide_eq_true h2.2) (by decide +kernel)
def sx (kvs : List (Str × V)) : List (Key × V) := kvs.map fun p => (Sum.inr p.1, p.2)
theorem valV_none {x : Str} : ∀ {kvs : List (Str × V)}, (∀ p ∈ kvs, p.1 ≠ x) → valV (sx kvs) (Sum.inr x) = none
  | [], _ => rfl
  | p :: r, h => by
    have e : ¬ ((Sum.inr p.1 : Key) = Sum.inr x) := fun z => h p (List.mem_cons_self ..) (Sum.inr.inj z)
    exact (valV_neg (p := ((Sum.inr p.1 : Key), p.2)) e).trans (valV_none fun q hq => h q (List.mem_cons_of_mem _ hq))
theorem merge_sx : ∀ (kvs acc : List (Str × V)), (∀ p ∈ kvs, ∀ q ∈ acc, q.1 ≠ p.1) → (kvs.map (·.1)).Nodup → mergeK (sx acc) (sx kvs) = sx (acc ++ kvs)
  | [], acc, _, _ => by rw [List.append_nil]; rfl
  | p :: r, acc, h, nd => by
    show mergeK (putK (sx acc) (Sum.inr p.1) p.2) (sx r) = _
    rw [putK_new _ (valV_none (h p (List.mem_cons_self ..)))]
    have e : sx acc ++ [((Sum.inr p.1 : Key), p.2)] = sx (acc ++ [p]) := by
      unfold sx
      rw [List.map_append]
      rfl
    rw [e]
    have nd' := List.nodup_cons.mp nd
    rw [merge_sx r (acc ++ [p]) (fun q hq a ha => ?_) nd'.2, List.append_assoc]
    · rfl
    · rcases List.mem_append.mp ha with ha | ha
      · exact h q (List.mem_cons_of_mem _ hq) a ha
      · rcases List.mem_singleton.mp ha with rfl
        intro z
        exact nd'.1 (List.mem_map.mpr ⟨q, hq, z.symm⟩)
def trsOf (G : Gt) (W : WX) : List Str → List (Env → R D) → List (TE × TE)
  | k :: ks, f :: fs => (tC (.str k), tD G W f) :: trsOf G W ks fs
  | _, _ => []
def runAll : List (Env → R D) → Env → R (List D)
  | [], _ => .ok []
  | f :: fs, ρ => (f ρ).bind fun x => (runAll fs ρ).bind fun xs => .ok (x :: xs)
theorem i_pairs {O : List Addr} {σ : L2.St} {ρ : Env} : ∀ (ks : List Str) (fs : List (Env → R D)) (H : Hp) (Q : List (V × V) → Hp → Prop), ks.length = fs.length → Rep G O ρ σ H →
    Fin G W (runAll fs ρ) σ H (fun ds H' => ∀ vs, DvL G (hid H' O) ds vs → Q ((ks.zip vs).map fun p => (V.str p.1, p.2)) H') → tPairs (trsOf G W ks fs) σ H Q
  | [], [], H, Q, _, rep, f => f.at_ [] rfl
  | [], _ :: _, _, _, e, _, _ => by cases e
  | _ :: _, [], _, _, e, _, _ => by cases e
  | k :: ks, g :: fs, H, Q, e, rep, f => by
    have f' : Fin G W ((g ρ).bind fun x => (runAll fs ρ).bind fun xs => .ok (x :: xs)) σ H _ := f
    refine ⟨O, ρ, rep, f'.bind.imp fun d H1 s1 f1 v hv => ?_⟩
    refine i_pairs ks fs H1 _ (Nat.succ.inj e) (rep.mono s1) (f1.bind.imp fun ds H2 s2 f2 vs hvs => ?_)
    exact f2.at_ (v :: vs) ⟨v, vs, rfl, dv_mono (hid_mono s2.ext) d v hv, hvs⟩
theorem dvK_zip {H : Hp} : ∀ (ks : List Str) (ds : List D) (vs : List V), ks.length = ds.length → DvL G H ds vs → DvK G H (ks.zip ds) (ks.zip vs)
  | [], _, _, _, _ => rfl
  | _ :: _, [], _, e, _ => by cases e
  | k :: ks, d :: ds, _, e, h => by
    obtain ⟨v, r, rfl, h1, h2⟩ := h
    exact ⟨v, ks.zip r, rfl, h1, dvK_zip ks ds r (Nat.succ.inj e) h2⟩
theorem runAll_len : ∀ {fs : List (Env → R D)} {ρ : Env} {ds : List D}, runAll fs ρ = .ok ds → ds.length = fs.length
  | [], _, _, h => by cases h; rfl
  | f :: fs, ρ, ds, h => by
    obtain ⟨x, _, h⟩ := bind_ok (show (f ρ).bind (fun x => (runAll fs ρ).bind fun xs => .ok (x :: xs)) = .ok ds from h)
    obtain ⟨xs, e, h⟩ := bind_ok h
    cases h
    exact congrArg (· + 1) (runAll_len e)
theorem Fin.val {α : Type} {r : R α} {σ : L2.St} {H : Hp} {Q : α → Hp → Prop} (h : Fin G W r σ H Q) : Fin G W r σ H fun a H' => r = .ok a ∧ Q a H' := by
  cases r with
  | ok a => exact fun H' s => ⟨rfl, h H' s⟩
  | exc c => exact h
  | bad => exact h.elim
theorem i_dic {ks : List Str} {fs : List (Env → R D)} (hl : ks.length = fs.length) (nd : ks.Nodup) (h15 : ks.length ≤ 15) {σ : L2.St} {H : Hp} {Q : VK} (h : tD G W (fun ρ => (runAll fs ρ).bind fun xs => .ok (.dic (ks.zip xs))) σ H Q) : tDisp (trsOf G W ks fs) σ H Q := by
  obtain ⟨O, ρ, rep, f⟩ := h
  dsimp only at f
  intro p hp
  have hpO : p ∉ O := rep.ok.fresh hp
  have su : Stp H (upd H p (.dK [])) := stp_upd' hp
  have rep1 : Rep G (p :: O) ρ σ (upd H p (.dK [])) := rep.move (hid_cons hp su.ext) (fun q hq => ⟨List.mem_cons_of_mem _ hq, fun vs e => su.ext.l e⟩) ((rep.ok.mono su).cons upd_same (.inr ⟨_, rfl⟩))
  have f1 := (f.bind.st su).val
  refine i_pairs ks fs _ _ hl rep1 (f1.imp fun ds H2 s2 ⟨er, f2⟩ vs hvs => ?_)
  have lv : vs.length = ks.length := (dvL_len hvs).symm.trans ((runAll_len er).trans hl.symm)
  refine ⟨s2.ext.d upd_same, sx (ks.zip vs), by unfold sx; rw [List.map_map]; rfl, by unfold sx; rw [List.length_map, List.length_zip, lv]; omega, ?_⟩
  have s3 : ∀ x, Stp H (upd H2 p x) := fun x => (su.trans s2).own (.none hp) (s2.ext.d upd_same) (.inr ⟨_, rfl⟩)
  rw [er] at f
  have nz : ((ks.zip vs).map (·.1)).Nodup := by
    rw [List.map_fst_zip (by omega)]
    exact nd
  have hm : mergeK [] (sx (ks.zip vs)) = sx (ks.zip vs) := merge_sx (ks.zip vs) [] (fun _ _ _ h => by cases h) nz
  rw [hm]
  have sh : Same (hid H2 (p :: O)) (hid (upd H2 p (.dK (sx (ks.zip vs)))) O) := fun b z e _ => by
    unfold hid at e ⊢
    split at e
    · cases e
    · rename_i hn
      rw [if_neg (fun q => hn (List.mem_cons_of_mem _ q)), upd_ne (fun q => hn (by rw [q]; exact List.mem_cons_self ..))]
      exact e
  refine f _ (s3 _) (.ref p) ⟨p, ks.zip vs, rfl, .inl ?_, dvK_mono sh _ _ (dvK_zip ks ds vs ((runAll_len er).trans hl.symm).symm hvs)⟩
  rw [hid_at hpO]
  exact upd_same
theorem own_at {O : List Addr} {ρ : Env} {σ : L2.St} {H : Hp} (rep : Rep G O ρ σ H) {i : Nat} {ds : List D} (h : getO ρ i = .ok ds) : ∃ p vs, σ[i]? = some (some (.ref p)) ∧ p ∈ O ∧ H p = some (.lst vs) ∧ DvL G (hid H O) ds vs := by
  unfold getO at h
  split at h
  · rename_i es e
    cases h
    have hl : i < ρ.length := by
      rcases Nat.lt_or_ge i ρ.length with h | h
      · exact h
      · rw [List.getElem?_eq_none h] at e
        cases e
    have hs : i < σ.length := by rw [rep.len]; exact hl
    obtain ⟨p, vs, h1, h2, h3, h4⟩ := rep.at_ i _ _ e (List.getElem?_eq_getElem hs)
    exact ⟨p, vs, by rw [List.getElem?_eq_getElem hs, h1], h2, h3, h4⟩
  · cases h
theorem val_at {O : List Addr} {ρ : Env} {σ : L2.St} {H : Hp} (rep : Rep G O ρ σ H) {i : Nat} {d : D} (h : getV ρ i = .ok d) : ∃ v, σ[i]? = some (some v) ∧ Dv G (hid H O) d v := by
  unfold getV at h
  split at h
  · rename_i es e
    cases h
    have hl : i < ρ.length := by
      rcases Nat.lt_or_ge i ρ.length with h | h
      · exact h
      · rw [List.getElem?_eq_none h] at e
        cases e
    have hs : i < σ.length := by rw [rep.len]; exact hl
    obtain ⟨v, h1, h2⟩ := rep.at_ i _ _ e (List.getElem?_eq_getElem hs)
    exact ⟨v, by rw [List.getElem?_eq_getElem hs, h1], h2⟩
  · cases h
theorem fin_val {ρ : Env} {i : Nat} {σ : L2.St} {H : Hp} {Q : D → Hp → Prop} (f : Fin G W (getV ρ i) σ H Q) : ∃ d, getV ρ i = .ok d ∧ Q d H := by
  cases e : getV ρ i with
  | ok d => exact ⟨d, rfl, by rw [e] at f; exact f.at_⟩
  | exc c =>
    unfold getV at e
    split at e <;> cases e
  | bad =>
    rw [e] at f
    exact f.elim
theorem fin_own {α : Type} {ρ : Env} {i : Nat} {g : List D → R α} {σ : L2.St} {H : Hp} {Q : α → Hp → Prop} (f : Fin G W ((getO ρ i).bind g) σ H Q) : ∃ ds, getO ρ i = .ok ds ∧ Fin G W (g ds) σ H Q := by
  cases e : getO ρ i with
  | ok d => exact ⟨d, rfl, by rw [e] at f; exact f⟩
  | exc c =>
    unfold getO at e
    split at e <;> cases e
  | bad =>
    rw [e] at f
    exact f.elim
theorem pe_v (g : Good T G o k N fb sc X W) {i : Nat} {x : Str} {pos : Pos} (h1 : N[i]? = some x) (h2 : visB sc x = true) (h3 : nmOk x = true) : PE X (.Name x pos) (tVar i) :=
  pe_var (by rw [g.hN]; exact h1) (vis_of g h2) (nm1 h3) (nm2 h3)
theorem i_var {i : Nat} {σ : L2.St} {H : Hp} {Q : VK} (h : tD G W (fun ρ => getV ρ i) σ H Q) : tVar i σ H Q := by
  obtain ⟨O, ρ, rep, f⟩ := h
  obtain ⟨d, e, q⟩ := fin_val f
  obtain ⟨v, e1, e2⟩ := val_at rep e
  exact ⟨v, e1, q v e2⟩
theorem hidO {O : List Addr} {H : Hp} {p : Addr} : ∀ {ds : List D} {vs : List V}, H p = some (.lst vs) → DvL G (hid H O) ds vs → Dv G (hid H []) (.lst ds) (.ref p) := fun {ds vs} h1 h2 =>
  ⟨p, vs, rfl, by rw [hid_at (by simp)]; exact h1, dvL_mono (hid_sub (fun _ h => by cases h)) ds vs h2⟩
end
end FD
namespace FD
open PySem PySem.Spec PyProof.Rows L2 L2H
variable [Tbls]
section
variable {T : Tb} {G : Gt} {o : Out} {k : Nat} {N : List Str} {fb : Str → Bool} {sc : Scope} {X : Cx} {W : WX}
theorem pts_imp {es : List Expr} {t t' : TT} (h : PTs X es t) (i : ∀ σ H Q, t' σ H Q → t σ H Q) : PTs X es t' := ⟨fun pins s σ H Q I q => h.run pins s σ H Q I (i σ H Q q)⟩
theorem ee {a b : Bool} (h : (a && b) = true) : a = true ∧ b = true := (Bool.and_eq_true a b).mp h
theorem de {p : Prop} [Decidable p] (h : decide p = true) : p := of_decide_eq_true h
theorem asg1 {e : Expr} {es : List Expr} {env : PySem.Env} (h : plainE e = true) : assignEach (e :: es) env = (false, assign e env) :: assignEach es env := by
  cases e <;> first | rfl | (cases h)
theorem asgs {env : PySem.Env} : ∀ {es : List Expr}, allPlain es = true → (assignEach es env).length = es.length ∧ List.findIdx? (fun x => x.fst) (assignEach es env) = none
  | [], _ => ⟨rfl, rfl⟩
  | e :: r, h => by
    have h' := ee (show (plainE e && allPlain r) = true from h)
    rw [asg1 h'.1]
    have ih := asgs (env := env) h'.2
    refine ⟨congrArg (· + 1) ih.1, ?_⟩
    rw [List.findIdx?_cons, ih.2]
    rfl
theorem chkPs_plain {fnB : Str → Bool} : ∀ {ps : List Pat} {es : List Expr}, chkPs N fnB sc es ps = true → allPlain es = true ∧ es.length = ps.length
  | [], es, h => by
    cases es with
    | nil => exact ⟨rfl, rfl⟩
    | cons _ _ => cases h
  | p :: ps, es, h => by
    cases es with
    | nil => cases h
    | cons e r =>
      have h1 := ee (show (plainE e && (chkP N fnB sc e p && chkPs N fnB sc r ps)) = true from h)
      have ih := chkPs_plain (ee h1.2).2
      refine ⟨?_, congrArg (· + 1) ih.2⟩
      show (plainE e && allPlain r) = true
      rw [h1.1, ih.1]
      rfl
theorem pgN (hN : X.N = N) (nd : N.Nodup) (hsc : X.env.scope = sc) (hfb : ∀ x, fb x = true → X.fn x = true) (i : Nat) (e : Expr) (h : chkP N fb sc e (.nm i) = true) : PG X e (gPat X.K (.nm i)) := by
  have h' : (match xName e with
    | some x => decide (N[i]? = some x) && locB fb sc x
    | none => false) = true := h
  cases q : xName e with
  | none => rw [q] at h'; cases h'
  | some x =>
    rw [q] at h'
    obtain ⟨pos, rfl⟩ := xName_eq q
    obtain ⟨h1, h2⟩ := ee h'
    unfold locB at h2
    split at h2
    · rename_i hl
      rw [← hsc] at hl
      exact pg_name (by rw [hN]; exact nd) (by rw [hN]; exact de h1) (.inl hl) (.inr hl)
    · rename_i hl
      rw [← hsc] at hl
      exact pg_name (by rw [hN]; exact nd) (by rw [hN]; exact de h1) (.inr hl) (.inl (hfb x h2))
    · cases h2
mutual
theorem pgD (hN : X.N = N) (nd : N.Nodup) (hc : X.calm = true) (hsc : X.env.scope = sc) (hfb : ∀ x, fb x = true → X.fn x = true) : ∀ (p : Pat) (e : Expr), chkP N fb sc e p = true → PG X e (gPat X.K p)
  | .nm i, e, h => pgN hN nd hsc hfb i e h
  | .tp ps, e, h => by
    have h' : (match xTup e with
      | some es => chkPs N fb sc es ps
      | none => false) = true := h
    cases q : xTup e with
    | none => rw [q] at h'; cases h'
    | some es =>
      rw [q] at h'
      obtain ⟨kk, pos, rfl⟩ := xTup_eq q
      obtain ⟨h1, h2⟩ := chkPs_plain h'
      obtain ⟨h3, h4⟩ := asgs (env := X.env) h1
      exact pg_ei hc (pgsD hN nd hc hsc hfb ps es h') (h3.trans h2) h4
theorem pgsD (hN : X.N = N) (nd : N.Nodup) (hc : X.calm = true) (hsc : X.env.scope = sc) (hfb : ∀ x, fb x = true → X.fn x = true) : ∀ (ps : List Pat) (es : List Expr), chkPs N fb sc es ps = true → PGs X es (gPats X.K ps)
  | [], es, h => by
    cases es with
    | nil => exact pgs_nil
    | cons _ _ => cases h
  | p :: ps, es, h => by
    cases es with
    | nil => cases h
    | cons e r =>
      have h1 := ee (show (plainE e && (chkP N fb sc e p && chkPs N fb sc r ps)) = true from h)
      exact pgs_cons (pgD hN nd hc hsc hfb p e (ee h1.2).1) (pgsD hN nd hc hsc hfb ps r (ee h1.2).2) (by rw [asg1 h1.1]; rfl)
end
theorem i_cst {d : D} {v : V} (h : ∀ H, Dv G H d v) {σ : L2.St} {H : Hp} {Q : VK} (q : tD G W (fun _ => .ok d) σ H Q) : tC v σ H Q := by
  obtain ⟨O, ρ, rep, f⟩ := q
  exact f.at_ v (h _)
theorem i_slc {fa : Env → R D} {fl fh : Env → R (Option Int)} {tl th : TO} (hl : ∀ O ρ σ H Q, Rep G O ρ σ H → Fin G W (fl ρ) σ H Q → tl σ H Q) (hh : ∀ O ρ σ H Q, Rep G O ρ σ H → Fin G W (fh ρ) σ H Q → th σ H Q) {σ : L2.St} {H : Hp} {Q : VK}
    (h : tD G W (fun ρ => (fa ρ).bind fun x => (fl ρ).bind fun i => (fh ρ).bind fun j => noexc (slcEv x i j)) σ H Q) : tSl (rSD G) (tD G W fa) tl th σ H Q := by
  obtain ⟨O, ρ, rep, f⟩ := h
  refine ⟨O, ρ, rep, f.bind.imp fun a H1 s1 f1 v hv => ?_⟩
  refine hl O ρ σ H1 _ (rep.mono s1) (f1.bind.imp fun i H2 s2 f2 => ?_)
  refine hh O ρ σ H2 _ (rep.mono (s1.trans s2)) (f2.bind.imp fun j H3 s3 f3 => ?_)
  exact ⟨O, a, (rep.mono ((s1.trans s2).trans s3)).ok, dv_mono (hid_mono (s2.trans s3).ext) a v hv, finV_of f3⟩
theorem i_call {n : Nat} {r : List D → R D} {f : Env → R (List D)} (hn : ∀ ρ ds, f ρ = .ok ds → ds.length = n) {σ : L2.St} {H : Hp} {Q : VK} (h : tD G W (fun ρ => (f ρ).bind r) σ H Q) : tCallS (spD G n r) (WE W) (tDA G W f) σ H Q := by
  obtain ⟨O, ρ, rep, q⟩ := h
  dsimp only at q
  refine ⟨O, ρ, rep, q.bind.val.imp fun ds H1 s1 ⟨er, f1⟩ vs hvs => ?_⟩
  refine ⟨(dvL_len hvs).symm.trans (hn ρ ds er), O, ds, (rep.mono s1).ok, hvs, ?_⟩
  cases e : r ds with
  | ok d =>
    rw [e] at f1
    exact fun v H' s hv => f1 H' s v hv
  | exc c =>
    rw [e] at f1
    exact fun H' s => f1 H' s
  | bad =>
    rw [e] at f1
    exact f1.elim
theorem i_oidx {i : Nat} {fx : Env → R D} {σ : L2.St} {H : Hp} {Q : VK} (h : tD G W (fun ρ => (getO ρ i).bind fun ds => (fx ρ).bind fun z => noexc (idxEv (.lst ds) z)) σ H Q) :
    tOp (fun x y H Q => ∃ l xs i v, x = .ref l ∧ y = .int i ∧ SqL X.K H l xs ∧ atI xs i = some v ∧ Q v H) (tVar i) (tD G W fx) σ H Q := by
  obtain ⟨O, ρ, rep, f⟩ := h
  dsimp only at f
  obtain ⟨ds, eo, f⟩ := fin_own f
  obtain ⟨p, vs, e1, e2, e3, e4⟩ := own_at rep eo
  refine ⟨_, e1, O, ρ, rep, f.bind.imp fun z H1 s1 f1 y hy => ?_⟩
  have fv := finV_of (show Fin G W (noexc (idxEv (.lst ds) z)) σ H1 _ from f1)
  cases z with
  | int j =>
    cases hy
    have f' : FinV G O H1 (match place ds.length j with
      | some m => (match ds[m]? with | some d => .ok d | none => .bad)
      | none => .bad) Q := fv
    cases e : place ds.length j with
    | none => rw [e] at f'; exact f'.elim
    | some m =>
      rw [e] at f'
      have f2 : FinV G O H1 (match ds[m]? with | some d => .ok d | none => .bad) Q := f'
      cases g : ds[m]? with
      | none => rw [g] at f2; exact f2.elim
      | some d =>
        rw [g] at f2
        obtain ⟨v, g2, dv⟩ := dvL_get e4 g
        rw [dvL_len e4] at e
        exact ⟨p, vs, j, v, rfl, rfl, .inl (.inl (s1.ext.l e3)), at_of e g2, f2.ok (Stp.refl H1) (dv_mono (hid_mono s1.ext) _ _ dv)⟩
  | _ => exact fv.elim
theorem i_olen {i : Nat} {σ : L2.St} {H : Hp} {Q : VK} (h : tD G W (fun ρ => (getO ρ i).bind fun ds => .ok (.int ds.length)) σ H Q) :
    tCB (fun xs H Q => ∃ p vs, xs = [V.ref p] ∧ SqL X.K H p vs ∧ Q (.int vs.length) H) (tCons (tVar i) tNil) σ H Q := by
  obtain ⟨O, ρ, rep, f⟩ := h
  dsimp only at f
  obtain ⟨ds, eo, f⟩ := fin_own f
  obtain ⟨p, vs, e1, e2, e3, e4⟩ := own_at rep eo
  exact ⟨_, e1, p, vs, rfl, .inl (.inl e3), f.at_ _ (by rw [dvL_len e4]; rfl)⟩
theorem call_olen : CallR X (.builtin "len") (fun xs H Q => ∃ p vs, xs = [V.ref p] ∧ SqL X.K H p vs ∧ Q (.int vs.length) H) :=
  callr_imp (call_len (X := X)) fun xs H Q ⟨p, vs, e, h, q⟩ => ⟨_, vs.length, e, .inl ⟨vs, h, rfl⟩, q⟩
theorem Good.blk (g : Good T G o k N fb sc X W) (s : Shared) (H : Hp) (scope : Scope) (C : Addr) (cl : List (Str × Addr)) (fp : List Addr) :
    Good T G o k N (fun y => scope.names.lookup y == some .cell) (relS scope sc) (X.blk s H scope (compEnvC scope cl C X.env) fp) W0 where
  md := ⟨g.md.hK, g.md.hw, g.md.fn, g.md.cst, g.md.free, g.md.cls, g.md.exc, g.md.sub, g.md.exm, g.md.vale, g.md.mkx, g.md.nc, g.md.onc, g.md.deep, g.md.tld, g.md.hot⟩
  hN := g.hN
  nd := g.nd
  sc := by rw [← g.sc]; rfl
  fb := fun x h => h
  calm := g.calm
  roomC := g.roomC
  room := g.room
  tk := takes0
  own := PassesOwn.never
  lam := g.lam
theorem own_snd {p : Pat} : (ownOf N p).map (fun x => x.snd) = slotsP p := by
  unfold ownOf
  rw [List.map_map]
  exact List.map_id _
structure SndE (T : Tb) (G : Gt) (o : Out) (k : Nat) (N : List Str) (ie : IE) : Prop where
  e : ∀ {fb : Str → Bool} {sc : Scope} {X : Cx} {W : WX}, Good T G o k N fb sc X W → ∀ {e : Expr}, chkE T N ie fb sc e = true → PE X e (tD G W (evE o ie))
  t : ∀ {fb : Str → Bool} {sc : Scope} {X : Cx} {W : WX}, Good T G o k N fb sc X W → ∀ {e : Expr}, chkE T N ie fb sc e = true → PT X e (tDT G W fun ρ => (evE o ie ρ).bind truth)
  w : ∀ {fb : Str → Bool} {sc : Scope} {X : Cx} {W : WX}, Good T G o k N fb sc X W → ∀ {op : BoolOp} {vs : List Expr} {pos : Pos}, chkE T N ie fb sc (.BoolOp op vs pos) = true → PW X (.BoolOp op vs pos) (tDT G W fun ρ => (evE o ie ρ).bind truth)
def fsOf (o : Out) : IEs → List (Env → R D)
  | .nil => []
  | .cons e r => evE o e :: fsOf o r
theorem runAll_eq (o : Out) : ∀ (es : IEs) (ρ : Env), runAll (fsOf o es) ρ = evL o es ρ
  | .nil, _ => rfl
  | .cons e r, ρ => by
    show (evE o e ρ).bind (fun x => (runAll (fsOf o r) ρ).bind fun xs => .ok (x :: xs)) = (evE o e ρ).bind (fun x => (evL o r ρ).bind fun xs => .ok (x :: xs))
    rw [runAll_eq o r ρ]
structure SndL (T : Tb) (G : Gt) (o : Out) (k : Nat) (N : List Str) (es : IEs) : Prop where
  a : ∀ {fb : Str → Bool} {sc : Scope} {X : Cx} {W : WX}, Good T G o k N fb sc X W → ∀ {xs : List Expr}, chkL T N es fb sc xs = true → PA X xs (tDA G W (evL o es))
  po : ∀ {fb : Str → Bool} {sc : Scope} {X : Cx} {W : WX}, Good T G o k N fb sc X W → ∀ {x : Option Expr}, chkO T N es fb sc x = true → ∃ tl, PO X x tl ∧ ∀ O ρ σ H Q, Rep G O ρ σ H → Fin G W (evO o es ρ) σ H Q → tl σ H Q
  f : ∀ {fb : Str → Bool} {sc : Scope} {X : Cx} {W : WX}, Good T G o k N fb sc X W → ∀ {xs : List Expr}, chkF T N es fb sc xs = true → PTs X xs (tDT G W (evF o es))
  p : ∀ {fb : Str → Bool} {sc : Scope} {X : Cx} {W : WX}, Good T G o k N fb sc X W → ∀ {ks : List Str} {kx : List (Option Expr)} {vx : List Expr} {pos : Pos}, keysB kx ks = true → kx.length = vx.length → chkL T N es fb sc vx = true → PPs X pos kx vx (trsOf G W ks (fsOf o es)) ∧ (kx.all fun x => x.isSome) = true ∧ kx.length = ks.length ∧ ks.length = (fsOf o es).length
structure SndI (T : Tb) (G : Gt) (o : Out) (k : Nat) (N : List Str) (ii : II) : Prop where
  i : ∀ {fb : Str → Bool} {sc : Scope} {X : Cx} {W : WX}, Good T G o k N fb sc X W → ∀ {tg e : Expr}, chkI T N ii fb sc tg e = true → PI X tg e (iD G W (evI o ii))
/-- the test of what is no 'and', no comparison .. -/
theorem pt_pl (g : Good T G o k N fb sc X W) {e : Expr} {f : Env → R D} (h : PE X e (tD G W f)) (hs : ∀ whole, isTrue e X.env whole = (whole >>= fun v => standAt e.pos >>= fun _ => holding [v] (truthy v))) : PT X e (tDT G W fun ρ => (f ρ).bind truth) :=
  pt_imp (pt_truth h hs) fun σ H Q q => t_truth g.md.hK q
section
variable {a b c : IE}
theorem s_pl {ie : IE} (he : ∀ {fb : Str → Bool} {sc : Scope} {X : Cx} {W : WX}, Good T G o k N fb sc X W → ∀ {e : Expr}, chkE T N ie fb sc e = true → PE X e (tD G W (evE o ie)) ∧ (∀ whole, isTrue e X.env whole = (whole >>= fun v => standAt e.pos >>= fun _ => holding [v] (truthy v))) ∧ ∀ op vs pos, e ≠ .BoolOp op vs pos) : SndE T G o k N ie where
  e := fun {fb sc X W} g {_} h => (he g h).1
  t := fun {fb sc X W} g {_} h => pt_pl g (he g h).1 (he g h).2.1
  w := fun {fb sc X W} g {_ _ _} h => absurd rfl ((he g h).2.2 _ _ _)
theorem s_var {i : Nat} : SndE T G o k N (.var i) := s_pl fun {fb sc X W} g {e} h => by
  have h' : (match xName e with
    | some x => decide (N[i]? = some x) && (visB sc x && nmOk x)
    | none => false) = true := h
  cases q : xName e with
  | none => rw [q] at h'; cases h'
  | some x =>
    rw [q] at h'
    obtain ⟨pos, rfl⟩ := xName_eq q
    have h1 := ee h'
    have h2 := ee h1.2
    exact ⟨pe_imp (pe_v g (de h1.1) h2.1 h2.2) fun _ _ _ => i_var, fun _ => rfl, fun _ _ _ e => by cases e⟩
theorem s_cst {d : D} : SndE T G o k N (.cst d) := s_pl fun {fb sc X W} g {e} h => by
  have h' : (match xConst e with
    | some c => constB c d
    | none => false) = true := h
  cases q : xConst e with
  | none => rw [q] at h'; cases h'
  | some x =>
    rw [q] at h'
    obtain ⟨kk, pos, rfl⟩ := xConst_eq q
    refine ⟨?_, fun _ => rfl, fun _ _ _ e => by cases e⟩
    have h2 : constB x d = true := h'
    cases x <;> cases d <;> first | (cases h2; done) | skip
    · exact pe_imp pe_non fun _ _ _ q => i_cst (d := .non) (v := .non) (fun _ => rfl) q
    · obtain rfl := eq_of_beq (show (_ == _) = true from h2)
      exact pe_imp pe_bl fun _ _ _ q => i_cst (d := .bl _) (v := .bl _) (fun _ => rfl) q
    · obtain rfl := de h2
      exact pe_imp pe_int fun _ _ _ q => i_cst (d := .int _) (v := .int _) (fun _ => rfl) q
    · obtain rfl := de h2
      exact pe_imp pe_str fun _ _ _ q => i_cst (d := .str _) (v := .str _) (fun _ => rfl) q
theorem s_glo {n : Nat} : SndE T G o k N (.glo n) := s_pl fun {fb sc X W} g {e} h => by
  have h' : (match xName e with
    | some x => decide (T.cst[n]? = some x) && (glB sc x && nmOk x)
    | none => false) = true := h
  cases q : xName e with
  | none => rw [q] at h'; cases h'
  | some x =>
    rw [q] at h'
    obtain ⟨pos, rfl⟩ := xName_eq q
    have h1 := ee h'
    have h2 := ee h1.2
    refine ⟨?_, fun _ => rfl, fun _ _ _ e => by cases e⟩
    cases ed : o.cst[n]? with
    | none =>
      refine ⟨fun pins s σ H Q I q => ?_⟩
      obtain ⟨O, ρ, rep, f⟩ := q
      have f' : Fin G W (match o.cst[n]? with | some d => R.ok d | none => .bad) σ H _ := f
      rw [ed] at f'
      exact f'.elim
    | some d =>
      obtain ⟨u, v, e1, e2, e3⟩ := g.md.cst n x d (de h1.1) ed
      refine pe_imp (pe_glob (gl_of g h2.1) e1 e2 (nm1 h2.2)) fun σ H Q q => ?_
      obtain ⟨O, ρ, rep, f⟩ := q
      have f' : Fin G W (match o.cst[n]? with | some d => R.ok d | none => .bad) σ H _ := f
      rw [ed] at f'
      exact f'.at_ v (e3 _)
theorem s_gfn {n : Nat} : SndE T G o k N (.gfn n) := s_pl fun {fb sc X W} g {e} h => by
  have h' : (match xName e with
    | some x => decide (T.fns[n]? = some x) && (glB sc x && nmOk x)
    | none => false) = true := h
  cases q : xName e with
  | none => rw [q] at h'; cases h'
  | some x =>
    rw [q] at h'
    obtain ⟨pos, rfl⟩ := xName_eq q
    have h1 := ee h'
    have h2 := ee h1.2
    exact ⟨pe_imp (pe_glob (v := .ref (G.fns n)) (gl_of g h2.1) (g.md.fn 0 n x (de h1.1)).1 rfl (nm1 h2.2)) fun _ _ _ q => i_cst (d := .fn n) (v := .ref (G.fns n)) (fun _ => rfl) q, fun _ => rfl, fun _ _ _ e => by cases e⟩
theorem s_bin {op : Bop} (ha : SndE T G o k N a) (hb : SndE T G o k N b) : SndE T G o k N (.bin op a b) := s_pl fun {fb sc X W} g {e} h => by
  have h' : (match xBin e with
    | some (x, p, y) => bopB p op && (chkE T N a fb sc x && chkE T N b fb sc y)
    | none => false) = true := h
  cases q : xBin e with
  | none => rw [q] at h'; cases h'
  | some x =>
    obtain ⟨x, p, y⟩ := x
    rw [q] at h'
    obtain ⟨pos, rfl⟩ := xBin_eq q
    have h1 := ee h'
    have h2 := ee h1.2
    exact ⟨pe_imp (pe_op (od_bin g h1.1) (ha.e g h2.1) (hb.e g h2.2)) fun _ _ _ => i_bin, fun _ => rfl, fun _ _ _ e => by cases e⟩
theorem s_neg (ha : SndE T G o k N a) : SndE T G o k N (.neg a) := s_pl fun {fb sc X W} g {e} h => by
  have h' : (match xUn e with
    | some (.USub, x) => chkE T N a fb sc x
    | _ => false) = true := h
  cases q : xUn e with
  | none => rw [q] at h'; cases h'
  | some x =>
    obtain ⟨p, x⟩ := x
    rw [q] at h'
    obtain ⟨pos, rfl⟩ := xUn_eq q
    cases p <;> first | (cases h'; done) | skip
    exact ⟨pe_imp (pe_un un_neg (ha.e g h')) fun _ _ _ => i_neg, fun _ => rfl, fun _ _ _ e => by cases e⟩
theorem s_nt (ha : SndE T G o k N a) : SndE T G o k N (.nt a) := by
  have key : ∀ {fb : Str → Bool} {sc : Scope} {X : Cx} {W : WX}, Good T G o k N fb sc X W → ∀ {e : Expr}, chkE T N (.nt a) fb sc e = true → ∃ x pos, e = .UnaryOp .Not x pos ∧ chkE T N a fb sc x = true := fun {fb sc X W} g {e} h => by
    have h' : (match xUn e with
      | some (.Not, x) => chkE T N a fb sc x
      | _ => false) = true := h
    cases q : xUn e with
    | none => rw [q] at h'; cases h'
    | some x =>
      obtain ⟨p, x⟩ := x
      rw [q] at h'
      obtain ⟨pos, rfl⟩ := xUn_eq q
      cases p <;> first | (cases h'; done) | skip
      exact ⟨x, pos, rfl, h'⟩
  refine ⟨fun {fb sc X W} g {e} h => ?_, fun {fb sc X W} g {e} h => ?_, fun {fb sc X W} g {op vs pos} h => ?_⟩
  · obtain ⟨x, pos, rfl, h1⟩ := key g h
    exact pe_imp (pe_notT (ha.e g h1)) fun _ _ _ => i_not g.md.hK
  · obtain ⟨x, pos, rfl, h1⟩ := key g h
    exact pt_imp (pt_not (ha.t g h1)) fun _ _ _ => t_not
  · obtain ⟨x, pos, e, h1⟩ := key g h
    cases e
theorem s_and (ha : SndE T G o k N a) (hb : SndE T G o k N b) : SndE T G o k N (.and a b) := by
  have key : ∀ {fb : Str → Bool} {sc : Scope} {e : Expr}, chkE T N (.and a b) fb sc e = true → ∃ x y r pos, e = .BoolOp .And (x :: y :: r) pos ∧ chkE T N a fb sc x = true ∧ (match r with
      | [] => chkE T N b fb sc y
      | _ :: _ => chkE T N b fb sc (.BoolOp .And (y :: r) pos)) = true := fun {fb sc e} h => by
    have h' : (match xBool e with
      | some (.And, x :: y :: r, pos) => chkE T N a fb sc x && (match r with
        | [] => chkE T N b fb sc y
        | _ :: _ => chkE T N b fb sc (.BoolOp .And (y :: r) pos))
      | _ => false) = true := h
    cases q : xBool e with
    | none => rw [q] at h'; cases h'
    | some x =>
      obtain ⟨p, vs, pos⟩ := x
      rw [q] at h'
      obtain rfl := xBool_eq q
      cases p with
      | Or => cases h'
      | And =>
        cases vs with
        | nil => cases h'
        | cons x vs =>
          cases vs with
          | nil => cases h'
          | cons y r => exact ⟨x, y, r, pos, rfl, (ee h').1, (ee h').2⟩
  have pw : ∀ {fb : Str → Bool} {sc : Scope} {X : Cx} {W : WX}, Good T G o k N fb sc X W → ∀ {e : Expr}, chkE T N (.and a b) fb sc e = true → PW X e (tDT G W fun ρ => (evE o (.and a b) ρ).bind truth) := fun {fb sc X W} g {e} h => by
    obtain ⟨x, y, r, pos, rfl, h1, h2⟩ := key h
    cases r with
    | nil => exact pw_imp (pw_and (ha.t g h1) (pw_and1 (hb.t g h2))) fun _ _ _ => t_and
    | cons z r => exact pw_imp (pw_and (ha.t g h1) (hb.w g h2)) fun _ _ _ => t_and
  refine ⟨fun {fb sc X W} g {e} h => ?_, fun {fb sc X W} g {e} h => (pw g h).pt, fun {fb sc X W} g {op vs pos} h => pw g h⟩
  obtain ⟨x, y, r, pos, rfl, h1, h2⟩ := key h
  cases r with
  | nil => exact pe_imp (pe_andT (ha.e g h1) (pe_one (hb.e g h2))) fun _ _ _ => i_and g.md.hK
  | cons z r => exact pe_imp (pe_andT (ha.e g h1) (hb.e g h2)) fun _ _ _ => i_and g.md.hK
theorem s_or (ha : SndE T G o k N a) (hb : SndE T G o k N b) : SndE T G o k N (.or a b) := by
  have key : ∀ {fb : Str → Bool} {sc : Scope} {e : Expr}, chkE T N (.or a b) fb sc e = true → ∃ x y r pos, e = .BoolOp .Or (x :: y :: r) pos ∧ chkE T N a fb sc x = true ∧ (match r with
      | [] => chkE T N b fb sc y
      | _ :: _ => chkE T N b fb sc (.BoolOp .Or (y :: r) pos)) = true := fun {fb sc e} h => by
    have h' : (match xBool e with
      | some (.Or, x :: y :: r, pos) => chkE T N a fb sc x && (match r with
        | [] => chkE T N b fb sc y
        | _ :: _ => chkE T N b fb sc (.BoolOp .Or (y :: r) pos))
      | _ => false) = true := h
    cases q : xBool e with
    | none => rw [q] at h'; cases h'
    | some x =>
      obtain ⟨p, vs, pos⟩ := x
      rw [q] at h'
      obtain rfl := xBool_eq q
      cases p with
      | And => cases h'
      | Or =>
        cases vs with
        | nil => cases h'
        | cons x vs =>
          cases vs with
          | nil => cases h'
          | cons y r => exact ⟨x, y, r, pos, rfl, (ee h').1, (ee h').2⟩
  have pw : ∀ {fb : Str → Bool} {sc : Scope} {X : Cx} {W : WX}, Good T G o k N fb sc X W → ∀ {e : Expr}, chkE T N (.or a b) fb sc e = true → PW X e (tDT G W fun ρ => (evE o (.or a b) ρ).bind truth) := fun {fb sc X W} g {e} h => by
    obtain ⟨x, y, r, pos, rfl, h1, h2⟩ := key h
    cases r with
    | nil => exact pw_imp (pw_or (ha.t g h1) (pw_or1 (hb.t g h2))) fun _ _ _ => t_or
    | cons z r => exact pw_imp (pw_or (ha.t g h1) (hb.w g h2)) fun _ _ _ => t_or
  refine ⟨fun {fb sc X W} g {e} h => ?_, fun {fb sc X W} g {e} h => (pw g h).pt, fun {fb sc X W} g {op vs pos} h => pw g h⟩
  obtain ⟨x, y, r, pos, rfl, h1, h2⟩ := key h
  cases r with
  | nil => exact pe_imp (pe_orT (ha.e g h1) (pe_one (hb.e g h2))) fun _ _ _ => i_or g.md.hK
  | cons z r => exact pe_imp (pe_orT (ha.e g h1) (hb.e g h2)) fun _ _ _ => i_or g.md.hK
theorem s_ite (hc : SndE T G o k N c) (ha : SndE T G o k N a) (hb : SndE T G o k N b) : SndE T G o k N (.ite c a b) := by
  have key : ∀ {fb : Str → Bool} {sc : Scope} {e : Expr}, chkE T N (.ite c a b) fb sc e = true → ∃ z x y pos, e = .IfExp z x y pos ∧ chkE T N c fb sc z = true ∧ chkE T N a fb sc x = true ∧ chkE T N b fb sc y = true := fun {fb sc e} h => by
    have h' : (match xIf e with
      | some (z, x, y) => chkE T N c fb sc z && (chkE T N a fb sc x && chkE T N b fb sc y)
      | none => false) = true := h
    cases q : xIf e with
    | none => rw [q] at h'; cases h'
    | some x =>
      obtain ⟨z, x, y⟩ := x
      rw [q] at h'
      obtain ⟨pos, rfl⟩ := xIf_eq q
      exact ⟨z, x, y, pos, rfl, (ee h').1, (ee (ee h').2).1, (ee (ee h').2).2⟩
  refine ⟨fun {fb sc X W} g {e} h => ?_, fun {fb sc X W} g {e} h => ?_, fun {fb sc X W} g {op vs pos} h => ?_⟩
  · obtain ⟨z, x, y, pos, rfl, h1, h2, h3⟩ := key h
    exact pe_imp (pe_ifExp (hc.t g h1) (ha.e g h2) (hb.e g h3)) fun _ _ _ => i_ite
  · obtain ⟨z, x, y, pos, rfl, h1, h2, h3⟩ := key h
    exact pt_imp (pt_ifE (hc.t g h1) (ha.t g h2) (hb.t g h3)) fun _ _ _ => t_ite
  · obtain ⟨z, x, y, pos, e, _⟩ := key h
    cases e
theorem s_cmp {op : Cop} (ha : SndE T G o k N a) (hb : SndE T G o k N b) : SndE T G o k N (.cmp op a b) := by
  have key : ∀ {fb : Str → Bool} {sc : Scope} {e : Expr}, chkE T N (.cmp op a b) fb sc e = true → ∃ x y pos, e = .Compare x [copOf op] [y] pos ∧ plainE y = true ∧ chkE T N a fb sc x = true ∧ chkE T N b fb sc y = true := fun {fb sc e} h => by
    have h' : (match xCmp e with
      | some (x, [p], [y]) => decide (p = copOf op) && (plainE y && (chkE T N a fb sc x && chkE T N b fb sc y))
      | _ => false) = true := h
    cases q : xCmp e with
    | none => rw [q] at h'; cases h'
    | some x =>
      obtain ⟨x, os, ys⟩ := x
      rw [q] at h'
      obtain ⟨pos, rfl⟩ := xCmp_eq q
      cases os with
      | nil => cases h'
      | cons p os =>
        cases os with
        | cons _ _ => cases h'
        | nil =>
          cases ys with
          | nil => cases h'
          | cons y ys =>
            cases ys with
            | cons _ _ => cases h'
            | nil =>
              have h1 := ee h'
              have h2 := ee h1.2
              have h3 := ee h2.2
              obtain rfl := de h1.1
              exact ⟨x, y, pos, rfl, h2.1, h3.1, h3.2⟩
  refine ⟨fun {fb sc X W} g {e} h => ?_, fun {fb sc X W} g {e} h => ?_, fun {fb sc X W} g {op vs pos} h => ?_⟩
  · obtain ⟨x, y, pos, rfl, h1, h2, h3⟩ := key h
    exact pe_imp (pe_cmpR (od_cmp g op) (ha.e g h2) (hb.e g h3) (mark1 _ h1)) fun _ _ _ => i_bin
  · obtain ⟨x, y, pos, rfl, h1, h2, h3⟩ := key h
    exact pt_imp (pt_cmpR (od_cmp g op) (ha.e g h2) (hb.e g h3) (mark1 _ h1)) fun _ _ _ => t_bool (fun _ => i_bin) fun ρ d e => cmpE_bl e
  · obtain ⟨x, y, pos, e, _⟩ := key h
    cases e
theorem s_cmp2 {p q : Cop} (ha : SndE T G o k N a) (hb : SndE T G o k N b) (hc : SndE T G o k N c) : SndE T G o k N (.cmp2 p q a b c) := by
  have key : ∀ {fb : Str → Bool} {sc : Scope} {e : Expr}, chkE T N (.cmp2 p q a b c) fb sc e = true → ∃ x y z pos, e = .Compare x [copOf p, copOf q] [y, z] pos ∧ plainE z = true ∧ chkE T N a fb sc x = true ∧ chkE T N b fb sc y = true ∧ chkE T N c fb sc z = true := fun {fb sc e} h => by
    have h' : (match xCmp e with
      | some (x, [p1, p2], [y, z]) => decide (p1 = copOf p) && (decide (p2 = copOf q) && (plainE z && (chkE T N a fb sc x && (chkE T N b fb sc y && chkE T N c fb sc z))))
      | _ => false) = true := h
    cases qq : xCmp e with
    | none => rw [qq] at h'; cases h'
    | some x =>
      obtain ⟨x, os, ys⟩ := x
      rw [qq] at h'
      obtain ⟨pos, rfl⟩ := xCmp_eq qq
      match os, ys, h' with
      | [p1, p2], [y, z], h' =>
        have h1 := ee h'
        have h2 := ee h1.2
        have h3 := ee h2.2
        have h4 := ee h3.2
        have h5 := ee h4.2
        obtain rfl := de h1.1
        obtain rfl := de h2.1
        exact ⟨x, y, z, pos, rfl, h3.1, h4.1, h5.1, h5.2⟩
  refine ⟨fun {fb sc X W} g {e} h => ?_, fun {fb sc X W} g {e} h => ?_, fun {fb sc X W} g {op vs pos} h => ?_⟩
  · obtain ⟨x, y, z, pos, rfl, h1, h2, h3, h4⟩ := key h
    exact pe_imp (pe_chain (od_cmp g p) (od_cmp g q) (ha.e g h2) (hb.e g h3) (hc.e g h4) (mark2 _ _ h1)) fun _ _ _ => i_chain
  · obtain ⟨x, y, z, pos, rfl, h1, h2, h3, h4⟩ := key h
    exact pt_imp (pt_chain (od_cmp g p) (od_cmp g q) (ha.e g h2) (hb.e g h3) (hc.e g h4) (mark2 _ _ h1)) fun _ _ _ => t_bool (fun _ => i_chain) fun ρ d e => cmp2E_bl e
  · obtain ⟨x, y, z, pos, e, _⟩ := key h
    cases e
theorem s_tup {es : IEs} (ha : SndL T G o k N es) : SndE T G o k N (.tup es) := s_pl fun {fb sc X W} g {e} h => by
  have h' : (match xTup e with
    | some xs => decide (xs.length ≤ 1000) && chkL T N es fb sc xs
    | none => false) = true := h
  cases q : xTup e with
  | none => rw [q] at h'; cases h'
  | some xs =>
    rw [q] at h'
    obtain ⟨kk, pos, rfl⟩ := xTup_eq q
    have h1 := ee h'
    exact ⟨pe_imp (pe_tup (ha.a g h1.2)) fun _ _ _ => i_tup fun ρ ds e => by rw [chkL_len h1.2 e]; exact Nat.le_trans (de h1.1) (by decide +kernel), fun _ => rfl, fun _ _ _ e => by cases e⟩
theorem s_lst {es : IEs} (ha : SndL T G o k N es) : SndE T G o k N (.lst es) := s_pl fun {fb sc X W} g {e} h => by
  have h' : (match xLst e with
    | some xs => decide (xs.length ≤ 1000) && chkL T N es fb sc xs
    | none => false) = true := h
  cases q : xLst e with
  | none => rw [q] at h'; cases h'
  | some xs =>
    rw [q] at h'
    obtain ⟨pos, rfl⟩ := xLst_eq q
    have h1 := ee h'
    exact ⟨pe_imp (pe_lst (ha.a g h1.2)) fun _ _ _ => i_lst fun ρ ds e => by rw [chkL_len h1.2 e]; exact Nat.le_trans (de h1.1) (by decide +kernel), fun _ => rfl, fun _ _ _ e => by cases e⟩
theorem s_dic {ks : List Str} {es : IEs} (ha : SndL T G o k N es) : SndE T G o k N (.dic ks es) := s_pl fun {fb sc X W} g {e} h => by
  have h' : (match xDict e with
    | some (kx, vx) => keysB kx ks && (decide (ks.Nodup) && (decide (ks ≠ []) && (decide (ks.length ≤ 15) && (decide (kx.length = vx.length) && chkL T N es fb sc vx))))
    | none => false) = true := h
  cases q : xDict e with
  | none => rw [q] at h'; cases h'
  | some xs =>
    obtain ⟨kx, vx⟩ := xs
    rw [q] at h'
    obtain ⟨pos, rfl⟩ := xDict_eq q
    have h1 := ee h'
    have h2 := ee h1.2
    have h3 := ee h2.2
    have h4 := ee h3.2
    have h5 := ee h4.2
    obtain ⟨p1, p2, p3, p4⟩ := ha.p g (pos := pos) h1.1 (de h5.1) h5.2
    have nk : kx ≠ [] := fun e => by
      rw [e] at p3
      exact de h3.1 (List.length_eq_zero_iff.mp p3.symm)
    refine ⟨pe_imp (pe_disp p1 p2 (de h5.1) nk (by rw [p3]; exact de h4.1)) fun σ H Q q => i_dic p4 (de h2.1) (de h4.1) ?_, fun _ => rfl, fun _ _ _ e => by cases e⟩
    obtain ⟨O, ρ, rep, f⟩ := q
    refine ⟨O, ρ, rep, ?_⟩
    dsimp only
    rw [runAll_eq]
    exact f
theorem s_idx (ha : SndE T G o k N a) (hb : SndE T G o k N b) : SndE T G o k N (.idx a b) := s_pl fun {fb sc X W} g {e} h => by
  have h' : (match xSub e with
    | some (x, y) => plainE y && (chkE T N a fb sc x && chkE T N b fb sc y)
    | none => false) = true := h
  have hu := g.units
  have hu1 : X.A.units + 1 < cLine := by omega
  cases q : xSub e with
  | none => rw [q] at h'; cases h'
  | some x =>
    obtain ⟨x, y⟩ := x
    rw [q] at h'
    obtain ⟨pos, rfl⟩ := xSub_eq q
    have h1 := ee h'
    have h2 := ee h1.2
    exact ⟨pe_imp (pe_ix (od_idx hu1 g.md.hK g.md.hw) (ha.e g h2.1) (hb.e g h2.2) (slice1 h1.1)) fun _ _ _ => i_bin, fun _ => rfl, fun _ _ _ e => by cases e⟩
theorem s_slc {lo hi : IEs} (ha : SndE T G o k N a) (hl : SndL T G o k N lo) (hh : SndL T G o k N hi) : SndE T G o k N (.slc a lo hi) := s_pl fun {fb sc X W} g {e} h => by
  have h' : (match xSub e with
    | some (x, y) => (match xSlice y with
      | some (l, h, none) => chkE T N a fb sc x && (chkO T N lo fb sc l && chkO T N hi fb sc h)
      | _ => false)
    | none => false) = true := h
  cases q : xSub e with
  | none => rw [q] at h'; cases h'
  | some x =>
    obtain ⟨x, y⟩ := x
    rw [q] at h'
    obtain ⟨pos, rfl⟩ := xSub_eq q
    have h2 : (match xSlice y with
      | some (l, h, none) => chkE T N a fb sc x && (chkO T N lo fb sc l && chkO T N hi fb sc h)
      | _ => false) = true := h'
    cases q2 : xSlice y with
    | none => rw [q2] at h2; cases h2
    | some z =>
      obtain ⟨l, u, st⟩ := z
      rw [q2] at h2
      obtain ⟨pos2, rfl⟩ := xSlice_eq q2
      cases st with
      | some _ => cases h2
      | none =>
        have h3 := ee h2
        have h4 := ee h3.2
        obtain ⟨tl, pl, il⟩ := hl.po g h4.1
        obtain ⟨th, ph, ih⟩ := hh.po g h4.2
        exact ⟨pe_imp (pe_slice (od_slc g.md.hK) (ha.e g h3.1) pl ph) fun _ _ _ => i_slc il ih, fun _ => rfl, fun _ _ _ e => by cases e⟩
theorem ne_cons {es : IEs} {xs : List Expr} (h : decide (xs ≠ []) = true) : ∃ e r, xs = e :: r := by
  cases xs with
  | nil => exact absurd rfl (de h)
  | cons e r => exact ⟨e, r, rfl⟩
theorem s_call {f : Nat} {es : IEs} (ha : SndL T G o k N es) : SndE T G o k N (.call f es) := s_pl fun {fb sc X W} g {e} h => by
  have h' : (T.cold && (match xCall e with
    | some (gx, xs, [], _) => (match xName gx with
      | some x => (decide (T.fns[f]? = some x) && decide (xs.length = T.ar.getD f 0)) && (glB sc x && (nmOk x && (decide (xs ≠ []) && chkL T N es fb sc xs)))
      | none => false)
    | _ => false)) = true := h
  have hcl := (ee h').1
  replace h' := (ee h').2
  cases q : xCall e with
  | none => rw [q] at h'; cases h'
  | some z =>
    obtain ⟨gx, xs, kw, pos⟩ := z
    rw [q] at h'
    obtain rfl := xCall_eq q
    cases kw with
    | cons _ _ => cases h'
    | nil =>
      have h2 : (match xName gx with
        | some x => (decide (T.fns[f]? = some x) && decide (xs.length = T.ar.getD f 0)) && (glB sc x && (nmOk x && (decide (xs ≠ []) && chkL T N es fb sc xs)))
        | none => false) = true := h'
      cases q2 : xName gx with
      | none => rw [q2] at h2; cases h2
      | some x =>
        rw [q2] at h2
        obtain ⟨pos2, rfl⟩ := xName_eq q2
        have h3 := ee h2
        have h4 := ee h3.2
        have h5 := ee h4.2
        have h6 := ee h5.2
        obtain ⟨e1, r, rfl⟩ := ne_cons (es := es) h6.1
        have h31 := ee h3.1
        obtain ⟨m1, m2, fd, ps, hlen, bi, F⟩ := g.md.fn 0 f x (de h31.1)
        have pl := chkL_plain h6.2
        have pl' := ee (show (plainE e1 && allPlain r) = true from pl)
        refine ⟨?_, fun _ => rfl, fun _ _ _ e => by cases e⟩
        have hn : (e1 :: r).length = ps.length := (de h31.2).trans hlen.symm
        exact pe_imp (pe_callS F (g.roomC hcl) (gl_of g h4.1) m1 m2 bi (passAt g.tk) (ha.a g h6.2) (nm1 h5.1) (star1 pl'.1) (stars pl'.2)) fun _ _ _ => i_call fun ρ ds e => (chkL_len h6.2 e).trans hn
/-- a call of one of some defs, told by an expression -/
def tCallF (S : Addr → Sp → Prop) (E : L2.St → XK) (tf : TE) (t : TA) : TE := fun σ H Q => tf σ H fun y H1 => ∃ f sp, y = .ref f ∧ S f sp ∧ t σ H1 fun vs H2 => sp vs H2 Q (E σ)
theorem pe_callF {X : Cx} {CX : CXT} {k : Nat} {S : Addr → Sp → Prop} {E : L2.St → XK} {e fe : Expr} {es : List Expr} {tf : TE} {t : TA} {pos : Pos} (hf : PE X fe tf) (hS : ∀ f sp, S f sp → ∃ fd ps, FnOk X.prog X.w X.K X.mg X.base CX k f fd ps sp ∧ PySem.W.keepIn X.K (.ref f) = true ∧ Binds X.K fd ps []) (hr : Room k X.A) (hx : ∀ σ, PassesAt CX X σ (E σ)) (ha : PA X (e :: es) t)
    (ht : eval (.Call fe (e :: es) [] pos) X.env = (do callWith pos (← eval fe X.env) [] (backTo pos (starEach (e :: es) X.env)) (backToKw pos (keywordEach [] X.env))) := by rfl)
    (he : starEach (e :: es) X.env = (false, eval e X.env) :: starEach es X.env := by rfl) (hpl : (backTo pos (starEach es X.env)).any (·.1) = false := by rfl) : PE X (.Call fe (e :: es) [] pos) (tCallF S E tf t) := by
  refine ⟨fun pins s σ H Q I h => ?_⟩
  refine Call_ (thn (hf.run pins s σ H _ I h) fun u s1 ⟨y, H1, I1, ry, f, sp, ey, hs, q⟩ => ?_) ht
  subst ey
  obtain rfl : u = Value.ref f := ry
  obtain ⟨fd, ps, F, hk, hb⟩ := hS f sp hs
  refine PySem.W.callWith_K (h₀ := X.base) I1.ok.mod.kin hk (thn (ha.run pos pins s1 σ H1 _ I1 q) fun us s2 ⟨vs, H2, I2, r, q2⟩ => ⟨I2.kIn, ?_⟩) he hpl
  exact run_fnS F hr hb (hx σ) I2 r q2
theorem i_callv {n : Nat} {o : Out} {fs : List Nat} {fg : Env → R D} {f : Env → R (List D)} (hn : ∀ ρ ds, f ρ = .ok ds → ds.length = n) {σ : L2.St} {H : Hp} {Q : VK} (h : tD G W (fun ρ => (fg ρ).bind fun x => match x with
    | .fn i => guard' (fs.contains i) ((f ρ).bind fun xs => o.call i xs)
    | _ => .bad) σ H Q) : tCallF (fun a sp => ∃ i, i ∈ fs ∧ a = G.fns i ∧ sp = spD G n (o.call i)) (WE W) (tD G W fg) (tDA G W f) σ H Q := by
  obtain ⟨O, ρ, rep, q⟩ := h
  dsimp only at q
  refine ⟨O, ρ, rep, q.bind.imp fun x H1 s1 f1 v hv => ?_⟩
  cases x with
  | fn i =>
    have f2 : Fin G W (guard' (fs.contains i) ((f ρ).bind fun xs => o.call i xs)) σ H1 _ := f1
    cases hc : fs.contains i with
    | false => rw [hc] at f2; exact f2.elim
    | true =>
      rw [hc] at f2
      have hv' : v = .ref (G.fns i) := hv
      exact ⟨_, _, hv', ⟨i, List.contains_iff_mem.mp hc, rfl, rfl⟩, i_call hn (r := o.call i) ⟨O, ρ, rep.mono s1, f2⟩⟩
  | _ => exact f1.elim
theorem s_callv {fs : List Nat} {gi : IE} {es : IEs} (hg : SndE T G o k N gi) (ha : SndL T G o k N es) : SndE T G o k N (.callv fs gi es) := s_pl fun {fb sc X W} g {e} h => by
  have h' : (T.cold && (match xCall e with
    | some (gx, xs, [], _) => (match xSub gx with
      | some _ => (fs.all fun f => decide (f < T.fns.length) && decide (xs.length = T.ar.getD f 0)) && (chkE T N gi fb sc gx && (decide (xs ≠ []) && chkL T N es fb sc xs))
      | none => false)
    | _ => false)) = true := h
  have hcl := (ee h').1
  replace h' := (ee h').2
  cases q : xCall e with
  | none => rw [q] at h'; cases h'
  | some z =>
    obtain ⟨gx, xs, kw, pos⟩ := z
    rw [q] at h'
    obtain rfl := xCall_eq q
    cases kw with
    | cons _ _ => cases h'
    | nil =>
      have h2 : (match xSub gx with
        | some _ => (fs.all fun f => decide (f < T.fns.length) && decide (xs.length = T.ar.getD f 0)) && (chkE T N gi fb sc gx && (decide (xs ≠ []) && chkL T N es fb sc xs))
        | none => false) = true := h'
      cases q2 : xSub gx with
      | none => rw [q2] at h2; cases h2
      | some z2 =>
        rw [q2] at h2
        obtain ⟨u1, u2⟩ := z2
        obtain ⟨pos2, rfl⟩ := xSub_eq q2
        have h3 := ee h2
        have h4 := ee h3.2
        have h5 := ee h4.2
        obtain ⟨e1, r, rfl⟩ := ne_cons (es := es) h5.1
        have pl := chkL_plain h5.2
        have pl' := ee (show (plainE e1 && allPlain r) = true from pl)
        refine ⟨?_, fun _ => rfl, fun _ _ _ e => by cases e⟩
        refine pe_imp (pe_callF (S := fun a sp => ∃ i, i ∈ fs ∧ a = G.fns i ∧ sp = spD G (e1 :: r).length (o.call i)) (hg.e g h4.1) ?_ (g.roomC hcl) (passAt g.tk) (ha.a g h5.2) rfl (star1 pl'.1) (stars pl'.2)) fun _ _ _ => i_callv fun ρ ds e => chkL_len h5.2 e
        rintro f sp ⟨i, hi, rfl, rfl⟩
        have hh := ee (List.all_eq_true.mp h3.1 i hi)
        obtain ⟨m1, m2, fd, ps, hlen, bi, F⟩ := g.md.fn 0 i (T.fns[i]'(de hh.1)) (List.getElem?_eq_getElem (de hh.1))
        have hl : (e1 :: r).length = ps.length := (de hh.2).trans hlen.symm
        rw [hl]
        exact ⟨fd, ps, F, m2, bi⟩
theorem s_bi {b : Bi} {es : IEs} (ha : SndL T G o k N es) : SndE T G o k N (.bi b es) := s_pl fun {fb sc X W} g {e} h => by
  have h' : (T.cold && (match xCall e with
    | some (gx, xs, [], _) => (match xName gx with
      | some x => decide (x = biName b) && (decide (x ∈ bltNames) && (glB sc x && (nmOk x && (decide (xs ≠ []) && chkL T N es fb sc xs))))
      | none => false)
    | _ => false)) = true := h
  have hcl := (ee h').1
  replace h' := (ee h').2
  cases q : xCall e with
  | none => rw [q] at h'; cases h'
  | some z =>
    obtain ⟨gx, xs, kw, pos⟩ := z
    rw [q] at h'
    obtain rfl := xCall_eq q
    cases kw with
    | cons _ _ => cases h'
    | nil =>
      have h2 : (match xName gx with
        | some x => decide (x = biName b) && (decide (x ∈ bltNames) && (glB sc x && (nmOk x && (decide (xs ≠ []) && chkL T N es fb sc xs))))
        | none => false) = true := h'
      cases q2 : xName gx with
      | none => rw [q2] at h2; cases h2
      | some x =>
        rw [q2] at h2
        obtain ⟨pos2, rfl⟩ := xName_eq q2
        have h3 := ee h2
        have h4 := ee h3.2
        have h5 := ee h4.2
        have h6 := ee h5.2
        have h7 := ee h6.2
        obtain ⟨e1, r, rfl⟩ := ne_cons (es := es) h7.1
        exact ⟨pe_bi g hcl (de h3.1) (de h4.1) h5.1 h6.1 (ha.a g h7.2) (chkL_plain h7.2), fun _ => rfl, fun _ _ _ e => by cases e⟩
theorem s_mt {m : Mt} {es : IEs} (h0 : SndE T G o k N a) (ha : SndL T G o k N es) : SndE T G o k N (.mt m a es) := s_pl fun {fb sc X W} g {e} h => by
  have h' : (match xCall e with
    | some (gx, xs, [], cpos) => (match xAttr gx with
      | some (ob, n, apos) => (decide (n = mtName m) && decide (n ≠ ("" : Str))) && (recvE ob && ((apos.endLine == cpos.line) && (decide (xs.length < 20) && (decide (xs ≠ []) && (chkE T N a fb sc ob && chkL T N es fb sc xs)))))
      | none => false)
    | _ => false) = true := h
  cases q : xCall e with
  | none => rw [q] at h'; cases h'
  | some z =>
    obtain ⟨gx, xs, kw, pos⟩ := z
    rw [q] at h'
    obtain rfl := xCall_eq q
    cases kw with
    | cons _ _ => cases h'
    | nil =>
      have h2 : (match xAttr gx with
        | some (ob, n, apos) => (decide (n = mtName m) && decide (n ≠ ("" : Str))) && (recvE ob && ((apos.endLine == pos.line) && (decide (xs.length < 20) && (decide (xs ≠ []) && (chkE T N a fb sc ob && chkL T N es fb sc xs)))))
        | none => false) = true := h'
      cases q2 : xAttr gx with
      | none => rw [q2] at h2; cases h2
      | some z =>
        obtain ⟨ob, n, apos⟩ := z
        rw [q2] at h2
        obtain rfl := xAttr_eq q2
        have h3 := ee h2
        have h31 := ee h3.1
        have h4 := ee h3.2
        have h5 := ee h4.2
        have h6 := ee h5.2
        have h7 := ee h6.2
        have h8 := ee h7.2
        obtain ⟨e1, r, rfl⟩ := ne_cons (es := es) h7.1
        exact ⟨pe_mt g (de h31.1) (de h31.2) (h0.e g h8.1) (ha.a g h8.2) h4.1 h5.1 (de h6.1) (chkL_plain h8.2), fun _ => rfl, fun _ _ _ e => by cases e⟩
theorem s_isi {t : Ty} (ha : SndE T G o k N a) : SndE T G o k N (.isi a t) := s_pl fun {fb sc X W} g {e} h => by
  have h' : (match xCall e with
    | some (gx, [x, c], [], _) => (match xName gx, xName c with
      | some n, some y => decide (n = ("isinstance" : Str)) && (glB sc n && (glB sc y && (nmOk y && (plainE x && (chkE T N a fb sc x && isiC T t y)))))
      | _, _ => false)
    | _ => false) = true := h
  cases q : xCall e with
  | none => rw [q] at h'; cases h'
  | some z =>
    obtain ⟨gx, xs, kw, pos⟩ := z
    rw [q] at h'
    obtain rfl := xCall_eq q
    match xs, kw, h' with
    | [x, c], [], h' =>
      have h2 : (match xName gx, xName c with
        | some n, some y => decide (n = ("isinstance" : Str)) && (glB sc n && (glB sc y && (nmOk y && (plainE x && (chkE T N a fb sc x && isiC T t y)))))
        | _, _ => false) = true := h'
      cases q2 : xName gx with
      | none => rw [q2] at h2; cases h2
      | some n =>
        cases q3 : xName c with
        | none => rw [q2, q3] at h2; cases h2
        | some y =>
          rw [q2, q3] at h2
          obtain ⟨pos2, rfl⟩ := xName_eq q2
          obtain ⟨pos3, rfl⟩ := xName_eq q3
          have h3 := ee h2
          have h4 := ee h3.2
          have h5 := ee h4.2
          have h6 := ee h5.2
          have h7 := ee h6.2
          have h8 := ee h7.2
          exact ⟨pe_isi g (de h3.1) h4.1 h5.1 h6.1 h7.1 h8.2 (ha.e g h8.1), fun _ => rfl, fun _ _ _ e => by cases e⟩
theorem s_lc {p : Pat} {it : II} {ifs : IEs} (ha : SndE T G o k N a) (hi : SndI T G o k N it) (hf : SndL T G o k N ifs) : SndE T G o k N (.lc a p it ifs) := s_pl fun {fb sc X W} g {e} h => by
  have h' : (T.cold && (match xLc e with
    | some (x, [⟨tg, iter, xi, as_⟩], scope, _) => decide (as_ = 0) && (plainE iter && (blkC N sc scope (ownOf N p) && (chkP N (fun y => scope.names.lookup y == some .cell) (relS scope sc) tg p &&
        (chkI T N it fb sc tg iter && (chkF T N ifs (fun y => scope.names.lookup y == some .cell) (relS scope sc) xi && chkE T N a (fun y => scope.names.lookup y == some .cell) (relS scope sc) x)))))
    | _ => false)) = true := h
  have hcl := (ee h').1
  replace h' := (ee h').2
  cases q : xLc e with
  | none => rw [q] at h'; cases h'
  | some z =>
    obtain ⟨x, gs, scope, pos⟩ := z
    rw [q] at h'
    obtain rfl := xLc_eq q
    match gs, h' with
    | [⟨tg, iter, xi, as_⟩], h' =>
      have h1 := ee h'
      have h2 := ee h1.2
      have h3 := ee h2.2
      have h4 := ee h3.2
      have h5 := ee h4.2
      have h6 := ee h5.2
      obtain rfl := de h1.1
      have bk : BlkOk X.N X.env.scope scope (ownOf N p) := by
        rw [g.hN, g.sc]
        exact blkOk_by h3.1
      refine ⟨pe_imp (pe_lc (g := gPat X.K p) (tt := tDT G W0 (evF o ifs)) (te := tD G W0 (evE o a)) (g.calm hcl) (by rw [g.hN]; exact g.nd) (hi.i g h5.1) bk
        (fun s H C cl fp => ?_) (fun s H C cl fp => hf.f (g.blk s H scope C cl fp) h6.1) (fun s H C cl fp => ha.e (g.blk s H scope C cl fp) h6.2) (fold1 h2.1)) fun σ H Q q => ?_, fun _ => rfl, fun _ _ _ e => by cases e⟩
      · have gb := g.blk s H scope C cl fp
        exact pgD gb.hN gb.nd (gb.calm hcl) gb.sc gb.fb p tg h4.1
      · rw [own_snd]
        exact i_lc g.md.hK q
theorem s_oidx {i : Nat} (ha : SndE T G o k N a) : SndE T G o k N (.oidx i a) := s_pl fun {fb sc X W} g {e} h => by
  have h' : (match xSub e with
    | some (ob, y) => (match xName ob with
      | some z => decide (N[i]? = some z) && (visB sc z && (nmOk z && (plainE y && chkE T N a fb sc y)))
      | none => false)
    | none => false) = true := h
  cases q : xSub e with
  | none => rw [q] at h'; cases h'
  | some x =>
    obtain ⟨x, y⟩ := x
    rw [q] at h'
    obtain ⟨pos, rfl⟩ := xSub_eq q
    have h2 : (match xName x with
      | some z => decide (N[i]? = some z) && (visB sc z && (nmOk z && (plainE y && chkE T N a fb sc y)))
      | none => false) = true := h'
    cases q2 : xName x with
    | none => rw [q2] at h2; cases h2
    | some z =>
      rw [q2] at h2
      obtain ⟨pos2, rfl⟩ := xName_eq q2
      have h3 := ee h2
      have h4 := ee h3.2
      have h5 := ee h4.2
      have h6 := ee h5.2
      exact ⟨pe_imp (pe_ix ix_list (pe_v g (de h3.1) h4.1 h5.1) (ha.e g h6.2) (slice1 h6.1)) fun _ _ _ => i_oidx, fun _ => rfl, fun _ _ _ e => by cases e⟩
theorem s_olen {i : Nat} : SndE T G o k N (.olen i) := s_pl fun {fb sc X W} g {e} h => by
  have h' : (match xCall e with
    | some (gx, [ob], [], _) => (match xName gx, xName ob with
      | some x, some z => decide (x = ("len" : Str)) && (glB sc x && (decide (N[i]? = some z) && (visB sc z && nmOk z)))
      | _, _ => false)
    | _ => false) = true := h
  cases q : xCall e with
  | none => rw [q] at h'; cases h'
  | some z =>
    obtain ⟨gx, xs, kw, pos⟩ := z
    rw [q] at h'
    obtain rfl := xCall_eq q
    match xs, kw, h' with
    | [ob], [], h' =>
      have h2 : (match xName gx, xName ob with
        | some x, some z => decide (x = ("len" : Str)) && (glB sc x && (decide (N[i]? = some z) && (visB sc z && nmOk z)))
        | _, _ => false) = true := h'
      cases q2 : xName gx with
      | none => rw [q2] at h2; cases h2
      | some n =>
        cases q3 : xName ob with
        | none => rw [q2, q3] at h2; cases h2
        | some y =>
          rw [q2, q3] at h2
          obtain ⟨pos2, rfl⟩ := xName_eq q2
          obtain ⟨pos3, rfl⟩ := xName_eq q3
          have h3 := ee h2
          have h4 := ee h3.2
          have h5 := ee h4.2
          have h6 := ee h5.2
          obtain rfl := de h3.1
          exact ⟨pe_imp (pe_callB call_olen (gl_of g h4.1) (g.md.free _ (by decide +kernel)) (by decide +kernel) (pa_cons (pe_v g (de h5.1) h6.1 h6.2) pa_nil rfl) (by decide +kernel) (by decide +kernel) rfl rfl) fun _ _ _ => i_olen, fun _ => rfl, fun _ _ _ e => by cases e⟩
theorem s_rev (ha : SndE T G o k N a) : SndE T G o k N (.rev a) := s_pl fun {fb sc X W} g {e} h => by
  have h' : (match xRev e with
    | some x => chkE T N a fb sc x
    | none => false) = true := h
  cases q : xRev e with
  | none => rw [q] at h'; cases h'
  | some x =>
    rw [q] at h'
    obtain ⟨kk, p1, p2, p3, p4, rfl⟩ := xRev_eq q
    exact ⟨pe_imp (pe_revA (ha.e g h')) fun _ _ _ => i_rev g.md.hK, fun _ => rfl, fun _ _ _ e => by cases e⟩
theorem s_lrg (ha : SndE T G o k N a) (hb : SndE T G o k N b) : SndE T G o k N (.lrg a b) := s_pl fun {fb sc X W} g {e} h => by
  have h' : (T.cold && (match xLrg e with
    | some (l, r, x, y) => (decide (l = ("list" : Str)) && decide (r = ("range" : Str))) && ((glB sc l && glB sc r) && ((plainE x && plainE y) && (chkE T N a fb sc x && chkE T N b fb sc y)))
    | none => false)) = true := h
  have hcl := (ee h').1
  replace h' := (ee h').2
  cases q : xLrg e with
  | none => rw [q] at h'; cases h'
  | some z =>
    obtain ⟨l, r, x, y⟩ := z
    rw [q] at h'
    obtain ⟨p1, p2, p3, p4, rfl⟩ := xLrg_eq q
    have h1 := ee h'
    have h2 := ee h1.1
    have h3 := ee h1.2
    have h4 := ee h3.1
    have h5 := ee h3.2
    have h6 := ee h5.1
    have h7 := ee h5.2
    obtain rfl := de h2.1
    obtain rfl := de h2.2
    have s2 : starEach [y] X.env = [(false, eval y X.env)] := star1 h6.2
    have s1 : starEach [x, y] X.env = (false, eval x X.env) :: starEach [y] X.env := star1 h6.1
    exact ⟨pe_imp (pe_listRg (g.calm hcl) (gl_of g h4.1) (g.md.free _ (by decide +kernel)) (prg_2 (gl_of g h4.2) (g.md.free _ (by decide +kernel)) (ha.e g h7.1) (hb.e g h7.2) s1 s2 (stars (es := [y]) (by show (plainE y && true) = true; rw [h6.2]; rfl)))) fun _ _ _ => i_lrg, fun _ => rfl, fun _ _ _ e => by cases e⟩
theorem s_sst (ha : SndE T G o k N a) : SndE T G o k N (.sst a) := s_pl fun {fb sc X W} g {e} h => by
  have h' : (T.cold && (match xSst e with
    | some (l, r, x) => (decide (l = ("sorted" : Str)) && decide (r = ("set" : Str))) && ((glB sc l && glB sc r) && (plainE x && chkE T N a fb sc x))
    | none => false)) = true := h
  have hcl := (ee h').1
  replace h' := (ee h').2
  cases q : xSst e with
  | none => rw [q] at h'; cases h'
  | some z =>
    obtain ⟨l, r, x⟩ := z
    rw [q] at h'
    obtain ⟨p1, p2, p3, p4, rfl⟩ := xSst_eq q
    have h1 := ee h'
    have h2 := ee h1.1
    have h3 := ee h1.2
    have h4 := ee h3.1
    have h5 := ee h3.2
    obtain rfl := de h2.1
    obtain rfl := de h2.2
    have s1 : starEach [x] X.env = [(false, eval x X.env)] := star1 h5.1
    have in1 := pe_callTy (pos := p3) (p := p2) (callr_or (cr_setOfT (g.calm hcl) g.units) (cr_setOfI (g.calm hcl))) (gl_of g h4.2) (g.md.free _ (by decide +kernel)) (by decide +kernel) (pa_cons (ha.e g h5.2) pa_nil s1) (by decide) (by decide) s1 rfl
    exact ⟨pe_imp (pe_callB (callr_or (cr_sortedT (g.calm hcl)) (cr_sortedSet (g.calm hcl))) (gl_of g h4.1) (g.md.free _ (by decide +kernel)) (by decide +kernel) (pa_cons in1 pa_nil rfl) (by decide) (by decide) rfl rfl) fun _ _ _ => i_sst g.md.hK, fun _ => rfl, fun _ _ _ e => by cases e⟩
/-- how long an own list is -/
theorem len_at {O : List Addr} {ρ : Env} {σ : L2.St} {H : Hp} (rep : Rep G O ρ σ H) {i n : Nat} (h : getN ρ i = .ok n) : ∃ p vs, σ[i]? = some (some (.ref p)) ∧ H p = some (.lst vs) ∧ vs.length = n := by
  unfold getN at h
  cases e : ρ[i]? with
  | none => rw [e] at h; cases h
  | some sv =>
    rw [e] at h
    have hl : i < ρ.length := by
      rcases Nat.lt_or_ge i ρ.length with h | h
      · exact h
      · rw [List.getElem?_eq_none h] at e
        cases e
    have hs : i < σ.length := by rw [rep.len]; exact hl
    have z := rep.at_ i _ _ e (List.getElem?_eq_getElem hs)
    have fin : ∀ p, σ[i] = some (.ref p) → σ[i]? = some (some (.ref p)) := fun p w => by rw [List.getElem?_eq_getElem hs, w]
    cases sv with
    | ow ds =>
      obtain ⟨p, vs, h1, h2, h3, h4⟩ := z
      cases h
      exact ⟨p, vs, fin p h1, h3, (dvL_len h4).symm⟩
    | ow2 dss =>
      obtain ⟨p, ps, h1, h2, h3, h4⟩ := z
      cases h
      refine ⟨p, _, fin p h1, h3, ?_⟩
      rw [List.length_map]
      have key : ∀ {dss : List (List D)} {ps : List Addr}, OwnL G O H dss ps → ps.length = dss.length := by
        intro dss
        induction dss with
        | nil =>
          intro ps w
          cases w
          rfl
        | cons ds r ih =>
          intro ps w
          obtain ⟨q, vs, t, rfl, _, _, _, w⟩ := w
          exact congrArg (· + 1) (ih w)
      exact key h4
    | un => cases h
    | pv _ => cases h
theorem op_eq0 (hu : X.A.units < cLine) : OpR X (compareOp .Eq) (fun x y H Q => ∃ a xs b, x = .ref a ∧ y = .ref b ∧ SqL X.K H a xs ∧ SqL X.K H b [] ∧ Q (.bl (xs.length == 0)) H) := by
  intro pins s σ H x y v u Q I rx ry h
  obtain ⟨a, xs, b, rfl, rfl, h1, h2, q⟩ := h
  cases rx
  cases ry
  obtain ⟨i1, r1, l1, _⟩ := I.list h1
  obtain ⟨i2, r2, l2, _⟩ := I.list h2
  cases r2
  have e1 : i1.toArray.size = xs.length := by rw [List.size_toArray, ← r1.length]
  by_cases h0 : xs.length = 0
  · refine SeqAt.eq_listAt (e := fun _ => true) l1.isList l2.isList (by rw [e1, h0]; rfl) hu (fun j _ h2 => absurd h2 (by simp)) ⟨.bl true, H, I, ?_, ?_⟩
    · show Value.bool _ = Value.bool true
      simp
    · rw [h0] at q
      exact q
  · refine SeqAt.eq_list_lengthsAt l1.isList l2.isList (by rw [e1]; simpa using h0) hu ⟨.bl false, H, I, rfl, ?_⟩
    have e : (xs.length == 0) = false := by simpa using h0
    rw [e] at q
    exact q
theorem op_ne0 (hu : X.A.units < cLine) : OpR X (compareOp .NotEq) (fun x y H Q => ∃ a xs b, x = .ref a ∧ y = .ref b ∧ SqL X.K H a xs ∧ SqL X.K H b [] ∧ Q (.bl (!(xs.length == 0))) H) := by
  intro pins s σ H x y v u Q I rx ry h
  obtain ⟨a, xs, b, rfl, rfl, h1, h2, q⟩ := h
  cases rx
  cases ry
  obtain ⟨i1, r1, l1, _⟩ := I.list h1
  obtain ⟨i2, r2, l2, _⟩ := I.list h2
  cases r2
  have e1 : i1.toArray.size = xs.length := by rw [List.size_toArray, ← r1.length]
  show wpAny _ _ (richCompare .NotEq _ _) _ _ _
  by_cases h0 : xs.length = 0
  · refine SeqAt.RcNeAt.lists (e := fun _ => true) l1.isList l2.isList (by rw [e1, h0]; rfl) hu (fun j _ h2 => absurd h2 (by simp)) _ _ _ _ ⟨.bl false, H, I, ?_, ?_⟩
    · show Value.bool _ = Value.bool false
      simp
    · rw [h0] at q
      exact q
  · refine SeqAt.RcNeAt.lists_lengths l1.isList l2.isList (by rw [e1]; simpa using h0) hu _ _ _ _ ⟨.bl true, H, I, rfl, ?_⟩
    have e : (xs.length == 0) = false := by simpa using h0
    rw [e] at q
    exact q
theorem i_emp {i : Nat} {f : Nat → Bool} {σ : L2.St} {H : Hp} {Q : VK} (h : tD G W (fun ρ => (getN ρ i).bind fun n => .ok (.bl (f n))) σ H Q) :
    tOp (fun x y H Q => ∃ a xs b, x = .ref a ∧ y = .ref b ∧ SqL X.K H a xs ∧ SqL X.K H b [] ∧ Q (.bl (f xs.length)) H) (tVar i) (tLst tNil) σ H Q := by
  obtain ⟨O, ρ, rep, q⟩ := h
  dsimp only at q
  cases e : getN ρ i with
  | bad => rw [e] at q; exact q.elim
  | exc c =>
    unfold getN at e
    split at e <;> cases e
  | ok n =>
    rw [e] at q
    obtain ⟨p, vs, e1, e2, rfl⟩ := len_at rep e
    refine ⟨_, e1, by show 0 ≤ sizeLine; omega, fun b hb => ?_⟩
    have su : Stp H (upd H b (.lst [])) := stp_upd' hb
    exact ⟨p, vs, b, rfl, rfl, SqL.of (su.ext.l e2), SqL.of upd_same, q _ su _ rfl⟩
theorem s_emp {ie : IE} {i : Nat} {p : CmpOp} {f : Nat → Bool} (hc : ∀ fb sc e, chkE T N ie fb sc e = (match xNil e with
    | some (z, q) => decide (q = p) && (decide (N[i]? = some z) && (visB sc z && nmOk z))
    | none => false)) (he : ∀ ρ, evE o ie ρ = (getN ρ i).bind fun n => .ok (.bl (f n)))
    (hop : ∀ {X : Cx}, X.A.units < cLine → OpR X (compareOp p) (fun x y H Q => ∃ a xs b, x = .ref a ∧ y = .ref b ∧ SqL X.K H a xs ∧ SqL X.K H b [] ∧ Q (.bl (f xs.length)) H)) (hm : ∀ pos, behindInMarks p (.List [] pos) = false) : SndE T G o k N ie := by
  have key : ∀ {fb : Str → Bool} {sc : Scope} {e : Expr}, chkE T N ie fb sc e = true → ∃ z p1 p2 p3, e = .Compare (.Name z p1) [p] [.List [] p2] p3 ∧ N[i]? = some z ∧ visB sc z = true ∧ nmOk z = true := fun {fb sc e} h => by
    rw [hc] at h
    cases q : xNil e with
    | none => rw [q] at h; cases h
    | some w =>
      obtain ⟨z, p'⟩ := w
      rw [q] at h
      obtain ⟨p1, p2, p3, rfl⟩ := xNil_eq q
      have h1 := ee h
      have h2 := ee h1.2
      have h3 := ee h2.2
      obtain rfl := de h1.1
      exact ⟨z, p1, p2, p3, rfl, de h2.1, h3.1, h3.2⟩
  have he' : evE o ie = fun ρ => (getN ρ i).bind fun n => .ok (.bl (f n)) := funext he
  refine ⟨fun {fb sc X W} g {e} h => ?_, fun {fb sc X W} g {e} h => ?_, fun {fb sc X W} g {op vs pos} h => ?_⟩
  · obtain ⟨z, p1, p2, p3, rfl, h1, h2, h3⟩ := key h
    have hun := g.room.un
    rw [he']
    exact pe_imp (pe_cmpR (hop (by omega)) (pe_v g h1 h2 h3) (pe_lst pa_nil) (hm _)) fun _ _ _ => i_emp
  · obtain ⟨z, p1, p2, p3, rfl, h1, h2, h3⟩ := key h
    have hun := g.room.un
    rw [he']
    exact pt_imp (pt_cmpR (hop (by omega)) (pe_v g h1 h2 h3) (pe_lst pa_nil) (hm _)) fun _ _ _ => t_bool (fun _ => i_emp) fun ρ d e => by
      obtain ⟨n, _, e⟩ := bind_ok e
      cases e
      exact ⟨_, rfl⟩
  · obtain ⟨z, p1, p2, p3, e, _⟩ := key h
    cases e
theorem s_nope : SndE T G o k N .nope where
  e := fun {fb sc X W} g {_} _ => ⟨fun pins s σ H Q I ⟨O, ρ, rep, f⟩ => f.elim⟩
  t := fun {fb sc X W} g {_} _ => ⟨fun pins s σ H Q I ⟨O, ρ, rep, f⟩ => f.elim⟩
  w := fun {fb sc X W} g {_ _ _} _ => ⟨fun wh pins s σ H Q I ⟨O, ρ, rep, f⟩ => f.elim⟩
theorem own2_at {O : List Addr} {ρ : Env} {σ : L2.St} {H : Hp} (rep : Rep G O ρ σ H) {i : Nat} {dss : List (List D)} (h : getO2 ρ i = .ok dss) : ∃ p ps, σ[i]? = some (some (.ref p)) ∧ p ∈ O ∧ H p = some (.lst (ps.map V.ref)) ∧ OwnL G O H dss ps := by
  unfold getO2 at h
  split at h
  · rename_i es e
    cases h
    have hl : i < ρ.length := by
      rcases Nat.lt_or_ge i ρ.length with h | h
      · exact h
      · rw [List.getElem?_eq_none h] at e
        cases e
    have hs : i < σ.length := by rw [rep.len]; exact hl
    obtain ⟨p, ps, h1, h2, h3, h4⟩ := rep.at_ i _ _ e (List.getElem?_eq_getElem hs)
    exact ⟨p, ps, by rw [List.getElem?_eq_getElem hs, h1], h2, h3, h4⟩
  · cases h
theorem OwnL.get {O : List Addr} {H : Hp} : ∀ {dss : List (List D)} {ps : List Addr} {m : Nat} {ds : List D}, OwnL G O H dss ps → dss[m]? = some ds → ∃ q vs, ps[m]? = some q ∧ q ∈ O ∧ H q = some (.lst vs) ∧ DvL G (hid H O) ds vs
  | [], _, _, _, _, e => by simp at e
  | d :: r, _, 0, ds, h, e => by
    obtain ⟨q, vs, t, rfl, h1, h2, h3, h4⟩ := h
    simp at e
    subst e
    exact ⟨q, vs, rfl, h1, h2, h3⟩
  | d :: r, _, m + 1, ds, h, e => by
    obtain ⟨q, vs, t, rfl, h1, h2, h3, h4⟩ := h
    exact OwnL.get (m := m) h4 (by simpa using e)
theorem OwnL.len {O : List Addr} {H : Hp} : ∀ {dss : List (List D)} {ps : List Addr}, OwnL G O H dss ps → dss.length = ps.length
  | [], _, h => by cases h; rfl
  | d :: r, _, h => by
    obtain ⟨q, vs, t, rfl, h1, h2, h3, h4⟩ := h
    exact congrArg (· + 1) (OwnL.len h4)
theorem fin_own2 {α : Type} {ρ : Env} {i : Nat} {g : List (List D) → R α} {σ : L2.St} {H : Hp} {Q : α → Hp → Prop} (f : Fin G W ((getO2 ρ i).bind g) σ H Q) : ∃ ds, getO2 ρ i = .ok ds ∧ Fin G W (g ds) σ H Q := by
  cases e : getO2 ρ i with
  | ok d => exact ⟨d, rfl, by rw [e] at f; exact f⟩
  | exc c =>
    unfold getO2 at e
    split at e <;> cases e
  | bad =>
    rw [e] at f
    exact f.elim
theorem atPl_ok {α : Type} {xs : List α} {d : D} : (∃ j m x, d = .int j ∧ place xs.length j = some m ∧ xs[m]? = some x ∧ atPl xs d = .ok (m, x)) ∨ atPl xs d = .bad := by
  cases d with
  | int j =>
    cases e : place xs.length j with
    | none =>
      refine .inr ?_
      show (match place xs.length j with
        | some m => (match xs[m]? with | some d => R.ok (m, d) | none => .bad)
        | none => .bad) = _
      rw [e]
    | some m =>
      cases e2 : xs[m]? with
      | none =>
        refine .inr ?_
        show (match place xs.length j with
          | some m => (match xs[m]? with | some d => R.ok (m, d) | none => .bad)
          | none => .bad) = _
        rw [e]
        show (match xs[m]? with | some d => R.ok (m, d) | none => .bad) = _
        rw [e2]
      | some x =>
        refine .inl ⟨j, m, x, rfl, e, e2, ?_⟩
        show (match place xs.length j with
          | some m => (match xs[m]? with | some d => R.ok (m, d) | none => .bad)
          | none => .bad) = _
        rw [e]
        show (match xs[m]? with | some d => R.ok (m, d) | none => .bad) = _
        rw [e2]
  | _ => exact .inr rfl
theorem i_oidx2 {i : Nat} {fx fy : Env → R D} {σ : L2.St} {H : Hp} {Q : VK} (h : tD G W (fun ρ => (getO2 ρ i).bind fun dss => (fx ρ).bind fun k => (atPl dss k).bind fun p => (fy ρ).bind fun l => noexc (idxEv (.lst p.2) l)) σ H Q) :
    tOp (fun x y H Q => ∃ l xs i v, x = .ref l ∧ y = .int i ∧ SqL X.K H l xs ∧ atI xs i = some v ∧ Q v H) (tOp (fun x y H Q => ∃ l xs i v, x = .ref l ∧ y = .int i ∧ SqL X.K H l xs ∧ atI xs i = some v ∧ Q v H) (tVar i) (tD G W fx)) (tD G W fy) σ H Q := by
  obtain ⟨O, ρ, rep, f⟩ := h
  dsimp only at f
  obtain ⟨dss, eo, f⟩ := fin_own2 f
  obtain ⟨p, ps, e1, e2, e3, e4⟩ := own2_at rep eo
  refine ⟨_, e1, O, ρ, rep, f.bind.imp fun z H1 s1 f1 y hy => ?_⟩
  rcases atPl_ok (xs := dss) (d := z) with ⟨j, m, ds, rfl, pl, at_, ea⟩ | ea
  · rw [ea] at f1
    have f2 : Fin G W ((fy ρ).bind fun l => noexc (idxEv (.lst ds) l)) σ H1 _ := f1
    cases hy
    obtain ⟨q, vs, g1, g2, g3, g4⟩ := e4.get at_
    refine ⟨p, ps.map V.ref, j, .ref q, rfl, rfl, SqL.of (s1.ext.l e3), ?_, ?_⟩
    · refine at_of (m := m) (by rw [List.length_map, ← e4.len]; exact pl) ?_
      rw [List.getElem?_map, g1]
      rfl
    · refine ⟨O, ρ, rep.mono s1, f2.bind.imp fun l H2 s2 f3 w hw => ?_⟩
      have fv := finV_of (show Fin G W (noexc (idxEv (.lst ds) l)) σ H2 _ from f3)
      cases l with
      | int t =>
        cases hw
        have fv' : FinV G O H2 (match place ds.length t with
          | some m => (match ds[m]? with | some d => .ok d | none => .bad)
          | none => .bad) Q := fv
        cases e5 : place ds.length t with
        | none => rw [e5] at fv'; exact fv'.elim
        | some m2 =>
          rw [e5] at fv'
          have fv2 : FinV G O H2 (match ds[m2]? with | some d => .ok d | none => .bad) Q := fv'
          cases e6 : ds[m2]? with
          | none => rw [e6] at fv2; exact fv2.elim
          | some d =>
            rw [e6] at fv2
            obtain ⟨v, w1, w2⟩ := dvL_get g4 e6
            have s12 := s1.trans s2
            exact ⟨q, vs, t, v, rfl, rfl, SqL.of (s12.ext.l g3), at_of (by rw [← dvL_len g4]; exact e5) w1, fv2.ok (Stp.refl H2) (dv_mono (hid_mono s12.ext) d v w2)⟩
      | _ => exact fv.elim
  · rw [ea] at f1
    exact f1.elim
theorem s_oidx2 {i : Nat} (ha : SndE T G o k N a) (hb : SndE T G o k N b) : SndE T G o k N (.oidx2 i a b) := s_pl fun {fb sc X W} g {e} h => by
  have h' : (match xSub e with
    | some (ob, v) => (match xSub ob with
      | some (n, u) => (match xName n with
        | some z => decide (N[i]? = some z) && (visB sc z && (nmOk z && ((plainE u && plainE v) && (chkE T N a fb sc u && chkE T N b fb sc v))))
        | none => false)
      | none => false)
    | none => false) = true := h
  cases q : xSub e with
  | none => rw [q] at h'; cases h'
  | some x =>
    obtain ⟨x, v⟩ := x
    rw [q] at h'
    obtain ⟨pos, rfl⟩ := xSub_eq q
    have h2 : (match xSub x with
      | some (n, u) => (match xName n with
        | some z => decide (N[i]? = some z) && (visB sc z && (nmOk z && ((plainE u && plainE v) && (chkE T N a fb sc u && chkE T N b fb sc v))))
        | none => false)
      | none => false) = true := h'
    cases q2 : xSub x with
    | none => rw [q2] at h2; cases h2
    | some w =>
      obtain ⟨n, u⟩ := w
      rw [q2] at h2
      obtain ⟨pos2, rfl⟩ := xSub_eq q2
      have h3 : (match xName n with
        | some z => decide (N[i]? = some z) && (visB sc z && (nmOk z && ((plainE u && plainE v) && (chkE T N a fb sc u && chkE T N b fb sc v))))
        | none => false) = true := h2
      cases q3 : xName n with
      | none => rw [q3] at h3; cases h3
      | some z =>
        rw [q3] at h3
        obtain ⟨pos3, rfl⟩ := xName_eq q3
        have c1 := ee h3
        have c2 := ee c1.2
        have c3 := ee c2.2
        have c4 := ee c3.2
        have c5 := ee c4.1
        have c6 := ee c4.2
        exact ⟨pe_imp (pe_ix ix_list (pe_ix ix_list (pe_v g (de c1.1) c2.1 c3.1) (ha.e g c6.1) (slice1 c5.1)) (hb.e g c6.2) (slice1 c5.2)) fun _ _ _ => i_oidx2, fun _ => rfl, fun _ _ _ e => by cases e⟩
theorem s_no {ie : IE} (h : ∀ fb sc e, chkE T N ie fb sc e = false) : SndE T G o k N ie where
  e := fun {fb sc X W} g {_} q => by rw [h] at q; cases q
  t := fun {fb sc X W} g {_} q => by rw [h] at q; cases q
  w := fun {fb sc X W} g {_ _ _} q => by rw [h] at q; cases q
theorem sl_nil : SndL T G o k N .nil where
  a := fun {fb sc X W} g {xs} h => by
    cases xs with
    | nil => exact pa_imp pa_nil fun _ _ _ => i_nil
    | cons _ _ => cases h
  po := fun {fb sc X W} g {x} h => by
    cases x with
    | none => exact ⟨tNoPart, po_none, fun O ρ σ H Q rep f => i_po0 rep f⟩
    | some _ => cases h
  f := fun {fb sc X W} g {xs} h => by
    cases xs with
    | nil =>
      refine pts_imp pts_nil fun σ H Q q => ?_
      obtain ⟨O, ρ, rep, f⟩ := q
      exact f.at_
    | cons _ _ => cases h
  p := fun {fb sc X W} g {ks kx vx pos} h1 h2 h3 => by
    cases vx with
    | cons _ _ => cases h3
    | nil =>
      cases kx with
      | cons _ _ => cases h2
      | nil =>
        cases ks with
        | cons _ _ => cases h1
        | nil => exact ⟨pps_nil, rfl, rfl, rfl⟩
theorem sl_cons {r : IEs} (ha : SndE T G o k N a) (hr : SndL T G o k N r) : SndL T G o k N (.cons a r) where
  a := fun {fb sc X W} g {xs} h => by
    cases xs with
    | nil => cases h
    | cons x t =>
      have h1 := ee (show (plainE x && (chkE T N a fb sc x && chkL T N r fb sc t)) = true from h)
      have h2 := ee h1.2
      exact pa_imp (pa_cons (ha.e g h2.1) (hr.a g h2.2) (star1 h1.1)) fun _ _ _ => i_cons
  po := fun {fb sc X W} g {x} h => by
    cases x with
    | none => cases h
    | some y => exact ⟨_, po_some (ha.e g h), fun O ρ σ H Q rep f => i_po1 rep f⟩
  f := fun {fb sc X W} g {xs} h => by
    match xs, h with
    | [x], h => exact pts_one (ha.t g h)
  p := fun {fb sc X W} g {ks kx vx pos} h1 h2 h3 => by
    cases vx with
    | nil => cases h3
    | cons x t =>
      have h4 := ee (show (plainE x && (chkE T N a fb sc x && chkL T N r fb sc t)) = true from h3)
      have h5 := ee h4.2
      cases kx with
      | nil => cases h2
      | cons kk kr =>
        cases ks with
        | nil => cases kk <;> cases h1
        | cons z zs =>
          cases kk with
          | none => cases h1
          | some ke =>
            have h6 : (match xConst ke with
              | some (.str x) => decide (x = z) && keysB kr zs
              | _ => false) = true := h1
            cases q : xConst ke with
            | none => rw [q] at h6; cases h6
            | some c =>
              rw [q] at h6
              obtain ⟨kq, pos2, rfl⟩ := xConst_eq q
              cases c with
              | str y =>
                have h7 := ee h6
                obtain rfl := de h7.1
                obtain ⟨p1, p2, p3, p4⟩ := hr.p g (pos := pos) h7.2 (Nat.succ.inj h2) h5.2
                exact ⟨pps_cons pe_str (ha.e g h5.1) p1, p2, congrArg (· + 1) p3, congrArg (· + 1) p4⟩
              | _ => cases h6
theorem si_seq (ha : SndE T G o k N a) : SndI T G o k N (.seq a) := ⟨fun {fb sc X W} g {tg e} h => pd_seq g.md.hK (ha.e g h)⟩
theorem call1 {e : Expr} {fb : Str → Bool} {sc : Scope} {nm : Str} {P : Expr → Bool} (h : (match xCall e with
    | some (gx, [x], [], _) => (match xName gx with
      | some n => decide (n = nm) && (glB sc n && P x)
      | none => false)
    | _ => false) = true) : ∃ x p pos, e = .Call (.Name nm p) [x] [] pos ∧ glB sc nm = true ∧ P x = true := by
  cases q : xCall e with
  | none => rw [q] at h; cases h
  | some z =>
    obtain ⟨gx, xs, kw, pos⟩ := z
    rw [q] at h
    obtain rfl := xCall_eq q
    match xs, kw, h with
    | [x], [], h =>
      have h2 : (match xName gx with
        | some n => decide (n = nm) && (glB sc n && P x)
        | none => false) = true := h
      cases q2 : xName gx with
      | none => rw [q2] at h2; cases h2
      | some n =>
        rw [q2] at h2
        obtain ⟨pos2, rfl⟩ := xName_eq q2
        have h3 := ee h2
        have h4 := ee h3.2
        obtain rfl := de h3.1
        exact ⟨x, pos2, pos, rfl, h4.1, h4.2⟩
theorem call2 {e : Expr} {fb : Str → Bool} {sc : Scope} {nm : Str} {P : Expr → Expr → Bool} (h : (match xCall e with
    | some (gx, [x, y], [], _) => (match xName gx with
      | some n => decide (n = nm) && (glB sc n && P x y)
      | none => false)
    | _ => false) = true) : ∃ x y p pos, e = .Call (.Name nm p) [x, y] [] pos ∧ glB sc nm = true ∧ P x y = true := by
  cases q : xCall e with
  | none => rw [q] at h; cases h
  | some z =>
    obtain ⟨gx, xs, kw, pos⟩ := z
    rw [q] at h
    obtain rfl := xCall_eq q
    match xs, kw, h with
    | [x, y], [], h =>
      have h2 : (match xName gx with
        | some n => decide (n = nm) && (glB sc n && P x y)
        | none => false) = true := h
      cases q2 : xName gx with
      | none => rw [q2] at h2; cases h2
      | some n =>
        rw [q2] at h2
        obtain ⟨pos2, rfl⟩ := xName_eq q2
        have h3 := ee h2
        have h4 := ee h3.2
        obtain rfl := de h3.1
        exact ⟨x, y, pos2, pos, rfl, h4.1, h4.2⟩
theorem call3 {e : Expr} {fb : Str → Bool} {sc : Scope} {nm : Str} {P : Expr → Expr → Expr → Bool} (h : (match xCall e with
    | some (gx, [x, y, z], [], _) => (match xName gx with
      | some n => decide (n = nm) && (glB sc n && P x y z)
      | none => false)
    | _ => false) = true) : ∃ x y z p pos, e = .Call (.Name nm p) [x, y, z] [] pos ∧ glB sc nm = true ∧ P x y z = true := by
  cases q : xCall e with
  | none => rw [q] at h; cases h
  | some zz =>
    obtain ⟨gx, xs, kw, pos⟩ := zz
    rw [q] at h
    obtain rfl := xCall_eq q
    match xs, kw, h with
    | [x, y, z], [], h =>
      have h2 : (match xName gx with
        | some n => decide (n = nm) && (glB sc n && P x y z)
        | none => false) = true := h
      cases q2 : xName gx with
      | none => rw [q2] at h2; cases h2
      | some n =>
        rw [q2] at h2
        obtain ⟨pos2, rfl⟩ := xName_eq q2
        have h3 := ee h2
        have h4 := ee h3.2
        obtain rfl := de h3.1
        exact ⟨x, y, z, pos2, pos, rfl, h4.1, h4.2⟩
theorem si_rng1 (ha : SndE T G o k N a) : SndI T G o k N (.rng1 a) := ⟨fun {fb sc X W} g {tg e} h => by
  obtain ⟨x, p, pos, rfl, h1, h2⟩ := call1 (fb := fb) (sc := sc) (nm := "range") (P := fun x => plainE x && chkE T N a fb sc x) h
  have h3 := ee h2
  exact pd_rng1 (gl_of g h1) (g.md.free _ (by decide +kernel)) (ha.e g h3.2) (star1 h3.1)⟩
theorem si_enum (ha : SndE T G o k N a) : SndI T G o k N (.enum a) := ⟨fun {fb sc X W} g {tg e} h => by
  obtain ⟨x, p, pos, rfl, h1, h2⟩ := call1 (fb := fb) (sc := sc) (nm := "enumerate") (P := fun x => (xTup tg).isSome && (plainE x && chkE T N a fb sc x)) h
  have h3 := ee h2
  have h4 := ee h3.2
  cases q : xTup tg with
  | none => rw [q] at h3; cases h3.1
  | some es =>
    obtain ⟨kk, tp, rfl⟩ := xTup_eq q
    exact pd_enum (gl_of g h1) (g.md.free _ (by decide +kernel)) (ha.e g h4.2) (star1 h4.1)⟩
theorem si_rng2 (ha : SndE T G o k N a) (hb : SndE T G o k N b) : SndI T G o k N (.rng2 a b) := ⟨fun {fb sc X W} g {tg e} h => by
  obtain ⟨x, y, p, pos, rfl, h1, h2⟩ := call2 (fb := fb) (sc := sc) (nm := "range") (P := fun x y => plainE x && (plainE y && (chkE T N a fb sc x && chkE T N b fb sc y))) h
  have h3 := ee h2
  have h4 := ee h3.2
  have h5 := ee h4.2
  have s2 : starEach [y] X.env = [(false, eval y X.env)] := star1 h4.1
  have s1 : starEach [x, y] X.env = [(false, eval x X.env), (false, eval y X.env)] := by rw [star1 h3.1, s2]
  exact pd_rng2 (gl_of g h1) (g.md.free _ (by decide +kernel)) (ha.e g h5.1) (hb.e g h5.2) s1 s2⟩
theorem si_zip2 (ha : SndE T G o k N a) (hb : SndE T G o k N b) : SndI T G o k N (.zip2 a b) := ⟨fun {fb sc X W} g {tg e} h => by
  obtain ⟨x, y, p, pos, rfl, h1, h2⟩ := call2 (fb := fb) (sc := sc) (nm := "zip") (P := fun x y => (xTup tg).isSome && (plainE x && (plainE y && (chkE T N a fb sc x && chkE T N b fb sc y)))) h
  have h3 := ee h2
  have h4 := ee h3.2
  have h5 := ee h4.2
  have h6 := ee h5.2
  cases q : xTup tg with
  | none => rw [q] at h3; cases h3.1
  | some es =>
    obtain ⟨kk, tp, rfl⟩ := xTup_eq q
    exact pd_zip2 g.md.hK (gl_of g h1) (g.md.free _ (by decide +kernel)) (ha.e g h6.1) (hb.e g h6.2) (star1 h4.1) (star1 h5.1) (stars (es := [y]) (by show (plainE y && true) = true; rw [h5.1]; rfl))⟩
theorem si_zip3 (ha : SndE T G o k N a) (hb : SndE T G o k N b) (hc : SndE T G o k N c) : SndI T G o k N (.zip3 a b c) := ⟨fun {fb sc X W} g {tg e} h => by
  obtain ⟨x, y, z, p, pos, rfl, h1, h2⟩ := call3 (fb := fb) (sc := sc) (nm := "zip") (P := fun x y z => (xTup tg).isSome && ((plainE x && (plainE y && (plainE z && true))) && (chkE T N a fb sc x && (chkE T N b fb sc y && chkE T N c fb sc z)))) h
  have h3 := ee h2
  have h4 := ee h3.2
  have h5 := ee h4.2
  have h6 := ee h5.2
  have p1 := ee (show (plainE x && (plainE y && (plainE z && true))) = true from h4.1)
  have p2 := ee p1.2
  have p3 := ee p2.2
  cases q : xTup tg with
  | none => rw [q] at h3; cases h3.1
  | some es =>
    obtain ⟨kk, tp, rfl⟩ := xTup_eq q
    exact pd_zip3 g.md.hK (gl_of g h1) (g.md.free _ (by decide +kernel)) (ha.e g h5.1) (hb.e g h6.1) (hc.e g h6.2) (star1 p1.1) (star1 p2.1) (star1 p3.1) (stars (es := [y, z]) (by show (plainE y && (plainE z && true)) = true; rw [p2.1, p3.1]; rfl))⟩
theorem si_no {ii : II} (h : ∀ fb sc tg e, chkI T N ii fb sc tg e = false) : SndI T G o k N ii := ⟨fun {fb sc X W} g {_ _} q => by rw [h] at q; cases q⟩
omit [Tbls] in
theorem cx_no {P : Program} {w : World} {outer : List PySem.Env} {H : Hp} {s : Shared} {e : Value} {s' : Shared} (h : L2.CX P w outer H s (fun _ _ _ => False) e s') : False := by
  obtain ⟨a, B, H', cls, d, _, _, _, _, _, _, _, z⟩ := h
  exact z
theorem Good.lamIn (g : Good T G o k N fb sc X W) {kk : Nat} (hk : k = kk + 2) {scope : Scope} {A : Around} {outer : List PySem.Env} {s : Shared} {H : Hp} {E : XK} {f c' : Addr} (hr : Room kk (A.deeper (LamX.lamEnv X scope s.heap.objs.size f c'))) :
    Good { T with here := false, cold := true } G (low (low o)) kk N (fun _ => false) scope (LamX.lamCx X A outer s H E scope f c') (fun cls d _ H => E cls d H) where
  md := ⟨g.md.hK, g.md.hw, fun n i x hx => by
      have z := g.md.fn (n + 2) i x hx
      rw [show k - (n + 2) = kk - n by omega] at z
      exact z, g.md.cst, g.md.free, g.md.cls, g.md.exc, g.md.sub, g.md.exm, g.md.vale, g.md.mkx, g.md.nc, g.md.onc, fun n d e => by
      have z := g.md.deep (n + 2) d e
      omega, g.md.tld, fun n x w c hx => by
      have z := g.md.hot (n + 2) x w c hx
      rw [show k - (n + 2) = kk - n by omega] at z
      exact z⟩
  hN := g.hN
  nd := g.nd
  sc := rfl
  fb := fun x h => by cases h
  calm := fun _ => rfl
  roomC := fun _ => hr
  room := roomH_of hr
  tk := takes_of rfl rfl rfl rfl
  own := passes_of rfl
  lam := fun h => by cases h
/-- what the def makes of the lambda's reading -/
def TTf (G : Gt) (o : Out) (n c : Nat) (r : List D → R D) : (XK → Hp → VK → Prop) → Hp → VK → Prop := fun tl H Q =>
  tl (fun cls d H' => ∃ e, cls = .ref (G.cls e) ∧ d = none ∧ e < n ∧ o.sub e c = true ∧ ∀ a, H' a = none → spD G 1 r [.ref a] (upd H' a (.ext (exA a cls none))) Q fun _ _ _ => False) H Q
theorem told_gives (g : Good T G o k N fb sc X W) {kk : Nat} (hk : k = kk + 2) (hcl : T.cold = true) {x : Str} {w c : Nat} (ht : T.tld = some (x, w, c)) {ga : Addr} {bg : List Stmt} {sg : Scope} {a en q : Str} {cdg : Value} (S : FnScope [a, en] [a] sg) (hB : toldB T w c sg a en bg = true) :
    LamX.GivesTo X [a, en] x sg ga cdg bg a q (TTf G o T.cls.length c ((low o).call w)) := by
  obtain ⟨ce, wn, p1, p2, p3, p4, p5, p6, p7, p8, p9, p10, rfl, b1, b2, b3, b4, b5, b6, b7, b8, b9, b10⟩ := toldB_eq hB
  intro f c' s H Q tl act hc h
  obtain ⟨fdw, psw, lw, bw, Fw⟩ := g.md.hot 1 x w c ht
  obtain ⟨mw, kw, _⟩ := g.md.fn 0 w wn b2
  have hlt : c < T.cls.length := by
    rcases Nat.lt_or_ge c T.cls.length with z | z
    · exact z
    · rw [List.getElem?_eq_none z] at b1
      cases b1
  have gl : ∀ {y : Str}, glB sg y = true → sg.names.lookup y = some .globalImplicit := fun {y} z => by
    unfold glB at z
    split at z
    · assumption
    · cases z
  have rm : RoomH (k - 1) (X.A.deeper (envOfC x sg s.heap.objs.size ga cdg)) := by
    have z := g.roomC hcl
    rw [hk] at z
    rw [show k - 1 = kk + 1 by omega]
    exact roomH_of (z.deeper _)
  refine ⟨_, pss_one (ps_try_trk (X := (cxOf C8.CX0 X.prog X.w X.K X.mg X.base [a, en] x sg ga cdg X.A X.stack s H C8.E0).nox) (i := 1) (n := en) (c := .ref (G.cls c)) (Wo := fun _ _ _ _ => False)
      (tb := fun W D σ H => ∃ Ech : XK, (∀ cls d σ' H', Ech cls d H' → W cls d σ' H') ∧ σ[0]? = some (some (.ref f)) ∧ H c' = some (LamX.CodeO c' q) ∧ tl Ech H D.rt)
      (ts := fun _ _ _ => tRet (tCallS (spD G 1 ((low o).call w)) (fun _ _ _ _ => False) (tCons (tVar 1) tNil)))
      rfl rfl rfl S.nd rfl b10 ⟨gl b3, nm1 b5, .inl (g.md.cls c ce b1)⟩ LamX.takes0 (fun W pn xe tk _ => ?_) (fun aa oe cls d pn _ _ => ?_)), ?_⟩
  · refine ⟨fun pins s' σ H' D I h' => ?_⟩
    obtain ⟨Ech, hW, h1, h2, h3⟩ := h'
    exact (pss_one (ps_ret (pos := p3) (act W pn xe Ech p1 p2 tk hW))).run pins s' σ H' D I ⟨h1, h2, h3⟩
  · exact pss_one (ps_ret (pe_callC (X := ((cxOf C8.CX0 X.prog X.w X.K X.mg X.base [a, en] x sg ga cdg X.A X.stack s H C8.E0).nox).suite aa pn) (E := fun _ _ _ _ => False) Fw ⟨rm.dp, rm.un⟩ (gl b4) mw kw bw (fun σ pins H s e s' I cc => (cx_no cc).elim) (pa_cons (pe_var (i := 1) rfl (.inl b10) (nm1 b8) (nm2 b8)) pa_nil rfl) (nm1 b6)))
  · refine ⟨_, fun cls d σ' H' z => ?_, rfl, hc, h⟩
    obtain ⟨e, rfl, rfl, le, he, hw⟩ := z
    refine ⟨true, by rw [← he]; exact g.md.exm e c le hlt, fun _ hl aa na => ⟨.ref aa, ?_, hw aa na⟩, fun z => by cases z⟩
    exact List.getElem?_set_self (by rw [hl]; exact Nat.lt_succ_self 1)
theorem s_told {w c : Nat} {b : IE} (hb : ∀ kk, SndE { T with here := false, cold := true } G (low (low o)) kk N b) : SndE T G o k N (.told w c b) := s_pl fun {fb sc X W} g {e} h => by
  have h0 : ((T.cold && T.here) && (match xCall e with
    | some (g, [x], [], _) => (match xName g, xLam x with
      | some n, some (params, body, scope) => decide (T.tld = some (n, w, c)) && (glB sc n && (nmOk n && (LamX.lamSB sc scope && (noPar params && chkE { T with here := false, cold := true } N b (fun _ => false) scope body))))
      | _, _ => false)
    | _ => false)) = true := h
  have hf := ee (ee h0).1
  have h' := (ee h0).2
  cases q : xCall e with
  | none => rw [q] at h'; cases h'
  | some z =>
    obtain ⟨gx, xs, kw, pos⟩ := z
    rw [q] at h'
    obtain rfl := xCall_eq q
    match xs, kw, h' with
    | [x], [], h' =>
      have h2 : (match xName gx, xLam x with
        | some n, some (params, body, scope) => decide (T.tld = some (n, w, c)) && (glB sc n && (nmOk n && (LamX.lamSB sc scope && (noPar params && chkE { T with here := false, cold := true } N b (fun _ => false) scope body))))
        | _, _ => false) = true := h'
      cases q2 : xName gx with
      | none => rw [q2] at h2; cases h2
      | some n =>
        cases q3 : xLam x with
        | none => rw [q2, q3] at h2; cases h2
        | some y =>
          obtain ⟨params, body, scope⟩ := y
          rw [q2, q3] at h2
          obtain ⟨pos2, rfl⟩ := xName_eq q2
          obtain ⟨pos3, rfl⟩ := xLam_eq q3
          have h3 := ee h2
          have h4 := ee h3.2
          have h5 := ee h4.2
          have h6 := ee h5.2
          have h7 := ee h6.2
          obtain rfl := noPar_eq h7.1
          refine ⟨?_, fun _ => rfl, fun _ _ _ e => by cases e⟩
          by_cases hk : 1 < k
          · obtain ⟨kk, hkk⟩ : ∃ kk, k = kk + 2 := ⟨k - 2, by omega⟩
            obtain ⟨ga, pg, bg, sg, fd, a, en, m1, F, bi, S, hB⟩ := g.md.tld n w c (de h3.1)
            obtain ⟨oc, od, dV, kV, doc, pm, an, cdv, ct, osl, rfl, lk, hcd, _, _⟩ := F.ex
            obtain ⟨cc, P, TB, hcode, hm, hu⟩ := g.lam hf.2
            obtain ⟨_, _, _, _, _, _, _, _, _, _, _, _, _, _, _, _, _, _, _, b7, _, b9, _⟩ := toldB_eq hB
            have hr := g.roomC hf.1
            rw [hkk] at hr
            have hva : Vis sg a := by
              unfold visB at b9
              split at b9 <;> first | exact .inl (by assumption) | exact .inr (.inl (by assumption)) | exact .inr (.inr (by assumption)) | cases b9
            refine pe_imp (LamX.pe_lamcall (T := (Tbls.tab : List (Addr × Str))) (TT := TTf G o T.cls.length c ((low o).call w)) (t := fun E => tD G (fun cls d _ H => E cls d H) (evE (low (low o)) b)) (k := kk) (gl_of g h4.1) m1 F.kp lk hcd bi S rfl hva
              (told_gives g hkk hf.1 (de h3.1) S hB) TB hcode hm hu hr (LamX.lamS_by (by rw [g.sc]; exact h6.1)) rfl (fun _ _ _ _ _ => rfl) (fun A outer s H E f c' hr2 => (hb kk).e (g.lamIn hkk hr2) h7.2) (nm1 h5.1) (nm1 b7) (nm2 b7)) fun σ H Q hq => ?_
            obtain ⟨O, ρ, rep, f⟩ := hq
            refine ⟨rep.ok.tab, fun H1 ext tb => ?_⟩
            have s1 : Stp H H1 := ⟨ext, fun _ => tb⟩
            have f' : Fin G W (match (low o).call 999 [] with
              | .ok _ => (match evE (low (low o)) b ρ with
                | .ok d => R.ok d
                | .exc e => guard' (decide (e < o.nc) && o.sub e c) (noexc ((low o).call w [.exc e]))
                | .bad => .bad)
              | _ => .bad) σ H fun d H' => ∀ v, Dv G (hid H' O) d v → Q v H' := f
            cases q5 : (low o).call 999 [] with
            | exc _ => rw [q5] at f'; exact f'.elim
            | bad => rw [q5] at f'; exact f'.elim
            | ok z =>
              rw [q5] at f'
              refine ⟨O, ρ, rep.mono s1, ?_⟩
              cases q6 : evE (low (low o)) b ρ with
              | bad => rw [q6] at f'; exact f'.elim
              | ok d =>
                rw [q6] at f'
                exact fun H2 s2 v hv => f' H2 (s1.trans s2) v hv
              | exc e =>
                rw [q6] at f'
                have f2 : Fin G W (guard' (decide (e < o.nc) && o.sub e c) (noexc ((low o).call w [.exc e]))) σ H fun d H' => ∀ v, Dv G (hid H' O) d v → Q v H' := f'
                cases q7 : decide (e < o.nc) && o.sub e c with
                | false => rw [q7] at f2; exact f2.elim
                | true =>
                  rw [q7] at f2
                  have q8 := ee q7
                  have le : e < T.cls.length := by rw [← g.md.onc]; exact de q8.1
                  refine fun H2 s2 => ⟨e, rfl, rfl, le, q8.2, fun aa na => ⟨rfl, O, [.exc e], (rep.mono (s1.trans (s2.trans (stp_upd' na)))).ok, ⟨.ref aa, [], rfl, ⟨by rw [g.md.nc]; exact le, aa, rfl, ?_⟩, rfl⟩, ?_⟩⟩
                  · rw [hid_at ((rep.mono (s1.trans s2)).ok.fresh na)]
                    exact upd_same
                  · have f3 : Fin G W (noexc ((low o).call w [.exc e])) σ H fun d H' => ∀ v, Dv G (hid H' O) d v → Q v H' := f2
                    cases q9 : (low o).call w [.exc e] with
                    | ok d =>
                      rw [q9] at f3
                      exact fun v H3 s3 hv => f3 H3 (s1.trans (s2.trans ((stp_upd' na).trans s3))) v hv
                    | exc _ => rw [q9] at f3; exact f3.elim
                    | bad => rw [q9] at f3; exact f3.elim
          · refine ⟨fun pins s σ H Q I hq => ?_⟩
            obtain ⟨O, ρ, rep, f⟩ := hq
            exfalso
            have f' : Fin G W (match (low o).call 999 [] with
              | .ok _ => (match evE (low (low o)) b ρ with
                | .ok d => R.ok d
                | .exc e => guard' (decide (e < o.nc) && o.sub e c) (noexc ((low o).call w [.exc e]))
                | .bad => .bad)
              | _ => .bad) σ H fun d H' => ∀ v, Dv G (hid H' O) d v → Q v H' := f
            cases q5 : (low o).call 999 [] with
            | exc _ => rw [q5] at f'; exact f'.elim
            | bad => rw [q5] at f'; exact f'.elim
            | ok z => exact hk (g.md.deep 1 z q5)
end
mutual
theorem sndE (T : Tb) (G : Gt) (o : Out) (k : Nat) (N : List Str) : ∀ ie : IE, SndE T G o k N ie
  | .var _ => s_var
  | .cst _ => s_cst
  | .glo _ => s_glo
  | .gfn _ => s_gfn
  | .bin _ a b => s_bin (sndE T G o k N a) (sndE T G o k N b)
  | .neg a => s_neg (sndE T G o k N a)
  | .nt a => s_nt (sndE T G o k N a)
  | .and a b => s_and (sndE T G o k N a) (sndE T G o k N b)
  | .or a b => s_or (sndE T G o k N a) (sndE T G o k N b)
  | .ite c a b => s_ite (sndE T G o k N c) (sndE T G o k N a) (sndE T G o k N b)
  | .cmp _ a b => s_cmp (sndE T G o k N a) (sndE T G o k N b)
  | .cmp2 _ _ a b c => s_cmp2 (sndE T G o k N a) (sndE T G o k N b) (sndE T G o k N c)
  | .tup es => s_tup (sndL T G o k N es)
  | .lst es => s_lst (sndL T G o k N es)
  | .dic _ es => s_dic (sndL T G o k N es)
  | .idx a b => s_idx (sndE T G o k N a) (sndE T G o k N b)
  | .slc a l h => s_slc (sndE T G o k N a) (sndL T G o k N l) (sndL T G o k N h)
  | .rev a => s_rev (sndE T G o k N a)
  | .call _ es => s_call (sndL T G o k N es)
  | .callv _ g es => s_callv (sndE T G o k N g) (sndL T G o k N es)
  | .bi _ es => s_bi (sndL T G o k N es)
  | .mt _ a es => s_mt (sndE T G o k N a) (sndL T G o k N es)
  | .isi a _ => s_isi (sndE T G o k N a)
  | .lc a _ it ifs => s_lc (sndE T G o k N a) (sndI T G o k N it) (sndL T G o k N ifs)
  | .lam _ _ => s_no fun _ _ _ => rfl
  | .told _ _ b => s_told fun kk => sndE { T with here := false, cold := true } G (low (low o)) kk N b
  | .oidx _ a => s_oidx (sndE T G o k N a)
  | .olen _ => s_olen
  | .oemp i => s_emp (i := i) (p := .Eq) (f := fun n => n == 0) (fun _ _ _ => rfl) (fun _ => rfl) (fun hu => op_eq0 hu) (fun _ => rfl)
  | .onem i => s_emp (i := i) (p := .NotEq) (f := fun n => !(n == 0)) (fun _ _ _ => rfl) (fun _ => rfl) (fun hu => op_ne0 hu) (fun _ => rfl)
  | .nope => s_nope
  | .lrg a b => s_lrg (sndE T G o k N a) (sndE T G o k N b)
  | .sst a => s_sst (sndE T G o k N a)
  | .oidx2 _ a b => s_oidx2 (sndE T G o k N a) (sndE T G o k N b)
theorem sndL (T : Tb) (G : Gt) (o : Out) (k : Nat) (N : List Str) : ∀ es : IEs, SndL T G o k N es
  | .nil => sl_nil
  | .cons a r => sl_cons (sndE T G o k N a) (sndL T G o k N r)
theorem sndI (T : Tb) (G : Gt) (o : Out) (k : Nat) (N : List Str) : ∀ ii : II, SndI T G o k N ii
  | .seq a => si_seq (sndE T G o k N a)
  | .rng1 a => si_rng1 (sndE T G o k N a)
  | .rng2 a b => si_rng2 (sndE T G o k N a) (sndE T G o k N b)
  | .zip2 a b => si_zip2 (sndE T G o k N a) (sndE T G o k N b)
  | .zip3 a b c => si_zip3 (sndE T G o k N a) (sndE T G o k N b) (sndE T G o k N c)
  | .enum a => si_enum (sndE T G o k N a)
  | .items _ => si_no fun _ _ _ _ => rfl
  | .values _ => si_no fun _ _ _ _ => rfl
end
end
end FD
namespace FD
open PySem PySem.Spec PyProof.Rows L2
variable [Tbls]
def xAsg : Stmt → Option (List Expr × Expr × Pos)
  | .Assign t v p => some (t, v, p)
  | _ => none
def xExS : Stmt → Option (Expr × Pos)
  | .Expr v p => some (v, p)
  | _ => none
def xIfS : Stmt → Option (Expr × List Stmt × List Stmt)
  | .If c a b _ => some (c, a, b)
  | _ => none
def xWhl : Stmt → Option (Expr × List Stmt × List Stmt)
  | .While c a b _ => some (c, a, b)
  | _ => none
def xFor : Stmt → Option (Expr × Expr × List Stmt × List Stmt)
  | .For t i a b _ => some (t, i, a, b)
  | _ => none
def xRet : Stmt → Option (Option Expr)
  | .Return e _ => some e
  | _ => none
def xRai : Stmt → Option (Option Expr × Option Expr)
  | .Raise a b _ => some (a, b)
  | _ => none
theorem xAsg_eq {s : Stmt} {t : List Expr} {v : Expr} {p : Pos} (h : xAsg s = some (t, v, p)) : s = .Assign t v p := by cases s <;> first | (cases h; rfl) | cases h
theorem xExS_eq {s : Stmt} {v : Expr} {p : Pos} (h : xExS s = some (v, p)) : s = .Expr v p := by cases s <;> first | (cases h; rfl) | cases h
theorem xIfS_eq {s : Stmt} {c : Expr} {a b : List Stmt} (h : xIfS s = some (c, a, b)) : ∃ p, s = .If c a b p := by cases s <;> first | (cases h; exact ⟨_, rfl⟩) | cases h
theorem xWhl_eq {s : Stmt} {c : Expr} {a b : List Stmt} (h : xWhl s = some (c, a, b)) : ∃ p, s = .While c a b p := by cases s <;> first | (cases h; exact ⟨_, rfl⟩) | cases h
theorem xFor_eq {s : Stmt} {t i : Expr} {a b : List Stmt} (h : xFor s = some (t, i, a, b)) : ∃ p, s = .For t i a b p := by cases s <;> first | (cases h; exact ⟨_, rfl⟩) | cases h
theorem xRet_eq {s : Stmt} {e : Option Expr} (h : xRet s = some e) : ∃ p, s = .Return e p := by cases s <;> first | (cases h; exact ⟨_, rfl⟩) | cases h
theorem xRai_eq {s : Stmt} {a b : Option Expr} (h : xRai s = some (a, b)) : ∃ p, s = .Raise a b p := by cases s <;> first | (cases h; exact ⟨_, rfl⟩) | cases h
def lcl (sc : Scope) (x : Str) : Bool := match sc.names.lookup x with
  | some .local => true
  | _ => false
def isStar : Expr → Bool
  | .Starred _ _ => true
  | _ => false
def namesL (sc : Scope) (line : Nat) (ts : List Expr) : List Str := ts.filterMap fun e => match e with
  | .Name id pos => if sc.names.lookup id == some .local && pos.line == line then some id else none
  | _ => none
/-- in which order a tuple's names are stored -/
def swsB (sc : Scope) (ts vs : List Expr) : Option (Option (List Str)) :=
  if (!(ts.length == 2 || ts.length == 3) || vs.length != ts.length) = true then some none
  else if vs.any isStar = true then some none
  else if ((namesL sc ((ts.head?.map (·.pos.line)).getD 0) ts).length != ts.length || (namesL sc ((ts.head?.map (·.pos.line)).getD 0) ts).eraseDups.length != (namesL sc ((ts.head?.map (·.pos.line)).getD 0) ts).length) = true then some none
  else if vs.all (foldedForSure 8) = true then some none
  else if vs.all (constantsAlone 8) = true then none
  else some (some (namesL sc ((ts.head?.map (·.pos.line)).getD 0) ts))
def compE : Expr → Bool
  | .ListComp _ _ _ _ => true
  | .SetComp _ _ _ _ => true
  | .DictComp _ _ _ _ _ => true
  | _ => false
def swapN (sc : Scope) (tg v : Expr) : Bool := match compE v with
  | true => (match xName tg with
    | some t => !(lcl sc t)
    | none => (xTup tg).isSome)
  | false => (match xTup tg with
    | some ts => (match xTup v with
      | some vs => (match swsB sc ts vs with
        | some none => true
        | _ => false)
      | none => true)
    | none => (xName tg).isSome)
def xNm : Expr → Option (Str × Pos)
  | .Name x p => some (x, p)
  | _ => none
theorem xNm_eq {e : Expr} {x : Str} {p : Pos} (h : xNm e = some (x, p)) : e = .Name x p := by cases e <;> first | (cases h; rfl) | cases h
def setL (sc : Scope) (tg v : Expr) : Bool := match xNm tg, xLc v with
  | some (y, py), some (_, _, scope, pos) => lcl sc y && ((py.line == pos.line) && !(scope.names.any fun (n, k) => n == y && (k == .local || k == .cell)))
  | _, _ => false
def isNmP : Pat → Bool
  | .nm _ => true
  | _ => false
def isLcI : IE → Bool
  | .lc _ _ _ _ => true
  | _ => false
def parB (T : Tb) (N : List Str) (sc : Scope) (is : List Nat) (ts vs : List Expr) : Bool := match is with
  | [i, j] => (match ts with
    | [t, u] => (match xName t, xName u with
      | some x, some y => decide (i ≠ j) && (decide (N[i]? = some x) && (decide (N[j]? = some y) && (lcl sc x && (lcl sc y && (decide (vs.length = 2) && decide (swsB sc ts vs = some (some [x, y])))))))
      | _, _ => false)
    | _ => false)
  | [i, j, l] => (match ts with
    | [t, u, z] => (match xName t, xName u, xName z with
      | some x, some y, some q => decide (i ≠ j ∧ i ≠ l ∧ j ≠ l) && (decide (N[i]? = some x) && (decide (N[j]? = some y) && (decide (N[l]? = some q) && (lcl sc x && (lcl sc y && (lcl sc q && (decide (vs.length = 3) && decide (swsB sc ts vs = some (some [x, y, q])))))))))
      | _, _, _ => false)
    | _ => false)
  | _ => false
def raiB (T : Tb) (sc : Scope) (c : Nat) (e : Expr) : Bool := match xCall e with
  | some (g, [m], [], _) => (match xName g, xConst m with
    | some x, some (.str _) => decide (T.cls[c]? = some x) && (glB sc x && nmOk x)
    | _, _ => false)
  | _ => false
def paroB (T : Tb) (N : List Str) (fb : Str → Bool) (sc : Scope) (b : Bool) (e : IE) (v1 v2 : Expr) : Bool := match b with
  | true => (match xLst v1 with
    | some vs => vs.isEmpty && (plainE v2 && chkE T N e fb sc v2)
    | none => false)
  | false => (match xLst v2 with
    | some vs => vs.isEmpty && (plainE v1 && chkE T N e fb sc v1)
    | none => false)
/-- one after another, where no stores are swapped -/
def paro2B (N : List Str) (fb : Str → Bool) (sc : Scope) (i j : Nat) (b : Bool) (tg v : Expr) : Bool := b && (chkP N fb sc tg (.tp [.nm i, .nm j]) && swapN sc tg v)
def xTry : Stmt → Option (List Stmt × List ExceptHandler × List Stmt × List Stmt)
  | .Try b h e f _ => some (b, h, e, f)
  | _ => none
theorem xTry_eq {s : Stmt} {b e f : List Stmt} {h : List ExceptHandler} (q : xTry s = some (b, h, e, f)) : ∃ p, s = .Try b h e f p := by cases s <;> first | (cases q; exact ⟨_, rfl⟩) | cases q
/-- the suites that are known -/
def hKept : ISs → Option (Nat × Nat)
  | .cons (.asg (.nm j) (.var k)) .nil => some (j, k)
  | _ => none
theorem hKept_eq {x : ISs} {j k : Nat} (h : hKept x = some (j, k)) : x = .cons (.asg (.nm j) (.var k)) .nil := by
  unfold hKept at h
  split at h
  · cases h
    rfl
  · cases h
def hNon : ISs → Bool
  | .cons (.ret (.cst .non)) .nil => true
  | _ => false
theorem hNon_eq {x : ISs} (h : hNon x = true) : x = .cons (.ret (.cst .non)) .nil := by
  unfold hNon at h
  split at h
  · rfl
  · cases h
def hCnt : ISs → Bool
  | .cons .cnt .nil => true
  | _ => false
theorem hCnt_eq {x : ISs} (h : hCnt x = true) : x = .cons .cnt .nil := by
  unfold hCnt at h
  split at h
  · rfl
  · cases h
def suAsg : List Stmt → Option (Str × Str)
  | [.Assign [.Name y _] (.Name z _) _] => some (y, z)
  | _ => none
theorem suAsg_eq {l : List Stmt} {y z : Str} (h : suAsg l = some (y, z)) : ∃ p q r, l = [.Assign [.Name y p] (.Name z q) r] := by
  unfold suAsg at h
  split at h
  · cases h
    exact ⟨_, _, _, rfl⟩
  · cases h
def suNon : List Stmt → Bool
  | [.Return (some (.Constant .none _ _)) _] => true
  | _ => false
theorem suNon_eq {l : List Stmt} (h : suNon l = true) : ∃ k p q, l = [.Return (some (.Constant .none k p)) q] := by
  unfold suNon at h
  split at h
  · exact ⟨_, _, _, rfl⟩
  · cases h
def suCnt : List Stmt → Bool
  | [.Continue _] => true
  | _ => false
theorem suCnt_eq {l : List Stmt} (h : suCnt l = true) : ∃ p, l = [.Continue p] := by
  unfold suCnt at h
  split at h
  · exact ⟨_, rfl⟩
  · cases h
def suiK (N : List Str) (sc : Scope) (i : Nat) (n : Str) (h : ISs) (su : List Stmt) : Bool := match hKept h with
  | some (j, k) => (match suAsg su with
    | some (y, z) => decide (N[i]? = some n) && (lcl sc n && (decide (z = n) && (decide (k = i) && (decide (i ≠ j) && (decide (N[j]? = some y) && (lcl sc y && nmOk n))))))
    | none => false)
  | none => false
def suiB (N : List Str) (sc : Scope) (a : Option Nat) (h : ISs) (nm : Option Str) (su : List Stmt) : Bool := match a with
  | some i => (match nm with
    | some n => suiK N sc i n h su
    | none => false)
  | none => (match nm with
    | some _ => false
    | none => (hNon h && suNon su) || (hCnt h && suCnt su))
def lstE : IE → Option IEs
  | .lst es => some es
  | _ => none
mutual
def chkS (T : Tb) (N : List Str) (fb : Str → Bool) (sc : Scope) : IS → Stmt → Bool
  | .asg p e, st => ((T.cold || (isNmP p && !(isLcI e))) && (match xAsg st with
    | some ([tg], v, _) => chkP N fb sc tg p && (chkE T N e fb sc v && (swapN sc tg v || (isNmP p && (isLcI e && setL sc tg v))))
    | _ => false))
  | .par is es, st => (T.cold && (match xAsg st with
    | some ([tg], v, _) => (match xTup tg, xTup v with
      | some ts, some vs => parB T N sc is ts vs && chkL T N es fb sc vs
      | _, _ => false)
    | _ => false))
  | .own i e, st => (T.cold && (match xAsg st with
    | some ([tg], v, _) => (match lstE e, xLst v with
      | some es, some vs => chkP N fb sc tg (.nm i) && (decide (vs.length ≤ 1000) && chkL T N es fb sc vs)
      | _, _ => isLcI e && (chkP N fb sc tg (.nm i) && (chkE T N e fb sc v && setL sc tg v)))
    | _ => false))
  | .frz _, _ => false
  | .app i e, st => (match xExS st with
    | some (c, _) => (match xCall c with
      | some (f, [x], [], cpos) => (match xAttr f with
        | some (ob, n, apos) => (match xName ob with
          | some y => decide (n = ("append" : Str)) && ((apos.endLine == cpos.line) && (decide (N[i]? = some y) && (visB sc y && (nmOk y && (plainE x && chkE T N e fb sc x)))))
          | none => false)
        | none => false)
      | _ => false)
    | none => false)
  | .ext i e, st => (match xExS st with
    | some (c, _) => (match xCall c with
      | some (f, [x], [], cpos) => (match xAttr f with
        | some (ob, n, apos) => (match xName ob with
          | some y => decide (n = ("extend" : Str)) && ((apos.endLine == cpos.line) && (decide (N[i]? = some y) && (visB sc y && (nmOk y && (plainE x && chkE T N e fb sc x)))))
          | none => false)
        | none => false)
      | _ => false)
    | none => false)
  | .seti i ix e, st => (match xAsg st with
    | some ([tg], v, _) => (match xSub tg with
      | some (ob, y) => (match xName ob with
        | some z => decide (N[i]? = some z) && (visB sc z && (nmOk z && (plainE y && (!(compE v) && (chkE T N e fb sc v && chkE T N ix fb sc y)))))
        | none => false)
      | none => false)
    | _ => false)
  | .expr e, st => (match xExS st with
    | some (v, _) => !(compE v) && chkE T N e fb sc v
    | none => false)
  | .iff c a b, st => (match xIfS st with
    | some (x, y, z) => chkE T N c fb sc x && (chkSs T N fb sc a y && chkSs T N fb sc b z)
    | none => false)
  | .whl _ c b, st => (match xWhl st with
    | some (x, y, z) => z.isEmpty && (chkE T N c fb sc x && chkSs T N fb sc b y)
    | none => false)
  | .for p it b, st => (T.cold && (match xFor st with
    | some (t, i, y, z) => z.isEmpty && (plainE i && (chkP N fb sc t p && (chkI T N it fb sc t i && chkSs T N fb sc b y)))
    | none => false))
  | .ret e, st => (match xRet st with
    | some (some x) => chkE T N e fb sc x
    | _ => false)
  | .retN, st => (match xRet st with
    | some none => true
    | _ => false)
  | .brk, st => (match st with | .Break _ => true | _ => false)
  | .cnt, st => (match st with | .Continue _ => true | _ => false)
  | .pass, st => (match st with | .Pass _ => true | _ => false)
  | .raise c, st => (T.cold && (match xRai st with
    | some (some e, none) => raiB T sc c e
    | _ => false))
  | .try_ b c a h, st => (T.cold && (match xTry st with
    | some (bd, [.ExceptHandler (some ty) nm su _], [], []) => (match xName ty with
      | some y => decide (T.cls[c]? = some y) && (glB sc y && (nmOk y && (chkSs T N fb sc b bd && suiB N sc a h nm su)))
      | none => false)
    | _ => false))
  | .nope, _ => true
  | .own2 i, st => (T.cold && (match xAsg st with
    | some ([tg], v, _) => (match xLst v with
      | some vs => vs.isEmpty && chkP N fb sc tg (.nm i)
      | none => false)
    | _ => false))
  | .app2 i es, st => (match xExS st with
    | some (c, _) => (match xCall c with
      | some (f, [x], [], cpos) => (match xAttr f with
        | some (ob, n, apos) => (match xName ob, xLst x with
          | some y, some vs => decide (n = ("append" : Str)) && ((apos.endLine == cpos.line) && (decide (N[i]? = some y) && (visB sc y && (nmOk y && (decide (vs.length ≤ 1000) && chkL T N es fb sc vs)))))
          | _, _ => false)
        | none => false)
      | _ => false)
    | none => false)
  | .seti2 i ix iy e, st => (match xAsg st with
    | some ([tg], v, _) => (match xSub tg with
      | some (ob, y) => (match xSub ob with
        | some (n, x) => (match xName n with
          | some z => decide (N[i]? = some z) && (visB sc z && (nmOk z && ((plainE x && plainE y) && (!(compE v) && (chkE T N e fb sc v && (chkE T N ix fb sc x && chkE T N iy fb sc y))))))
          | none => false)
        | none => false)
      | none => false)
    | _ => false)
  | .paro i j b e, st => (T.cold && (match xAsg st with
    | some ([tg], v, _) => (match xTup tg, xTup v with
      | some ts, some [v1, v2] => (parB T N sc [i, j] ts [v1, v2] || paro2B N fb sc i j b tg v) && paroB T N fb sc b e v1 v2
      | _, _ => false)
    | _ => false))
def chkSs (T : Tb) (N : List Str) (fb : Str → Bool) (sc : Scope) : ISs → List Stmt → Bool
  | .nil, l => l.isEmpty
  | .cons s r, l => (match s with
    | .frz _ => chkSs T N fb sc r l
    | s => (match l with
      | [] => false
      | x :: t => chkS T N fb sc s x && chkSs T N fb sc r t))
end
/-- the addresses that a slot owns -/
def Foot (H : Hp) : SV → Option V → List Addr → Prop
  | .un, _, l => l = []
  | .pv _, _, l => l = []
  | .ow _, x, l => ∃ p, x = some (.ref p) ∧ l = [p]
  | .ow2 _, x, l => ∃ p ps, x = some (.ref p) ∧ H p = some (.lst (ps.map V.ref)) ∧ l = p :: ps ∧ l.Nodup
structure RepS (G : Gt) (B : Hp) (O0 O : List Addr) (ρ : Env) (σ : L2.St) (H : Hp) : Prop where
  rep : Rep G O ρ σ H
  same : Stp B H
  sub : ∀ p ∈ O0, p ∈ O
  fresh : ∀ p ∈ O, p ∉ O0 → BN B p
  own : ∃ F : Nat → List Addr, (∀ i s x, ρ[i]? = some s → σ[i]? = some x → Foot H s x (F i)) ∧ (∀ i j q, q ∈ F i → q ∈ F j → i = j) ∧ ∀ i q, q ∈ F i → q ∈ O ∧ q ∉ O0
section
variable {G : Gt} {W : WX} {B : Hp} {O0 O : List Addr} {ρ : Env} {σ : L2.St} {H H' : Hp}
theorem Foot.mono (e : Same H H') : ∀ {s : SV} {x : Option V} {l : List Addr}, Foot H s x l → Foot H' s x l
  | .un, _, _, h => h
  | .pv _, _, _, h => h
  | .ow _, _, _, h => h
  | .ow2 _, _, _, h => by
    obtain ⟨p, ps, h1, h2, h3, h4⟩ := h
    exact ⟨p, ps, h1, e.l h2, h3, h4⟩
theorem Foot.uniq : ∀ {s : SV} {x : Option V} {l m : List Addr}, Foot H s x l → Foot H s x m → l = m
  | .un, _, _, _, h, k => h.trans k.symm
  | .pv _, _, _, _, h, k => h.trans k.symm
  | .ow _, _, _, _, h, k => by
    obtain ⟨p, h1, rfl⟩ := h
    obtain ⟨q, k1, rfl⟩ := k
    rw [h1] at k1
    cases k1
    rfl
  | .ow2 _, _, _, _, h, k => by
    obtain ⟨p, ps, h1, h2, rfl, _⟩ := h
    obtain ⟨q, qs, k1, k2, rfl, _⟩ := k
    rw [h1] at k1
    cases k1
    rw [h2] at k2
    have e := HO.lst.inj (Option.some.inj k2)
    have inj : ∀ (a b : List Addr), a.map V.ref = b.map V.ref → a = b := by
      intro a
      induction a with
      | nil =>
        intro b w
        cases b with
        | nil => rfl
        | cons _ _ => cases w
      | cons x a ih =>
        intro b w
        cases b with
        | nil => cases w
        | cons y b =>
          rw [List.map_cons, List.map_cons] at w
          obtain ⟨w1, w2⟩ := List.cons.inj w
          cases w1
          rw [ih b w2]
    rw [inj ps qs e]
theorem RepS.mono (r : RepS G B O0 O ρ σ H) (s : Stp H H') : RepS G B O0 O ρ σ H' := by
  obtain ⟨F, h1, h2, h3⟩ := r.own
  exact ⟨r.rep.mono s, r.same.trans s, r.sub, r.fresh, F, fun i sv x a b => (h1 i sv x a b).mono s.ext, h2, h3⟩
theorem foot_set {F : Nat → List Addr} (h1 : ∀ i s x, ρ[i]? = some s → σ[i]? = some x → Foot H s x (F i)) (hl : σ.length = ρ.length) {i : Nat} {s0 : SV} {v0 : Option V} {l0 : List Addr} (hf : Foot H' s0 v0 l0)
    (hm : ∀ j, i ≠ j → ∀ s x, ρ[j]? = some s → σ[j]? = some x → Foot H s x (F j) → Foot H' s x (F j)) : ∀ j s x, (ρ.set i s0)[j]? = some s → (σ.set i v0)[j]? = some x → Foot H' s x (if j = i then l0 else F j) := fun j s x a b => by
  by_cases e : i = j
  · subst e
    rw [if_pos rfl]
    by_cases hi : i < ρ.length
    · rw [List.getElem?_set_self hi] at a
      rw [List.getElem?_set_self (by rw [hl]; exact hi)] at b
      cases a
      cases b
      exact hf
    · rw [List.getElem?_eq_none (by rw [List.length_set]; omega)] at a
      cases a
  · rw [if_neg (fun z => e z.symm)]
    rw [List.getElem?_set_ne e] at a b
    exact hm j e s x a b (h1 j s x a b)
theorem set_self {i : Nat} {v : Option V} (h : σ[i]? = some v) : σ.set i v = σ := by
  refine List.ext_getElem? fun j => ?_
  by_cases e : i = j
  · subst e
    rw [List.getElem?_set_self (by
      rcases Nat.lt_or_ge i σ.length with z | z
      · exact z
      · rw [List.getElem?_eq_none z] at h
        cases h), h]
  · rw [List.getElem?_set_ne e]
/-- a slot that owns nothing -/
theorem RepS.put (r : RepS G B O0 O ρ σ H) {s0 : SV} {v0 : Option V} {i : Nat} (hr : Rep G O (ρ.set i s0) (σ.set i v0) H) (hf : Foot H s0 v0 []) : RepS G B O0 O (ρ.set i s0) (σ.set i v0) H := by
  obtain ⟨F, h1, h2, h3⟩ := r.own
  refine ⟨hr, r.same, r.sub, r.fresh, fun j => if j = i then [] else F j, foot_set h1 r.rep.len hf fun _ _ _ _ _ _ z => z, fun a b q ha hb => ?_, fun a q ha => ?_⟩
  · dsimp only at *
    by_cases e1 : a = i
    · rw [if_pos e1] at ha
      cases ha
    · by_cases e2 : b = i
      · rw [if_pos e2] at hb
        cases hb
      · rw [if_neg e1] at ha
        rw [if_neg e2] at hb
        exact h2 a b q ha hb
  · dsimp only at *
    by_cases e1 : a = i
    · rw [if_pos e1] at ha
      cases ha
    · rw [if_neg e1] at ha
      exact h3 a q ha
theorem RepS.set (r : RepS G B O0 O ρ σ H) {d : D} {v : V} (h : Dv G (hid H O) d v) (i : Nat) : RepS G B O0 O (ρ.set i (.pv d)) (σ.set i (some v)) H := r.put (r.rep.set h i) rfl
theorem RepS.un (r : RepS G B O0 O ρ σ H) (i : Nat) (y : Option V) : RepS G B O0 O (ρ.set i .un) (σ.set i y) H := r.put (r.rep.un i y) rfl
mutual
theorem gPatS_run {K : PySem.W.Frag} (hK : G.K = K) : ∀ (p : Pat) (d : D) (v : V) (ρ ρ' : Env) (σ : L2.St) (Q : L2.St → Hp → Prop), RepS G B O0 O ρ σ H → Dv G (hid H O) d v → putP p d ρ = .ok ρ' →
    (∀ σ', RepS G B O0 O ρ' σ' H → Q σ' H) → gPat K p v σ H Q
  | .nm i, d, v, ρ, ρ', σ, Q, r, dv, e, q => by
    have e' : (R.ok (ρ.set i (.pv d)) : R Env) = .ok ρ' := e
    cases e'
    exact q _ (r.set dv i)
  | .tp ps, d, v, ρ, ρ', σ, Q, r, dv, e, q => by
    cases d with
    | tup ds =>
      obtain ⟨a, vs, rfl, h1, h2⟩ := dv
      have e' : putPs ps ds ρ = .ok ρ' := e
      rw [hK] at h1
      refine .inl ⟨a, vs, rfl, sqT_mono hid_same h1, ?_, gPatsS_run hK ps ds vs ρ ρ' σ Q r h2 e' q⟩
      rw [← dvL_len h2]
      exact (putPs_len (G := G) (O := O) (H := H) ps ds ρ ρ' e').symm
    | lst ds =>
      obtain ⟨a, vs, rfl, h1, h2⟩ := dv
      have e' : putPs ps ds ρ = .ok ρ' := e
      refine .inr ⟨a, vs, rfl, .inl (.inl (hid_full _ _ h1)), ?_, gPatsS_run hK ps ds vs ρ ρ' σ Q r h2 e' q⟩
      rw [← dvL_len h2]
      exact (putPs_len (G := G) (O := O) (H := H) ps ds ρ ρ' e').symm
    | _ => cases e
theorem gPatsS_run {K : PySem.W.Frag} (hK : G.K = K) : ∀ (ps : List Pat) (ds : List D) (vs : List V) (ρ ρ' : Env) (σ : L2.St) (Q : L2.St → Hp → Prop), RepS G B O0 O ρ σ H → DvL G (hid H O) ds vs → putPs ps ds ρ = .ok ρ' →
    (∀ σ', RepS G B O0 O ρ' σ' H → Q σ' H) → gPats K ps vs σ H Q
  | [], ds, vs, ρ, ρ', σ, Q, r, dv, e, q => by
    cases ds with
    | nil =>
      cases dv
      cases e
      exact ⟨rfl, q _ r⟩
    | cons _ _ => cases e
  | p :: ps, ds, vs, ρ, ρ', σ, Q, r, dv, e, q => by
    cases ds with
    | nil => cases e
    | cons d ds =>
      obtain ⟨v, t, rfl, h1, h2⟩ := dv
      obtain ⟨ρ1, e1, e2⟩ := bind_ok (show (putP p d ρ).bind (fun ρ' => putPs ps ds ρ') = .ok ρ' from e)
      refine ⟨v, t, rfl, gPatS_run hK p d v ρ ρ1 σ _ r h1 e1 fun σ1 r1 => ?_⟩
      exact gPatsS_run hK ps ds t ρ1 ρ' σ1 Q r1 h2 e2 q
end
/-- a new own thing in slot i -/
theorem RepS.newS (r : RepS G B O0 O ρ σ H) {H2 : Hp} {p : Addr} {s0 : SV} (hp : H p = none) (su : Stp H H2) (hv : ∃ u, H2 p = some u ∧ Lk u) (ok0 : SvOk G (p :: O) H2 s0 (some (.ref p))) (ft : Foot H2 s0 (some (.ref p)) [p]) (i : Nat) :
    RepS G B O0 (p :: O) (ρ.set i s0) (σ.set i (some (.ref p))) H2 := by
  have hpO : p ∉ O := r.rep.ok.fresh hp
  have np0 : p ∉ O0 := fun h => hpO (r.sub p h)
  have ok : OkO (p :: O) H2 := by
    obtain ⟨u, hu, lu⟩ := hv
    exact (r.rep.ok.mono su).cons hu lu
  have mv : Rep G (p :: O) ρ σ H2 := r.rep.move (hid_cons hp su.ext) (fun q hq => ⟨List.mem_cons_of_mem _ hq, fun us e => su.ext.l e⟩) ok
  obtain ⟨F, h1, h2, h3⟩ := r.own
  refine ⟨⟨by rw [List.length_set, List.length_set]; exact r.rep.len, fun j s x a b => ?_, ok⟩, r.same.trans su, fun q hq => List.mem_cons_of_mem _ (r.sub q hq), fun q hq h0 => ?_,
    fun j => if j = i then [p] else F j, foot_set h1 r.rep.len ft fun _ _ _ _ _ _ z => z.mono su.ext, fun a b q ha hb => ?_, fun a q ha => ?_⟩
  · by_cases e : i = j
    · subst e
      by_cases hl : i < ρ.length
      · rw [List.getElem?_set_self hl] at a
        rw [List.getElem?_set_self (by rw [r.rep.len]; exact hl)] at b
        cases a
        cases b
        exact ok0
      · rw [List.getElem?_eq_none (by rw [List.length_set]; omega)] at a
        cases a
    · rw [List.getElem?_set_ne e] at a b
      exact mv.at_ j s x a b
  · rcases List.mem_cons.mp hq with rfl | hq
    · exact .of r.same.ext (.none hp)
    · exact r.fresh q hq h0
  · dsimp only at *
    by_cases e1 : a = i
    · by_cases e2 : b = i
      · rw [e1, e2]
      · rw [if_pos e1] at ha
        rw [if_neg e2] at hb
        obtain rfl := List.mem_singleton.mp ha
        exact absurd (h3 b q hb).1 hpO
    · by_cases e2 : b = i
      · rw [if_neg e1] at ha
        rw [if_pos e2] at hb
        obtain rfl := List.mem_singleton.mp hb
        exact absurd (h3 a q ha).1 hpO
      · rw [if_neg e1] at ha
        rw [if_neg e2] at hb
        exact h2 a b q ha hb
  · dsimp only at *
    by_cases e1 : a = i
    · rw [if_pos e1] at ha
      obtain rfl := List.mem_singleton.mp ha
      exact ⟨List.mem_cons_self .., np0⟩
    · rw [if_neg e1] at ha
      exact ⟨List.mem_cons_of_mem _ (h3 a q ha).1, (h3 a q ha).2⟩
theorem RepS.newOwnG (r : RepS G B O0 O ρ σ H) {H2 : Hp} {p : Addr} {ds : List D} {vs : List V} (hp : H p = none) (su : Stp H H2) (hv : H2 p = some (.lst vs)) (hd : DvL G (hid H2 (p :: O)) ds vs) (i : Nat) : RepS G B O0 (p :: O) (ρ.set i (.ow ds)) (σ.set i (some (.ref p))) H2 :=
  r.newS (s0 := .ow ds) hp su ⟨_, hv, Lk.l⟩ ⟨p, vs, rfl, List.mem_cons_self .., hv, hd⟩ ⟨p, rfl, rfl⟩ i
theorem RepS.newOwn (r : RepS G B O0 O ρ σ H) {p : Addr} {ds : List D} {vs : List V} (hp : H p = none) (hd : DvL G (hid H O) ds vs) (i : Nat) : RepS G B O0 (p :: O) (ρ.set i (.ow ds)) (σ.set i (some (.ref p))) (upd H p (.lst vs)) :=
  r.newOwnG hp (stp_upd' hp) upd_same (dvL_mono (hid_cons hp (same_upd' hp)) ds vs hd) i
theorem RepS.newOwn2 (r : RepS G B O0 O ρ σ H) {p : Addr} (hp : H p = none) (i : Nat) : RepS G B O0 (p :: O) (ρ.set i (.ow2 [])) (σ.set i (some (.ref p))) (upd H p (.lst [])) :=
  r.newS (s0 := .ow2 []) (H2 := upd H p (.lst [])) hp (stp_upd' hp) ⟨_, upd_same, Lk.l⟩ ⟨p, [], rfl, List.mem_cons_self .., upd_same, rfl⟩ ⟨p, [], rfl, upd_same, rfl, by simp⟩ i
/-- what a slot owns is made another -/
theorem RepS.chg (r : RepS G B O0 O ρ σ H) {i : Nat} {s s0 : SV} {x0 : Option V} {O' : List Addr} {l0 : List Addr} (hs : ρ[i]? = some s) (hx : σ[i]? = some x0) (hO : ∀ p ∈ O, p ∈ O') (hfr : ∀ p ∈ O', p ∉ O → H p = none)
    (keep : ∀ b u, H b = some u → (∀ l, Foot H s x0 l → b ∉ l) → H' b = some u) (okO : OkO O' H') (ok0 : SvOk G O' H' s0 x0) (ft0 : Foot H' s0 x0 l0) (ftl : ∀ l, Foot H s x0 l → ∀ q ∈ l0, q ∈ l ∨ (q ∈ O' ∧ q ∉ O)) :
    RepS G B O0 O' (ρ.set i s0) σ H' := by
  obtain ⟨F, h1, h2, h3⟩ := r.own
  have fi := h1 i s x0 hs hx
  have keep' : ∀ b u, H b = some u → b ∉ F i → H' b = some u := fun b u e n => keep b u e fun l hl => by
    rw [hl.uniq fi]
    exact n
  have keepO : ∀ b u, H b = some u → b ∉ O → H' b = some u := fun b u e n => keep' b u e fun z => n (h3 i b z).1
  have keepF : ∀ j b u, i ≠ j → H b = some u → b ∈ F j → H' b = some u := fun j b u ne e n => keep' b u e fun z => ne (h2 i j b z n)
  have sh : Same (hid H O) (hid H' O') := fun b u e _ => by
    have e1 : H b = some u := hid_full _ _ e
    have nb : b ∉ O := fun z => by
      unfold hid at e
      rw [if_pos z] at e
      cases e
    rw [hid_at fun z => by
      rw [hfr b z nb] at e1
      cases e1]
    exact keepO b u e1 nb
  have hl : i < ρ.length := by
    rcases Nat.lt_or_ge i ρ.length with z | z
    · exact z
    · rw [List.getElem?_eq_none z] at hs
      cases hs
  have e0 : σ.set i x0 = σ := set_self hx
  refine ⟨⟨by rw [List.length_set]; exact r.rep.len, fun j sv x a b => ?_, okO⟩, ⟨fun b u e n => ?_, fun t => tab_but (fun b u e nl => keepO b u e fun z => ?_) (r.same.tab t)⟩, fun q hq => hO q (r.sub q hq), fun q hq h0 => ?_, fun j => if j = i then l0 else F j, ?_, fun a b q ha hb => ?_, fun a q ha => ?_⟩
  · by_cases e : i = j
    · subst e
      rw [List.getElem?_set_self hl] at a
      rw [hx] at b
      cases a
      cases b
      exact ok0
    · rw [List.getElem?_set_ne e] at a
      have fj := h1 j sv x a b
      have z := r.rep.at_ j sv x a b
      cases sv with
      | un => exact True.intro
      | pv d =>
        obtain ⟨v, w1, w2⟩ := z
        exact ⟨v, w1, dv_mono sh d v w2⟩
      | ow ds =>
        obtain ⟨p, vs, w1, w2, w3, w4⟩ := z
        obtain ⟨p', w5, w6⟩ := fj
        rw [w1] at w5
        cases w5
        exact ⟨p, vs, w1, hO p w2, keepF j p _ e w3 (by rw [w6]; exact List.mem_singleton.mpr rfl), dvL_mono sh ds vs w4⟩
      | ow2 dss =>
        obtain ⟨p, ps, w1, w2, w3, w4⟩ := z
        have fj2 : ∃ l, Foot H (.ow2 dss) x l ∧ l = p :: ps := by
          obtain ⟨p', ps', w5, w6, w7, w8⟩ := id fj
          have ee : p' :: ps' = p :: ps := by
            have nd : (p' :: ps').Nodup := by rw [← w7]; exact w8
            rw [w1] at w5
            cases w5
            rw [w3] at w6
            have q1 := HO.lst.inj (Option.some.inj w6)
            have inj : ∀ (a b : List Addr), a.map V.ref = b.map V.ref → a = b := by
              intro a
              induction a with
              | nil =>
                intro b w
                cases b with
                | nil => rfl
                | cons _ _ => cases w
              | cons x a ih =>
                intro b w
                cases b with
                | nil => cases w
                | cons y b =>
                  rw [List.map_cons, List.map_cons] at w
                  obtain ⟨w1, w2⟩ := List.cons.inj w
                  cases w1
                  rw [ih b w2]
            rw [inj ps ps' q1]
          exact ⟨F j, fj, by rw [w7, ee]⟩
        obtain ⟨l, g1, g2⟩ := fj2
        have eF : F j = p :: ps := by rw [← g2]; exact fj.uniq g1
        refine ⟨p, ps, w1, hO p w2, keepF j p _ e w3 (by rw [eF]; exact List.mem_cons_self ..), w4.move sh fun q hq hqO => ⟨hO q hqO, fun us e9 => keepF j q _ e e9 (by rw [eF]; exact List.mem_cons_of_mem _ hq)⟩⟩
  · have w := r.same.ext _ _ e n
    exact keep' b u w fun z => by
      obtain ⟨z1, z2⟩ := h3 i b z
      exact (r.fresh b z1 z2).ne e n rfl
  · obtain ⟨u', e', l'⟩ := r.rep.ok.at_ b z
    rw [e] at e'
    cases e'
    exact nl l'
  · by_cases z : q ∈ O
    · exact r.fresh q z h0
    · exact .of r.same.ext (.none (hfr q hq z))
  · intro j sv x a b
    rw [← e0] at b
    exact foot_set (H := H) (H' := H') h1 r.rep.len ft0 (fun j ne sv x a b fj => by
      cases sv with
      | un => exact fj
      | pv _ => exact fj
      | ow _ => exact fj
      | ow2 dss =>
        obtain ⟨p, ps, w1, w2, w3, w4⟩ := id fj
        exact ⟨p, ps, w1, keepF j p _ ne w2 (by rw [w3]; exact List.mem_cons_self ..), w3, w4⟩) j sv x a b
  · have new : ∀ c, c ≠ i → q ∈ F c → q ∈ l0 → False := fun c nc hc h0 => by
      rcases ftl (F i) fi q h0 with z | z
      · exact nc (h2 c i q hc z)
      · exact z.2 (h3 c q hc).1
    dsimp only at *
    by_cases e1 : a = i
    · by_cases e2 : b = i
      · rw [e1, e2]
      · rw [if_pos e1] at ha
        rw [if_neg e2] at hb
        exact (new b e2 hb ha).elim
    · by_cases e2 : b = i
      · rw [if_neg e1] at ha
        rw [if_pos e2] at hb
        exact (new a e1 ha hb).elim
      · rw [if_neg e1] at ha
        rw [if_neg e2] at hb
        exact h2 a b q ha hb
  · dsimp only at *
    by_cases e1 : a = i
    · rw [if_pos e1] at ha
      rcases ftl (F i) fi q ha with z | z
      · exact ⟨hO q (h3 i q z).1, (h3 i q z).2⟩
      · exact ⟨z.1, fun w => z.2 (r.sub q w)⟩
    · rw [if_neg e1] at ha
      exact ⟨hO q (h3 a q ha).1, (h3 a q ha).2⟩
/-- an own list made another -/
theorem RepS.setOwn (r : RepS G B O0 O ρ σ H) {i : Nat} {p : Addr} {ds es : List D} {us vs : List V} (h1 : ρ[i]? = some (.ow ds)) (h2 : σ[i]? = some (some (.ref p))) (h3 : H p = some (.lst us)) (hd : DvL G (hid H O) es vs) : RepS G B O0 O (ρ.set i (.ow es)) σ (upd H p (.lst vs)) := by
  obtain ⟨q, ws, e1, e2, e3, e4⟩ := r.rep.at_ i _ _ h1 h2
  cases e1
  refine r.chg (l0 := [p]) h1 h2 (fun _ h => h) (fun q h n => absurd h n) (fun b u e n => ?_) ⟨fun q hq => ?_, ((Stp.refl H).own_t h3 Lk.l) r.rep.ok.tab⟩ ⟨p, vs, rfl, e2, upd_same, by rw [hid_upd e2]; exact hd⟩ ⟨p, rfl, rfl⟩ fun l hl q hq => ?_
  · rw [upd_ne fun z => n [p] ⟨p, rfl, rfl⟩ (by rw [z]; exact List.mem_singleton.mpr rfl)]
    exact e
  · by_cases e : q = p
    · subst e
      exact ⟨_, upd_same, Lk.l⟩
    · rw [upd_ne e]
      exact r.rep.ok.at_ q hq
  · obtain ⟨p', w1, rfl⟩ := hl
    cases w1
    exact .inl hq
/-- an own thing that is own no more -/
theorem RepS.freezeS (r : RepS G B O0 O ρ σ H) {i : Nat} {s : SV} {d : D} {v : V} {l : List Addr} (h1 : ρ[i]? = some s) (h2 : σ[i]? = some (some v)) (hf : Foot H s (some v) l) (hd : Dv G (hid H (O.filter fun q => decide (q ∉ l))) d v) :
    RepS G B O0 (O.filter fun q => decide (q ∉ l)) (ρ.set i (.pv d)) σ H := by
  obtain ⟨F, f1, f2, f3⟩ := r.own
  have fi : F i = l := (f1 i s _ h1 h2).uniq hf
  have mem : ∀ q, q ∈ O.filter (fun q => decide (q ∉ l)) ↔ q ∈ O ∧ q ∉ l := fun q => by
    rw [List.mem_filter]
    simp
  have sh : Same (hid H O) (hid H (O.filter fun q => decide (q ∉ l))) := hid_sub fun q hq => ((mem q).mp hq).1
  have hl : i < ρ.length := by
    rcases Nat.lt_or_ge i ρ.length with z | z
    · exact z
    · rw [List.getElem?_eq_none z] at h1
      cases h1
  have e0 : σ.set i (some v) = σ := set_self h2
  refine ⟨⟨by rw [List.length_set]; exact r.rep.len, fun j sv x a b => ?_, ⟨fun q hq => r.rep.ok.at_ q ((mem q).mp hq).1, r.rep.ok.tab⟩⟩, r.same, fun q hq => (mem q).mpr ⟨r.sub q hq, fun z => (f3 i q (by rw [fi]; exact z)).2 hq⟩, fun q hq h0 => r.fresh q ((mem q).mp hq).1 h0,
    fun j => if j = i then [] else F j, ?_, fun a b q ha hb => ?_, fun a q ha => ?_⟩
  · by_cases e : i = j
    · subst e
      rw [List.getElem?_set_self hl] at a
      rw [h2] at b
      cases a
      cases b
      exact ⟨v, rfl, hd⟩
    · rw [List.getElem?_set_ne e] at a
      have fj := f1 j sv x a b
      have apart : ∀ q, q ∈ F j → q ∉ l := fun q hq z => e (f2 i j q (by rw [fi]; exact z) hq)
      have z := r.rep.at_ j sv x a b
      cases sv with
      | un => exact True.intro
      | pv d =>
        obtain ⟨v, w1, w2⟩ := z
        exact ⟨v, w1, dv_mono sh d v w2⟩
      | ow ds =>
        obtain ⟨p, vs, w1, w2, w3, w4⟩ := z
        obtain ⟨p', w5, w6⟩ := fj
        rw [w1] at w5
        cases w5
        exact ⟨p, vs, w1, (mem p).mpr ⟨w2, apart p (by rw [w6]; exact List.mem_singleton.mpr rfl)⟩, w3, dvL_mono sh ds vs w4⟩
      | ow2 dss =>
        obtain ⟨p, ps, w1, w2, w3, w4⟩ := z
        have g1 : F j = p :: ps := by
          obtain ⟨p', ps', w5, w6, w7, w8⟩ := id fj
          have nd : Foot H (.ow2 dss) x (p' :: ps') := by rw [← w7]; exact fj
          rw [w1] at w5
          cases w5
          rw [w3] at w6
          have q1 := HO.lst.inj (Option.some.inj w6)
          have inj : ∀ (a b : List Addr), a.map V.ref = b.map V.ref → a = b := by
            intro a
            induction a with
            | nil =>
              intro b w
              cases b with
              | nil => rfl
              | cons _ _ => cases w
            | cons x a ih =>
              intro b w
              cases b with
              | nil => cases w
              | cons y b =>
                rw [List.map_cons, List.map_cons] at w
                obtain ⟨w1, w2⟩ := List.cons.inj w
                cases w1
                rw [ih b w2]
          rw [w7, inj ps ps' q1]
        refine ⟨p, ps, w1, (mem p).mpr ⟨w2, apart p (by rw [g1]; exact List.mem_cons_self ..)⟩, w3, w4.move sh fun q hq hqO => ⟨(mem q).mpr ⟨hqO, apart q (by rw [g1]; exact List.mem_cons_of_mem _ hq)⟩, fun us e9 => e9⟩⟩
  · intro j sv x a b
    rw [← e0] at b
    exact foot_set (H := H) (H' := H) (s0 := .pv d) (v0 := some v) (l0 := []) f1 r.rep.len rfl (fun _ _ _ _ _ _ z => z) j sv x a b
  · dsimp only at *
    by_cases e1 : a = i
    · rw [if_pos e1] at ha
      cases ha
    · by_cases e2 : b = i
      · rw [if_pos e2] at hb
        cases hb
      · rw [if_neg e1] at ha
        rw [if_neg e2] at hb
        exact f2 a b q ha hb
  · dsimp only at *
    by_cases e1 : a = i
    · rw [if_pos e1] at ha
      cases ha
    · rw [if_neg e1] at ha
      exact ⟨(mem q).mpr ⟨(f3 a q ha).1, fun z => e1 (f2 a i q ha (by rw [fi]; exact z))⟩, (f3 a q ha).2⟩
theorem RepS.foot (r : RepS G B O0 O ρ σ H) {i : Nat} {s : SV} {x : Option V} (h1 : ρ[i]? = some s) (h2 : σ[i]? = some x) : ∃ l, Foot H s x l := by
  obtain ⟨F, f1, _⟩ := r.own
  exact ⟨_, f1 i s x h1 h2⟩
theorem RepS.slot (r : RepS G B O0 O ρ σ H) {i : Nat} {s : SV} (h1 : ρ[i]? = some s) : ∃ x, σ[i]? = some x ∧ SvOk G O H s x := by
  have hl : i < ρ.length := by
    rcases Nat.lt_or_ge i ρ.length with h | h
    · exact h
    · rw [List.getElem?_eq_none h] at h1
      cases h1
  have hs : i < σ.length := by rw [r.rep.len]; exact hl
  exact ⟨σ[i], List.getElem?_eq_getElem hs, r.rep.at_ i _ _ h1 (List.getElem?_eq_getElem hs)⟩
/-- an own list that is own no more -/
theorem RepS.freeze (r : RepS G B O0 O ρ σ H) {i : Nat} {ds : List D} (h1 : ρ[i]? = some (.ow ds)) : ∃ O', RepS G B O0 O' (ρ.set i (.pv (.lst ds))) σ H := by
  obtain ⟨x, h2, p, vs, rfl, e2, e3, e4⟩ := r.slot h1
  refine ⟨_, r.freezeS (l := [p]) h1 h2 ⟨p, rfl, rfl⟩ ⟨p, vs, rfl, ?_, dvL_mono (hid_sub fun q hq => (List.mem_filter.mp hq).1) ds vs e4⟩⟩
  rw [hid_at fun z => by
    have := (List.mem_filter.mp z).2
    simp at this]
  exact e3
theorem ownL_dv {O' : List Addr} (s : Same (hid H O) (hid H O')) : ∀ {dss : List (List D)} {ps : List Addr}, (∀ q ∈ ps, q ∉ O') → OwnL G O H dss ps → DvL G (hid H O') (dss.map D.lst) (ps.map V.ref)
  | [], _, _, h => by
    cases h
    rfl
  | ds :: r, _, n, h => by
    obtain ⟨q, vs, t, rfl, h1, h2, h3, h4⟩ := h
    refine ⟨.ref q, t.map V.ref, rfl, ⟨q, vs, rfl, ?_, dvL_mono s ds vs h3⟩, ownL_dv s (fun z hz => n z (List.mem_cons_of_mem _ hz)) h4⟩
    rw [hid_at (n q (List.mem_cons_self ..))]
    exact h2
theorem RepS.freeze2 (r : RepS G B O0 O ρ σ H) {i : Nat} {dss : List (List D)} (h1 : ρ[i]? = some (.ow2 dss)) : ∃ O', RepS G B O0 O' (ρ.set i (.pv (.lst (dss.map .lst)))) σ H := by
  obtain ⟨x, h2, p, ps, rfl, e2, e3, e4⟩ := r.slot h1
  obtain ⟨l, fl⟩ := r.foot h1 h2
  obtain ⟨p', ps', w1, w2, w3, w4⟩ := id fl
  cases w1
  have sub : ∀ q ∈ l, q ∉ O.filter (fun q => decide (q ∉ l)) := fun q hq z => by
    have := (List.mem_filter.mp z).2
    simp only [decide_eq_true_eq] at this
    exact this hq
  have sh : Same (hid H O) (hid H (O.filter fun q => decide (q ∉ l))) := hid_sub fun q hq => (List.mem_filter.mp hq).1
  rw [e3] at w2
  have q1 := HO.lst.inj (Option.some.inj w2)
  have hm : ∀ q ∈ ps, q ∈ ps' := fun q hq => by
    have : V.ref q ∈ ps.map V.ref := List.mem_map.mpr ⟨q, hq, rfl⟩
    rw [q1] at this
    obtain ⟨z, z1, z2⟩ := List.mem_map.mp this
    cases z2
    exact z1
  refine ⟨_, r.freezeS (l := l) h1 h2 fl ⟨p, ps.map V.ref, rfl, ?_, ownL_dv sh (fun q hq => sub q (by rw [w3]; exact List.mem_cons_of_mem _ (hm q hq))) e4⟩⟩
  rw [hid_at (sub p (by rw [w3]; exact List.mem_cons_self ..))]
  exact e3
/-- a later base: what stands now, the own lists left out -/
def baseOf (H : Hp) (O O0 : List Addr) : Hp := fun a => if a ∈ O ∧ a ∉ O0 then none else H a
theorem RepS.rebase (r : RepS G B O0 O ρ σ H) : RepS G (baseOf H O O0) O0 O ρ σ H ∧ Stp B (baseOf H O O0) := by
  refine ⟨⟨r.rep, Stp.of fun b o h => ?_, r.sub, fun p h1 h2 => .none ?_, r.own⟩, fun b o h n => ?_, fun t => tab_but (fun b u e nl => ?_) (r.same.tab t)⟩
  · unfold baseOf at h
    split at h
    · cases h
    · exact h
  · unfold baseOf
    rw [if_pos ⟨h1, h2⟩]
  · unfold baseOf
    rw [if_neg fun q => ?_]
    · exact r.same.ext _ _ h n
    · exact (r.fresh b q.1 q.2).ne h n rfl
  · unfold baseOf
    rw [if_neg fun q => ?_]
    · exact e
    · obtain ⟨u', e', l'⟩ := r.rep.ok.at_ b q.1
      rw [e] at e'
      cases e'
      exact nl l'
theorem RepS.later {B' : Hp} {O' : List Addr} {ρ' : Env} {σ' : L2.St} (s : Stp B B') (r : RepS G B' O0 O' ρ' σ' H') : RepS G B O0 O' ρ' σ' H' :=
  ⟨r.rep, s.trans r.same, r.sub, (fun p h1 h2 => .of s.ext (r.fresh p h1 h2)), r.own⟩
theorem RepS.walks {O' : List Addr} {ρ' : Env} {σ' : L2.St} (h0 : ∀ p ∈ O0, p ∈ O) (r : RepS G (baseOf H O O0) O0 O' ρ' σ' H') : Same (hid H O) (hid H' O') := fun b z h n => by
  have hb : H b = some z := hid_full _ _ h
  have hn : b ∉ O := fun q => by
    unfold hid at h
    rw [if_pos q] at h
    cases h
  have bb : baseOf H O O0 b = some z := by
    unfold baseOf
    rw [if_neg fun q => hn q.1]
    exact hb
  rw [hid_at fun q => ?_]
  · exact r.same.ext _ _ bb n
  · by_cases q0 : b ∈ O0
    · exact hn (h0 b q0)
    · exact (r.fresh b q q0).ne bb n rfl
end
end FD
namespace FD
open PySem PySem.Spec PyProof.Rows L2
variable [Tbls]
def Post (G : Gt) (W : WX) (B : Hp) (O0 : List Addr) (D0 : Ends) : SR → Prop
  | .nx ρ => ∀ O σ H, RepS G B O0 O ρ σ H → D0.nx σ H
  | .bk ρ => ∀ O σ H, RepS G B O0 O ρ σ H → D0.bk σ H
  | .ct ρ => ∀ O σ H, RepS G B O0 O ρ σ H → D0.ct σ H
  | .rt d => ∀ v H, Stp B H → Dv G (hid H O0) d v → D0.rt v H
  | .ex c ρ => ∀ O σ H, RepS G B O0 O ρ σ H → W (.ref (G.cls c)) none σ H
  | .bad => False
def tS (G : Gt) (W : WX) (B : Hp) (O0 : List Addr) (f : Env → SR) : TS := fun D0 σ H => ∃ O ρ, RepS G B O0 O ρ σ H ∧ Post G W B O0 D0 (f ρ)
structure GoodS (T : Tb) (G : Gt) (o : Out) (k : Nat) (N : List Str) (fb : Str → Bool) (sc : Scope) (X : Cx) (W : WX) : Prop where
  g : Good T G o k N fb sc X W
  knd : sc.kind = .function
  stk : X.stack = X.env :: X.outer
  frm : X.env.frame = some X.env.locals
  hex : X.ex = []
section
variable {T : Tb} {G : Gt} {o : Out} {k : Nat} {N : List Str} {fb : Str → Bool} {sc : Scope} {X : Cx} {W : WX} {B : Hp} {O0 O : List Addr} {ρ : Env} {σ : L2.St} {H : Hp} {D0 : Ends}
theorem st_fin {α : Type} {r : R α} {f : α → SR} (rep : RepS G B O0 O ρ σ H) (h : Post G W B O0 D0 (r.st ρ f)) : Fin G W r σ H fun a H' => RepS G B O0 O ρ σ H' ∧ Post G W B O0 D0 (f a) := by
  cases r with
  | ok a => exact fun H' s => ⟨rep.mono s, h⟩
  | exc c => exact fun H' s => h O σ H' (rep.mono s)
  | bad => exact h.elim
theorem sws_eq {env : PySem.Env} (hs : env.scope = sc) (hk : sc.kind = .function) {ts vs : List Expr} {k1 k2 : Nat} {p1 p2 : Pos} {r : Option (List Str)} (h : swsB sc ts vs = some r) : swappedStores [.Tuple ts k1 p1] (.Tuple vs k2 p2) env = pure r := by
  subst hs
  have hb : env.blockKind = .function := by unfold PySem.Env.blockKind; rw [hk]; rfl
  have hnm : (ts.filterMap fun e => match e with
      | .Name id pos => if env.kindOf id == some .local && pos.line == (ts.head?.map (·.pos.line)).getD 0 then some id else none
      | _ => none) = namesL env.scope ((ts.head?.map (·.pos.line)).getD 0) ts := rfl
  have hst : (vs.any fun | .Starred .. => true | _ => false) = vs.any isStar := by
    congr 1
  have key : swappedStores [.Tuple ts k1 p1] (.Tuple vs k2 p2) env =
      if (!(ts.length == 2 || ts.length == 3) || vs.length != ts.length || env.blockKind != .function) = true then pure none
      else if (vs.any isStar) = true then pure none
      else if ((namesL env.scope ((ts.head?.map (·.pos.line)).getD 0) ts).length != ts.length || (namesL env.scope ((ts.head?.map (·.pos.line)).getD 0) ts).eraseDups.length != (namesL env.scope ((ts.head?.map (·.pos.line)).getD 0) ts).length) = true then pure none
      else if vs.all (foldedForSure 8) = true then pure none
      else if vs.all (constantsAlone 8) = true then (unsupported "assign.tuple-of-constant-expressions:order-of-the-stores" : Sem PUnit) >>= fun _ => pure (some (namesL env.scope ((ts.head?.map (·.pos.line)).getD 0) ts))
      else pure (some (namesL env.scope ((ts.head?.map (·.pos.line)).getD 0) ts)) := by
    rw [← hst]
    rfl
  rw [key, hb]
  unfold swsB at h
  have hbb : ((ScopeKind.function != ScopeKind.function) : Bool) = false := rfl
  simp only [hbb, Bool.or_false]
  split at h
  · rename_i c
    rw [if_pos c]
    cases h
    rfl
  · rename_i c
    rw [if_neg c]
    split at h
    · rename_i c2
      rw [if_pos c2]
      cases h
      rfl
    · rename_i c2
      rw [if_neg c2]
      split at h
      · rename_i c3
        rw [if_pos c3]
        cases h
        rfl
      · rename_i c3
        rw [if_neg c3]
        split at h
        · rename_i c4
          rw [if_pos c4]
          cases h
          rfl
        · rename_i c4
          rw [if_neg c4]
          split at h
          · cases h
          · rename_i c5
            rw [if_neg c5]
            cases h
            rfl
theorem sws_no {tg v : Expr} {l : Nat} {env : PySem.Env} (hc : compE v = false) : swapsWith v (some tg) l env = pure false := by
  cases v <;> first | rfl | (cases hc)
theorem sws_no0 {v : Expr} {l : Nat} {env : PySem.Env} (hc : compE v = false) : swapsWith v none l env = pure false := by
  cases v <;> first | rfl | (cases hc)
theorem st_nm {v : Expr} {x : Str} {p : Pos} {env : PySem.Env} : swappedStores [.Name x p] v env = pure none := rfl
theorem st_tup {v : Expr} {ts : List Expr} {kk : Nat} {p : Pos} {env : PySem.Env} (h : xTup v = none) : swappedStores [.Tuple ts kk p] v env = pure none := by
  cases v <;> first | rfl | (cases h)
theorem st_sub {v a b : Expr} {p : Pos} {env : PySem.Env} : swappedStores [.Subscript a b p] v env = pure none := rfl
theorem swapN_ok {tg v : Expr} {l : Nat} {env : PySem.Env} (hs : env.scope = sc) (hk : sc.kind = .function) (h : swapN sc tg v = true) : swapsWithSole [tg] v l env = pure false ∧ swappedStores [tg] v env = pure none ∧ (assignEach [tg] env).map (·.2) = [assign tg env] := by
  have hp : ∀ ts kk p, tg = .Tuple ts kk p → (assignEach [tg] env).map (·.2) = [assign tg env] := fun ts kk p e => by subst e; rfl
  have hn : ∀ x p, tg = .Name x p → (assignEach [tg] env).map (·.2) = [assign tg env] := fun x p e => by subst e; rfl
  unfold swapN at h
  cases hc : compE v with
  | false =>
    rw [hc] at h
    refine ⟨sws_no hc, ?_⟩
    cases q : xTup tg with
    | some ts =>
      rw [q] at h
      obtain ⟨kk, p, rfl⟩ := xTup_eq q
      refine ⟨?_, rfl⟩
      cases q2 : xTup v with
      | none => exact st_tup q2
      | some vs =>
        have h2 : (match xTup v with
          | some vs => (match swsB sc ts vs with
            | some none => true
            | _ => false)
          | none => true) = true := h
        rw [q2] at h2
        obtain ⟨k2, p2, rfl⟩ := xTup_eq q2
        have h3 : (match swsB sc ts vs with
            | some none => true
            | _ => false) = true := h2
        cases q3 : swsB sc ts vs with
        | none => rw [q3] at h3; cases h3
        | some z =>
          cases z with
          | none => exact sws_eq hs hk q3
          | some w => rw [q3] at h3; cases h3
    | none =>
      rw [q] at h
      have h2 : (xName tg).isSome = true := h
      cases q2 : xName tg with
      | none => rw [q2] at h2; cases h2
      | some x =>
        obtain ⟨p, rfl⟩ := xName_eq q2
        exact ⟨st_nm, rfl⟩
  | true =>
    rw [hc] at h
    have h2 : (match xName tg with
      | some t => !(lcl sc t)
      | none => (xTup tg).isSome) = true := h
    have nt : xTup v = none := by cases v <;> first | rfl | (cases hc)
    cases q : xName tg with
    | some x =>
      rw [q] at h2
      obtain ⟨p, rfl⟩ := xName_eq q
      refine ⟨?_, st_nm, rfl⟩
      have h3 : lcl sc x = false := by simpa using h2
      have h4 : (env.kindOf x == some .local) = false := by
        have e : env.kindOf x = sc.names.lookup x := by rw [← hs]; rfl
        rw [e]
        unfold lcl at h3
        split at h3
        · cases h3
        · rename_i w
          cases z : sc.names.lookup x with
          | none => rfl
          | some kd => cases kd <;> first | rfl | exact absurd z w
      show swapsWith v (some (.Name x p)) l env = pure false
      have eq : ∀ s : Scope, (pure (env.blockKind == .function && env.kindOf x == some .local && p.line == v.pos.line && !(s.names.any fun (n, k) => n == x && (k == .local || k == .cell))) : Sem Bool) = pure false := fun s => by
        rw [h4, Bool.and_false, Bool.false_and, Bool.false_and]
      cases v <;> first | (cases hc; done) | exact eq _
    | none =>
      rw [q] at h2
      have h3 : (xTup tg).isSome = true := h2
      cases q2 : xTup tg with
      | none => rw [q2] at h3; cases h3
      | some ts =>
        obtain ⟨kk, p, rfl⟩ := xTup_eq q2
        refine ⟨?_, st_tup nt, rfl⟩
        cases v <;> first | (cases hc; done) | rfl
theorem lcl_of {x : Str} (h : lcl sc x = true) : sc.names.lookup x = some .local := by
  unfold lcl at h
  split at h
  · assumption
  · cases h
mutual
theorem putP_noexc : ∀ (p : Pat) (d : D) (ρ : Env) (c : Nat), putP p d ρ ≠ .exc c
  | .nm i, d, ρ, c => fun e => by cases e
  | .tp ps, d, ρ, c => fun e => by
    cases d with
    | tup ds => exact putPs_noexc ps ds ρ c e
    | lst ds => exact putPs_noexc ps ds ρ c e
    | _ => cases e
theorem putPs_noexc : ∀ (ps : List Pat) (ds : List D) (ρ : Env) (c : Nat), putPs ps ds ρ ≠ .exc c
  | [], ds, ρ, c => fun e => by
    cases ds <;> cases e
  | p :: ps, ds, ρ, c => fun e => by
    cases ds with
    | nil => cases e
    | cons d ds =>
      have e' : (putP p d ρ).bind (fun ρ' => putPs ps ds ρ') = .exc c := e
      cases e1 : putP p d ρ with
      | ok ρ1 => rw [e1] at e'; exact putPs_noexc ps ds ρ1 c e'
      | exc c1 => exact putP_noexc p d ρ c1 e1
      | bad => rw [e1] at e'; cases e'
end
structure SndS (T : Tb) (G : Gt) (o : Out) (k : Nat) (N : List Str) (st : IS) : Prop where
  s : ∀ {fb : Str → Bool} {sc : Scope} {X : Cx} {W : WX} {B : Hp} {O0 : List Addr}, GoodS T G o k N fb sc X W → ∀ {x : Stmt}, chkS T N fb sc st x = true → PS X x (tS G W B O0 (exS o st))
structure SndSs (T : Tb) (G : Gt) (o : Out) (k : Nat) (N : List Str) (st : ISs) : Prop where
  s : ∀ {fb : Str → Bool} {sc : Scope} {X : Cx} {W : WX} {B : Hp} {O0 : List Addr}, GoodS T G o k N fb sc X W → ∀ {x : List Stmt}, chkSs T N fb sc st x = true → PSs X x (tS G W B O0 (exSs o st))
theorem i_asg {K : PySem.W.Frag} (hK : G.K = K) {f : Env → R D} {p : Pat} (h : tS G W B O0 (fun ρ => (f ρ).st ρ fun d => (putP p d ρ).st ρ fun ρ' => .nx ρ') D0 σ H) : tAsg (tD G W f) (gPat K p) D0 σ H := by
  obtain ⟨O, ρ, rep, q⟩ := h
  refine ⟨O, ρ, rep.rep, (st_fin rep q).imp fun d H1 s1 ⟨r1, q1⟩ v hv => ?_⟩
  cases e : putP p d ρ with
  | ok ρ' =>
    rw [e] at q1
    exact gPatS_run hK p d v ρ ρ' σ D0.nx r1 hv e fun σ' r' => q1 O σ' H1 r'
  | exc c =>
    exfalso
    have : ∀ (p : Pat) (d : D) (ρ : Env) (c : Nat), putP p d ρ ≠ .exc c := putP_noexc
    exact this p d ρ c e
  | bad =>
    rw [e] at q1
    exact q1.elim
end
end FD
namespace FD
open PySem PySem.Spec PyProof.Rows L2
variable [Tbls]
section
variable {T : Tb} {G : Gt} {o : Out} {k : Nat} {N : List Str} {fb : Str → Bool} {sc : Scope} {X : Cx} {W : WX} {B : Hp} {O0 O : List Addr} {ρ : Env} {σ : L2.St} {H : Hp} {D0 : Ends}
theorem lc_get {a : IE} {p : Pat} {it : II} {ifs : IEs} {e : Expr} (h : chkE T N (.lc a p it ifs) fb sc e = true) : ∃ x tg iter xi scope pos, e = .ListComp x [⟨tg, iter, xi, 0⟩] scope pos ∧ plainE iter = true ∧ blkC N sc scope (ownOf N p) = true ∧
    chkP N (fun y => scope.names.lookup y == some .cell) (relS scope sc) tg p = true ∧ chkI T N it fb sc tg iter = true ∧ chkF T N ifs (fun y => scope.names.lookup y == some .cell) (relS scope sc) xi = true ∧ chkE T N a (fun y => scope.names.lookup y == some .cell) (relS scope sc) x = true := by
  have h' : (T.cold && (match xLc e with
    | some (x, [⟨tg, iter, xi, as_⟩], scope, _) => decide (as_ = 0) && (plainE iter && (blkC N sc scope (ownOf N p) && (chkP N (fun y => scope.names.lookup y == some .cell) (relS scope sc) tg p &&
        (chkI T N it fb sc tg iter && (chkF T N ifs (fun y => scope.names.lookup y == some .cell) (relS scope sc) xi && chkE T N a (fun y => scope.names.lookup y == some .cell) (relS scope sc) x)))))
    | _ => false)) = true := h
  replace h' := (ee h').2
  cases q : xLc e with
  | none => rw [q] at h'; cases h'
  | some z =>
    obtain ⟨x, gs, scope, pos⟩ := z
    rw [q] at h'
    obtain rfl := xLc_eq q
    match gs, h' with
    | [⟨tg, iter, xi, as_⟩], h' =>
      have h1 := ee h'
      have h2 := ee h1.2
      have h3 := ee h2.2
      have h4 := ee h3.2
      have h5 := ee h4.2
      have h6 := ee h5.2
      obtain rfl := de h1.1
      exact ⟨x, tg, iter, xi, scope, pos, rfl, h2.1, h3.1, h4.1, h5.1, h6.1, h6.2⟩
theorem asg_get {st : Stmt} {P : Expr → Expr → Bool} (h : (match xAsg st with
    | some ([tg], v, _) => P tg v
    | _ => false) = true) : ∃ tg v pos, st = .Assign [tg] v pos ∧ P tg v = true := by
  cases q : xAsg st with
  | none => rw [q] at h; cases h
  | some z =>
    obtain ⟨ts, v, pos⟩ := z
    rw [q] at h
    obtain rfl := xAsg_eq q
    match ts, h with
    | [tg], h => exact ⟨tg, v, pos, rfl, h⟩
theorem pg_of (g : Good T G o k N fb sc X W) {p : Pat} {e : Expr} (hc : T.cold = true ∨ isNmP p = true) (h : chkP N fb sc e p = true) : PG X e (gPat X.K p) := by
  rcases hc with hc | hc
  · exact pgD g.hN g.nd (g.calm hc) g.sc g.fb p e h
  · cases p with
    | nm i => exact pgN g.hN g.nd g.sc g.fb i e h
    | tp _ => cases hc
theorem lc_cold {a : IE} {p : Pat} {it : II} {ifs : IEs} {e : Expr} (h : chkE T N (.lc a p it ifs) fb sc e = true) : T.cold = true := by
  have h' : (T.cold && (match xLc e with
    | some (x, [⟨tg, iter, xi, as_⟩], scope, _) => decide (as_ = 0) && (plainE iter && (blkC N sc scope (ownOf N p) && (chkP N (fun y => scope.names.lookup y == some .cell) (relS scope sc) tg p &&
        (chkI T N it fb sc tg iter && (chkF T N ifs (fun y => scope.names.lookup y == some .cell) (relS scope sc) xi && chkE T N a (fun y => scope.names.lookup y == some .cell) (relS scope sc) x)))))
    | _ => false)) = true := h
  exact (ee h').1
theorem s_asg {p : Pat} {e : IE} : SndS T G o k N (.asg p e) := ⟨fun {fb sc X W B O0} gs {st} h => by
  have h0 : ((T.cold || (isNmP p && !(isLcI e))) && (match xAsg st with
    | some ([tg], v, _) => (chkP N fb sc tg p && (chkE T N e fb sc v && (swapN sc tg v || (isNmP p && (isLcI e && setL sc tg v)))))
    | _ => false)) = true := h
  have hc0 := (ee h0).1
  obtain ⟨tg, v, pos, rfl, h9⟩ := asg_get (P := fun tg v => chkP N fb sc tg p && (chkE T N e fb sc v && (swapN sc tg v || (isNmP p && (isLcI e && setL sc tg v))))) (ee h0).2
  have g := gs.g
  have h1 := ee h9
  have h2 := ee h1.2
  rcases (Bool.or_eq_true _ _).mp h2.2 with h3 | h3
  · obtain ⟨w1, w2, w3⟩ := swapN_ok (l := pos.line) g.sc gs.knd h3
    exact ps_imp (ps_asg ((sndE T G o k N e).e g h2.1) (pg_of g (by
      rcases (Bool.or_eq_true _ _).mp hc0 with z | z
      · exact .inl z
      · exact .inr (ee z).1) h1.1) w1 w2 w3) fun _ _ _ => i_asg g.md.hK
  · have h4 := ee h3
    have h5 := ee h4.2
    cases p with
    | tp _ => cases h4.1
    | nm i =>
      cases e with
      | lc a p it ifs =>
        have hcl := lc_cold h2.1
        obtain ⟨x, t2, iter, xi, scope, pos2, rfl, c1, c2, c3, c4, c5, c6⟩ := lc_get h2.1
        cases q : xNm tg with
        | none =>
          have h6 : (match xNm tg, xLc (.ListComp x [⟨t2, iter, xi, 0⟩] scope pos2) with
            | some (y, py), some (_, _, scope, pos) => lcl sc y && ((py.line == pos.line) && !(scope.names.any fun (n, k) => n == y && (k == .local || k == .cell)))
            | _, _ => false) = true := h5.2
          rw [q] at h6
          cases h6
        | some z =>
          obtain ⟨y, py⟩ := z
          obtain rfl := xNm_eq q
          have h6 : (lcl sc y && ((py.line == pos2.line) && !(scope.names.any fun (n, k) => n == y && (k == .local || k == .cell)))) = true := h5.2
          have h7 := ee h6
          have h8 := ee h7.2
          have ly := lcl_of h7.1
          rw [← g.sc] at ly
          have hN : N[i]? = some y := by
            have h9 : (decide (N[i]? = some y) && locB fb sc y) = true := h1.1
            exact de (ee h9).1
          have bk : BlkOk X.N X.env.scope scope (ownOf N p) := by
            rw [g.hN, g.sc]
            exact blkOk_by c2
          have sw := sw_true (elt := x) (gs := [⟨t2, iter, xi, 0⟩]) (scope := scope) (pos := pos2) (py := py) (y := y) (l := pos.line) (env := X.env) (by rw [g.sc]; exact gs.knd) ly h8.1 (by simpa using h8.2)
          refine ps_imp (ps_setLc (g := gPat X.K p) (tt := tDT G W0 (evF o ifs)) (te := tD G W0 (evE o a)) (g.calm hcl) (by rw [g.hN]; exact g.nd) (by rw [g.hN]; exact hN) ly sw ((sndI T G o k N it).i g c4) bk
            (fun s H C cl fp => ?_) (fun s H C cl fp => (sndL T G o k N ifs).f (g.blk s H scope C cl fp) c5) (fun s H C cl fp => (sndE T G o k N a).e (g.blk s H scope C cl fp) c6) (fold1 c1)) fun D0 σ H q => ?_
          · have gb := g.blk s H scope C cl fp
            exact pgD gb.hN gb.nd (gb.calm hcl) gb.sc gb.fb p t2 c3
          · rw [own_snd]
            exact i_lc g.md.hK (i_asg g.md.hK (p := .nm i) q)
      | _ => cases h5.1⟩
theorem i_par2 {i j : Nat} {f : Env → R (List D)} (h : tS G W B O0 (fun ρ => (f ρ).st ρ fun ds => putN [i, j] ds ρ) D0 σ H) : tPar i j (tDA G W f) D0 σ H := by
  obtain ⟨O, ρ, rep, q⟩ := h
  refine ⟨O, ρ, rep.rep, (st_fin rep q).imp fun ds H1 s1 ⟨r1, q1⟩ vs hvs => ?_⟩
  cases ds with
  | nil => exact q1.elim
  | cons a ds =>
    cases ds with
    | nil => exact q1.elim
    | cons b ds =>
      cases ds with
      | cons _ _ => exact q1.elim
      | nil =>
        obtain ⟨v, r, rfl, h1, w, r', rfl, h2, e⟩ := hvs
        cases e
        exact ⟨v, w, rfl, q1 O _ H1 ((r1.set h1 i).set h2 j)⟩
theorem i_par3 {i j l : Nat} {f : Env → R (List D)} (h : tS G W B O0 (fun ρ => (f ρ).st ρ fun ds => putN [i, j, l] ds ρ) D0 σ H) : tPar3 i j l (tDA G W f) D0 σ H := by
  obtain ⟨O, ρ, rep, q⟩ := h
  refine ⟨O, ρ, rep.rep, (st_fin rep q).imp fun ds H1 s1 ⟨r1, q1⟩ vs hvs => ?_⟩
  cases ds with
  | nil => exact q1.elim
  | cons a ds =>
    cases ds with
    | nil => exact q1.elim
    | cons b ds =>
      cases ds with
      | nil => exact q1.elim
      | cons c ds =>
        cases ds with
        | cons _ _ => exact q1.elim
        | nil =>
          obtain ⟨v, r, rfl, h1, w, r', rfl, h2, u, r'', rfl, h3, e⟩ := hvs
          cases e
          exact ⟨v, w, u, rfl, q1 O _ H1 (((r1.set h1 i).set h2 j).set h3 l)⟩
theorem s_par {is : List Nat} {es : IEs} : SndS T G o k N (.par is es) := ⟨fun {fb sc X W B O0} gs {st} h => by
  have h0 : (T.cold && (match xAsg st with
    | some ([tg], v, _) => (match xTup tg, xTup v with
      | some ts, some vs => parB T N sc is ts vs && chkL T N es fb sc vs
      | _, _ => false)
    | _ => false)) = true := h
  have hcl := (ee h0).1
  obtain ⟨tg, v, pos, rfl, h9⟩ := asg_get (P := fun tg v => match xTup tg, xTup v with
      | some ts, some vs => parB T N sc is ts vs && chkL T N es fb sc vs
      | _, _ => false) (ee h0).2
  have g := gs.g
  cases q1 : xTup tg with
  | none => rw [q1] at h9; cases h9
  | some ts =>
    cases q2 : xTup v with
    | none => rw [q1, q2] at h9; cases h9
    | some vs =>
      rw [q1, q2] at h9
      obtain ⟨k1, p1, rfl⟩ := xTup_eq q1
      obtain ⟨k2, p2, rfl⟩ := xTup_eq q2
      have h1 := ee h9
      have pa := (sndL T G o k N es).a g h1.2
      have nd : X.N.Nodup := by rw [g.hN]; exact g.nd
      match is, ts, h1.1 with
      | [i, j], [t, u], hp =>
        have hp' : (match xName t, xName u with
          | some x, some y => decide (i ≠ j) && (decide (N[i]? = some x) && (decide (N[j]? = some y) && (lcl sc x && (lcl sc y && (decide (vs.length = 2) && decide (swsB sc [t, u] vs = some (some [x, y])))))))
          | _, _ => false) = true := hp
        cases q3 : xName t with
        | none => rw [q3] at hp'; cases hp'
        | some x =>
          cases q4 : xName u with
          | none => rw [q3, q4] at hp'; cases hp'
          | some y =>
            rw [q3, q4] at hp'
            obtain ⟨px, rfl⟩ := xName_eq q3
            obtain ⟨py, rfl⟩ := xName_eq q4
            have c1 := ee hp'
            have c2 := ee c1.2
            have c3 := ee c2.2
            have c4 := ee c3.2
            have c5 := ee c4.2
            have c6 := ee c5.2
            match vs, de c6.1, pa, c6.2 with
            | [a, b], _, pa, c62 =>
              refine ps_imp (ps_par (g.calm hcl) nd (by rw [g.hN]; exact de c2.1) (by rw [g.hN]; exact de c3.1) (de c1.1) (by rw [g.sc]; exact lcl_of c4.1) (by rw [g.sc]; exact lcl_of c5.1) pa (sws_eq g.sc gs.knd (de c62)) rfl) fun _ _ _ => i_par2
      | [i, j, l], [t, u, z], hp =>
        have hp' : (match xName t, xName u, xName z with
          | some x, some y, some q => decide (i ≠ j ∧ i ≠ l ∧ j ≠ l) && (decide (N[i]? = some x) && (decide (N[j]? = some y) && (decide (N[l]? = some q) && (lcl sc x && (lcl sc y && (lcl sc q && (decide (vs.length = 3) && decide (swsB sc [t, u, z] vs = some (some [x, y, q])))))))))
          | _, _, _ => false) = true := hp
        cases q3 : xName t with
        | none => rw [q3] at hp'; cases hp'
        | some x =>
          cases q4 : xName u with
          | none => rw [q3, q4] at hp'; cases hp'
          | some y =>
            cases q5 : xName z with
            | none => rw [q3, q4, q5] at hp'; cases hp'
            | some w =>
              rw [q3, q4, q5] at hp'
              obtain ⟨px, rfl⟩ := xName_eq q3
              obtain ⟨py, rfl⟩ := xName_eq q4
              obtain ⟨pz, rfl⟩ := xName_eq q5
              have c1 := ee hp'
              have c2 := ee c1.2
              have c3 := ee c2.2
              have c4 := ee c3.2
              have c5 := ee c4.2
              have c6 := ee c5.2
              have c7 := ee c6.2
              have c8 := ee c7.2
              have d := de c1.1
              match vs, de c8.1, pa, c8.2 with
              | [a, b, c], _, pa, c82 =>
                refine ps_imp (ps_par3 (g.calm hcl) nd (by rw [g.hN]; exact de c2.1) (by rw [g.hN]; exact de c3.1) (by rw [g.hN]; exact de c4.1) d.1 d.2.1 d.2.2 (by rw [g.sc]; exact lcl_of c5.1) (by rw [g.sc]; exact lcl_of c6.1) (by rw [g.sc]; exact lcl_of c7.1) pa (sws_eq g.sc gs.knd (de c82)) rfl) fun _ _ _ => i_par3⟩
theorem s_own {i : Nat} {e : IE} : SndS T G o k N (.own i e) := ⟨fun {fb sc X W B O0} gs {st} h => by
  have h0 : (T.cold && (match xAsg st with
    | some ([tg], v, _) => (match lstE e, xLst v with
      | some es, some vs => chkP N fb sc tg (.nm i) && (decide (vs.length ≤ 1000) && chkL T N es fb sc vs)
      | _, _ => isLcI e && (chkP N fb sc tg (.nm i) && (chkE T N e fb sc v && setL sc tg v)))
    | _ => false)) = true := h
  have hcl := (ee h0).1
  obtain ⟨tg, v, pos, rfl, h9⟩ := asg_get (P := fun tg v => match lstE e, xLst v with
      | some es, some vs => chkP N fb sc tg (.nm i) && (decide (vs.length ≤ 1000) && chkL T N es fb sc vs)
      | _, _ => isLcI e && (chkP N fb sc tg (.nm i) && (chkE T N e fb sc v && setL sc tg v))) (ee h0).2
  have g := gs.g
  cases e with
  | lc a p it ifs =>
    have h1 := ee (show (isLcI (.lc a p it ifs) && (chkP N fb sc tg (.nm i) && (chkE T N (.lc a p it ifs) fb sc v && setL sc tg v))) = true from h9)
    have h2 := ee h1.2
    have h3 := ee h2.2
    obtain ⟨x, t2, iter, xi, scope, pos2, rfl, c1, c2, c3, c4, c5, c6⟩ := lc_get h3.1
    cases q : xNm tg with
    | none =>
      have h6 : (match xNm tg, xLc (.ListComp x [⟨t2, iter, xi, 0⟩] scope pos2) with
        | some (y, py), some (_, _, scope, pos) => lcl sc y && ((py.line == pos.line) && !(scope.names.any fun (n, k) => n == y && (k == .local || k == .cell)))
        | _, _ => false) = true := h3.2
      rw [q] at h6
      cases h6
    | some z =>
      obtain ⟨y, py⟩ := z
      obtain rfl := xNm_eq q
      have h6 : (lcl sc y && ((py.line == pos2.line) && !(scope.names.any fun (n, k) => n == y && (k == .local || k == .cell)))) = true := h3.2
      have h7 := ee h6
      have h8 := ee h7.2
      have ly := lcl_of h7.1
      rw [← g.sc] at ly
      have hN : N[i]? = some y := by
        have h9 : (decide (N[i]? = some y) && locB fb sc y) = true := h2.1
        exact de (ee h9).1
      have bk : BlkOk X.N X.env.scope scope (ownOf N p) := by
        rw [g.hN, g.sc]
        exact blkOk_by c2
      have sw := sw_true (elt := x) (gs := [⟨t2, iter, xi, 0⟩]) (scope := scope) (pos := pos2) (py := py) (y := y) (l := pos.line) (env := X.env) (by rw [g.sc]; exact gs.knd) ly h8.1 (by simpa using h8.2)
      refine ps_imp (ps_setLc (g := gPat X.K p) (tt := tDT G W0 (evF o ifs)) (te := tD G W0 (evE o a)) (g.calm hcl) (by rw [g.hN]; exact g.nd) (by rw [g.hN]; exact hN) ly sw ((sndI T G o k N it).i g c4) bk
        (fun s H C cl fp => ?_) (fun s H C cl fp => (sndL T G o k N ifs).f (g.blk s H scope C cl fp) c5) (fun s H C cl fp => (sndE T G o k N a).e (g.blk s H scope C cl fp) c6) (fold1 c1)) fun D0 σ H q => ?_
      · have gb := g.blk s H scope C cl fp
        exact pgD gb.hN gb.nd (gb.calm hcl) gb.sc gb.fb p t2 c3
      · rw [own_snd]
        obtain ⟨O, ρ, rep, q⟩ := q
        have q' : Post G W B O0 D0 (((evI o it ρ).bind fun xs => (noexc (lcGo (evF o ifs) (evE o a) p (wipeV ρ (slotsP p)) xs)).bind fun ys => guard' (decide (ys.length ≤ lim)) (R.ok (D.lst ys))).st ρ fun d => match d with
          | D.lst ds => .nx (ρ.set i (.ow ds))
          | _ => .bad) := q
        have q2 : Post G W B O0 D0 ((evI o it ρ).st ρ fun xs => ((noexc (lcGo (evF o ifs) (evE o a) p (wipeV ρ (slotsP p)) xs)).bind fun ys => guard' (decide (ys.length ≤ lim)) (R.ok (D.lst ys))).st ρ fun d => match d with
          | D.lst ds => .nx (ρ.set i (.ow ds))
          | _ => .bad) := by
          cases e1 : evI o it ρ with
          | ok ds => rw [e1] at q'; exact q'
          | exc c => rw [e1] at q'; exact q'
          | bad => rw [e1] at q'; exact q'
        refine i_lcG g.md.hK rep.rep ((st_fin rep q2).imp fun xs H1 s1 ⟨r1, q1⟩ => ?_)
        cases e : lcGo (evF o ifs) (evE o a) p (wipeV ρ (slotsP p)) xs with
        | exc c => rw [e] at q1; exact q1.elim
        | bad => rw [e] at q1; exact q1.elim
        | ok ys =>
          rw [e] at q1
          cases c : decide (ys.length ≤ lim) with
          | false =>
            have q3 : Post G W B O0 D0 ((guard' (decide (ys.length ≤ lim)) (R.ok (D.lst ys))).st ρ fun d => match d with
              | D.lst ds => .nx (ρ.set i (.ow ds))
              | _ => .bad) := q1
            rw [c] at q3
            exact q3.elim
          | true =>
            have q3 : Post G W B O0 D0 ((guard' (decide (ys.length ≤ lim)) (R.ok (D.lst ys))).st ρ fun d => match d with
              | D.lst ds => .nx (ρ.set i (.ow ds))
              | _ => .bad) := q1
            rw [c] at q3
            exact ⟨ys, rfl, of_decide_eq_true c, fun D1 H2 vs hD sm hv dvs => q3 _ _ _ (r1.newOwnG hD sm hv dvs i)⟩
  | lst es =>
    cases q2 : xLst v with
    | none =>
      rw [q2] at h9
      exact absurd (ee (show (isLcI (.lst es) && (chkP N fb sc tg (.nm i) && (chkE T N (.lst es) fb sc v && setL sc tg v))) = true from h9)).1 Bool.false_ne_true
    | some vs =>
      rw [q2] at h9
      obtain ⟨p2, rfl⟩ := xLst_eq q2
      have h1 := ee (show (chkP N fb sc tg (.nm i) && (decide (vs.length ≤ 1000) && chkL T N es fb sc vs)) = true from h9)
      have h2 := ee h1.2
      have hnm : ∃ x p, tg = .Name x p := by
        have h' : (match xName tg with
          | some x => decide (N[i]? = some x) && locB fb sc x
          | none => false) = true := h1.1
        cases q : xName tg with
        | none => rw [q] at h'; cases h'
        | some x =>
          obtain ⟨p, rfl⟩ := xName_eq q
          exact ⟨x, p, rfl⟩
      obtain ⟨x, px, rfl⟩ := hnm
      refine ps_imp (ps_asg (pe_lst ((sndL T G o k N es).a g h2.2)) (pg_of g (.inl hcl) h1.1) rfl rfl rfl) fun D0 σ H q => ?_
      obtain ⟨O, ρ, rep, q⟩ := q
      have q' : Post G W B O0 D0 (((evL o es ρ).bind fun xs => R.ok (D.lst xs)).st ρ fun d => match d with
        | D.lst ds => .nx (ρ.set i (.ow ds))
        | _ => .bad) := q
      have q2 : Post G W B O0 D0 ((evL o es ρ).st ρ fun ds => .nx (ρ.set i (.ow ds))) := by
        cases e1 : evL o es ρ with
        | ok ds => rw [e1] at q'; exact q'
        | exc c => rw [e1] at q'; exact q'
        | bad => rw [e1] at q'; exact q'
      refine ⟨O, ρ, rep.rep, ((st_fin rep q2).val).imp fun ds H1 s1 ⟨er, r1, q1⟩ us hus => ?_⟩
      have ln : us.length ≤ sizeLine := by
        rw [← dvL_len hus, chkL_len h2.2 er]
        exact Nat.le_trans (de h2.1) (by decide +kernel)
      exact ⟨ln, fun p hp => q1 _ _ _ (r1.newOwn hp hus i)⟩
  | _ => exact absurd (ee (show (isLcI _ && _) = true from h9)).1 Bool.false_ne_true⟩
theorem exs_get {st : Stmt} {P : Expr → Bool} (h : (match xExS st with
    | some (v, _) => P v
    | none => false) = true) : ∃ v pos, st = .Expr v pos ∧ P v = true := by
  cases q : xExS st with
  | none => rw [q] at h; cases h
  | some z =>
    obtain ⟨v, pos⟩ := z
    rw [q] at h
    obtain rfl := xExS_eq q
    exact ⟨v, pos, rfl, h⟩
theorem s_expr {e : IE} : SndS T G o k N (.expr e) := ⟨fun {fb sc X W B O0} gs {st} h => by
  obtain ⟨v, pos, rfl, h9⟩ := exs_get (P := fun v => !(compE v) && chkE T N e fb sc v) h
  have h1 := ee h9
  refine ps_imp (ps_expr ((sndE T G o k N e).e gs.g h1.2) (sws_no0 (by simpa using h1.1))) fun D0 σ H q => ?_
  obtain ⟨O, ρ, rep, q⟩ := q
  exact ⟨O, ρ, rep.rep, (st_fin rep q).imp fun d H1 s1 ⟨r1, q1⟩ v hv => q1 O σ H1 r1⟩⟩
theorem s_iff {c : IE} {a b : ISs} (ha : SndSs T G o k N a) (hb : SndSs T G o k N b) : SndS T G o k N (.iff c a b) := ⟨fun {fb sc X W B O0} gs {st} h => by
  have h' : (match xIfS st with
    | some (x, y, z) => chkE T N c fb sc x && (chkSs T N fb sc a y && chkSs T N fb sc b z)
    | none => false) = true := h
  cases q : xIfS st with
  | none => rw [q] at h'; cases h'
  | some w =>
    obtain ⟨x, y, z⟩ := w
    rw [q] at h'
    obtain ⟨pos, rfl⟩ := xIfS_eq q
    have h1 := ee h'
    have h2 := ee h1.2
    refine ps_imp (ps_if ((sndE T G o k N c).t gs.g h1.1) (ha.s (B := B) (O0 := O0) gs h2.1) (hb.s (B := B) (O0 := O0) gs h2.2)) fun D0 σ H q => ?_
    obtain ⟨O, ρ, rep, q⟩ := q
    refine ⟨O, ρ, rep.rep, (st_fin rep q).imp fun t H1 s1 ⟨r1, q1⟩ => ?_⟩
    cases t with
    | true =>
      rw [if_pos rfl]
      exact ⟨O, ρ, r1, q1⟩
    | false =>
      rw [if_neg Bool.false_ne_true]
      exact ⟨O, ρ, r1, q1⟩⟩
theorem i_whl {c : Env → R Bool} {b : Env → SR} {n : Nat} (h : tS G W B O0 (whLoop c b n) D0 σ H) : tWhile (tDT G W c) (tS G W B O0 b) D0 σ H := by
  refine ⟨fun m σ H => ∃ O ρ, RepS G B O0 O ρ σ H ∧ Post G W B O0 D0 (whLoop c b m ρ), ⟨n, h⟩, ?_⟩
  rintro m σ H ⟨O, ρ, rep, q⟩
  cases m with
  | zero => exact q.elim
  | succ m =>
    have q' : Post G W B O0 D0 ((c ρ).st ρ fun t => match t with
      | false => .nx ρ
      | true => (match b ρ with
        | .nx ρ' => whLoop c b m ρ'
        | .ct ρ' => whLoop c b m ρ'
        | .bk ρ' => .nx ρ'
        | r => r)) := q
    refine ⟨O, ρ, rep.rep, (st_fin rep q').imp fun t H1 s1 ⟨r1, q1⟩ => ?_⟩
    cases t with
    | false =>
      rw [if_neg Bool.false_ne_true]
      exact q1 O σ H1 r1
    | true =>
      rw [if_pos rfl]
      refine ⟨fun σ' H' => ∃ O ρ, RepS G B O0 O ρ σ' H' ∧ Post G W B O0 D0 (whLoop c b m ρ), fun σ' H' hn => ⟨m, Nat.lt_succ_self m, hn⟩, O, ρ, r1, ?_⟩
      cases e : b ρ with
      | nx ρ' =>
        rw [e] at q1
        exact fun O σ H r => ⟨O, ρ', r, q1⟩
      | ct ρ' =>
        rw [e] at q1
        exact fun O σ H r => ⟨O, ρ', r, q1⟩
      | bk ρ' =>
        rw [e] at q1
        exact fun O σ H r => q1 O σ H r
      | rt d =>
        rw [e] at q1
        exact fun v H s hv => q1 v H s hv
      | ex cc ρ' =>
        rw [e] at q1
        exact fun O σ H r => q1 O σ H r
      | bad =>
        rw [e] at q1
        exact q1.elim
theorem s_whl {n : Nat} {c : IE} {b : ISs} (hb : SndSs T G o k N b) : SndS T G o k N (.whl n c b) := ⟨fun {fb sc X W B O0} gs {st} h => by
  have h' : (match xWhl st with
    | some (x, y, z) => z.isEmpty && (chkE T N c fb sc x && chkSs T N fb sc b y)
    | none => false) = true := h
  cases q : xWhl st with
  | none => rw [q] at h'; cases h'
  | some w =>
    obtain ⟨x, y, z⟩ := w
    rw [q] at h'
    obtain ⟨pos, rfl⟩ := xWhl_eq q
    have h1 := ee h'
    have h2 := ee h1.2
    cases z with
    | cons _ _ => cases h1.1
    | nil => exact ps_imp (ps_while gs.g.own ((sndE T G o k N c).t gs.g h2.1) (hb.s (B := B) (O0 := O0) gs h2.2)) fun D0 σ H q => i_whl q⟩
theorem forLoop_at {p : Pat} {b : Env → SR} {d : D} {ds : List D} {ρ : Env} (h : Post G W B O0 D0 (forLoop p b (d :: ds) ρ)) : ∃ ρ1, putP p d ρ = .ok ρ1 ∧ Post G W B O0 D0 (match b ρ1 with
    | .nx ρ' => forLoop p b ds ρ'
    | .ct ρ' => forLoop p b ds ρ'
    | .bk ρ' => .nx ρ'
    | z => z) := by
  have h' : Post G W B O0 D0 ((putP p d ρ).st ρ fun ρ1 => match b ρ1 with
    | .nx ρ' => forLoop p b ds ρ'
    | .ct ρ' => forLoop p b ds ρ'
    | .bk ρ' => .nx ρ'
    | z => z) := h
  cases e : putP p d ρ with
  | ok ρ1 =>
    rw [e] at h'
    exact ⟨ρ1, rfl, h'⟩
  | exc c => exact absurd e (putP_noexc p d ρ c)
  | bad =>
    rw [e] at h'
    exact h'.elim
theorem i_for {K : PySem.W.Frag} (hK : G.K = K) {fi : Env → R (List D)} {p : Pat} {b : Env → SR} {tb : TS} (hb : ∀ B', Stp B B' → ∀ D0 σ H, tS G W B' O0 b D0 σ H → tb D0 σ H) (h : tS G W B O0 (fun ρ => (fi ρ).st ρ fun xs => forLoop p b xs ρ) D0 σ H) :
    tFor (iD G W fi) (gPat K p) tb D0 σ H := by
  obtain ⟨O, ρ, rep, q⟩ := h
  refine ⟨O, ρ, rep.rep, (st_fin rep q).imp fun xs H1 s1 ⟨r1, q1⟩ J hJ => ?_⟩
  obtain ⟨Gd, Y, wk, hG, hY⟩ := hJ
  obtain ⟨r2, sB⟩ := r1.rebase
  refine for_it wk (D := D0) (fun i σ H => ∃ O' ρ', RepS G (baseOf H1 O O0) O0 O' ρ' σ H ∧ Post G W B O0 D0 (forLoop p b (xs.drop i) ρ')) ⟨O, ρ, r2, by rw [List.drop_zero]; exact q1⟩ (fun i σ' H' hi ⟨O', ρ', r', _⟩ => hG H' ((RepS.walks r1.sub r').trans hid_same)) ?_ ?_
  · rintro i x σ' H2 H3 hi ⟨O', ρ', r', q'⟩ hy
    obtain ⟨s23, d, hd, dx⟩ := hY i H2 O' x H3 hi r'.rep.ok (RepS.walks r1.sub r') hy
    have ed : xs.drop i = d :: xs.drop (i + 1) := by
      rw [List.drop_eq_getElem_cons hi]
      congr 1
      rw [List.getElem?_eq_getElem hi] at hd
      exact Option.some.inj hd
    rw [ed] at q'
    obtain ⟨ρ1, e1, q2⟩ := forLoop_at q'
    refine gPatS_run hK p d x ρ' ρ1 σ' _ (r'.mono s23) dx e1 fun σ1 r3 => ?_
    refine hb (baseOf H1 O O0) sB _ σ1 H3 ⟨O', ρ1, r3, ?_⟩
    cases e : b ρ1 with
    | nx ρ2 =>
      rw [e] at q2
      exact fun O σ H r => ⟨O, ρ2, r, q2⟩
    | ct ρ2 =>
      rw [e] at q2
      exact fun O σ H r => ⟨O, ρ2, r, q2⟩
    | bk ρ2 =>
      rw [e] at q2
      exact fun O σ H r => q2 O σ H (r.later sB)
    | rt d =>
      rw [e] at q2
      exact fun v H s hv => q2 v H (sB.trans s) hv
    | ex cc ρ2 =>
      rw [e] at q2
      exact fun O σ H r => q2 O σ H (r.later sB)
    | bad =>
      rw [e] at q2
      exact q2.elim
  · rintro σ' H' ⟨O', ρ', r', q'⟩
    rw [List.drop_length] at q'
    exact q' O' σ' H' (r'.later sB)
theorem s_for {p : Pat} {it : II} {b : ISs} (hb : SndSs T G o k N b) : SndS T G o k N (.for p it b) := ⟨fun {fb sc X W B O0} gs {st} h => by
  have h' : (T.cold && (match xFor st with
    | some (t, i, y, z) => z.isEmpty && (plainE i && (chkP N fb sc t p && (chkI T N it fb sc t i && chkSs T N fb sc b y)))
    | none => false)) = true := h
  have hcl := (ee h').1
  replace h' := (ee h').2
  have g := gs.g
  cases q : xFor st with
  | none => rw [q] at h'; cases h'
  | some w =>
    obtain ⟨t, i, y, z⟩ := w
    rw [q] at h'
    obtain ⟨pos, rfl⟩ := xFor_eq q
    have h1 := ee h'
    have h2 := ee h1.2
    have h3 := ee h2.2
    have h4 := ee h3.2
    cases z with
    | cons _ _ => cases h1.1
    | nil =>
      have bd : PSs X y (fun D0 σ H => ∃ B', tS G W B' O0 (exSs o b) D0 σ H) := ⟨fun pins s σ H D0 I ⟨B', q⟩ => (hb.s (B := B') (O0 := O0) gs h4.2).run pins s σ H D0 I q⟩
      exact ps_imp (ps_for g.own (g.calm hcl) ((sndI T G o k N it).i g h4.1) (pg_of g (.inl hcl) h3.1) bd (fold1 h2.1)) fun D0 σ H q => i_for g.md.hK (fun B' _ D0 σ H q => ⟨B', q⟩) q⟩
theorem s_ret {e : IE} : SndS T G o k N (.ret e) := ⟨fun {fb sc X W B O0} gs {st} h => by
  have h' : (match xRet st with
    | some (some x) => chkE T N e fb sc x
    | _ => false) = true := h
  cases q : xRet st with
  | none => rw [q] at h'; cases h'
  | some w =>
    rw [q] at h'
    obtain ⟨pos, rfl⟩ := xRet_eq q
    cases w with
    | none => cases h'
    | some x =>
      refine ps_imp (ps_ret ((sndE T G o k N e).e gs.g h')) fun D0 σ H q => ?_
      obtain ⟨O, ρ, rep, q⟩ := q
      exact ⟨O, ρ, rep.rep, (st_fin rep q).imp fun d H1 s1 ⟨r1, q1⟩ v hv => q1 v H1 r1.same (dv_mono (hid_sub r1.sub) d v hv)⟩⟩
theorem s_retN : SndS T G o k N .retN := ⟨fun {fb sc X W B O0} gs {st} h => by
  have h' : (match xRet st with
    | some none => true
    | _ => false) = true := h
  cases q : xRet st with
  | none => rw [q] at h'; cases h'
  | some w =>
    rw [q] at h'
    obtain ⟨pos, rfl⟩ := xRet_eq q
    cases w with
    | some _ => cases h'
    | none =>
      refine ps_imp ps_retN fun D0 σ H q => ?_
      obtain ⟨O, ρ, rep, q⟩ := q
      exact q .non H rep.same rfl⟩
theorem s_brk : SndS T G o k N .brk := ⟨fun {fb sc X W B O0} gs {st} h => by
  cases st <;> first | (cases h; done) | skip
  refine ps_imp ps_break fun D0 σ H q => ?_
  obtain ⟨O, ρ, rep, q⟩ := q
  exact q O σ H rep⟩
theorem s_cnt : SndS T G o k N .cnt := ⟨fun {fb sc X W B O0} gs {st} h => by
  cases st <;> first | (cases h; done) | skip
  refine ps_imp ps_continue fun D0 σ H q => ?_
  obtain ⟨O, ρ, rep, q⟩ := q
  exact q O σ H rep⟩
theorem s_pass : SndS T G o k N .pass := ⟨fun {fb sc X W B O0} gs {st} h => by
  cases st <;> first | (cases h; done) | skip
  refine ps_imp ps_pass fun D0 σ H q => ?_
  obtain ⟨O, ρ, rep, q⟩ := q
  exact q O σ H rep⟩
theorem s_raise {c : Nat} : SndS T G o k N (.raise c) := ⟨fun {fb sc X W B O0} gs {st} h => by
  have g := gs.g
  have h' : (T.cold && (match xRai st with
    | some (some e, none) => raiB T sc c e
    | _ => false)) = true := h
  have hcl := (ee h').1
  replace h' := (ee h').2
  cases q : xRai st with
  | none => rw [q] at h'; cases h'
  | some w =>
    obtain ⟨a, b⟩ := w
    rw [q] at h'
    obtain ⟨pos, rfl⟩ := xRai_eq q
    match a, b, h' with
    | some e, none, h' =>
      have h2 : (match xCall e with
        | some (gx, [m], [], _) => (match xName gx, xConst m with
          | some x, some (.str _) => decide (T.cls[c]? = some x) && (glB sc x && nmOk x)
          | _, _ => false)
        | _ => false) = true := h'
      cases q2 : xCall e with
      | none => rw [q2] at h2; cases h2
      | some z =>
        obtain ⟨gx, xs, kw, pos2⟩ := z
        rw [q2] at h2
        obtain rfl := xCall_eq q2
        match xs, kw, h2 with
        | [m], [], h2 =>
          have h3 : (match xName gx, xConst m with
            | some x, some (.str _) => decide (T.cls[c]? = some x) && (glB sc x && nmOk x)
            | _, _ => false) = true := h2
          cases q3 : xName gx with
          | none => rw [q3] at h3; cases h3
          | some x =>
            cases q4 : xConst m with
            | none => rw [q3, q4] at h3; cases h3
            | some cc =>
              rw [q3, q4] at h3
              obtain ⟨p3, rfl⟩ := xName_eq q3
              obtain ⟨kk, p4, rfl⟩ := xConst_eq q4
              cases cc with
              | str ms =>
                have h4 := ee (show (decide (T.cls[c]? = some x) && (glB sc x && nmOk x)) = true from h3)
                have h5 := ee h4.2
                have hT := de h4.1
                have hlt : c < T.cls.length := by
                  rcases Nat.lt_or_ge c T.cls.length with h | h
                  · exact h
                  · rw [List.getElem?_eq_none h] at hT
                    cases hT
                obtain ⟨m1, m2, m3, m4⟩ := g.md.mkx c hlt
                refine ps_imp (ps_raise (g.calm hcl) g.tk (pmk_own PySem.F.excBase_ValueError m1 (g.md.cls c x hT) m2 (raises_own m3 m4) (gl_of g h5.1) (nm1 h5.2))) fun D0 σ H q => ?_
                obtain ⟨O, ρ, rep, q⟩ := q
                exact q O σ H rep
              | _ => cases h3⟩
theorem o_at (rep : RepS G B O0 O ρ σ H) {i : Nat} {ds : List D} (h : getO ρ i = .ok ds) : ρ[i]? = some (.ow ds) := by
  unfold getO at h
  split at h
  · rename_i es e
    cases h
    exact e
  · cases h
theorem fin_ownS {i : Nat} {f : List D → SR} (h : Post G W B O0 D0 ((getO ρ i).st ρ f)) : ∃ ds, getO ρ i = .ok ds ∧ Post G W B O0 D0 (f ds) := by
  cases e : getO ρ i with
  | ok d => exact ⟨d, rfl, by rw [e] at h; exact h⟩
  | exc c =>
    unfold getO at e
    split at e <;> cases e
  | bad =>
    rw [e] at h
    exact h.elim
theorem s_app {i : Nat} {e : IE} : SndS T G o k N (.app i e) := ⟨fun {fb sc X W B O0} gs {st} h => by
  have g := gs.g
  obtain ⟨v, pos, rfl, h9⟩ := exs_get (P := fun c => match xCall c with
      | some (f, [x], [], cpos) => (match xAttr f with
        | some (ob, n, apos) => (match xName ob with
          | some y => decide (n = ("append" : Str)) && ((apos.endLine == cpos.line) && (decide (N[i]? = some y) && (visB sc y && (nmOk y && (plainE x && chkE T N e fb sc x)))))
          | none => false)
        | none => false)
      | _ => false) h
  cases q2 : xCall v with
  | none => rw [q2] at h9; cases h9
  | some z =>
    obtain ⟨f, xs, kw, cpos⟩ := z
    rw [q2] at h9
    obtain rfl := xCall_eq q2
    match xs, kw, h9 with
    | [x], [], h9 =>
      have h3 : (match xAttr f with
        | some (ob, n, apos) => (match xName ob with
          | some y => decide (n = ("append" : Str)) && ((apos.endLine == cpos.line) && (decide (N[i]? = some y) && (visB sc y && (nmOk y && (plainE x && chkE T N e fb sc x)))))
          | none => false)
        | none => false) = true := h9
      cases q3 : xAttr f with
      | none => rw [q3] at h3; cases h3
      | some z =>
        obtain ⟨ob, n, apos⟩ := z
        rw [q3] at h3
        obtain rfl := xAttr_eq q3
        have h4 : (match xName ob with
          | some y => decide (n = ("append" : Str)) && ((apos.endLine == cpos.line) && (decide (N[i]? = some y) && (visB sc y && (nmOk y && (plainE x && chkE T N e fb sc x)))))
          | none => false) = true := h3
        cases q4 : xName ob with
        | none => rw [q4] at h4; cases h4
        | some y =>
          rw [q4] at h4
          obtain ⟨p4, rfl⟩ := xName_eq q4
          have c1 := ee h4
          have c2 := ee c1.2
          have c3 := ee c2.2
          have c4 := ee c3.2
          have c5 := ee c4.2
          have c6 := ee c5.2
          obtain rfl := de c1.1
          have st : starEach [x] X.env = (false, eval x X.env) :: starEach [] X.env := star1 c6.1
          have few : ((backTo cpos (starEach [x] X.env)).all (fun x => !x.1) && (backToKw cpos (keywordEach [] X.env)).all (fun x => x.1.isSome)
              && decide (([x] : List Expr).length + ([] : List Keyword).length + (if ([] : List Keyword).isEmpty then 0 else 1) < 30)) = true := by
            rw [st]
            rfl
          refine ps_imp (ps_expr (pe_bm PySem.F.plainAttrs_list PySem.F.slot_list_append PySem.F.type_list_append mt_append (pe_v g (de c3.1) c4.1 c5.1) (pa_cons ((sndE T G o k N e).e g c6.2) pa_nil st) rfl few c2.1 st rfl) rfl) fun D0 σ H q => ?_
          obtain ⟨O, ρ, rep, q⟩ := q
          obtain ⟨ds, eo, q⟩ := fin_ownS (show Post G W B O0 D0 ((getO ρ i).st ρ fun ds => (evE o e ρ).st ρ fun d => match decide (ds.length < lim) with
            | true => .nx (ρ.set i (.ow (ds ++ [d])))
            | false => .bad) from q)
          obtain ⟨p, vs, e1, e2, e3, e4⟩ := own_at rep.rep eo
          refine ⟨_, e1, .inl ⟨rfl, vs, SqL.of e3⟩, O, ρ, rep.rep, (st_fin rep q).imp fun d H1 s1 ⟨r1, q1⟩ v hv => ?_⟩
          cases hl : decide (ds.length < lim) with
          | false =>
            rw [hl] at q1
            exact q1.elim
          | true =>
            rw [hl] at q1
            refine ⟨p, vs, v, rfl, rfl, s1.ext.l e3, by rw [← dvL_len e4, ← lim_eq]; exact de hl, ?_⟩
            exact q1 O σ _ (r1.setOwn (o_at r1 eo) e1 (s1.ext.l e3) (dvL_append (dvL_mono (hid_mono s1.ext) ds vs e4) ⟨v, [], rfl, hv, rfl⟩))⟩
theorem s_ext {i : Nat} {e : IE} : SndS T G o k N (.ext i e) := ⟨fun {fb sc X W B O0} gs {st} h => by
  have g := gs.g
  obtain ⟨v, pos, rfl, h9⟩ := exs_get (P := fun c => match xCall c with
      | some (f, [x], [], cpos) => (match xAttr f with
        | some (ob, n, apos) => (match xName ob with
          | some y => decide (n = ("extend" : Str)) && ((apos.endLine == cpos.line) && (decide (N[i]? = some y) && (visB sc y && (nmOk y && (plainE x && chkE T N e fb sc x)))))
          | none => false)
        | none => false)
      | _ => false) h
  cases q2 : xCall v with
  | none => rw [q2] at h9; cases h9
  | some z =>
    obtain ⟨f, xs, kw, cpos⟩ := z
    rw [q2] at h9
    obtain rfl := xCall_eq q2
    match xs, kw, h9 with
    | [x], [], h9 =>
      have h3 : (match xAttr f with
        | some (ob, n, apos) => (match xName ob with
          | some y => decide (n = ("extend" : Str)) && ((apos.endLine == cpos.line) && (decide (N[i]? = some y) && (visB sc y && (nmOk y && (plainE x && chkE T N e fb sc x)))))
          | none => false)
        | none => false) = true := h9
      cases q3 : xAttr f with
      | none => rw [q3] at h3; cases h3
      | some z =>
        obtain ⟨ob, n, apos⟩ := z
        rw [q3] at h3
        obtain rfl := xAttr_eq q3
        have h4 : (match xName ob with
          | some y => decide (n = ("extend" : Str)) && ((apos.endLine == cpos.line) && (decide (N[i]? = some y) && (visB sc y && (nmOk y && (plainE x && chkE T N e fb sc x)))))
          | none => false) = true := h3
        cases q4 : xName ob with
        | none => rw [q4] at h4; cases h4
        | some y =>
          rw [q4] at h4
          obtain ⟨p4, rfl⟩ := xName_eq q4
          have c1 := ee h4
          have c2 := ee c1.2
          have c3 := ee c2.2
          have c4 := ee c3.2
          have c5 := ee c4.2
          have c6 := ee c5.2
          obtain rfl := de c1.1
          have st : starEach [x] X.env = (false, eval x X.env) :: starEach [] X.env := star1 c6.1
          have few : ((backTo cpos (starEach [x] X.env)).all (fun x => !x.1) && (backToKw cpos (keywordEach [] X.env)).all (fun x => x.1.isSome)
              && decide (([x] : List Expr).length + ([] : List Keyword).length + (if ([] : List Keyword).isEmpty then 0 else 1) < 30)) = true := by
            rw [st]
            rfl
          refine ps_imp (ps_expr (pe_bm PySem.F.plainAttrs_list PySem.F.slot_list_extend PySem.F.type_list_extend mt_extend (pe_v g (de c3.1) c4.1 c5.1) (pa_cons ((sndE T G o k N e).e g c6.2) pa_nil st) rfl few c2.1 st rfl) rfl) fun D0 σ H q => ?_
          obtain ⟨O, ρ, rep, q⟩ := q
          obtain ⟨ds, eo, q⟩ := fin_ownS (show Post G W B O0 D0 ((getO ρ i).st ρ fun ds => (evE o e ρ).st ρ fun d => match d with
            | .lst es => (match decide (ds.length + es.length ≤ lim) with
              | true => .nx (ρ.set i (.ow (ds ++ es)))
              | false => .bad)
            | _ => .bad) from q)
          obtain ⟨p, vs, e1, e2, e3, e4⟩ := own_at rep.rep eo
          refine ⟨_, e1, .inl ⟨rfl, vs, SqL.of e3⟩, O, ρ, rep.rep, (st_fin rep q).imp fun d H1 s1 ⟨r1, q1⟩ v hv => ?_⟩
          cases d with
          | lst es =>
            obtain ⟨b, us, rfl, hb, hus⟩ := hv
            have q2 : Post G W B O0 D0 (match decide (ds.length + es.length ≤ lim) with
              | true => .nx (ρ.set i (.ow (ds ++ es)))
              | false => .bad) := q1
            cases hl : decide (ds.length + es.length ≤ lim) with
            | false =>
              rw [hl] at q2
              exact q2.elim
            | true =>
              rw [hl] at q2
              refine ⟨p, b, vs, us, rfl, rfl, s1.ext.l e3, hid_full _ _ hb, by rw [← dvL_len e4, ← dvL_len hus, ← lim_eq]; exact de hl, ?_⟩
              exact q2 O σ _ (r1.setOwn (o_at r1 eo) e1 (s1.ext.l e3) (dvL_append (dvL_mono (hid_mono s1.ext) ds vs e4) hus))
          | _ => exact q1.elim⟩
theorem place_ix {n : Nat} {i : Int} {m : Nat} (h : place n i = some m) : ixN n i = some m := by
  unfold place at h
  unfold ixN
  by_cases h0 : 0 ≤ i
  · rw [if_pos h0] at h ⊢
    exact h
  · rw [if_neg h0] at h ⊢
    by_cases h1 : 0 ≤ i + n
    · rw [if_pos h1] at h
      rw [if_pos (by omega)]
      exact h
    · rw [if_neg h1] at h
      cases h
theorem s_seti {i : Nat} {ix e : IE} : SndS T G o k N (.seti i ix e) := ⟨fun {fb sc X W B O0} gs {st} h => by
  have g := gs.g
  obtain ⟨tg, v, pos, rfl, h9⟩ := asg_get (P := fun tg v => match xSub tg with
      | some (ob, y) => (match xName ob with
        | some z => decide (N[i]? = some z) && (visB sc z && (nmOk z && (plainE y && (!(compE v) && (chkE T N e fb sc v && chkE T N ix fb sc y)))))
        | none => false)
      | none => false) h
  cases q2 : xSub tg with
  | none => rw [q2] at h9; cases h9
  | some z =>
    obtain ⟨ob, y⟩ := z
    rw [q2] at h9
    obtain ⟨p2, rfl⟩ := xSub_eq q2
    have h3 : (match xName ob with
        | some z => decide (N[i]? = some z) && (visB sc z && (nmOk z && (plainE y && (!(compE v) && (chkE T N e fb sc v && chkE T N ix fb sc y)))))
        | none => false) = true := h9
    cases q3 : xName ob with
    | none => rw [q3] at h3; cases h3
    | some z =>
      rw [q3] at h3
      obtain ⟨p3, rfl⟩ := xName_eq q3
      have c1 := ee h3
      have c2 := ee c1.2
      have c3 := ee c2.2
      have c4 := ee c3.2
      have c5 := ee c4.2
      have c6 := ee c5.2
      have ha : ∀ v, assign (.Subscript (.Name z p3) y p2) X.env v = (do
          let ov ← holding [v] (eval (.Name z p3) X.env)
          let iv ← holding [v, ov] (eval y X.env)
          standAt p2
          holding [v, ov, iv] (setItem ov iv v)
          release [v, ov, iv] []) := by
        intro v
        have hy := c4.1
        cases y <;> first | rfl | (cases hy)
      refine ps_imp (ps_asg ((sndE T G o k N e).e g c6.1) (pg_sub (pe_v g (de c1.1) c2.1 c3.1) ((sndE T G o k N ix).e g c6.2) set_list ha) (sws_no (tg := .Subscript (.Name z p3) y p2) (v := v) (l := pos.line) (env := X.env) (by simpa using c5.1)) st_sub rfl) fun D0 σ H q => ?_
      obtain ⟨O, ρ, rep, q⟩ := q
      obtain ⟨ds, eo, q⟩ := fin_ownS (show Post G W B O0 D0 ((getO ρ i).st ρ fun ds => (evE o e ρ).st ρ fun d => (evE o ix ρ).st ρ fun kk => match kk with
        | .int j => (match place ds.length j with
          | some m => .nx (ρ.set i (.ow (ds.set m d)))
          | none => .bad)
        | _ => .bad) from q)
      obtain ⟨p, vs, e1, e2, e3, e4⟩ := own_at rep.rep eo
      refine ⟨O, ρ, rep.rep, (st_fin rep q).imp fun d H1 s1 ⟨r1, q1⟩ v hv => ?_⟩
      refine ⟨_, e1, O, ρ, r1.rep, (st_fin r1 q1).imp fun kk H2 s2 ⟨r2, q2⟩ w hw => ?_⟩
      cases kk with
      | int j =>
        cases hw
        have q3 : Post G W B O0 D0 (match place ds.length j with
          | some m => .nx (ρ.set i (.ow (ds.set m d)))
          | none => .bad) := q2
        cases em : place ds.length j with
        | none => rw [em] at q3; exact q3.elim
        | some m =>
          rw [em] at q3
          have s12 := s1.trans s2
          rw [dvL_len e4] at em
          exact ⟨p, vs, j, m, rfl, rfl, s12.ext.l e3, place_ix em, q3 O σ _ (r2.setOwn (o_at r2 eo) e1 (s12.ext.l e3) (dvL_set (dv_mono (hid_mono s2.ext) d v hv) m (dvL_mono (hid_mono s12.ext) ds vs e4)))⟩
      | _ => exact q2.elim⟩
theorem GoodS.tr (g : GoodS T G o k N fb sc X W) {W2 : WX} {pn : List (Addr × Obj)} {xe : Value → Shared → Prop} (tk : Takes (X.tr pn xe) W2) (ow : PassesOwn (model X.prog X.w) X.A X.env xe) : GoodS T G o k N fb sc (X.tr pn xe) W2 :=
  ⟨⟨⟨g.g.md.hK, g.g.md.hw, g.g.md.fn, g.g.md.cst, g.g.md.free, g.g.md.cls, g.g.md.exc, g.g.md.sub, g.g.md.exm, g.g.md.vale, g.g.md.mkx, g.g.md.nc, g.g.md.onc, g.g.md.deep, g.g.md.tld, g.g.md.hot⟩, g.g.hN, g.g.nd, g.g.sc, g.g.fb, g.g.calm, g.g.roomC, g.g.room, tk, ow, g.g.lam⟩, g.knd, g.stk, g.frm, g.hex⟩
/-- what a try's reading tells, by the body's -/
theorem try_body {b h : ISs} {c : Nat} {a : Option Nat} {W2 : WX} (hlt : c < T.cls.length) (g : Good T G o k N fb sc X W) (rep : RepS G B O0 O ρ σ H) (q : Post G W B O0 D0 (exS o (.try_ b c a h) ρ))
    (yes : ∀ d ρ1 O1 σ1 H1, d < T.cls.length → o.sub d c = true → RepS G B O0 O1 ρ1 σ1 H1 → Post G W B O0 D0 ((exSs o h (putA a d ρ1)).unAs a) → W2 (.ref (G.cls d)) none σ1 H1) (no : ∀ d ρ1 O1 σ1 H1, d < T.cls.length → o.sub d c = false → RepS G B O0 O1 ρ1 σ1 H1 → W (.ref (G.cls d)) none σ1 H1 → W2 (.ref (G.cls d)) none σ1 H1) :
    Post G W2 B O0 D0 (exSs o b ρ) := by
  have q' : Post G W B O0 D0 (match exSs o b ρ with
    | .ex d ρ' => (match decide (d < o.nc) with
      | true => (match o.sub d c with
        | true => (exSs o h (putA a d ρ')).unAs a
        | false => .ex d ρ')
      | false => .bad)
    | r => r) := q
  cases e : exSs o b ρ with
  | nx ρ' => rw [e] at q'; exact q'
  | bk ρ' => rw [e] at q'; exact q'
  | ct ρ' => rw [e] at q'; exact q'
  | rt d => rw [e] at q'; exact q'
  | bad => rw [e] at q'; exact q'
  | ex d ρ' =>
    rw [e] at q'
    intro O' σ' H' r'
    have q2 : Post G W B O0 D0 (match decide (d < o.nc) with
      | true => (match o.sub d c with
        | true => (exSs o h (putA a d ρ')).unAs a
        | false => .ex d ρ')
      | false => .bad) := q'
    cases hn : decide (d < o.nc) with
    | false =>
      rw [hn] at q2
      exact q2.elim
    | true =>
      rw [hn] at q2
      have dl : d < T.cls.length := by rw [← g.md.onc]; exact de hn
      have q3 : Post G W B O0 D0 (match o.sub d c with
        | true => (exSs o h (putA a d ρ')).unAs a
        | false => .ex d ρ') := q2
      cases hs : o.sub d c with
      | true =>
        rw [hs] at q3
        exact yes d ρ' O' σ' H' dl hs r' q3
      | false =>
        rw [hs] at q3
        exact no d ρ' O' σ' H' dl hs r' (q3 O' σ' H' r')
theorem s_try {b : ISs} {c : Nat} {a : Option Nat} {h : ISs} (hb : SndSs T G o k N b) : SndS T G o k N (.try_ b c a h) := ⟨fun {fb sc X W B O0} gs {st} hc => by
  have g := gs.g
  have h' : (T.cold && (match xTry st with
    | some (bd, [.ExceptHandler (some ty) nm su _], [], []) => (match xName ty with
      | some y => decide (T.cls[c]? = some y) && (glB sc y && (nmOk y && (chkSs T N fb sc b bd && suiB N sc a h nm su)))
      | none => false)
    | _ => false)) = true := hc
  have hcl := (ee h').1
  replace h' := (ee h').2
  cases q : xTry st with
  | none => rw [q] at h'; cases h'
  | some z =>
    obtain ⟨bd, hs, e1, f1⟩ := z
    rw [q] at h'
    obtain ⟨pos, rfl⟩ := xTry_eq q
    match hs, e1, f1, h' with
    | [.ExceptHandler (some ty) nm su p2], [], [], h' =>
      have h2 : (match xName ty with
        | some y => decide (T.cls[c]? = some y) && (glB sc y && (nmOk y && (chkSs T N fb sc b bd && suiB N sc a h nm su)))
        | none => false) = true := h'
      cases q2 : xName ty with
      | none => rw [q2] at h2; cases h2
      | some y =>
        rw [q2] at h2
        obtain ⟨p3, rfl⟩ := xName_eq q2
        have c1 := ee h2
        have c2 := ee c1.2
        have c3 := ee c2.2
        have c4 := ee c3.2
        have hT := de c1.1
        have hlt : c < T.cls.length := by
          rcases Nat.lt_or_ge c T.cls.length with z | z
          · exact z
          · rw [List.getElem?_eq_none z] at hT
            cases hT
        have nam : Names X y (.ref (G.cls c)) := ⟨gl_of g c2.1, nm1 c3.1, .inl (g.md.cls c y hT)⟩
        have body : ∀ (W2 : WX) (pn : List (Addr × Obj)) (xe : Value → Shared → Prop), Takes (X.tr pn xe) W2 → PassesOwn (model X.prog X.w) X.A X.env xe → PSs (X.tr pn xe) bd (tS G W2 B O0 (exSs o b)) := fun W2 pn xe tk ow => hb.s (gs.tr tk ow) c4.1
        have c5 := c4.2
        cases a with
        | some i =>
          cases nm with
          | none => cases c5
          | some n =>
            have c6 : (match hKept h with
              | some (j, k) => (match suAsg su with
                | some (y, z) => decide (N[i]? = some n) && (lcl sc n && (decide (z = n) && (decide (k = i) && (decide (i ≠ j) && (decide (N[j]? = some y) && (lcl sc y && nmOk n))))))
                | none => false)
              | none => false) = true := c5
            cases q5 : hKept h with
            | none => rw [q5] at c6; cases c6
            | some jk =>
              obtain ⟨j, kk⟩ := jk
              rw [q5] at c6
              have c7 : (match suAsg su with
                | some (y, z) => decide (N[i]? = some n) && (lcl sc n && (decide (z = n) && (decide (kk = i) && (decide (i ≠ j) && (decide (N[j]? = some y) && (lcl sc y && nmOk n))))))
                | none => false) = true := c6
              cases q6 : suAsg su with
              | none => rw [q6] at c7; cases c7
              | some yz =>
                obtain ⟨yy, zz⟩ := yz
                rw [q6] at c7
                obtain rfl := hKept_eq q5
                obtain ⟨p6, p7, p5, rfl⟩ := suAsg_eq q6
                have d1 := ee c7
                have d2 := ee d1.2
                have d3 := ee d2.2
                have d4 := ee d3.2
                have d5 := ee d4.2
                have d6 := ee d5.2
                have d7 := ee d6.2
                obtain rfl := de d3.1
                obtain rfl := de d4.1
                have ij := de d5.1
                have ln : X.env.scope.names.lookup zz = some .local := by rw [g.sc]; exact lcl_of d2.1
                have ly : X.env.scope.names.lookup yy = some .local := by rw [g.sc]; exact lcl_of d7.1
                have nd : X.N.Nodup := by rw [g.hN]; exact g.nd
                have n1 : X.N[kk]? = some zz := by rw [g.hN]; exact de d1.1
                have n2 : X.N[j]? = some yy := by rw [g.hN]; exact de d6.1
                refine ps_imp (ps_try_kept (ts := fun _ _ _ => tAsg (tVar kk) (gName j)) gs.hex gs.stk gs.frm nd n1 ln nam g.tk body (fun a oe cls d pn _ _ => pss_one (ps_set (i := j) nd n2 (.inl ly) (pe_var n1 (.inl ln) (nm1 d7.2) (nm2 d7.2)) rfl (.inr ly)))) fun D0 σ H q => ?_
                obtain ⟨O, ρ, rep, q⟩ := q
                refine ⟨O, ρ, rep, try_body hlt g rep q (fun d ρ1 O1 σ1 H1 dl hs r1 q1 => ?_) (fun d ρ1 O1 σ1 H1 dl hs r1 w => ⟨false, by rw [g.md.exm d c dl hlt, hs], fun z => (by cases z), fun _ => w⟩)⟩
                refine ⟨true, by rw [g.md.exm d c dl hlt, hs], fun _ a na => ?_, fun z => by cases z⟩
                by_cases hk : kk < σ1.length
                · refine ⟨.ref a, List.getElem?_set_self hk, fun _ => ?_⟩
                  have su : Stp H1 (upd H1 a (.ext (exA a (.ref (G.cls d)) none))) := stp_upd' na
                  have aO : a ∉ O1 := r1.rep.ok.fresh na
                  have dv : Dv G (hid (upd H1 a (.ext (exA a (.ref (G.cls d)) none))) O1) (.exc d) (.ref a) := ⟨by rw [g.md.nc]; exact dl, a, rfl, by rw [hid_at aO]; exact upd_same⟩
                  have r2 := (((r1.mono su).set dv kk).set dv j).un kk none
                  have hr : kk < ρ1.length := by rw [← r1.rep.len]; exact hk
                  have ge : getV (ρ1.set kk (.pv (.exc d))) kk = .ok (.exc d) := by
                    unfold getV
                    rw [List.getElem?_set_self hr]
                  have ex1 : exSs o (.cons (.asg (.nm j) (.var kk)) .nil) (ρ1.set kk (.pv (.exc d))) = .nx ((ρ1.set kk (.pv (.exc d))).set j (.pv (.exc d))) := by
                    show (match (getV (ρ1.set kk (.pv (.exc d))) kk).st _ (fun d2 => (putP (.nm j) d2 (ρ1.set kk (.pv (.exc d)))).st _ fun ρ' => SR.nx ρ') with
                      | .nx ρ' => SR.nx ρ'
                      | z => z) = _
                    rw [ge]
                    rfl
                  have q2 : Post G W B O0 D0 ((exSs o (.cons (.asg (.nm j) (.var kk)) .nil) (ρ1.set kk (.pv (.exc d)))).unAs (some kk)) := q1
                  rw [ex1] at q2
                  exact q2 O1 _ _ r2
                · exfalso
                  have hr : ¬ kk < ρ1.length := by rw [← r1.rep.len]; exact hk
                  have ge : getV (ρ1.set kk (.pv (.exc d))) kk = .bad := by
                    unfold getV
                    rw [List.getElem?_eq_none (by rw [List.length_set]; omega)]
                  have q2 : Post G W B O0 D0 ((exSs o (.cons (.asg (.nm j) (.var kk)) .nil) (ρ1.set kk (.pv (.exc d)))).unAs (some kk)) := q1
                  have ex1 : exSs o (.cons (.asg (.nm j) (.var kk)) .nil) (ρ1.set kk (.pv (.exc d))) = .bad := by
                    show (match (getV (ρ1.set kk (.pv (.exc d))) kk).st _ (fun d2 => (putP (.nm j) d2 (ρ1.set kk (.pv (.exc d)))).st _ fun ρ' => SR.nx ρ') with
                      | .nx ρ' => SR.nx ρ'
                      | z => z) = _
                    rw [ge]
                  rw [ex1] at q2
                  exact q2
        | none =>
          cases nm with
          | some _ => cases c5
          | none =>
            rcases (Bool.or_eq_true _ _).mp (show ((hNon h && suNon su) || (hCnt h && suCnt su)) = true from c5) with c6 | c6
            · have d1 := ee c6
              obtain rfl := hNon_eq d1.1
              obtain ⟨k2, p6, p7, rfl⟩ := suNon_eq d1.2
              refine ps_imp (ps_try_only (ts := fun _ _ _ => tRet (tC .non)) gs.stk gs.frm nam g.tk body (fun a oe cls d pn _ _ => pss_one (ps_ret pe_non))) fun D0 σ H q => ?_
              obtain ⟨O, ρ, rep, q⟩ := q
              refine ⟨O, ρ, rep, try_body hlt g rep q (fun d ρ1 O1 σ1 H1 dl hs r1 q1 => ?_) (fun d ρ1 O1 σ1 H1 dl hs r1 w => ⟨false, by rw [g.md.exm d c dl hlt, hs], fun z => (by cases z), fun _ => w⟩)⟩
              exact ⟨true, by rw [g.md.exm d c dl hlt, hs], fun _ a na => q1 .non H1 r1.same rfl, fun z => by cases z⟩
            · have d1 := ee c6
              obtain rfl := hCnt_eq d1.1
              obtain ⟨p6, rfl⟩ := suCnt_eq d1.2
              refine ps_imp (ps_try_only (ts := fun _ _ _ => tCont) gs.stk gs.frm nam g.tk body (fun a oe cls d pn _ _ => pss_one ps_continue)) fun D0 σ H q => ?_
              obtain ⟨O, ρ, rep, q⟩ := q
              refine ⟨O, ρ, rep, try_body hlt g rep q (fun d ρ1 O1 σ1 H1 dl hs r1 q1 => ?_) (fun d ρ1 O1 σ1 H1 dl hs r1 w => ⟨false, by rw [g.md.exm d c dl hlt, hs], fun z => (by cases z), fun _ => w⟩)⟩
              exact ⟨true, by rw [g.md.exm d c dl hlt, hs], fun _ a na => q1 O1 σ1 H1 r1, fun z => by cases z⟩⟩
theorem s_nopeS : SndS T G o k N .nope := ⟨fun {fb sc X W B O0} gs {_} _ => ⟨fun pins s σ H D0 I ⟨O, ρ, rep, q⟩ => q.elim⟩⟩
theorem nm_get {tg : Expr} {i : Nat} (h : chkP N fb sc tg (.nm i) = true) : ∃ x p, tg = .Name x p := by
  have h' : (match xName tg with
    | some x => decide (N[i]? = some x) && locB fb sc x
    | none => false) = true := h
  cases q : xName tg with
  | none => rw [q] at h'; cases h'
  | some x =>
    obtain ⟨p, rfl⟩ := xName_eq q
    exact ⟨x, p, rfl⟩
theorem s_own2 {i : Nat} : SndS T G o k N (.own2 i) := ⟨fun {fb sc X W B O0} gs {st} h => by
  have h0 : (T.cold && (match xAsg st with
    | some ([tg], v, _) => (match xLst v with
      | some vs => vs.isEmpty && chkP N fb sc tg (.nm i)
      | none => false)
    | _ => false)) = true := h
  have hcl := (ee h0).1
  obtain ⟨tg, v, pos, rfl, h9⟩ := asg_get (P := fun tg v => match xLst v with
      | some vs => vs.isEmpty && chkP N fb sc tg (.nm i)
      | none => false) (ee h0).2
  have g := gs.g
  cases q2 : xLst v with
  | none => rw [q2] at h9; cases h9
  | some vs =>
    rw [q2] at h9
    obtain ⟨p2, rfl⟩ := xLst_eq q2
    have h1 := ee h9
    cases vs with
    | cons _ _ => cases h1.1
    | nil =>
      obtain ⟨x, px, rfl⟩ := nm_get h1.2
      refine ps_imp (ps_asg (pe_lst pa_nil) (pg_of g (.inl hcl) h1.2) rfl rfl rfl) fun D0 σ H q => ?_
      obtain ⟨O, ρ, rep, q⟩ := q
      exact ⟨Nat.zero_le _, fun p hp => q _ _ _ (rep.newOwn2 hp i)⟩⟩
theorem OwnL.snoc {O : List Addr} {H : Hp} {q : Addr} {us : List V} {ds : List D} (h1 : q ∈ O) (h2 : H q = some (.lst us)) (h3 : DvL G (hid H O) ds us) : ∀ {dss : List (List D)} {ps : List Addr}, OwnL G O H dss ps → OwnL G O H (dss ++ [ds]) (ps ++ [q])
  | [], _, h => by
    cases h
    exact ⟨q, us, [], rfl, h1, h2, h3, rfl⟩
  | d :: r, _, h => by
    obtain ⟨z, vs, t, rfl, w1, w2, w3, w4⟩ := h
    exact ⟨z, vs, t ++ [q], rfl, w1, w2, w3, OwnL.snoc h1 h2 h3 w4⟩
theorem fin_own2S {i : Nat} {f : List (List D) → SR} (h : Post G W B O0 D0 ((getO2 ρ i).st ρ f)) : ∃ dss, getO2 ρ i = .ok dss ∧ Post G W B O0 D0 (f dss) := by
  cases e : getO2 ρ i with
  | ok d => exact ⟨d, rfl, by rw [e] at h; exact h⟩
  | exc c =>
    unfold getO2 at e
    split at e <;> cases e
  | bad =>
    rw [e] at h
    exact h.elim
theorem o2_at {i : Nat} {dss : List (List D)} (h : getO2 ρ i = .ok dss) : ρ[i]? = some (.ow2 dss) := by
  unfold getO2 at h
  split at h
  · rename_i es e
    cases h
    exact e
  · cases h
theorem RepS.foot2 (r : RepS G B O0 O ρ σ H) {i : Nat} {dss : List (List D)} {p : Addr} {ps : List Addr} (h1 : ρ[i]? = some (.ow2 dss)) (h2 : σ[i]? = some (some (.ref p))) (h3 : H p = some (.lst (ps.map V.ref))) : Foot H (.ow2 dss) (some (.ref p)) (p :: ps) := by
  obtain ⟨l, fl⟩ := r.foot h1 h2
  obtain ⟨p', ps', w1, w2, w3, w4⟩ := id fl
  cases w1
  have e : ps.map V.ref = ps'.map V.ref := HO.lst.inj (Option.some.inj (h3.symm.trans w2))
  have e2 : ps = ps' := by
    have := congrArg (List.map fun v => match v with | V.ref a => a | _ => 0) e
    rw [List.map_map, List.map_map] at this
    have id1 : ∀ l : List Addr, l.map ((fun v => match v with | V.ref a => a | _ => 0) ∘ V.ref) = l := fun l => by
      have : ((fun v => match v with | V.ref a => a | _ => 0) ∘ V.ref) = (id : Addr → Addr) := rfl
      rw [this, List.map_id]
    rw [id1, id1] at this
    exact this
  subst e2
  rw [← w3]
  exact fl
theorem s_app2 {i : Nat} {es : IEs} : SndS T G o k N (.app2 i es) := ⟨fun {fb sc X W B O0} gs {st} h => by
  have g := gs.g
  obtain ⟨v, pos, rfl, h9⟩ := exs_get (P := fun c => match xCall c with
      | some (f, [x], [], cpos) => (match xAttr f with
        | some (ob, n, apos) => (match xName ob, xLst x with
          | some y, some vs => decide (n = ("append" : Str)) && ((apos.endLine == cpos.line) && (decide (N[i]? = some y) && (visB sc y && (nmOk y && (decide (vs.length ≤ 1000) && chkL T N es fb sc vs)))))
          | _, _ => false)
        | none => false)
      | _ => false) h
  cases q2 : xCall v with
  | none => rw [q2] at h9; cases h9
  | some z =>
    obtain ⟨f, xs, kw, cpos⟩ := z
    rw [q2] at h9
    obtain rfl := xCall_eq q2
    match xs, kw, h9 with
    | [x], [], h9 =>
      have h3 : (match xAttr f with
        | some (ob, n, apos) => (match xName ob, xLst x with
          | some y, some vs => decide (n = ("append" : Str)) && ((apos.endLine == cpos.line) && (decide (N[i]? = some y) && (visB sc y && (nmOk y && (decide (vs.length ≤ 1000) && chkL T N es fb sc vs)))))
          | _, _ => false)
        | none => false) = true := h9
      cases q3 : xAttr f with
      | none => rw [q3] at h3; cases h3
      | some z =>
        obtain ⟨ob, n, apos⟩ := z
        rw [q3] at h3
        obtain rfl := xAttr_eq q3
        have h4 : (match xName ob, xLst x with
          | some y, some vs => decide (n = ("append" : Str)) && ((apos.endLine == cpos.line) && (decide (N[i]? = some y) && (visB sc y && (nmOk y && (decide (vs.length ≤ 1000) && chkL T N es fb sc vs)))))
          | _, _ => false) = true := h3
        cases q4 : xName ob with
        | none => rw [q4] at h4; cases h4
        | some y =>
          cases q5 : xLst x with
          | none => rw [q4, q5] at h4; cases h4
          | some zs =>
            rw [q4, q5] at h4
            obtain ⟨p4, rfl⟩ := xName_eq q4
            obtain ⟨p5, rfl⟩ := xLst_eq q5
            have c1 := ee h4
            have c2 := ee c1.2
            have c3 := ee c2.2
            have c4 := ee c3.2
            have c5 := ee c4.2
            have c6 := ee c5.2
            obtain rfl := de c1.1
            have few : ((backTo cpos (starEach [.List zs p5] X.env)).all (fun x => !x.1) && (backToKw cpos (keywordEach [] X.env)).all (fun x => x.1.isSome)
                && decide (([.List zs p5] : List Expr).length + ([] : List Keyword).length + (if ([] : List Keyword).isEmpty then 0 else 1) < 30)) = true := rfl
            refine ps_imp (ps_expr (pe_bm PySem.F.plainAttrs_list PySem.F.slot_list_append PySem.F.type_list_append mt_append (pe_v g (de c3.1) c4.1 c5.1) (pa_cons (pe_lst ((sndL T G o k N es).a g c6.2)) pa_nil rfl) rfl few c2.1 rfl rfl) rfl) fun D0 σ H q => ?_
            obtain ⟨O, ρ, rep, q⟩ := q
            obtain ⟨dss, eo, q⟩ := fin_own2S (show Post G W B O0 D0 ((getO2 ρ i).st ρ fun dss => (evL o es ρ).st ρ fun ds => match decide (dss.length < lim) with
              | true => .nx (ρ.set i (.ow2 (dss ++ [ds])))
              | false => .bad) from q)
            obtain ⟨p, ps, e1, e2, e3, e4⟩ := own2_at rep.rep eo
            refine ⟨_, e1, .inl ⟨rfl, _, SqL.of e3⟩, O, ρ, rep.rep, (st_fin rep q).val.imp fun ds H1 s1 ⟨er, r1, q1⟩ us hus => ?_⟩
            have lu : us.length ≤ sizeLine := by
              rw [← dvL_len hus, chkL_len c6.2 er]
              exact Nat.le_trans (de c6.1) (by decide +kernel)
            refine ⟨lu, fun a ha => ?_⟩
            have e3' := s1.ext.l e3
            have ft := r1.foot2 (o2_at eo) e1 e3'
            have ft' := id ft
            obtain ⟨_, _, _, _, _, nd⟩ := ft'
            have su : Stp H1 (upd H1 a (.lst us)) := stp_upd' ha
            have aO : a ∉ O := r1.rep.ok.fresh ha
            have ownO : ∀ q ∈ p :: ps, q ∈ O := fun q hq => by
              obtain ⟨F, f1, f2, f3⟩ := r1.own
              have : F i = p :: ps := (f1 i _ _ (o2_at eo) e1).uniq ft
              exact (f3 i q (by rw [this]; exact hq)).1
            have ap : p ≠ a := fun z => aO (z ▸ e2)
            cases hl : decide (dss.length < lim) with
            | false =>
              rw [hl] at q1
              exact q1.elim
            | true =>
              rw [hl] at q1
              refine ⟨p, ps.map V.ref, .ref a, rfl, rfl, su.ext.l e3', by rw [List.length_map, ← e4.len, ← lim_eq]; exact de hl, ?_⟩
              have em : ps.map V.ref ++ [V.ref a] = (ps ++ [a]).map V.ref := by rw [List.map_append]; rfl
              rw [em]
              have okO : OkO (a :: O) (upd (upd H1 a (.lst us)) p (.lst ((ps ++ [a]).map V.ref))) := ⟨fun z hz => by
                by_cases ep : z = p
                · rw [ep]
                  exact ⟨_, upd_same, Lk.l⟩
                · rw [upd_ne ep]
                  rcases List.mem_cons.mp hz with rfl | hz
                  · exact ⟨_, upd_same, Lk.l⟩
                  · exact (r1.rep.ok.mono su).at_ z hz, su.own_t (su.ext.l e3') Lk.l r1.rep.ok.tab⟩
              have hidE : Same (hid H1 O) (hid (upd (upd H1 a (.lst us)) p (.lst ((ps ++ [a]).map V.ref))) (a :: O)) := by
                rw [hid_upd (List.mem_cons_of_mem _ e2)]
                exact hid_cons ha su.ext
              have nd2 : (p :: (ps ++ [a])).Nodup := by
                rw [← List.cons_append]
                refine List.nodup_append.mpr ⟨nd, by simp, fun x hx y hy e => ?_⟩
                obtain rfl := List.mem_singleton.mp hy
                exact aO (ownO y (e ▸ hx))
              have nps : ∀ z ∈ ps, z ≠ p := fun z hz e => (List.nodup_cons.mp nd).1 (e ▸ hz)
              refine q1 (a :: O) σ _ (r1.chg (l0 := p :: (ps ++ [a])) (o2_at eo) e1 (fun z hz => List.mem_cons_of_mem _ hz) (fun z hz n => ?_) (fun b u eb n => ?_) okO ⟨p, ps ++ [a], rfl, List.mem_cons_of_mem _ e2, upd_same, ?_⟩ ⟨p, ps ++ [a], rfl, upd_same, rfl, nd2⟩ fun l hl z hz => ?_)
              · rcases List.mem_cons.mp hz with rfl | hz
                · exact ha
                · exact absurd hz n
              · have nl := n _ ft
                have bp : b ≠ p := fun e => nl (by rw [e]; exact List.mem_cons_self ..)
                rw [upd_ne bp]
                exact full_upd' ha _ _ eb
              · have base : OwnL G (a :: O) (upd (upd H1 a (.lst us)) p (.lst ((ps ++ [a]).map V.ref))) dss ps := (e4.move (hid_mono s1.ext) fun z _ hz => ⟨hz, fun vs w => s1.ext.l w⟩).move hidE fun z hz hzO => ⟨List.mem_cons_of_mem _ hzO, fun vs w => by
                  rw [upd_ne (nps z hz)]
                  exact su.ext.l w⟩
                refine base.snoc (List.mem_cons_self ..) (by rw [upd_ne (fun z => ap z.symm)]; exact upd_same) (dvL_mono hidE ds us hus)
              · have el := hl.uniq ft
                rw [el]
                rcases List.mem_cons.mp hz with rfl | hz
                · exact .inl (List.mem_cons_self ..)
                · rcases List.mem_append.mp hz with hz | hz
                  · exact .inl (List.mem_cons_of_mem _ hz)
                  · obtain rfl := List.mem_singleton.mp hz
                    exact .inr ⟨List.mem_cons_self .., aO⟩⟩
theorem OwnL.put {O : List Addr} {H : Hp} {q : Addr} {us : List V} {ds : List D} (h1 : q ∈ O) (h3 : DvL G (hid H O) ds us) : ∀ {dss : List (List D)} {ps : List Addr} {m : Nat}, ps.Nodup → ps[m]? = some q → OwnL G O H dss ps → OwnL G O (upd H q (.lst us)) (dss.set m ds) ps
  | [], _, m, _, e, h => by
    cases h
    simp at e
  | d :: r, _, 0, nd, e, h => by
    obtain ⟨z, vs, t, rfl, w1, w2, w3, w4⟩ := h
    simp at e
    subst e
    refine ⟨z, us, t, rfl, w1, upd_same, by rw [hid_upd h1]; exact h3, w4.move (by rw [hid_upd h1]; exact Same.refl _) fun x hx hxO => ⟨hxO, fun vs w => ?_⟩⟩
    have ne : x ≠ z := fun e => (List.nodup_cons.mp nd).1 (by rw [← e]; exact hx)
    rw [upd_ne ne]
    exact w
  | d :: r, _, m + 1, nd, e, h => by
    obtain ⟨z, vs, t, rfl, w1, w2, w3, w4⟩ := h
    have e' : t[m]? = some q := by simpa using e
    have ne : z ≠ q := fun w => (List.nodup_cons.mp nd).1 (w ▸ List.mem_of_getElem? e')
    exact ⟨z, vs, t, rfl, w1, by rw [upd_ne ne]; exact w2, by rw [hid_upd h1]; exact w3, OwnL.put h1 h3 (List.nodup_cons.mp nd).2 e' w4⟩
theorem atS {α : Type} {xs : List α} {d : D} {f : Nat × α → SR} (h : Post G W B O0 D0 ((atPl xs d).st ρ f)) : ∃ j m x, d = .int j ∧ place xs.length j = some m ∧ xs[m]? = some x ∧ Post G W B O0 D0 (f (m, x)) := by
  rcases atPl_ok (xs := xs) (d := d) with ⟨j, m, x, w1, w2, w3, w4⟩ | w
  · rw [w4] at h
    exact ⟨j, m, x, w1, w2, w3, h⟩
  · rw [w] at h
    exact h.elim
theorem s_seti2 {i : Nat} {ix iy e : IE} : SndS T G o k N (.seti2 i ix iy e) := ⟨fun {fb sc X W B O0} gs {st} h => by
  have g := gs.g
  obtain ⟨tg, v, pos, rfl, h9⟩ := asg_get (P := fun tg v => match xSub tg with
      | some (ob, y) => (match xSub ob with
        | some (n, x) => (match xName n with
          | some z => decide (N[i]? = some z) && (visB sc z && (nmOk z && ((plainE x && plainE y) && (!(compE v) && (chkE T N e fb sc v && (chkE T N ix fb sc x && chkE T N iy fb sc y))))))
          | none => false)
        | none => false)
      | none => false) h
  cases q2 : xSub tg with
  | none => rw [q2] at h9; cases h9
  | some z =>
    obtain ⟨ob, y⟩ := z
    rw [q2] at h9
    obtain ⟨p2, rfl⟩ := xSub_eq q2
    have h2 : (match xSub ob with
        | some (n, x) => (match xName n with
          | some z => decide (N[i]? = some z) && (visB sc z && (nmOk z && ((plainE x && plainE y) && (!(compE v) && (chkE T N e fb sc v && (chkE T N ix fb sc x && chkE T N iy fb sc y))))))
          | none => false)
        | none => false) = true := h9
    cases q3 : xSub ob with
    | none => rw [q3] at h2; cases h2
    | some z =>
      obtain ⟨n, x⟩ := z
      rw [q3] at h2
      obtain ⟨p3, rfl⟩ := xSub_eq q3
      have h3 : (match xName n with
          | some z => decide (N[i]? = some z) && (visB sc z && (nmOk z && ((plainE x && plainE y) && (!(compE v) && (chkE T N e fb sc v && (chkE T N ix fb sc x && chkE T N iy fb sc y))))))
          | none => false) = true := h2
      cases q4 : xName n with
      | none => rw [q4] at h3; cases h3
      | some z =>
        rw [q4] at h3
        obtain ⟨p4, rfl⟩ := xName_eq q4
        have c1 := ee h3
        have c2 := ee c1.2
        have c3 := ee c2.2
        have c4 := ee c3.2
        have c5 := ee c4.1
        have c6 := ee c4.2
        have c7 := ee c6.2
        have c8 := ee c7.2
        have ha : ∀ v, assign (.Subscript (.Subscript (.Name z p4) x p3) y p2) X.env v = (do
            let ov ← holding [v] (eval (.Subscript (.Name z p4) x p3) X.env)
            let iv ← holding [v, ov] (eval y X.env)
            standAt p2
            holding [v, ov, iv] (setItem ov iv v)
            release [v, ov, iv] []) := by
          intro v
          have hy := c5.2
          cases y <;> first | rfl | (cases hy)
        refine ps_imp (ps_asg ((sndE T G o k N e).e g c7.1) (pg_sub (pe_ix ix_list (pe_v g (de c1.1) c2.1 c3.1) ((sndE T G o k N ix).e g c8.1) (slice1 c5.1)) ((sndE T G o k N iy).e g c8.2) set_list ha) (sws_no (tg := .Subscript (.Subscript (.Name z p4) x p3) y p2) (v := v) (l := pos.line) (env := X.env) (by simpa using c6.1)) st_sub rfl) fun D0 σ H q => ?_
        obtain ⟨O, ρ, rep, q⟩ := q
        obtain ⟨dss, eo, q⟩ := fin_own2S (show Post G W B O0 D0 ((getO2 ρ i).st ρ fun dss => (evE o e ρ).st ρ fun d => (evE o ix ρ).st ρ fun k => (atPl dss k).st ρ fun p => (evE o iy ρ).st ρ fun l => (atPl p.2 l).st ρ fun q =>
          .nx (ρ.set i (.ow2 (dss.set p.1 (p.2.set q.1 d))))) from q)
        obtain ⟨p, ps, e1, e2, e3, e4⟩ := own2_at rep.rep eo
        refine ⟨O, ρ, rep.rep, (st_fin rep q).imp fun d H1 s1 ⟨r1, q1⟩ v hv => ?_⟩
        refine ⟨_, e1, O, ρ, r1.rep, (st_fin r1 q1).imp fun kk H2 s2 ⟨r2, q2⟩ w hw => ?_⟩
        obtain ⟨j, m, ds, rfl, w1, w2, q3⟩ := atS q2
        cases hw
        have s12 := s1.trans s2
        obtain ⟨a, vs, g1, g2, g3, g4⟩ := e4.get w2
        refine ⟨p, ps.map V.ref, j, .ref a, rfl, rfl, SqL.of (s12.ext.l e3), at_of (m := m) (by rw [List.length_map, ← e4.len]; exact w1) (by rw [List.getElem?_map, g1]; rfl), ?_⟩
        refine ⟨O, ρ, r2.rep, (st_fin r2 q3).imp fun l H3 s3 ⟨r3, q4⟩ u hu => ?_⟩
        obtain ⟨t, m2, d2, rfl, w3, w4, q5⟩ := atS q4
        cases hu
        have s13 := s12.trans s3
        have e3' := s13.ext.l e3
        have g3' := s13.ext.l g3
        have ft := r3.foot2 (o2_at eo) e1 e3'
        have ft' := id ft
        obtain ⟨_, _, _, _, _, nd⟩ := ft'
        have nd' := List.nodup_cons.mp nd
        have ap : p ≠ a := fun z => nd'.1 (z ▸ List.mem_of_getElem? g1)
        rw [dvL_len g4] at w3
        have dn : DvL G (hid H3 O) (ds.set m2 d) (vs.set m2 v) := dvL_set (dv_mono (hid_mono (s2.trans s3).ext) d v hv) m2 (dvL_mono (hid_mono s13.ext) ds vs g4)
        refine ⟨a, vs, t, m2, rfl, rfl, g3', place_ix w3, ?_⟩
        refine q5 O σ _ (r3.chg (l0 := p :: ps) (o2_at eo) e1 (fun _ hz => hz) (fun z hz n => absurd hz n) (fun b ub eb nb => ?_) ⟨fun z hz => ?_, (Stp.refl H3).own_t g3' Lk.l r3.rep.ok.tab⟩ ⟨p, ps, rfl, e2, by rw [upd_ne ap]; exact e3', ?_⟩ ⟨p, ps, rfl, by rw [upd_ne ap]; exact e3', rfl, nd⟩ fun l hl z hz => ?_)
        · have nl := nb _ ft
          rw [upd_ne fun z => nl (by rw [z]; exact List.mem_cons_of_mem _ (List.mem_of_getElem? g1))]
          exact eb
        · by_cases ez : z = a
          · rw [ez]
            exact ⟨_, upd_same, Lk.l⟩
          · rw [upd_ne ez]
            exact r3.rep.ok.at_ z hz
        · exact OwnL.put g2 dn nd'.2 g1 (e4.move (hid_mono s13.ext) fun z _ hz => ⟨hz, fun vs w => s13.ext.l w⟩)
        · rw [hl.uniq ft]
          exact .inl hz⟩
theorem s_paro {i j : Nat} {b : Bool} {e : IE} : SndS T G o k N (.paro i j b e) := ⟨fun {fb sc X W B O0} gs {st} h => by
  have h0 : (T.cold && (match xAsg st with
    | some ([tg], v, _) => (match xTup tg, xTup v with
      | some ts, some [v1, v2] => (parB T N sc [i, j] ts [v1, v2] || paro2B N fb sc i j b tg v) && paroB T N fb sc b e v1 v2
      | _, _ => false)
    | _ => false)) = true := h
  have hcl := (ee h0).1
  obtain ⟨tg, v, pos, rfl, h9⟩ := asg_get (P := fun tg v => match xTup tg, xTup v with
      | some ts, some [v1, v2] => (parB T N sc [i, j] ts [v1, v2] || paro2B N fb sc i j b tg v) && paroB T N fb sc b e v1 v2
      | _, _ => false) (ee h0).2
  have g := gs.g
  have nd : X.N.Nodup := by rw [g.hN]; exact g.nd
  cases q1 : xTup tg with
  | none => rw [q1] at h9; cases h9
  | some ts =>
    cases q2 : xTup v with
    | none => rw [q1, q2] at h9; cases h9
    | some vs =>
      rw [q1, q2] at h9
      obtain ⟨k1, p1, rfl⟩ := xTup_eq q1
      obtain ⟨k2, p2, rfl⟩ := xTup_eq q2
      match vs, h9 with
      | [v1, v2], h9 =>
        have h1 := ee h9
        rcases (Bool.or_eq_true _ _).mp h1.1 with h1a | h1b
        rotate_left
        · have d1 := ee (show (b && (chkP N fb sc (.Tuple ts k1 p1) (.tp [.nm i, .nm j]) && swapN sc (.Tuple ts k1 p1) (.Tuple [v1, v2] k2 p2))) = true from h1b)
          have d2 := ee d1.2
          obtain ⟨w1, w2, w3⟩ := swapN_ok (l := pos.line) g.sc gs.knd d2.2
          cases b with
          | false => cases d1.1
          | true =>
            have h2 : (match xLst v1 with
              | some vs => vs.isEmpty && (plainE v2 && chkE T N e fb sc v2)
              | none => false) = true := h1.2
            cases q5 : xLst v1 with
            | none => rw [q5] at h2; cases h2
            | some vs =>
              rw [q5] at h2
              obtain ⟨p5, rfl⟩ := xLst_eq q5
              have h3 := ee h2
              have h4 := ee h3.2
              cases vs with
              | cons _ _ => cases h3.1
              | nil =>
                refine ps_imp (ps_asg (pe_tup (pa_cons (pe_lst pa_nil) (pa_cons ((sndE T G o k N e).e g h4.2) pa_nil (star1 h4.1)) rfl)) (pg_of g (.inl hcl) d2.1) w1 w2 w3) fun D0 σ H q => ?_
                obtain ⟨O, ρ, rep, q⟩ := q
                have q' : Post G W B O0 D0 ((evE o e ρ).st ρ fun d => .nx ((ρ.set i (.ow [])).set j (.pv d))) := q
                refine ⟨Nat.zero_le _, fun p hp => ?_⟩
                have su : Stp H (upd H p (.lst [])) := stp_upd' hp
                have rp : Rep G (p :: O) ρ σ (upd H p (.lst [])) := rep.rep.move (hid_cons hp su.ext) (fun z hz => ⟨List.mem_cons_of_mem _ hz, fun us w => su.ext.l w⟩) ((rep.rep.ok.mono su).cons upd_same Lk.l)
                refine ⟨p :: O, ρ, rp, (st_fin (rep.mono su) q').imp fun d H1 s1 ⟨r1, q1⟩ v hv => ⟨(show (2 : Nat) ≤ sizeLine by decide +kernel), fun pt hpt => ?_⟩⟩
                refine .inl ⟨pt, [.ref p, v], rfl, SqT.of upd_same, rfl, .ref p, [v], rfl, v, [], rfl, rfl, ?_⟩
                exact q1 (p :: O) _ _ (((rep.newOwnG (ds := []) hp (su.trans s1) (s1.ext.l upd_same) rfl i).set hv j).mono (stp_upd' hpt))
        match ts, h1a with
        | [t, u], hp =>
          have hp' : (match xName t, xName u with
            | some x, some y => decide (i ≠ j) && (decide (N[i]? = some x) && (decide (N[j]? = some y) && (lcl sc x && (lcl sc y && (decide (([v1, v2] : List Expr).length = 2) && decide (swsB sc [t, u] [v1, v2] = some (some [x, y])))))))
            | _, _ => false) = true := hp
          cases q3 : xName t with
          | none => rw [q3] at hp'; cases hp'
          | some x =>
            cases q4 : xName u with
            | none => rw [q3, q4] at hp'; cases hp'
            | some y =>
              rw [q3, q4] at hp'
              obtain ⟨px, rfl⟩ := xName_eq q3
              obtain ⟨py, rfl⟩ := xName_eq q4
              have c1 := ee hp'
              have c2 := ee c1.2
              have c3 := ee c2.2
              have c4 := ee c3.2
              have c5 := ee c4.2
              have c6 := ee c5.2
              have par : ∀ {ta : TA}, PA X [v1, v2] ta → PS X (.Assign [.Tuple [.Name x px, .Name y py] k1 p1] (.Tuple [v1, v2] k2 p2) pos) (tPar i j ta) := fun pa =>
                ps_par (g.calm hcl) nd (by rw [g.hN]; exact de c2.1) (by rw [g.hN]; exact de c3.1) (de c1.1) (by rw [g.sc]; exact lcl_of c4.1) (by rw [g.sc]; exact lcl_of c5.1) pa (sws_eq g.sc gs.knd (de c6.2)) rfl
              cases b with
              | true =>
                have h2 : (match xLst v1 with
                  | some vs => vs.isEmpty && (plainE v2 && chkE T N e fb sc v2)
                  | none => false) = true := h1.2
                cases q5 : xLst v1 with
                | none => rw [q5] at h2; cases h2
                | some vs =>
                  rw [q5] at h2
                  obtain ⟨p5, rfl⟩ := xLst_eq q5
                  have h3 := ee h2
                  have h4 := ee h3.2
                  cases vs with
                  | cons _ _ => cases h3.1
                  | nil =>
                    refine ps_imp (par (pa_cons (pe_lst pa_nil) (pa_cons ((sndE T G o k N e).e g h4.2) pa_nil (star1 h4.1)) rfl)) fun D0 σ H q => ?_
                    obtain ⟨O, ρ, rep, q⟩ := q
                    have q' : Post G W B O0 D0 ((evE o e ρ).st ρ fun d => .nx ((ρ.set i (.ow [])).set j (.pv d))) := q
                    refine ⟨Nat.zero_le _, fun p hp => ?_⟩
                    have su : Stp H (upd H p (.lst [])) := stp_upd' hp
                    have rp : Rep G (p :: O) ρ σ (upd H p (.lst [])) := rep.rep.move (hid_cons hp su.ext) (fun z hz => ⟨List.mem_cons_of_mem _ hz, fun us w => su.ext.l w⟩) ((rep.rep.ok.mono su).cons upd_same Lk.l)
                    refine ⟨p :: O, ρ, rp, (st_fin (rep.mono su) q').imp fun d H1 s1 ⟨r1, q1⟩ v hv => ⟨.ref p, v, rfl, ?_⟩⟩
                    exact q1 (p :: O) _ H1 ((rep.newOwnG (ds := []) hp (su.trans s1) (s1.ext.l upd_same) rfl i).set hv j)
              | false =>
                have h2 : (match xLst v2 with
                  | some vs => vs.isEmpty && (plainE v1 && chkE T N e fb sc v1)
                  | none => false) = true := h1.2
                cases q5 : xLst v2 with
                | none => rw [q5] at h2; cases h2
                | some vs =>
                  rw [q5] at h2
                  obtain ⟨p5, rfl⟩ := xLst_eq q5
                  have h3 := ee h2
                  have h4 := ee h3.2
                  cases vs with
                  | cons _ _ => cases h3.1
                  | nil =>
                    refine ps_imp (par (pa_cons ((sndE T G o k N e).e g h4.2) (pa_cons (pe_lst pa_nil) pa_nil rfl) (star1 h4.1))) fun D0 σ H q => ?_
                    obtain ⟨O, ρ, rep, q⟩ := q
                    have q' : Post G W B O0 D0 ((evE o e ρ).st ρ fun d => .nx ((ρ.set i (.pv d)).set j (.ow []))) := q
                    refine ⟨O, ρ, rep.rep, (st_fin rep q').imp fun d H1 s1 ⟨r1, q1⟩ v hv => ⟨Nat.zero_le _, fun p hp => ⟨v, .ref p, rfl, ?_⟩⟩⟩
                    exact q1 _ _ _ ((r1.set hv i).newOwn (ds := []) (vs := []) hp rfl j)⟩
theorem s_noS {st : IS} (h : ∀ fb sc x, chkS T N fb sc st x = false) : SndS T G o k N st := ⟨fun {fb sc X W B O0} gs {_} q => by rw [h] at q; cases q⟩
theorem ss_nil : SndSs T G o k N .nil := ⟨fun {fb sc X W B O0} gs {l} h => by
  cases l with
  | cons _ _ => cases h
  | nil =>
    refine pss_imp pss_nil fun D0 σ H q => ?_
    obtain ⟨O, ρ, rep, q⟩ := q
    exact q O σ H rep⟩
theorem i_seq {f : Env → SR} {g : Env → SR} (h : tS G W B O0 (fun ρ => match f ρ with
    | .nx ρ' => g ρ'
    | z => z) D0 σ H) : tSeq (tS G W B O0 f) (tS G W B O0 g) D0 σ H := by
  obtain ⟨O, ρ, rep, q⟩ := h
  refine ⟨O, ρ, rep, ?_⟩
  dsimp only at q
  cases e : f ρ with
  | nx ρ' =>
    rw [e] at q
    exact fun O σ H r => ⟨O, ρ', r, q⟩
  | bk ρ' => rw [e] at q; exact q
  | ct ρ' => rw [e] at q; exact q
  | rt d => rw [e] at q; exact q
  | ex c ρ' => rw [e] at q; exact q
  | bad => rw [e] at q; exact q
theorem ss_cons {s : IS} {r : ISs} (hs : SndS T G o k N s) (hr : SndSs T G o k N r) : SndSs T G o k N (.cons s r) := ⟨fun {fb sc X W B O0} gs {l} h => by
  have gen : ∀ l' : List Stmt, (match l' with
      | [] => false
      | x :: t => chkS T N fb sc s x && chkSs T N fb sc r t) = true → PSs X l' (tS G W B O0 (exSs o (.cons s r))) := fun l' h => by
    cases l' with
    | nil => cases h
    | cons x t =>
      have h1 := ee h
      exact pss_imp (pss_cons (hs.s (B := B) (O0 := O0) gs h1.1) (hr.s (B := B) (O0 := O0) gs h1.2)) fun D0 σ H q => i_seq q
  cases s with
  | frz i =>
    refine pss_imp (hr.s (B := B) (O0 := O0) gs (x := l) h) fun D0 σ H q => ?_
    obtain ⟨O, ρ, rep, q⟩ := q
    have q' : Post G W B O0 D0 (match (match ρ[i]? with
      | some (.ow ds) => SR.nx (ρ.set i (.pv (.lst ds)))
      | some (.pv _) => .nx ρ
      | some (.ow2 dss) => .nx (ρ.set i (.pv (.lst (dss.map .lst))))
      | _ => .bad) with
      | .nx ρ' => exSs o r ρ'
      | z => z) := q
    cases e : ρ[i]? with
    | none => rw [e] at q'; exact q'.elim
    | some sv =>
      rw [e] at q'
      cases sv with
      | un => exact q'.elim
      | pv d => exact ⟨O, ρ, rep, q'⟩
      | ow ds =>
        obtain ⟨O', r'⟩ := rep.freeze e
        exact ⟨O', _, r', q'⟩
      | ow2 dss =>
        obtain ⟨O', r'⟩ := rep.freeze2 e
        exact ⟨O', _, r', q'⟩
  | asg _ _ => exact gen l h
  | par _ _ => exact gen l h
  | own _ _ => exact gen l h
  | app _ _ => exact gen l h
  | ext _ _ => exact gen l h
  | seti _ _ _ => exact gen l h
  | expr _ => exact gen l h
  | iff _ _ _ => exact gen l h
  | whl _ _ _ => exact gen l h
  | «for» _ _ _ => exact gen l h
  | ret _ => exact gen l h
  | retN => exact gen l h
  | brk => exact gen l h
  | cnt => exact gen l h
  | pass => exact gen l h
  | raise _ => exact gen l h
  | try_ _ _ _ _ => exact gen l h
  | nope => exact gen l h
  | own2 _ => exact gen l h
  | app2 _ _ => exact gen l h
  | seti2 _ _ _ _ => exact gen l h
  | paro _ _ _ _ => exact gen l h⟩
mutual
theorem sndS (T : Tb) (G : Gt) (o : Out) (k : Nat) (N : List Str) : ∀ s : IS, SndS T G o k N s
  | .asg _ _ => s_asg
  | .par _ _ => s_par
  | .own _ _ => s_own
  | .frz _ => s_noS fun _ _ _ => rfl
  | .app _ _ => s_app
  | .ext _ _ => s_ext
  | .seti _ _ _ => s_seti
  | .expr _ => s_expr
  | .iff _ a b => s_iff (sndSs T G o k N a) (sndSs T G o k N b)
  | .whl _ _ b => s_whl (sndSs T G o k N b)
  | .for _ _ b => s_for (sndSs T G o k N b)
  | .ret _ => s_ret
  | .retN => s_retN
  | .brk => s_brk
  | .cnt => s_cnt
  | .pass => s_pass
  | .raise _ => s_raise
  | .try_ b _ _ _ => s_try (sndSs T G o k N b)
  | .nope => s_nopeS
  | .own2 _ => s_own2
  | .app2 _ _ => s_app2
  | .seti2 _ _ _ _ => s_seti2
  | .paro _ _ _ _ => s_paro
theorem sndSs (T : Tb) (G : Gt) (o : Out) (k : Nat) (N : List Str) : ∀ l : ISs, SndSs T G o k N l
  | .nil => ss_nil
  | .cons s r => ss_cons (sndS T G o k N s) (sndSs T G o k N r)
end
end
end FD
namespace FD
open PySem PySem.Spec PyProof.Rows L2 L2H
variable [Tbls]
structure DefF where
  x : Str
  ps : List Str
  N : List Str
  args : Arguments
  body : List Stmt
  scope : Scope
  ir : IDef
def scB (N ps : List Str) (sc : Scope) : Bool :=
  (match sc.kind with | .function => true | _ => false) && (!sc.isCoroutine && (!sc.isGenerator && (decide N.Nodup && (decide (N.take ps.length = ps) && ((ps.all fun x => match sc.names.lookup x with
    | some .local => true
    | some .cell => true
    | _ => false) && sc.names.all fun y => match y.2 with
    | .free => false
    | _ => true)))))
theorem scB_ok {N ps : List Str} {sc : Scope} (h : scB N ps sc = true) : FnScope N ps sc := by
  have h1 := ee h
  have h2 := ee h1.2
  have h3 := ee h2.2
  have h4 := ee h3.2
  have h5 := ee h4.2
  have h6 := ee h5.2
  refine ⟨?_, by simpa using h2.1, by simpa using h3.1, de h4.1, de h5.1, fun x hx => ?_, fun y hy e => ?_⟩
  · have z := h1.1
    split at z
    · assumption
    · cases z
  · have z := List.all_eq_true.mp h6.1 x hx
    split at z
    · exact .inl (by assumption)
    · exact .inr (by assumption)
    · cases z
  · have z := List.all_eq_true.mp h6.2 y hy
    rw [e] at z
    cases z
/-- how the text of a def is looked at, a lambda may stand in some -/
def Tb.at_ (T : Tb) (x : Str) : Tb := { T with here := T.lamd.contains x, cold := true }
/-- how the text of a def is looked at that is called where an error is handled -/
def Tb.hot (T : Tb) : Tb := { T with here := false, cold := false, tld := none }
def hotB (T : Tb) (d : DefF) : Bool := chkSs T.hot d.N (fun _ => true) d.scope d.ir.body d.body && (scB d.N d.ps d.scope && (decide (d.ir.np = d.ps.length) && decide (d.ir.ns = d.N.length)))
def defB (T : Tb) (d : DefF) : Bool := chkSs (T.at_ d.x) d.N (fun _ => true) d.scope d.ir.body d.body && (scB d.N d.ps d.scope && (decide (d.ir.np = d.ps.length) && decide (d.ir.ns = d.N.length)))
structure ModF (T : Tb) (Pr : Prg) (ds : List DefF) (G : Gt) (w : World) (K : PySem.W.Frag) (mg : Str → Option Value) : Prop where
  hK : G.K = K
  hw : G.w = w
  defs : ∀ (i : Nat) (d : DefF), ds[i]? = some d → Pr.defs[i]? = some d.ir ∧ T.ar.getD i 0 = d.ps.length ∧ defB T d = true ∧ mg d.x = some (.ref (G.fns i)) ∧ ∃ fd, FunD K d.x d.x d.args d.body d.scope [] [] (G.fns i) fd ∧ Binds K fd d.ps []
  all : ∀ (i : Nat) (x : Str), T.fns[i]? = some x → ∃ d, ds[i]? = some d ∧ d.x = x
  cst : ∀ (i : Nat) (x : Str) (d : D), T.cst[i]? = some x → Pr.cst[i]? = some d → ∃ u v, mg x = some u ∧ RelV v u ∧ ∀ H, Dv G H d v
  free : ∀ x ∈ bltNames, mg x = none
  cls : ∀ (c : Nat) (x : Str), T.cls[c]? = some x → mg x = some (.ref (G.cls c))
  exc : ∀ (c : Nat), c < T.cls.length → excB K (G.cls c) = true
  sub : ∀ (c d : Nat), c < T.cls.length → d < T.cls.length → PySem.W.kitOne K (.ref (G.cls c)) (.ref (G.cls d)) = some (Pr.sub c d)
  exm : ∀ (c d : Nat), c < T.cls.length → d < T.cls.length → PySem.W.exmOne K (.ref (G.cls c)) (.ref (G.cls d)) = some (Pr.sub c d)
  vale : ∀ (c : Nat), c < T.cls.length → PySem.W.kitOne K (.ref (G.cls c)) (.type "ValueError") = some true
  mkx : ∀ (c : Nat), c < T.cls.length → PySem.W.excIn K (G.cls c) [.type "ValueError", .type "Exception", .type "BaseException", .type "object"] "ValueError.__new__" = true ∧ PySem.W.keepIn K (.ref (G.cls c)) = true ∧
    PySem.W.subIn K (.ref (G.cls c)) (.type "BaseException") = some true ∧ PySem.W.typeIn K (.ref (G.cls c)) = some (.type "type")
  nc : G.nc = T.cls.length
  pnc : Pr.nc = T.cls.length
  few : Pr.defs.length ≤ 999 ∧ T.fns.length ≤ 999
  tld : ∀ (x : Str) (w c : Nat), T.tld = some (x, w, c) → (∃ (i : Nat) (d : DefF) (a en : Str), ds[i]? = some d ∧ d.x = x ∧ d.ps = [a] ∧ scB [a, en] [a] d.scope = true ∧ toldB T w c d.scope a en d.body = true) ∧ ∃ dw, ds[w]? = some dw ∧ dw.ps.length = 1 ∧ hotB T dw = true
/-- the tables of the defs that hold lambdas -/
def LamsOk (T : Tb) (ds : List DefF) (G : Gt) (K : PySem.W.Frag) (mg : Str → Option Value) (base : Heap) : Prop := ∀ (i : Nat) (d : DefF) (fd : FuncData), ds[i]? = some d → T.lamd.contains d.x = true → FunD K d.x d.x d.args d.body d.scope [] [] (G.fns i) fd →
  ∃ c P, LamX.TabB base mg c P ∧ fd.code = .ref c ∧ (P, (envOfC d.x d.scope 0 0 .none).qual ++ "<lambda>") ∈ (Tbls.tab : List (Addr × Str)) ∧ ∀ p ∈ (Tbls.tab : List (Addr × Str)), p.1 = P → p.2 = (envOfC d.x d.scope 0 0 .none).qual ++ "<lambda>"
section
variable {T : Tb} {Pr : Prg} {ds : List DefF} {G : Gt} {w : World} {K : PySem.W.Frag} {mg : Str → Option Value} {P : Program} {base : Heap}
theorem start_rep {N : List Str} {d : IDef} {O : List Addr} {H : Hp} {xs : List D} {vs : List V} (ok : OkO O H) (hd : DvL G (hid H O) xs vs) (h1 : d.ns = N.length) (h2 : d.np = xs.length) : RepS G H O O (start d xs) (L2.start N vs) H := by
  have lv := dvL_len hd
  have lr : List.replicate (d.ns - d.np) SV.un = List.replicate (N.length - vs.length) SV.un := by rw [h1, h2, lv]
  have no : ∀ (i : Nat) (s : SV), (start d xs)[i]? = some s → (∃ d, s = .pv d) ∨ s = .un := fun i s e => by
    unfold start at e
    have m := List.mem_of_getElem? e
    rcases List.mem_append.mp m with m | m
    · obtain ⟨z, _, w⟩ := List.mem_map.mp m
      exact .inl ⟨z, w.symm⟩
    · exact .inr (List.mem_replicate.mp m).2
  refine ⟨⟨?_, fun i s x e1 e2 => ?_, ok⟩, Stp.refl H, fun _ h => h, fun p h1 h2 => absurd h1 h2, fun _ => [], fun i s x e1 _ => ?_, (fun _ _ _ h => by cases h), (fun _ _ h => by cases h)⟩
  · unfold start L2.start
    rw [lr]
    simp [lv]
  · unfold start at e1
    unfold L2.start at e2
    by_cases hi : i < xs.length
    · rw [List.getElem?_append_left (by simpa using hi), List.getElem?_map] at e1
      rw [List.getElem?_append_left (by simpa [← lv] using hi), List.getElem?_map] at e2
      obtain ⟨v, g1, g2⟩ := dvL_get hd (List.getElem?_eq_getElem hi)
      rw [List.getElem?_eq_getElem hi] at e1
      rw [g1] at e2
      cases e1
      cases e2
      exact ⟨v, rfl, g2⟩
    · rw [List.getElem?_append_right (by simpa using hi)] at e1
      have m := List.mem_of_getElem? e1
      cases (List.mem_replicate.mp m).2
      exact True.intro
  · rcases no i s e1 with ⟨z, rfl⟩ | rfl
    · rfl
    · rfl
/-- what is known of the defs, at most j deep -/
def AllF (T : Tb) (Pr : Prg) (ds : List DefF) (G : Gt) (w : World) (K : PySem.W.Frag) (mg : Str → Option Value) (P : Program) (base : Heap) (j : Nat) : Prop := ∀ (i : Nat) (d : DefF) (fd : FuncData), ds[i]? = some d → FunD K d.x d.x d.args d.body d.scope [] [] (G.fns i) fd → FnOk P w K mg base (L2.CX P w) j (G.fns i) fd d.ps (spD G d.ps.length (lev Pr j i))
def AllC (T : Tb) (Pr : Prg) (ds : List DefF) (G : Gt) (w : World) (K : PySem.W.Frag) (mg : Str → Option Value) (P : Program) (base : Heap) (j : Nat) : Prop := ∀ (x : Str) (v c : Nat), T.tld = some (x, v, c) → ∃ (fd : FuncData) (ps : List Str), ps.length = 1 ∧ Binds K fd ps [] ∧ FnC P w K mg base (L2.CX P w) j (G.fns v) fd ps (spD G 1 (lev Pr j v))
theorem low_at (m : ModF T Pr ds G w K mg) {k n i : Nat} (hi : i < 1000) : (lowN n ⟨lev Pr k, Pr.sub, Pr.cst, Pr.nc⟩).call i = lev Pr (k - n) i := by
  funext xs
  rw [lowN_call]
  exact lev_low m.few.1 n k i xs hi
theorem lt_of_some {α : Type} {l : List α} {i : Nat} {x : α} (h : l[i]? = some x) : i < l.length := by
  rcases Nat.lt_or_ge i l.length with z | z
  · exact z
  · rw [List.getElem?_eq_none z] at h
    cases h
theorem md_of (m : ModF T Pr ds G w K mg) {k : Nat} (ih : ∀ j, j ≤ k → AllF T Pr ds G w K mg P base j) (ihC : ∀ j, j ≤ k → AllC T Pr ds G w K mg P base j)
    {X : Cx} (hP : X.prog = P) (hw : X.w = w) (hK : X.K = K) (hm : X.mg = mg) (hb : X.base = base) : MdOk T G ⟨lev Pr k, Pr.sub, Pr.cst, Pr.nc⟩ k X := by
  subst hP hw hK hm hb
  refine ⟨m.hK, m.hw, fun n i x hx => ?_, m.cst, m.free, m.cls, m.exc, m.sub, m.exm, m.vale, m.mkx, m.nc, m.pnc, fun n d e => ?_, fun x w c hx => ?_, fun n x w c hx => ?_⟩
  · have hi := lt_of_some hx
    obtain ⟨d, hd, rfl⟩ := m.all i x hx
    obtain ⟨_, h2, _, h4, fd, F, b⟩ := m.defs i d hd
    rw [low_at m (by have := m.few.2; omega)]
    exact ⟨h4, F.kp, fd, d.ps, h2.symm, b, ih (k - n) (Nat.sub_le _ _) i d fd hd F⟩
  · rw [low_at m (by omega)] at e
    have := lev_ping e
    omega
  · obtain ⟨⟨i, d, a, en, hd, rfl, hp, hs, hB⟩, _⟩ := m.tld x w c hx
    obtain ⟨_, _, _, h4, fd, F, b⟩ := m.defs i d hd
    rw [hp] at b
    exact ⟨G.fns i, d.args, d.body, d.scope, fd, a, en, h4, F, b, scB_ok hs, hB⟩
  · obtain ⟨⟨i, d, a, en, _, _, _, _, hB⟩, _⟩ := m.tld x w c hx
    obtain ⟨_, wn, _, _, _, _, _, _, _, _, _, _, _, _, hw, _⟩ := toldB_eq hB
    have hi := lt_of_some hw
    rw [low_at m (by have := m.few.2; omega)]
    exact ihC (k - n) (Nat.sub_le _ _) x w c hx
/-- the same, no lambda, an error being handled -/
theorem md_hot (m : ModF T Pr ds G w K mg) {k : Nat} (ih : ∀ j, j ≤ k → AllF T Pr ds G w K mg P base j)
    {X : Cx} (hP : X.prog = P) (hw : X.w = w) (hK : X.K = K) (hm : X.mg = mg) (hb : X.base = base) : MdOk T.hot G ⟨lev Pr k, Pr.sub, Pr.cst, Pr.nc⟩ k X := by
  subst hP hw hK hm hb
  refine ⟨m.hK, m.hw, fun n i x hx => ?_, m.cst, m.free, m.cls, m.exc, m.sub, m.exm, m.vale, m.mkx, m.nc, m.pnc, fun n d e => ?_, fun x w c hx => (by cases hx), fun n x w c hx => (by cases hx)⟩
  · have hi := lt_of_some hx
    obtain ⟨d, hd, rfl⟩ := m.all i x hx
    obtain ⟨_, h2, _, h4, fd, F, b⟩ := m.defs i d hd
    have few := m.few.2
    have hi' : i < T.fns.length := hi
    rw [low_at m (by omega)]
    exact ⟨h4, F.kp, fd, d.ps, h2.symm, b, ih (k - n) (Nat.sub_le _ _) i d fd hd F⟩
  · rw [low_at m (by omega)] at e
    have := lev_ping e
    omega
theorem run_end {k i : Nat} {d : DefF} {O : List Addr} {xs : List D} {vs : List V} {H : Hp} {Q : VK} {E : XK} (h1 : Pr.defs[i]? = some d.ir) (hl : vs.length = d.ps.length) (hx : DvL G (hid H O) xs vs) (hnp : d.ir.np = d.ps.length) (hq : match lev Pr (k + 1) i xs with
    | .ok d => ∀ v H', Stp H H' → Dv G (hid H' O) d v → Q v H'
    | .exc c => ∀ H', Stp H H' → E (.ref (G.cls c)) none H'
    | .bad => False) : Post G (fun cls a _ H' => E cls a H') H O { nx := fun _ H' => Q .non H', rt := Q } (exSs ⟨lev Pr k, Pr.sub, Pr.cst, Pr.nc⟩ d.ir.body (start d.ir xs)) := by
  have e1 : lev Pr (k + 1) i xs = runDef ⟨lev Pr k, Pr.sub, Pr.cst, Pr.nc⟩ d.ir xs := by
    show (match Pr.defs[i]? with
      | some d => runDef ⟨lev Pr k, Pr.sub, Pr.cst, Pr.nc⟩ d xs
      | none => (match decide (i = 999) with
        | true => R.ok D.non
        | false => (match decide (1000 ≤ i) with
          | true => lev Pr k (i - 1000) xs
          | false => .bad))) = _
    rw [h1]
  rw [e1] at hq
  unfold runDef at hq
  have e2 : decide (xs.length = d.ir.np) = true := decide_eq_true (((dvL_len hx).trans hl).trans hnp.symm)
  rw [e2] at hq
  dsimp only at hq
  generalize exSs ⟨lev Pr k, Pr.sub, Pr.cst, Pr.nc⟩ d.ir.body (start d.ir xs) = z at hq ⊢
  cases z with
  | nx ρ => exact fun O' σ' H' r => hq .non H' r.same rfl
  | rt v => exact fun u H' s hu => hq u H' s hu
  | ex c ρ => exact fun O' σ' H' r => hq H' r.same
  | bk ρ => exact hq.elim
  | ct ρ => exact hq.elim
  | bad => exact hq.elim
theorem lev_stepC (m : ModF T Pr ds G w K mg) {k : Nat} (ih : ∀ j, j ≤ k → AllF T Pr ds G w K mg P base j) : AllC T Pr ds G w K mg P base (k + 1) := by
  intro x v c hx
  obtain ⟨_, d, hd, hp1, hh⟩ := m.tld x v c hx
  obtain ⟨h1, h2, _, h4, fd, F, b⟩ := m.defs v d hd
  have c1 := ee hh
  have c2 := ee c1.2
  have c3 := ee c2.2
  have S := scB_ok c2.1
  refine ⟨fd, d.ps, hp1, b, ?_⟩
  obtain ⟨oc, od, dV, kV, doc, pm, an, cdv, ct, osl, rfl, lk, hcd, _, _⟩ := F.ex
  refine fn_ofC lk hcd S (fun vs H Q E h => h.1.trans hp1.symm) (fun A outer s H vs Q E hr h => ?_)
  obtain ⟨hl, O, xs, ok, hv, hq⟩ := h
  have gs : GoodS T.hot G ⟨lev Pr k, Pr.sub, Pr.cst, Pr.nc⟩ k d.N (fun _ => true) d.scope (cxC (L2.CX P w) P w K mg base d.N d.x d.scope (G.fns v) cdv A outer s H E) (fun cls a _ H' => E cls a H') := by
    refine ⟨⟨md_hot m ih rfl rfl rfl rfl rfl, rfl, S.nd, rfl, fun _ _ => rfl, fun z => (by cases z), fun z => (by cases z), hr, takes_of rfl rfl rfl rfl, passes_of rfl, fun z => (by cases z)⟩, S.kind, rfl, rfl, rfl⟩
  refine ⟨_, (sndSs T.hot G ⟨lev Pr k, Pr.sub, Pr.cst, Pr.nc⟩ k d.N d.ir.body).s (B := H) (O0 := O) gs c1.1, O, start d.ir xs, start_rep ok hv (de c3.2) ((de c3.1).trans (hp1.trans (hl.symm.trans (dvL_len hv).symm))), ?_⟩
  exact run_end h1 (hl.trans hp1.symm) hv (de c3.1) hq
theorem lev_stepF (m : ModF T Pr ds G w K mg) (lam : LamsOk T ds G K mg base) {k : Nat} (ih : ∀ j, j ≤ k → AllF T Pr ds G w K mg P base j) (ihC : ∀ j, j ≤ k → AllC T Pr ds G w K mg P base j) : AllF T Pr ds G w K mg P base (k + 1) := by
  intro i d fd hd F
  obtain ⟨h1, h2, h3, h4, _⟩ := m.defs i d hd
  have c1 := ee h3
  have c2 := ee c1.2
  have c3 := ee c2.2
  have S := scB_ok c2.1
  have la := lam i d fd hd
  have F' := F
  obtain ⟨oc, od, dV, kV, doc, pm, an, cdv, ct, osl, rfl, lk, hcd, _, _⟩ := F.ex
  refine fn_of lk hcd S (fun vs H Q E h => h.1) (fun A outer s H vs Q E hr h => ?_)
  obtain ⟨hl, O, xs, ok, hv, hq⟩ := h
  have gs : GoodS (T.at_ d.x) G ⟨lev Pr k, Pr.sub, Pr.cst, Pr.nc⟩ k d.N (fun _ => true) d.scope (cxOf (L2.CX P w) P w K mg base d.N d.x d.scope (G.fns i) cdv A outer s H E) (fun cls a _ H' => E cls a H') := by
    have md : MdOk T G ⟨lev Pr k, Pr.sub, Pr.cst, Pr.nc⟩ k (cxOf (L2.CX P w) P w K mg base d.N d.x d.scope (G.fns i) cdv A outer s H E) := md_of m ih ihC rfl rfl rfl rfl rfl
    refine ⟨⟨⟨md.hK, md.hw, md.fn, md.cst, md.free, md.cls, md.exc, md.sub, md.exm, md.vale, md.mkx, md.nc, md.onc, md.deep, md.tld, md.hot⟩, rfl, S.nd, rfl, fun _ _ => rfl, fun _ => rfl, fun _ => hr, roomH_of hr, takes_of rfl rfl rfl rfl, passes_of rfl, fun z => ?_⟩, S.kind, rfl, rfl, rfl⟩
    obtain ⟨c, P', TB, e, h5, h6⟩ := la z F'
    exact ⟨c, P', TB, e, h5, h6⟩
  refine ⟨_, (sndSs (T.at_ d.x) G ⟨lev Pr k, Pr.sub, Pr.cst, Pr.nc⟩ k d.N d.ir.body).s (B := H) (O0 := O) gs c1.1, O, start d.ir xs, start_rep ok hv (de c3.2) ((de c3.1).trans (hl.symm.trans (dvL_len hv).symm)), ?_⟩
  exact run_end h1 hl hv (de c3.1) hq
theorem lev_all (m : ModF T Pr ds G w K mg) (lam : LamsOk T ds G K mg base) : ∀ k, (∀ j, j ≤ k → AllF T Pr ds G w K mg P base j) ∧ ∀ j, j ≤ k → AllC T Pr ds G w K mg P base j
  | 0 => by
    refine ⟨fun j hj i d fd hd F => ?_, fun j hj x v c hx => ?_⟩
    · obtain rfl : j = 0 := Nat.le_zero.mp hj
      refine ⟨fun vs H Q E h => h.1, fun A outer s H args us vs Q E _ _ _ _ h => ?_⟩
      obtain ⟨_, O, xs, _, _, h⟩ := h
      exact h.elim
    · obtain rfl : j = 0 := Nat.le_zero.mp hj
      obtain ⟨_, d, hd, hp1, _⟩ := m.tld x v c hx
      obtain ⟨_, _, _, _, fd, F, b⟩ := m.defs v d hd
      refine ⟨fd, d.ps, hp1, b, fun vs H Q E h => h.1.trans hp1.symm, fun A outer s H args us vs Q E _ _ _ _ h => ?_⟩
      obtain ⟨_, O, xs, _, _, h⟩ := h
      exact h.elim
  | k + 1 => by
    obtain ⟨h1, h2⟩ := lev_all m lam k
    refine ⟨fun j hj => ?_, fun j hj => ?_⟩
    · rcases Nat.lt_or_ge j (k + 1) with z | z
      · exact h1 j (by omega)
      · obtain rfl : j = k + 1 := by omega
        exact lev_stepF m lam h1 h2
    · rcases Nat.lt_or_ge j (k + 1) with z | z
      · exact h2 j (by omega)
      · obtain rfl : j = k + 1 := by omega
        exact lev_stepC m h1
theorem lev_ok (m : ModF T Pr ds G w K mg) (lam : LamsOk T ds G K mg base) (k : Nat) : AllF T Pr ds G w K mg P base k := (lev_all m lam k).1 k (Nat.le_refl _)
end
end FD
namespace FD
open PySem PySem.Spec PyProof.Rows L2
section
variable [Tbls]
def refB (K : PySem.W.Frag) (x : Str) : Bool := match PySem.W.nsIn K mainGlobals x with
  | some (some (.ref _)) => true
  | _ => false
def frB (K : PySem.W.Frag) (x : Str) : Bool := match PySem.W.nsIn K mainGlobals x with
  | some none => true
  | _ => false
section
variable {K : PySem.W.Frag} {h : Heap} {mg : Str → Option Value} {w : World}
theorem refB_ok (X : K.In h) (G : h.Ns mainGlobals mg) {x : Str} (c : refB K x = true) : mg x = some (.ref (He.ga K x)) := by
  unfold refB at c
  split at c
  · rename_i a e
    rw [PySem.W.mg_of X G e]
    unfold He.ga
    rw [e]
  · cases c
theorem frB_ok (X : K.In h) (G : h.Ns mainGlobals mg) {x : Str} (c : frB K x = true) : mg x = none := by
  unfold frB at c
  split at c
  · rename_i e
    exact PySem.W.mg_none_of X G e
  · cases c
def isB (o : Option Bool) (b : Bool) : Bool := match o with
  | some c => c == b
  | none => false
theorem isB_ok {o : Option Bool} {b : Bool} (h : isB o b = true) : o = some b := by
  cases o with
  | none => cases h
  | some c =>
    have : (c == b) = true := h
    rw [eq_of_beq this]
def isTy (o : Option Value) : Bool := match o with
  | some (.type n) => decide (n = "type")
  | _ => false
theorem isTy_ok {o : Option Value} (h : isTy o = true) : o = some (.type "type") := by
  unfold isTy at h
  split at h
  · rw [de h]
  · cases h
def clsB (K : PySem.W.Frag) (x : Str) : Bool := refB K x && (excB K (He.ga K x) && (isB (PySem.W.kitOne K (.ref (He.ga K x)) (.type "ValueError")) true &&
  (PySem.W.excIn K (He.ga K x) [.type "ValueError", .type "Exception", .type "BaseException", .type "object"] "ValueError.__new__" && (PySem.W.keepIn K (.ref (He.ga K x)) && (isB (PySem.W.subIn K (.ref (He.ga K x)) (.type "BaseException")) true && isTy (PySem.W.typeIn K (.ref (He.ga K x))))))))
def tupAt (K : PySem.W.Frag) (a : Addr) : Option (List Value) := match K.lookup a with
  | some ⟨.type c, _, .seq its _, _⟩ => (match decide (c = "tuple") && decide (its.size ≤ sizeLine) with
    | true => some its.toList
    | false => none)
  | _ => none
mutual
def relD (K : PySem.W.Frag) : D → Value → Bool
  | .non, u => (match u with | .none => true | _ => false)
  | .bl b, u => (match u with | .bool c => b == c | _ => false)
  | .int i, u => (match u with | .int j _ => decide (i = j) | _ => false)
  | .str x, u => (match u with | .str y _ => decide (x = y) | _ => false)
  | .tup ds, u => (match u with
    | .ref a => (match tupAt K a with
      | some us => relDL K ds us
      | none => false)
    | _ => false)
  | _, _ => false
def relDL (K : PySem.W.Frag) : List D → List Value → Bool
  | [], us => us.isEmpty
  | d :: ds, us => (match us with
    | [] => false
    | u :: r => relD K d u && relDL K ds r)
end
theorem vals_cons {v : V} {u : Value} {vs : List V} {us : List Value} (h : RelV v u) (r : Vals vs us) : Vals (v :: vs) (u :: us) := .cons h r
mutual
theorem relD_ok {G : Gt} (hK : G.K = K) : ∀ (d : D) (u : Value), relD K d u = true → ∃ v, RelV v u ∧ ∀ H, Dv G H d v
  | .non, u, h => by
    cases u <;> first | exact ⟨.non, rfl, fun _ => rfl⟩ | cases h
  | .bl b, u, h => by
    cases u <;> first | (cases h; done) | skip
    obtain rfl := eq_of_beq (show (_ == _) = true from h)
    exact ⟨.bl _, rfl, fun _ => rfl⟩
  | .int i, u, h => by
    cases u <;> first | (cases h; done) | skip
    obtain rfl := de h
    exact ⟨.int _, ⟨_, rfl⟩, fun _ => rfl⟩
  | .str x, u, h => by
    cases u <;> first | (cases h; done) | skip
    obtain rfl := de h
    exact ⟨.str _, ⟨_, rfl⟩, fun _ => rfl⟩
  | .tup ds, u, h => by
    cases u <;> first | (cases h; done) | skip
    rename_i a
    have h' : (match tupAt K a with
      | some us => relDL K ds us
      | none => false) = true := h
    cases e : tupAt K a with
    | none => rw [e] at h'; cases h'
    | some us =>
      rw [e] at h'
      obtain ⟨vs, r, q⟩ := relDL_ok hK ds us h'
      refine ⟨.ref a, rfl, fun H => ⟨a, vs, rfl, .inr ?_, q H⟩⟩
      unfold tupAt at e
      split at e
      · rename_i c d2 its n sl lk
        split at e
        · rename_i cc
          cases e
          have c2 := ee cc
          rw [hK]
          exact ⟨_, its, n, lk, congrArg Value.type (de c2.1), rfl, de c2.2, r⟩
        · cases e
      · cases e
  | .lst _, _, h => by cases h
  | .dic _, _, h => by cases h
  | .exc _, _, h => by cases h
  | .fn _, _, h => by cases h
  | .clo _ _, _, h => by cases h
  | .scr _, _, h => by cases h
theorem relDL_ok {G : Gt} (hK : G.K = K) : ∀ (ds : List D) (us : List Value), relDL K ds us = true → ∃ vs, Vals vs us ∧ ∀ H, DvL G H ds vs
  | [], us, h => by
    cases us with
    | nil => exact ⟨[], .nil, fun _ => rfl⟩
    | cons _ _ => cases h
  | d :: ds, us, h => by
    cases us with
    | nil => cases h
    | cons u r =>
      have h1 := ee (show (relD K d u && relDL K ds r) = true from h)
      obtain ⟨v, r1, q1⟩ := relD_ok hK d u h1.1
      obtain ⟨vs, r2, q2⟩ := relDL_ok hK ds r h1.2
      exact ⟨v :: vs, vals_cons r1 r2, fun H => ⟨v, vs, rfl, q1 H, q2 H⟩⟩
end
def relDK (K : PySem.W.Frag) : List (Str × D) → List DictEntry → Bool
  | [], es => es.isEmpty
  | (k, d) :: r, es => (match es with
    | [] => false
    | e :: t => (match e.key with
      | .str x _ => decide (x = k) && (relD K d e.val && relDK K r t)
      | _ => false))
def dicB (K : PySem.W.Frag) (a : Addr) (kvs : List (Str × D)) : Bool := match K.lookup a with
  | some ⟨_, _, .dict es _, _⟩ => relDK K kvs es.toList
  | _ => false
theorem relDK_ok {G : Gt} (hK : G.K = K) : ∀ (kvs : List (Str × D)) (es : List DictEntry), relDK K kvs es = true → ∃ us, (∀ H, DvK G H kvs us) ∧ es.any (·.refKey) = false ∧ ∀ k, match lkV k us with
    | some v => ∃ e, es.find? (·.key.isStr k) = some e ∧ RelV v e.val
    | none => es.find? (·.key.isStr k) = none
  | [], es, h => by
    cases es with
    | nil => exact ⟨[], fun _ => rfl, rfl, fun _ => rfl⟩
    | cons _ _ => cases h
  | (k, d) :: r, es, h => by
    cases es with
    | nil => cases h
    | cons e t =>
      have h' : (match e.key with
        | .str x _ => decide (x = k) && (relD K d e.val && relDK K r t)
        | _ => false) = true := h
      cases q : e.key with
      | str x tk =>
        rw [q] at h'
        have h1 := ee h'
        have h2 := ee h1.2
        obtain rfl := de h1.1
        obtain ⟨v, r1, q1⟩ := relD_ok hK d e.val h2.1
        obtain ⟨us, p1, p2, p3⟩ := relDK_ok hK r t h2.2
        refine ⟨(x, v) :: us, fun H => ⟨v, us, rfl, q1 H, p1 H⟩, ?_, fun k => ?_⟩
        · rw [List.any_cons, p2]
          unfold DictEntry.refKey
          rw [q]
          rfl
        · unfold lkV
          by_cases e1 : k = x
          · rw [if_pos e1]
            subst e1
            refine ⟨e, ?_, r1⟩
            rw [List.find?_cons, q]
            have : (Value.str k tk).isStr k = true := by simp [Value.isStr]
            rw [this]
          · rw [if_neg e1]
            have hn : (e.key.isStr k) = false := by
              rw [q]
              simp [Value.isStr]
              exact fun z => e1 z.symm
            have h3 := p3 k
            rw [List.find?_cons, hn]
            exact h3
      | _ => rw [q] at h'; cases h'
theorem dicB_ok {G : Gt} (hK : G.K = K) (hw : G.w = w) {a : Addr} {kvs : List (Str × D)} (h : dicB K a kvs = true) (kd : ∃ es n, KDict K w a es n) : ∀ H, Dv G H (.dic kvs) (.ref a) := by
  intro H
  obtain ⟨es, n, kd⟩ := kd
  unfold dicB at h
  rw [kd.at_] at h
  obtain ⟨us, h1, h2, h3⟩ := relDK_ok hK kvs es.toList h
  refine ⟨a, us, rfl, .inr ⟨⟨es, n, by rw [hK, hw]; exact kd⟩, fun k => ?_⟩, h1 H⟩
  have h4 := h3 k
  have ns : PySem.W.nsIn K a k = (match es.toList.find? (·.key.isStr k) with
      | some e => some (some e.val)
      | none => if es.toList.any (·.refKey) then none else some none) := by
    unfold PySem.W.nsIn
    rw [kd.at_]
    rfl
  rw [hK]
  cases q : lkV k us with
  | some v =>
    rw [q] at h4
    obtain ⟨e, e1, e2⟩ := h4
    exact ⟨e.val, by rw [ns, e1], e2⟩
  | none =>
    rw [q] at h4
    have h5 : es.toList.find? (·.key.isStr k) = none := h4
    show PySem.W.nsIn K a k = some none
    rw [ns, h5, h2]
    rfl
end
def cstB (K : PySem.W.Frag) (x : Str) (d : D) : Bool := match d with
  | .dic kvs => refB K x && dicB K (He.ga K x) kvs
  | d => (match PySem.W.nsIn K mainGlobals x with
    | some (some u) => relD K d u
    | _ => false)
def cstsB (K : PySem.W.Frag) : List Str → List D → Bool
  | [], ds => ds.isEmpty
  | x :: xs, ds => (match ds with
    | [] => false
    | d :: r => cstB K x d && cstsB K xs r)
def subsB (K : PySem.W.Frag) (sub : Nat → Nat → Bool) (cs : List Str) : Bool :=
  (List.range cs.length).all fun c => (List.range cs.length).all fun d => isB (PySem.W.kitOne K (.ref (He.ga K (cs.getD c ""))) (.ref (He.ga K (cs.getD d "")))) (sub c d) && isB (PySem.W.exmOne K (.ref (He.ga K (cs.getD c ""))) (.ref (He.ga K (cs.getD d "")))) (sub c d)
def exB (T : Tb) (Pr : Prg) (K : PySem.W.Frag) : Bool := T.fns.all (refB K) && (bltNames.all (frB K) && (T.cls.all (clsB K) && (subsB K Pr.sub T.cls && (cstsB K T.cst Pr.cst && decide (T.lamd.map fun x => (He.cT K (x, none)).2).Nodup))))
def tabs : List Str → List D → List He.Tab
  | x :: xs, d :: ds => (match d with
    | .dic kvs => (fun K => He.ga K x, kvs.map (·.1)) :: tabs xs ds
    | _ => tabs xs ds)
  | _, _ => []
def Gof (T : Tb) (K : PySem.W.Frag) (w : World) : Gt := ⟨K, w, fun c => He.ga K (T.cls.getD c ""), fun i => He.ga K (T.fns.getD i ""), T.cls.length⟩
def defOf (d : DefF) : He.DefD := ⟨(d.x, none), d.x, d.x, d.args, d.body, d.scope, [], []⟩
/-- the text's own part of the facts: no head in sight -/
def toldD (T : Tb) (w c : Nat) (x : Str) (d : DefF) : Bool := match d.ps, d.N with
  | [a], [a', en] => decide (d.x = x) && (decide (a' = a) && (scB [a, en] [a] d.scope && toldB T w c d.scope a en d.body))
  | _, _ => false
def tldB (T : Tb) (ds : List DefF) : Bool := match T.tld with
  | none => true
  | some (x, w, c) => (ds.any (toldD T w c x)) && (match ds[w]? with
    | some dw => decide (dw.ps.length = 1) && hotB T dw
    | none => false)
def stB (T : Tb) (Pr : Prg) (ds : List DefF) : Bool := decide (T.fns = ds.map (·.x)) && (decide (T.ar = ds.map fun d => d.ps.length) && (ds.all (defB T) && (decide (Pr.nc = T.cls.length) && (decide (ds.length ≤ 999) && tldB T ds))))
section
variable {T : Tb} {Pr : Prg} {ds : List DefF} {w : World} {K : PySem.W.Frag} {h : Heap} {mg : Str → Option Value}
theorem getD_of {l : List Str} {i : Nat} {x : Str} (e : l[i]? = some x) : l.getD i "" = x := by rw [List.getD_eq_getElem?_getD, e]; rfl
theorem lt_of {α : Type} {l : List α} {i : Nat} {x : α} (e : l[i]? = some x) : i < l.length := by
  rcases Nat.lt_or_ge i l.length with h | h
  · exact h
  · rw [List.getElem?_eq_none h] at e
    cases e
theorem tabs_mem : ∀ {xs : List Str} {ds : List D} {i : Nat} {x : Str} {kvs : List (Str × D)}, xs[i]? = some x → ds[i]? = some (.dic kvs) → ∃ t ∈ tabs xs ds, t.1 = fun K => He.ga K x
  | [], _, _, _, _, h, _ => by cases h
  | _ :: _, [], _, _, _, _, h => by cases h
  | y :: xs, d :: ds, i, x, kvs, h1, h2 => by
    cases i with
    | zero =>
      cases h1
      cases h2
      exact ⟨_, List.mem_cons_self .., rfl⟩
    | succ i =>
      obtain ⟨t, m, e⟩ := tabs_mem (xs := xs) (ds := ds) (i := i) h1 h2
      refine ⟨t, ?_, e⟩
      cases d <;> first | exact m | exact List.mem_cons_of_mem _ m
theorem csts_at : ∀ {xs : List Str} {ds : List D} {i : Nat} {x : Str} {d : D}, cstsB K xs ds = true → xs[i]? = some x → ds[i]? = some d → cstB K x d = true
  | [], _, _, _, _, _, h, _ => by cases h
  | _ :: _, [], _, _, _, _, _, h => by cases h
  | y :: xs, d :: ds, i, x, e, h, h1, h2 => by
    have h3 := ee (show (cstB K y d && cstsB K xs ds) = true from h)
    cases i with
    | zero =>
      cases h1
      cases h2
      exact h3.1
    | succ i => exact csts_at (xs := xs) (ds := ds) (i := i) h3.2 h1 h2
theorem mod_of (X : K.In h) (G : h.Ns mainGlobals mg) (fa : List He.Fa) {tf : List He.Defn} (c : He.SaysX fa (ds.map defOf) (tabs T.cst Pr.cst) tf (exB T Pr) w h K) (st : stB T Pr ds = true) (hd : Pr.defs = ds.map (·.ir))
    (hb : ∀ d ∈ ds, ∀ (kV doc pm : Value) (an : Option Addr) (cdv ct : Value) (us : List Value), us.length = d.ps.length → bindArgs (PySem.W.fnOf d.x d.x d.args d.body d.scope .none kV doc pm an cdv ct) ⟨us, []⟩ = pure (d.ps.zip us)) :
    ModF T Pr ds (Gof T K w) w K mg := by
  have s1 := ee st
  have s2 := ee s1.2
  have s3 := ee s2.2
  have s4 := ee s3.2
  have s5 := ee s4.2
  have e1 := ee (show (T.fns.all (refB K) && (bltNames.all (frB K) && (T.cls.all (clsB K) && (subsB K Pr.sub T.cls && (cstsB K T.cst Pr.cst && decide (T.lamd.map fun x => (He.cT K (x, none)).2).Nodup))))) = true from c.more)
  have e2 := ee e1.2
  have e3 := ee e2.2
  have e4 := ee e3.2
  have e5 := ee e4.2
  have clsAt : ∀ (i : Nat), i < T.cls.length → clsB K (T.cls.getD i "") = true := fun i hi => by
    rw [List.getD_eq_getElem?_getD, List.getElem?_eq_getElem hi]
    exact List.all_eq_true.mp e3.1 _ (List.getElem_mem hi)
  refine ⟨rfl, rfl, fun i d hi => ?_, fun i x hx => ?_, fun i x d hx hd => ?_, fun x hx => frB_ok X G (List.all_eq_true.mp e2.1 x hx), fun i x hx => ?_, fun i hi => ?_, fun a b ha hb => ?_, fun a b ha hb => ?_, fun i hi => ?_, fun i hi => ?_, rfl, de s4.1, ⟨by rw [hd, List.length_map]; exact de s5.1, by rw [de s1.1, List.length_map]; exact de s5.1⟩, fun x w c hx => ?_⟩
  · have hf : T.fns[i]? = some d.x := by rw [de s1.1, List.getElem?_map, hi]; rfl
    have hg : (Gof T K w).fns i = He.ga K d.x := by
      show He.ga K (T.fns.getD i "") = _
      rw [getD_of hf]
    refine ⟨by rw [hd, List.getElem?_map, hi]; rfl, ?_, List.all_eq_true.mp s3.1 d (List.mem_of_getElem? hi), ?_, ?_⟩
    · rw [de s2.1, List.getD_eq_getElem?_getD, List.getElem?_map, hi]
      rfl
    · rw [hg]
      exact refB_ok X G (List.all_eq_true.mp e1.1 _ (List.mem_of_getElem? hf))
    · rw [hg]
      obtain ⟨fd, F⟩ := c.t.d.def_ i (d := defOf d) (by rw [List.getElem?_map, hi]; rfl)
      have F' : FunD K d.x d.x d.args d.body d.scope [] [] (He.ga K d.x) fd := F
      exact ⟨fd, F', F'.bindsN (hb d (List.mem_of_getElem? hi))⟩
  · rw [de s1.1, List.getElem?_map] at hx
    cases q : ds[i]? with
    | none => rw [q] at hx; cases hx
    | some d =>
      rw [q] at hx
      exact ⟨d, rfl, Option.some.inj hx⟩
  · have cc := csts_at e5.1 hx hd
    have gen : (match PySem.W.nsIn K mainGlobals x with
        | some (some u) => relD K d u
        | _ => false) = true → ∃ u v, mg x = some u ∧ RelV v u ∧ ∀ H, Dv (Gof T K w) H d v := fun cc => by
      cases q : PySem.W.nsIn K mainGlobals x with
      | none => rw [q] at cc; cases cc
      | some z =>
        cases z with
        | none => rw [q] at cc; cases cc
        | some u =>
          rw [q] at cc
          obtain ⟨v, r, dv⟩ := relD_ok (G := Gof T K w) rfl d u cc
          exact ⟨u, v, PySem.W.mg_of X G q, r, dv⟩
    cases d with
    | dic kvs =>
      have c2 := ee (show (refB K x && dicB K (He.ga K x) kvs) = true from cc)
      obtain ⟨t, tm, te⟩ := tabs_mem hx hd
      have me : (tabs T.cst Pr.cst).map (fun t => He.dicW K (t.1 K)) = (tabs T.cst Pr.cst).map fun t => some (He.keysIn w.params t.2) := congrArg (fun z : He.AlT => z.2) c.t
      have m2 := List.map_inj_left.mp me t tm
      have kd := He.dicW_ok m2
      rw [te] at kd
      exact ⟨_, .ref (He.ga K x), refB_ok X G c2.1, rfl, dicB_ok (G := Gof T K w) (w := w) rfl rfl c2.2 kd⟩
    | _ => exact gen cc
  · have hc := clsAt i (lt_of hx)
    show mg x = some (.ref (He.ga K (T.cls.getD i "")))
    rw [getD_of hx] at hc ⊢
    exact refB_ok X G (ee hc).1
  · exact (ee (ee (clsAt i hi)).2).1
  · have z := List.all_eq_true.mp e4.1 a (List.mem_range.mpr ha)
    exact isB_ok (ee (List.all_eq_true.mp z b (List.mem_range.mpr hb))).1
  · have z := List.all_eq_true.mp e4.1 a (List.mem_range.mpr ha)
    exact isB_ok (ee (List.all_eq_true.mp z b (List.mem_range.mpr hb))).2
  · exact isB_ok (ee (ee (ee (clsAt i hi)).2).2).1
  · have z := (ee (ee (ee (clsAt i hi)).2).2).2
    have z1 := ee z
    have z2 := ee z1.2
    have z3 := ee z2.2
    exact ⟨z1.1, z2.1, isB_ok z3.1, isTy_ok z3.2⟩
  · have t := s5.2
    unfold tldB at t
    rw [hx] at t
    have t1 := ee t
    refine ⟨?_, ?_⟩
    · obtain ⟨d, hd', ht⟩ := List.any_eq_true.mp t1.1
      obtain ⟨i, hi, e⟩ := List.mem_iff_getElem.mp hd'
      unfold toldD at ht
      split at ht
      · rename_i a a' en hp hn
        have h1 := ee ht
        have h2 := ee h1.2
        have h3 := ee h2.2
        exact ⟨i, d, a, en, by rw [List.getElem?_eq_getElem hi, e], de h1.1, hp, h3.1, h3.2⟩
      · cases ht
    · cases q : ds[w]? with
      | none =>
        have t2 := t1.2
        rw [q] at t2
        cases t2
      | some dw =>
        have t2 := t1.2
        rw [q] at t2
        exact ⟨dw, rfl, de (ee t2).1, (ee t2).2⟩
/-- what the law's end wants -/
theorem law_of (m : ModF T Pr ds (Gof T K w) w K mg) {i k n : Nat} {d : DefF} (hd : ds[i]? = some d) (hp : d.ps.length = 1) (law : ∀ ns : List Int, ns.length ≤ n → lev Pr k i [.scr ns] = .ok (.bl true)) :
    ∀ (H : Hp) (a : Addr) (ns : List Int), ns.length ≤ n → TabQ H → SqL K H a (ns.map V.int) → spD (Gof T K w) d.ps.length (lev Pr k i) [.ref a] H (fun v _ => v = .bl true) fun _ _ _ => False := by
  intro H a ns hl ht hS
  refine ⟨hp.symm, [], [.scr ns], ⟨(fun _ h => by cases h), ht⟩, ⟨.ref a, [], rfl, ⟨a, rfl, ?_⟩, rfl⟩, ?_⟩
  · have s : Same H (hid H []) := fun b o e _ => by rw [hid_at (by simp)]; exact e
    exact s.seq hS
  · rw [law ns hl]
    exact fun v H' _ hv => hv
end
/-- an exception, whatever the world -/
def CXa (P : Program) : CXT := fun outer H s E e s' => ∃ w, L2.CX P w outer H s E e s'
theorem cxa_no {P : Program} {outer : List PySem.Env} {H : Hp} {s : Shared} {e : Value} {s' : Shared} (h : CXa P outer H s (fun _ _ _ => False) e s') : False := by
  obtain ⟨w, a, B, H', cls, d, _, _, _, _, _, _, _, z⟩ := h
  exact z
theorem fn_cxa {P : Program} {w : World} {K : PySem.W.Frag} {mg : Str → Option Value} {base : Heap} {k : Nat} {f : Addr} {fd : FuncData} {ps : List Str} {sp : Sp} (F : FnOk P w K mg base (L2.CX P w) k f fd ps sp) : FnOk P w K mg base (CXa P) k f fd ps sp :=
  ⟨F.len, fun A outer s H args us vs Q E hr e0 hb hv hs => codeAny_mono (F.run A outer s H args us vs Q E hr e0 hb hv hs) fun r s' h => by
    cases r with
    | ok c => cases c <;> exact h
    | error e => exact ⟨w, h⟩⟩
def BindOk (d : DefF) : Prop := ∀ (kV doc pm : Value) (an : Option Addr) (cdv ct : Value) (us : List Value), us.length = d.ps.length → bindArgs (PySem.W.fnOf d.x d.x d.args d.body d.scope .none kV doc pm an cdv ct) ⟨us, []⟩ = pure (d.ps.zip us)
def AllB : List DefF → Prop
  | [] => True
  | d :: r => BindOk d ∧ AllB r
omit [Tbls] in
theorem allB : ∀ {ds : List DefF}, AllB ds → ∀ d ∈ ds, BindOk d
  | [], _, _, h => by cases h
  | _ :: r, h, d, hd => by
    rcases List.mem_cons.mp hd with rfl | hd
    · exact h.1
    · exact allB h.2 d hd
omit [Tbls] in
theorem bd {d : DefF} (n : Nat) (hn : d.ps.length = n) (h : ∀ (kV doc pm : Value) (an : Option Addr) (cdv ct : Value) (us : List Value), us.length = n → bindArgs (PySem.W.fnOf d.x d.x d.args d.body d.scope .none kV doc pm an cdv ct) ⟨us, []⟩ = pure (d.ps.zip us)) : BindOk d :=
  fun kV doc pm an cdv ct us hl => h kV doc pm an cdv ct us (hl.trans hn)
end
theorem nodup_at {α β : Type} {f : α → β} : ∀ {l : List α}, (l.map f).Nodup → ∀ x ∈ l, ∀ y ∈ l, f x = f y → x = y
  | [], _, _, h, _, _, _ => by cases h
  | a :: l, nd, x, hx, y, hy, e => by
    have nd' := List.nodup_cons.mp (show (f a :: l.map f).Nodup from nd)
    rcases List.mem_cons.mp hx with ex | hx2
    · rcases List.mem_cons.mp hy with ey | hy2
      · rw [ex, ey]
      · exact absurd (List.mem_map.mpr ⟨y, hy2, by rw [← e, ex]⟩) nd'.1
    · rcases List.mem_cons.mp hy with ey | hy2
      · exact absurd (List.mem_map.mpr ⟨x, hx2, by rw [e, ey]⟩) nd'.1
      · exact nodup_at nd'.2 x hx2 y hy2 e
/-- the tables of the defs that hold lambdas -/
@[reducible] def tblOf (T : Tb) (K : PySem.W.Frag) : Tbls := ⟨T.lamd.map fun x => ((He.cT K (x, none)).2, (x ++ ".<locals>.") ++ "<lambda>")⟩
def tfOf (T : Tb) : List He.Defn := T.lamd.map fun x => (x, none)
section
variable {T : Tb} {Pr : Prg} {ds : List DefF} {w : World} {K : PySem.W.Frag} {h : Heap} {mg : Str → Option Value}
theorem lams_of (hs : T.fns = ds.map (·.x)) (nd : (T.lamd.map fun x => (He.cT K (x, none)).2).Nodup) {base : Heap} (TB : ∀ p ∈ T.lamd.map (fun x => He.cT K (x, none)), LamX.TabB base mg p.1 p.2) : letI := tblOf T K; LamsOk T ds (Gof T K w) K mg base := by
  letI := tblOf T K
  intro i d fd hi hl F
  have hm : d.x ∈ T.lamd := by simpa using hl
  have hg : (Gof T K w).fns i = He.ga K d.x := by
    show He.ga K (T.fns.getD i "") = _
    rw [getD_of (by rw [hs, List.getElem?_map, hi]; rfl)]
  rw [hg] at F
  obtain ⟨oc, od, dV, kV, doc, pm, an, cdv, ct, osl, rfl, lk, hcd, _, _⟩ := F.ex
  obtain ⟨c, rfl⟩ := He.codeIn_ref hcd
  have ec : He.codeOf K (d.x, none) = c := He.codeOf_eq (p := (d.x, none)) lk rfl
  have tb := TB (He.cT K (d.x, none)) (List.mem_map.mpr ⟨d.x, hm, rfl⟩)
  refine ⟨c, (He.cT K (d.x, none)).2, ?_, rfl, List.mem_map.mpr ⟨d.x, hm, rfl⟩, fun p hp e => ?_⟩
  · have z : (He.cT K (d.x, none)).1 = c := ec
    rw [z] at tb
    exact tb
  · obtain ⟨y, hy, rfl⟩ := List.mem_map.mp hp
    have : y = d.x := nodup_at nd y hy d.x hm e
    rw [this]
    rfl
/-- what the end wants of the law -/
theorem law_at {l : PySem.W.OpenLaw} (X : K.In h) (G : h.Ns mainGlobals mg) (fa : List He.Fa) (c : He.SaysX fa (ds.map defOf) (tabs T.cst Pr.cst) (tfOf T) (exB T Pr) w h K) (st : stB T Pr ds = true) (hd : Pr.defs = ds.map (·.ir)) (hb : AllB ds)
    {i k n : Nat} {d : DefF} {x : Str} (hdl : ds[i]? = some d) (hp : d.ps = [x]) (law : ∀ ns : List Int, ns.length ≤ n → lev Pr k i [.scr ns] = .ok (.bl true)) {f : Addr} (hmg : mg d.x = some (.ref f)) : LamX.LawAtS l w K (L2.CX l.prog w) k n x mg f h := by
  letI := tblOf T K
  have m := mod_of X G fa c st hd (allB hb)
  obtain ⟨_, _, _, hm, fd, F, b⟩ := m.defs i d hdl
  have ea : f = (Gof T K w).fns i := by
    rw [hmg] at hm
    injection hm with e2
    injection e2
  subst ea
  have nd : (T.lamd.map fun x => (He.cT K (x, none)).2).Nodup := by
    have e1 := ee (show (T.fns.all (refB K) && (bltNames.all (frB K) && (T.cls.all (clsB K) && (subsB K Pr.sub T.cls && (cstsB K T.cst Pr.cst && decide (T.lamd.map fun x => (He.cT K (x, none)).2).Nodup))))) = true from c.more)
    exact de (ee (ee (ee (ee e1.2).2).2).2).2
  have tm : ∀ p ∈ T.lamd.map (fun x => He.cT K (x, none)), ∃ q ∈ tfOf T, p = He.cT K q := fun p hp => by
    obtain ⟨y, hy, rfl⟩ := List.mem_map.mp hp
    exact ⟨(y, none), List.mem_map.mpr ⟨y, hy, rfl⟩, rfl⟩
  refine ⟨fd, T.lamd.map (fun x => He.cT K (x, none)), spD (Gof T K w) 1 (lev Pr k i), fun p hp => ?_, fun p hp => ?_, fun p hp => ?_, fun s u => ?_, fun H a ns hl _ ht hS => ?_, fun base KB _ TB => ?_⟩
  · obtain ⟨q, hq, rfl⟩ := tm p hp
    exact c.empty q hq
  · obtain ⟨q, hq, rfl⟩ := tm p hp
    exact c.out q hq
  · obtain ⟨q, hq, rfl⟩ := tm p hp
    exact PySem.W.codeHd_of_K X (c.hd q hq)
  · have z := L2.FunD.bindsA (ps := d.ps) F (allB hb d (List.mem_of_getElem? hdl)) s [u] (by rw [hp]; rfl)
    rw [hp] at z
    exact z
  · have z := law_of m hdl (by rw [hp]; rfl) law H a ns hl (fun q hq => ?_) hS
    · rw [hp] at z
      exact z
    · obtain ⟨y, hy, rfl⟩ := List.mem_map.mp (show q ∈ T.lamd.map fun x => ((He.cT K (x, none)).2, (x ++ ".<locals>.") ++ "<lambda>") from hq)
      exact LamX.TabS.nil (ht (He.cT K (y, none)) (List.mem_map.mpr ⟨y, hy, rfl⟩))
  · have st1 := (ee st).1
    have z := lev_ok (P := l.prog) (base := base) m (lams_of (w := w) (de st1) nd TB) k i d fd hdl F
    rw [hp] at z
    exact z
end
end FD
namespace FD
theorem lev_at {P : Prg} {f : Nat} {d : IDef} (h : P.defs[f]? = some d) (k : Nat) (xs : List D) : lev P (k + 1) f xs = runDef ⟨lev P k, P.sub, P.cst, P.nc⟩ d xs := by
  show (match P.defs[f]? with
    | some d => runDef ⟨lev P k, P.sub, P.cst, P.nc⟩ d xs
    | none => (match decide (f = 999) with
      | true => R.ok D.non
      | false => (match decide (1000 ≤ f) with
        | true => lev P k (f - 1000) xs
        | false => .bad))) = _
  rw [h]
def cellD : IDef := ⟨2, 2, (.cons (.iff (.cmp .lt (.var 1) (.bi .len (.cons (.var 0) .nil))) (.cons (.ret (.idx (.var 0) (.var 1))) .nil) .nil) (.cons (.iff (.cmp .eq (.var 0) (.lst .nil)) (.cons (.ret (.cst (.int 0))) .nil) .nil) (.cons (.ret (.bin .add (.bin .mul (.idx (.var 0) (.bin .mod (.var 1) (.bi .len (.cons (.var 0) .nil)))) (.cst (.int 31))) (.var 1))) .nil)))⟩
def pickD (c : Nat) : IDef := ⟨3, 4, (.cons (.asg (.nm 3) (.bin .mod (.bin .mul (.bin .add (.call c (.cons (.var 0) (.cons (.var 1) .nil))) (.bin .mul (.cst (.int 6151)) (.bin .add (.var 1) (.cst (.int 1))))) (.cst (.int 40692))) (.cst (.int 2147483399)))) (.cons (.ret (.bin .mod (.bin .mod (.bin .add (.bin .mul (.var 3) (.var 3)) (.bin .fdiv (.var 3) (.cst (.int 31)))) (.cst (.int 2147483629))) (.var 2))) .nil))⟩
theorem place_in {n : Nat} {i : Int} (h0 : 0 ≤ i) (h1 : i < n) : place n i = some i.toNat := by
  unfold place
  rw [if_pos h0, if_pos h1]
theorem mulOk_r {i j : Int} (h : decide (j.natAbs < 18446744073709551616) = true) : mulOk i j = true := by
  unfold mulOk
  rw [h, Bool.or_true]
theorem cell_all {P : Prg} {c : Nat} (hc : P.defs[c]? = some cellD) (ns : List Int) (j : Int) (hj : 0 ≤ j) : ∃ v, ∀ k, lev P (k + 1) c [.scr ns, .int j] = .ok (.int v) := by
  by_cases h1 : j < ns.length
  · have e1 : place ns.length j = some j.toNat := place_in hj h1
    have hl : j.toNat < ns.length := by omega
    have e2 : ns[j.toNat]? = some ns[j.toNat] := List.getElem?_eq_getElem hl
    refine ⟨ns[j.toNat], fun k => ?_⟩
    rw [lev_at hc]
    simp [runDef, cellD, start, exSs, exS, evE, evT, evL, getV, R.bind, R.st, noexc, truth, cmpEv, ordEv, ordD, ordI, guard', shp, biEv, un1, lenD, idxEv, h1, e1, e2]
  · by_cases h2 : ns = []
    · subst h2
      have h3 : ¬ j < 0 := by omega
      exact ⟨0, fun k => by rw [lev_at hc]; simp [runDef, cellD, start, exSs, exS, evE, evT, evL, getV, R.bind, R.st, noexc, truth, cmpEv, ordEv, ordD, ordI, guard', shp, biEv, un1, lenD, h3]⟩
    · have hp : 0 < ns.length := List.length_pos_iff.mpr h2
      have m1 : 0 ≤ j % (ns.length : Int) := Int.emod_nonneg _ (by omega)
      have m2 : j % (ns.length : Int) < ns.length := Int.emod_lt_of_pos _ (by omega)
      have e1 : place ns.length (j % (ns.length : Int)) = some (j % (ns.length : Int)).toNat := place_in m1 m2
      have hl : (j % (ns.length : Int)).toNat < ns.length := by omega
      have e2 : ns[(j % (ns.length : Int)).toNat]? = some ns[(j % (ns.length : Int)).toNat] := List.getElem?_eq_getElem hl
      have e3 : ns.isEmpty = false := by cases ns <;> first | rfl | exact absurd rfl h2
      have e4 : ∀ i : Int, mulOk i 31 = true := fun i => mulOk_r (by decide)
      have e5 : (0 : Int) < ns.length := by omega
      refine ⟨ns[(j % (ns.length : Int)).toNat] * 31 + j, fun k => ?_⟩
      rw [lev_at hc]
      simp [runDef, cellD, start, exSs, exS, evE, evT, evL, getV, R.bind, R.st, noexc, truth, cmpEv, ordEv, ordD, ordI, guard', shp, biEv, un1, lenD, idxEv, binEv, h1, e3, e1, e2, e4, hp]
theorem pick_all {P : Prg} {c p : Nat} (hc : P.defs[c]? = some cellD) (hp : P.defs[p]? = some (pickD c)) (ns : List Int) (j m : Int) (hj : 0 ≤ j) (hm : 0 < m) : ∃ v, 0 ≤ v ∧ v < m ∧ ∀ k, lev P (k + 2) p [.scr ns, .int j, .int m] = .ok (.int v) := by
  obtain ⟨x, ex⟩ := cell_all hc ns j hj
  have e1 : ∀ i : Int, mulOk i 40692 = true := fun i => mulOk_r (by decide)
  have e2 : mulOk 6151 (j + 1) = true := by
    unfold mulOk
    rfl
  generalize hd : (x + 6151 * (j + 1)) * 40692 % 2147483399 = d
  have d1 : 0 ≤ d := by omega
  have d2 : d < 2147483399 := by omega
  have e3 : mulOk d d = true := mulOk_r (decide_eq_true (by omega))
  refine ⟨(d * d + d / 31) % 2147483629 % m, Int.emod_nonneg _ (by omega), Int.emod_lt_of_pos _ hm, fun k => ?_⟩
  rw [lev_at hp]
  simp [runDef, pickD, start, exSs, exS, evE, evT, evL, getV, R.bind, R.st, noexc, guard', binEv, ex, e1, e2, e3, hd, hm, putP]
theorem cell_ok {P : Prg} {c : Nat} (hc : P.defs[c]? = some cellD) (k : Nat) (ns : List Int) (j : Int) (hj : 0 ≤ j) : ∃ v, lev P (k + 1) c [.scr ns, .int j] = .ok (.int v) :=
  let ⟨v, h⟩ := cell_all hc ns j hj
  ⟨v, h k⟩
theorem pick_ok {P : Prg} {c p : Nat} (hc : P.defs[c]? = some cellD) (hp : P.defs[p]? = some (pickD c)) (k : Nat) (ns : List Int) (j m : Int) (hj : 0 ≤ j) (hm : 0 < m) : ∃ v, 0 ≤ v ∧ v < m ∧ lev P (k + 2) p [.scr ns, .int j, .int m] = .ok (.int v) :=
  let ⟨v, h0, h1, h⟩ := pick_all hc hp ns j m hj hm
  ⟨v, h0, h1, h k⟩
def rateD (p : Nat) : IDef := ⟨2, 2, (.cons (.ret (.idx (.lst (.cons (.cst (.str ⟨#[102, 105, 108, 109]⟩)) (.cons (.cst (.str ⟨#[101, 117, 114, 111, 112, 101]⟩)) (.cons (.cst (.str ⟨#[112, 108, 97, 105, 110]⟩)) (.cons (.cst (.str ⟨#[100, 114, 111, 112]⟩)) (.cons (.cst (.str ⟨#[102, 97, 115, 116]⟩)) (.cons (.cst (.str ⟨#[102, 97, 115, 116, 32, 100, 114, 111, 112]⟩)) (.cons (.cst (.str ⟨#[100, 114, 111, 112]⟩)) (.cons (.cst (.str ⟨#[102, 97, 115, 116, 32, 100, 114, 111, 112]⟩)) .nil))))))))) (.call p (.cons (.var 0) (.cons (.var 1) (.cons (.cst (.int 8)) .nil)))))) .nil)⟩
def rates : List PySem.Str := [⟨#[102, 105, 108, 109]⟩, ⟨#[101, 117, 114, 111, 112, 101]⟩, ⟨#[112, 108, 97, 105, 110]⟩, ⟨#[100, 114, 111, 112]⟩, ⟨#[102, 97, 115, 116]⟩, ⟨#[102, 97, 115, 116, 32, 100, 114, 111, 112]⟩]
def rates8 : List PySem.Str := [⟨#[102, 105, 108, 109]⟩, ⟨#[101, 117, 114, 111, 112, 101]⟩, ⟨#[112, 108, 97, 105, 110]⟩, ⟨#[100, 114, 111, 112]⟩, ⟨#[102, 97, 115, 116]⟩, ⟨#[102, 97, 115, 116, 32, 100, 114, 111, 112]⟩, ⟨#[100, 114, 111, 112]⟩, ⟨#[102, 97, 115, 116, 32, 100, 114, 111, 112]⟩]
theorem rate_all {P : Prg} {c p r : Nat} (hc : P.defs[c]? = some cellD) (hp : P.defs[p]? = some (pickD c)) (hr : P.defs[r]? = some (rateD p)) (ns : List Int) (j : Int) (hj : 0 ≤ j) : ∃ x ∈ rates, ∀ k, lev P (k + 3) r [.scr ns, .int j] = .ok (.str x) := by
  obtain ⟨v, v0, v1, ev⟩ := pick_all hc hp ns j 8 hj (by decide)
  have e1 : place 8 v = some v.toNat := place_in v0 (by omega)
  have hv : v.toNat < rates8.length := by
    show v.toNat < 8
    omega
  have e2 : rates8[v.toNat]? = some rates8[v.toNat] := List.getElem?_eq_getElem hv
  have e3 : (rates8.map D.str)[v.toNat]? = some (.str rates8[v.toNat]) := by rw [List.getElem?_map, e2]; rfl
  refine ⟨rates8[v.toNat], ?_, ?_⟩
  · have : ∀ x ∈ rates8, x ∈ rates := by decide +kernel
    exact this _ (List.getElem_mem hv)
  · intro k
    rw [lev_at hr]
    have e4 : idxEv (.lst (rates8.map D.str)) (.int v) = .ok (.str rates8[v.toNat]) := by
      show (match place 8 v with
        | some m => (match (rates8.map D.str)[m]? with | some d => R.ok d | none => .bad)
        | none => .bad) = _
      rw [e1]
      show (match (rates8.map D.str)[v.toNat]? with | some d => R.ok d | none => .bad) = _
      rw [e3]
    have e5 : evE ⟨lev P (k + 2), P.sub, P.cst, P.nc⟩ (.idx (.lst (.cons (.cst (.str ⟨#[102, 105, 108, 109]⟩)) (.cons (.cst (.str ⟨#[101, 117, 114, 111, 112, 101]⟩)) (.cons (.cst (.str ⟨#[112, 108, 97, 105, 110]⟩)) (.cons (.cst (.str ⟨#[100, 114, 111, 112]⟩)) (.cons (.cst (.str ⟨#[102, 97, 115, 116]⟩)) (.cons (.cst (.str ⟨#[102, 97, 115, 116, 32, 100, 114, 111, 112]⟩)) (.cons (.cst (.str ⟨#[100, 114, 111, 112]⟩)) (.cons (.cst (.str ⟨#[102, 97, 115, 116, 32, 100, 114, 111, 112]⟩)) .nil))))))))) (.call p (.cons (.var 0) (.cons (.var 1) (.cons (.cst (.int 8)) .nil))))) [.pv (.scr ns), .pv (.int j)] = .ok (.str rates8[v.toNat]) := by
      show (lev P (k + 2) p [.scr ns, .int j, .int 8]).bind (fun y => noexc (idxEv (.lst (rates8.map D.str)) y)) = _
      rw [ev]
      show noexc (idxEv (.lst (rates8.map D.str)) (.int v)) = _
      rw [e4]
      rfl
    show (match (match (evE _ _ [.pv (.scr ns), .pv (.int j)]).st _ (fun d => SR.rt d) with
      | .nx ρ' => exSs _ .nil ρ'
      | z => z) with
      | .nx _ => R.ok D.non
      | .rt v => .ok v
      | .ex c _ => .exc c
      | _ => .bad) = _
    rw [e5]
theorem rate_ok {P : Prg} {c p r : Nat} (hc : P.defs[c]? = some cellD) (hp : P.defs[p]? = some (pickD c)) (hr : P.defs[r]? = some (rateD p)) (k : Nat) (ns : List Int) (j : Int) (hj : 0 ≤ j) : ∃ x ∈ rates, lev P (k + 3) r [.scr ns, .int j] = .ok (.str x) :=
  let ⟨x, h0, h⟩ := rate_all hc hp hr ns j hj
  ⟨x, h0, h k⟩
section
variable {o : Out} {ρ ρ' : Env} {s : IS} {r : ISs} {e c : IE} {a b : ISs} {d : D}
theorem x_seq (h : exS o s ρ = .nx ρ') : exSs o (.cons s r) ρ = exSs o r ρ' := by
  show (match exS o s ρ with
    | .nx ρ' => exSs o r ρ'
    | z => z) = _
  rw [h]
theorem x_end (h : exS o s ρ = .rt d) : exSs o (.cons s r) ρ = .rt d := by
  show (match exS o s ρ with
    | .nx ρ' => exSs o r ρ'
    | z => z) = _
  rw [h]
theorem x_ret (h : evE o e ρ = .ok d) : exSs o (.cons (.ret e) r) ρ = .rt d := x_end (by
  show (evE o e ρ).st ρ (fun d => SR.rt d) = _
  rw [h])
theorem x_iff {t : Bool} (h : evT o c ρ = .ok t) : exS o (.iff c a b) ρ = if t = true then exSs o a ρ else exSs o b ρ := by
  show (evT o c ρ).st ρ (fun t => match t with
    | true => exSs o a ρ
    | false => exSs o b ρ) = _
  rw [h]
  cases t <;> rfl
theorem x_asg {i : Nat} (h : evE o e ρ = .ok d) : exS o (.asg (.nm i) e) ρ = .nx (ρ.set i (.pv d)) := by
  show (evE o e ρ).st ρ (fun d => (putP (.nm i) d ρ).st ρ fun ρ' => SR.nx ρ') = _
  rw [h]
  rfl
theorem x_tup {p : Pat} (h : evE o e ρ = .ok d) (h2 : putP p d ρ = .ok ρ') : exS o (.asg p e) ρ = .nx ρ' := by
  show (evE o e ρ).st ρ (fun d => (putP p d ρ).st ρ fun ρ' => SR.nx ρ') = _
  rw [h]
  show (putP p d ρ).st ρ (fun ρ' => SR.nx ρ') = _
  rw [h2]
theorem x_par2 {i j : Nat} {x y : IE} {dx dy : D} (hx : evE o x ρ = .ok dx) (hy : evE o y ρ = .ok dy) : exS o (.par [i, j] (.cons x (.cons y .nil))) ρ = .nx ((ρ.set i (.pv dx)).set j (.pv dy)) := by
  show ((evE o x ρ).bind fun a => ((evE o y ρ).bind fun b => (R.ok [] : R (List D)).bind fun z => .ok (b :: z)).bind fun xs => .ok (a :: xs)).st ρ (fun ds => putN [i, j] ds ρ) = _
  rw [hx, hy]
  rfl
theorem x_expr (h : evE o e ρ = .ok d) : exS o (.expr e) ρ = .nx ρ := by
  show (evE o e ρ).st ρ (fun _ => SR.nx ρ) = _
  rw [h]
theorem v_call {f : Nat} {es : IEs} {xs : List D} (h : evL o es ρ = .ok xs) : evE o (.call f es) ρ = o.call f xs := by
  show (evL o es ρ).bind (fun xs => o.call f xs) = _
  rw [h]
theorem v_T {t : Bool} (h : evE o e ρ = .ok (.bl t)) : evT o e ρ = .ok t := by
  show (evE o e ρ).bind truth = _
  rw [h]
  rfl
theorem r_rt {f : IDef} {xs : List D} (hl : xs.length = f.np) (h : exSs o f.body (start f xs) = .rt d) : runDef o f xs = .ok d := by
  unfold runDef
  rw [decide_eq_true hl, h]
theorem r_nx {f : IDef} {xs : List D} (hl : xs.length = f.np) (h : exSs o f.body (start f xs) = .nx ρ) : runDef o f xs = .ok .non := by
  unfold runDef
  rw [decide_eq_true hl, h]
theorem r_ex {f : IDef} {xs : List D} {c : Nat} (hl : xs.length = f.np) (h : exSs o f.body (start f xs) = .ex c ρ) : runDef o f xs = .exc c := by
  unfold runDef
  rw [decide_eq_true hl, h]
end
end FD
namespace FD
/-- F at i, i + 1, .., n of them -/
def mapL (F : Int → Int) (i : Int) : Nat → List D
  | 0 => []
  | n + 1 => .int (F i) :: mapL F (i + 1) n
theorem mapL_len (F : Int → Int) : ∀ (n : Nat) (i : Int), (mapL F i n).length = n
  | 0, _ => rfl
  | n + 1, i => congrArg (· + 1) (mapL_len F n (i + 1))
theorem mapL_get (F : Int → Int) : ∀ (n : Nat) (i : Int) (m : Nat), m < n → (mapL F i n)[m]? = some (.int (F (i + m)))
  | 0, _, _, h => by omega
  | n + 1, i, 0, _ => by
    show some (D.int (F i)) = _
    rw [show i + ((0 : Nat) : Int) = i by omega]
  | n + 1, i, m + 1, h => by
    show (mapL F (i + 1) n)[m]? = _
    rw [mapL_get F n (i + 1) m (by omega)]
    rw [show i + 1 + (m : Int) = i + ((m + 1 : Nat) : Int) by omega]
theorem mapL_congr {F G : Int → Int} : ∀ (n : Nat) (i : Int), (∀ t, i ≤ t → t < i + n → F t = G t) → mapL F i n = mapL G i n
  | 0, _, _ => rfl
  | n + 1, i, h => by
    show D.int (F i) :: mapL F (i + 1) n = D.int (G i) :: mapL G (i + 1) n
    rw [h i (Int.le_refl i) (by omega), mapL_congr n (i + 1) fun t h1 h2 => h t (by omega) (by omega)]
theorem mapL_add (F : Int → Int) : ∀ (m n : Nat) (i : Int), mapL F i (m + n) = mapL F i m ++ mapL F (i + m) n
  | 0, n, i => by
    rw [Nat.zero_add]
    show _ = mapL F (i + ((0 : Nat) : Int)) n
    rw [show i + ((0 : Nat) : Int) = i by omega]
  | m + 1, n, i => by
    rw [show m + 1 + n = (m + n) + 1 by omega]
    show D.int (F i) :: mapL F (i + 1) (m + n) = D.int (F i) :: (mapL F (i + 1) m ++ mapL F (i + ((m + 1 : Nat) : Int)) n)
    rw [mapL_add F m n (i + 1), show i + 1 + (m : Int) = i + ((m + 1 : Nat) : Int) by omega]
theorem mapL_take (F : Int → Int) {m n : Nat} (h : m ≤ n) (i : Int) : (mapL F i n).take m = mapL F i m := by
  rw [show n = m + (n - m) by omega, mapL_add]
  exact List.take_left' (mapL_len F m i)
theorem mapL_cut (F : Int → Int) {n : Nat} {m : Int} (h0 : 0 ≤ m) (h : m ≤ n) : cut (mapL F 0 n) none (some m) = mapL F 0 m.toNat := by
  have e : sbound (mapL F 0 n).length (mapL F 0 n).length (some m) = m.toNat := by
    rw [mapL_len]
    show (if m < 0 then _ else if m < n then m.toNat else n) = _
    rw [if_neg (by omega)]
    by_cases h1 : m < n
    · rw [if_pos h1]
    · rw [if_neg h1]
      omega
  show ((mapL F 0 n).drop (sbound (mapL F 0 n).length 0 none)).take (sbound (mapL F 0 n).length (mapL F 0 n).length (some m) - sbound (mapL F 0 n).length 0 none) = _
  rw [e]
  show ((mapL F 0 n).drop 0).take (m.toNat - 0) = _
  rw [List.drop_zero, Nat.sub_zero]
  exact mapL_take F (by omega) 0
theorem mapL_shps (F : Int → Int) (k : Nat) : ∀ (n : Nat) (i : Int), shps k (mapL F i n) = true
  | 0, _ => by simp [mapL, shps]
  | n + 1, i => by
    have := mapL_shps F k n (i + 1)
    simp [mapL, shps, shp, this]
theorem mapL_eqvs (F : Int → Int) : ∀ (n : Nat) (i : Int), eqvs (mapL F i n) (mapL F i n) = true
  | 0, _ => by simp [mapL, eqvs]
  | n + 1, i => by
    have := mapL_eqvs F n (i + 1)
    simp [mapL, eqvs, eqv, this]
theorem mapL_eqOk (F G : Int → Int) (n m : Nat) (i j : Int) : eqOk (.lst (mapL F i n)) (.lst (mapL G j m)) = true := by
  simp [eqOk, shp, mapL_shps]
/-- the sum of the steps of G -/
theorem mapL_sum (F G : Int → Int) : ∀ (n : Nat) (i : Int), (∀ t, i ≤ t → t < i + n → F t = G (t + 1) - G t) → ∃ l, intsD (mapL F i n) = some l ∧ l.sum = G (i + n) - G i
  | 0, i, _ => ⟨[], rfl, by
    show (0 : Int) = _
    rw [show i + ((0 : Nat) : Int) = i by omega]
    omega⟩
  | n + 1, i, h => by
    obtain ⟨l, e, s⟩ := mapL_sum F G n (i + 1) fun t h1 h2 => h t (by omega) (by omega)
    refine ⟨F i :: l, ?_, ?_⟩
    · show (match intsD (mapL F (i + 1) n) with | some l => some (F i :: l) | none => none) = _
      rw [e]
    · rw [List.sum_cons, s, h i (Int.le_refl i) (by omega), show i + 1 + (n : Int) = i + ((n + 1 : Nat) : Int) by omega]
      omega
theorem lcGo_map {f : Env → R Bool} {g : Env → R D} {j : Nat} {ρ : Env} {F : Int → Int} : ∀ (n : Nat) (i : Int), (∀ t, i ≤ t → t < i + n → f (ρ.set j (.pv (.int t))) = .ok true ∧ g (ρ.set j (.pv (.int t))) = .ok (.int (F t))) → lcGo f g (.nm j) ρ (rangeL i n) = .ok (mapL F i n)
  | 0, _, _ => rfl
  | n + 1, i, h => by
    obtain ⟨h1, h2⟩ := h i (Int.le_refl i) (by omega)
    have ih := lcGo_map (f := f) (g := g) (j := j) (ρ := ρ) (F := F) n (i + 1) fun t h1 h2 => h t (by omega) (by omega)
    show (R.ok (ρ.set j (.pv (.int i)))).bind (fun ρ' => (f ρ').bind fun b => match b with
      | true => (g ρ').bind fun y => (lcGo f g (.nm j) ρ (rangeL (i + 1) n)).bind fun ys => .ok (y :: ys)
      | false => lcGo f g (.nm j) ρ (rangeL (i + 1) n)) = _
    show (f (ρ.set j (.pv (.int i)))).bind (fun b => match b with
      | true => (g (ρ.set j (.pv (.int i)))).bind fun y => (lcGo f g (.nm j) ρ (rangeL (i + 1) n)).bind fun ys => .ok (y :: ys)
      | false => lcGo f g (.nm j) ρ (rangeL (i + 1) n)) = _
    rw [h1]
    show (g (ρ.set j (.pv (.int i)))).bind (fun y => (lcGo f g (.nm j) ρ (rangeL (i + 1) n)).bind fun ys => .ok (y :: ys)) = _
    rw [h2, ih]
    rfl
theorem rep_mapL {F : Int → Int} {x : Int} : ∀ (n : Nat) (i : Int), (∀ t, i ≤ t → t < i + n → F t = x) → repeat' [D.int x] n = mapL F i n
  | 0, _, _ => rfl
  | n + 1, i, h => by
    show D.int x :: repeat' [D.int x] n = D.int (F i) :: mapL F (i + 1) n
    rw [h i (Int.le_refl i) (by omega), rep_mapL n (i + 1) fun t h1 h2 => h t (by omega) (by omega)]
/-- a comprehension over range(n) -/
theorem v_lc {o : Out} {elt a : IE} {j : Nat} {ρ : Env} {F : Int → Int} {n : Int} (ha : evE o a ρ = .ok (.int n)) (hr : rngOk n = true) (hn : n.toNat ≤ lim) (h : ∀ t, 0 ≤ t → t < n → evE o elt ((ρ.set j .un).set j (.pv (.int t))) = .ok (.int (F t))) : evE o (.lc elt (.nm j) (.rng1 a) .nil) ρ = .ok (.lst (mapL F 0 n.toNat)) := by
  show ((evE o a ρ).bind rng1D).bind (fun xs => (noexc (lcGo (evF o .nil) (evE o elt) (.nm j) (ρ.set j .un) xs)).bind fun ys => guard' (decide (ys.length ≤ lim)) (R.ok (D.lst ys))) = _
  rw [ha]
  show (guard' (rngOk n) (R.ok (rangeL 0 n.toNat))).bind (fun xs => (noexc (lcGo (evF o .nil) (evE o elt) (.nm j) (ρ.set j .un) xs)).bind fun ys => guard' (decide (ys.length ≤ lim)) (R.ok (D.lst ys))) = _
  rw [hr]
  show (noexc (lcGo (evF o .nil) (evE o elt) (.nm j) (ρ.set j .un) (rangeL 0 n.toNat))).bind (fun ys => guard' (decide (ys.length ≤ lim)) (R.ok (D.lst ys))) = _
  rw [lcGo_map n.toNat 0 fun t h1 h2 => ⟨rfl, h t h1 (by omega)⟩]
  show guard' (decide ((mapL F 0 n.toNat).length ≤ lim)) (R.ok (D.lst (mapL F 0 n.toNat))) = _
  rw [mapL_len, decide_eq_true hn]
  rfl
section
variable {o : Out} {ρ ρ' : Env}
theorem x_par3 {i j l : Nat} {x y z : IE} {dx dy dz : D} (hx : evE o x ρ = .ok dx) (hy : evE o y ρ = .ok dy) (hz : evE o z ρ = .ok dz) : exS o (.par [i, j, l] (.cons x (.cons y (.cons z .nil)))) ρ = .nx (((ρ.set i (.pv dx)).set j (.pv dy)).set l (.pv dz)) := by
  show ((evE o x ρ).bind fun a => ((evE o y ρ).bind fun b => ((evE o z ρ).bind fun c => (R.ok [] : R (List D)).bind fun w => .ok (c :: w)).bind fun w => .ok (b :: w)).bind fun xs => .ok (a :: xs)).st ρ (fun ds => putN [i, j, l] ds ρ) = _
  rw [hx, hy, hz]
  rfl
theorem v_or {p q : IE} (hp : evE o p ρ = .ok (.bl false)) (hq : evE o q ρ = .ok (.bl false)) : evE o (.or p q) ρ = .ok (.bl false) := by
  show ((evE o p ρ).bind fun x => (truth x).bind fun c => match c with
    | true => R.ok x
    | false => evE o q ρ) = _
  rw [hp]
  exact hq
theorem v_andF {p q : IE} (hp : evE o p ρ = .ok (.bl false)) : evE o (.and p q) ρ = .ok (.bl false) := by
  show ((evE o p ρ).bind fun x => (truth x).bind fun c => match c with
    | true => evE o q ρ
    | false => R.ok x) = _
  rw [hp]
  rfl
theorem v_andT {p q : IE} {d : D} (hp : evE o p ρ = .ok (.bl true)) (hq : evE o q ρ = .ok d) : evE o (.and p q) ρ = .ok d := by
  show ((evE o p ρ).bind fun x => (truth x).bind fun c => match c with
    | true => evE o q ρ
    | false => R.ok x) = _
  rw [hp]
  exact hq
theorem v_bin {op : Bop} {p q : IE} {a b : D} (hp : evE o p ρ = .ok a) (hq : evE o q ρ = .ok b) : evE o (.bin op p q) ρ = noexc (binEv op a b) := by
  show (evE o p ρ).bind (fun x => (evE o q ρ).bind fun y => noexc (binEv op x y)) = _
  rw [hp, hq]
theorem v_cmp {op : Cop} {p q : IE} {a b : D} (hp : evE o p ρ = .ok a) (hq : evE o q ρ = .ok b) : evE o (.cmp op p q) ρ = noexc (cmpEv op a b) := by
  show (evE o p ρ).bind (fun x => (evE o q ρ).bind fun y => noexc (cmpEv op x y)) = _
  rw [hp, hq]
theorem v_idx {p q : IE} {a b : D} (hp : evE o p ρ = .ok a) (hq : evE o q ρ = .ok b) : evE o (.idx p q) ρ = noexc (idxEv a b) := by
  show (evE o p ρ).bind (fun x => (evE o q ρ).bind fun y => noexc (idxEv x y)) = _
  rw [hp, hq]
theorem v_bi1 {b : Bi} {p : IE} {a : D} (hp : evE o p ρ = .ok a) : evE o (.bi b (.cons p .nil)) ρ = noexc (biEv b [a]) := by
  show ((evE o p ρ).bind fun x => (R.ok [] : R (List D)).bind fun xs => .ok (x :: xs)).bind (fun xs => noexc (biEv b xs)) = _
  rw [hp]
theorem eq_int {a b : Int} : noexc (cmpEv .eq (.int a) (.int b)) = .ok (.bl (a == b)) := rfl
theorem ne_int {a b : Int} : noexc (cmpEv .ne (.int a) (.int b)) = .ok (.bl (!(a == b))) := rfl
theorem ne_intF {a b : Int} (h : a = b) : noexc (cmpEv .ne (.int a) (.int b)) = .ok (.bl false) := by
  subst h
  show R.ok (D.bl (!(a == a))) = _
  rw [beq_self_eq_true]
  rfl
theorem idx_mapL {F : Int → Int} {n : Nat} {t : Int} (h0 : 0 ≤ t) (h1 : t < n) : noexc (idxEv (.lst (mapL F 0 n)) (.int t)) = .ok (.int (F t)) := by
  show noexc (match place (mapL F 0 n).length t with
    | some m => (match (mapL F 0 n)[m]? with | some d => R.ok d | none => .bad)
    | none => .bad) = _
  rw [mapL_len, place_in h0 h1]
  show noexc (match (mapL F 0 n)[t.toNat]? with | some d => R.ok d | none => .bad) = _
  rw [mapL_get F n 0 t.toNat (by omega), show (0 : Int) + (t.toNat : Int) = t by omega]
  rfl
theorem ne_mapL {F : Int → Int} {n : Nat} : noexc (cmpEv .ne (.lst (mapL F 0 n)) (.lst (mapL F 0 n))) = .ok (.bl false) := by
  show noexc (guard' (eqOk (.lst (mapL F 0 n)) (.lst (mapL F 0 n))) (R.ok (D.bl (!eqv (.lst (mapL F 0 n)) (.lst (mapL F 0 n)))))) = _
  rw [mapL_eqOk, show eqv (.lst (mapL F 0 n)) (.lst (mapL F 0 n)) = true from mapL_eqvs F n 0]
  rfl
theorem eq_mapL {F : Int → Int} {n : Nat} : noexc (cmpEv .eq (.lst (mapL F 0 n)) (.lst (mapL F 0 n))) = .ok (.bl true) := by
  show noexc (guard' (eqOk (.lst (mapL F 0 n)) (.lst (mapL F 0 n))) (R.ok (D.bl (eqv (.lst (mapL F 0 n)) (.lst (mapL F 0 n)))))) = _
  rw [mapL_eqOk, show eqv (.lst (mapL F 0 n)) (.lst (mapL F 0 n)) = true from mapL_eqvs F n 0]
  rfl
theorem sum_mapL {F G : Int → Int} {n : Nat} (h : ∀ t : Int, 0 ≤ t → t < n → F t = G (t + 1) - G t) : noexc (biEv .sum [.lst (mapL F 0 n)]) = .ok (.int (G n - G 0)) := by
  obtain ⟨l, e, s⟩ := mapL_sum F G n 0 fun t h1 h2 => h t h1 (by omega)
  show noexc (match intsD (mapL F 0 n) with | some is => R.ok (D.int is.sum) | none => .bad) = _
  rw [e]
  show R.ok (D.int l.sum) = _
  rw [s, show (0 : Int) + (n : Int) = n by omega]
theorem len_mapL {F : Int → Int} {n : Nat} : noexc (biEv .len [.lst (mapL F 0 n)]) = .ok (.int n) := by
  show R.ok (D.int ((mapL F 0 n).length : Nat)) = _
  rw [mapL_len]
/-- a for whose body always goes on -/
theorem for_inv {I : Env → Prop} {p : Pat} {b : Env → SR} : ∀ (xs : List D) (ρ : Env), I ρ → (∀ ρ x, x ∈ xs → I ρ → ∃ ρ1 ρ2, putP p x ρ = .ok ρ1 ∧ b ρ1 = .nx ρ2 ∧ I ρ2) → ∃ ρ', forLoop p b xs ρ = .nx ρ' ∧ I ρ'
  | [], ρ, h, _ => ⟨ρ, rfl, h⟩
  | x :: xs, ρ, h, step => by
    obtain ⟨ρ1, ρ2, e1, e2, h2⟩ := step ρ x (List.mem_cons_self ..) h
    obtain ⟨ρ', e3, h3⟩ := for_inv xs ρ2 h2 fun ρ x hx => step ρ x (List.mem_cons_of_mem _ hx)
    refine ⟨ρ', ?_, h3⟩
    show (putP p x ρ).st ρ (fun ρ1 => match b ρ1 with
      | .nx ρ' => forLoop p b xs ρ'
      | .ct ρ' => forLoop p b xs ρ'
      | .bk ρ' => .nx ρ'
      | z => z) = _
    rw [e1]
    show (match b ρ1 with
      | .nx ρ' => forLoop p b xs ρ'
      | .ct ρ' => forLoop p b xs ρ'
      | .bk ρ' => .nx ρ'
      | z => z) = _
    rw [e2]
    exact e3
theorem for_step {p : Pat} {b : Env → SR} {x : D} {xs : List D} {ρ1 : Env} (e1 : putP p x ρ = .ok ρ1) : forLoop p b (x :: xs) ρ = (match b ρ1 with
      | .nx ρ' => forLoop p b xs ρ'
      | .ct ρ' => forLoop p b xs ρ'
      | .bk ρ' => .nx ρ'
      | z => z) := by
  show (putP p x ρ).st ρ (fun ρ1 => match b ρ1 with
      | .nx ρ' => forLoop p b xs ρ'
      | .ct ρ' => forLoop p b xs ρ'
      | .bk ρ' => .nx ρ'
      | z => z) = _
  rw [e1]
theorem x_for {p : Pat} {it : II} {b : ISs} {xs : List D} (h : evI o it ρ = .ok xs) : exS o (.for p it b) ρ = forLoop p (exSs o b) xs ρ := by
  show (evI o it ρ).st ρ (fun xs => forLoop p (exSs o b) xs ρ) = _
  rw [h]
theorem x_bk {s : IS} {r : ISs} (h : exS o s ρ = .bk ρ') : exSs o (.cons s r) ρ = .bk ρ' := by
  show (match exS o s ρ with
    | .nx ρ' => exSs o r ρ'
    | z => z) = _
  rw [h]
theorem rngOk_of {n : Int} (h0 : 0 ≤ n) (h1 : n < 4611686018427387904) : rngOk n = true := by
  unfold rngOk
  rw [decide_eq_true (by omega), decide_eq_true h1]
  rfl
theorem i_rng1 {a : IE} {n : Int} (h : evE o a ρ = .ok (.int n)) (h0 : 0 ≤ n) (h1 : n < 4611686018427387904) : evI o (.rng1 a) ρ = .ok (rangeL 0 n.toNat) := by
  show (evE o a ρ).bind rng1D = _
  rw [h]
  show guard' (rngOk n) (R.ok (rangeL 0 n.toNat)) = _
  rw [rngOk_of h0 h1]
  rfl
theorem mem_rangeL : ∀ {n : Nat} {i : Int} {x : D}, x ∈ rangeL i n → ∃ t, x = .int t ∧ i ≤ t ∧ t < i + n
  | 0, _, _, h => by cases h
  | n + 1, i, x, h => by
    rcases List.mem_cons.mp h with rfl | h
    · exact ⟨i, rfl, Int.le_refl i, by omega⟩
    · obtain ⟨t, e, h1, h2⟩ := mem_rangeL h
      exact ⟨t, e, by omega, by omega⟩
end
section
variable {u d n l far : Int}
/-- how many of n * d / u are begun -/
def cl (u d n : Int) : Int := 0 - (0 - n * d) / u
theorem cl_le (hu : 0 < u) : cl u d n ≤ l ↔ n * d ≤ l * u := by
  unfold cl
  have e := Int.le_ediv_iff_mul_le (a := -l) (b := 0 - n * d) hu
  have e2 : -l * u = -(l * u) := Int.neg_mul ..
  rw [e2] at e
  omega
theorem fl_eq (hd : 0 < d) : l * u / d = far ↔ far * d ≤ l * u ∧ ¬ (far + 1) * d ≤ l * u := by
  have e1 := Int.le_ediv_iff_mul_le (a := far) (b := l * u) hd
  have e2 := Int.le_ediv_iff_mul_le (a := far + 1) (b := l * u) hd
  omega
theorem cl_fl (hu : 0 < u) (hd : 0 < d) : l * u / d = far ↔ cl u d far ≤ l ∧ l < cl u d (far + 1) := by
  rw [fl_eq hd, ← cl_le hu, ← cl_le hu]
  omega
theorem cl_0 : cl u d 0 = 0 := by
  unfold cl
  rw [Int.zero_mul]
  simp
theorem cl_u (hu : 0 < u) : cl u d u = d := by
  have e1 := cl_le (u := u) (d := d) (n := u) (l := d) hu
  have e2 := cl_le (u := u) (d := d) (n := u) (l := d - 1) hu
  have e3 : (d - 1) * u = d * u - u := by rw [Int.sub_mul, Int.one_mul]
  have e4 : u * d = d * u := Int.mul_comm ..
  omega
theorem cl_shift (hu : 0 < u) (q : Int) : cl u d (n + q * u) = cl u d n + q * d := by
  have key : ∀ l, cl u d (n + q * u) ≤ l ↔ cl u d n ≤ l - q * d := fun l => by
    rw [cl_le hu, cl_le hu, Int.add_mul, Int.sub_mul]
    have : q * u * d = q * d * u := by rw [Int.mul_assoc, Int.mul_comm u d, ← Int.mul_assoc]
    omega
  have k1 := key (cl u d n + q * d)
  have k2 := key (cl u d (n + q * u))
  omega
theorem cl_mono (hu : 0 < u) (hd : 0 < d) : cl u d n ≤ cl u d (n + 1) := by
  rw [cl_le hu]
  have e := (cl_le (u := u) (d := d) (n := n + 1) (l := cl u d (n + 1)) hu).mp (Int.le_refl _)
  rw [Int.add_mul, Int.one_mul] at e
  omega
theorem cl_step (hu : 0 < u) {q : Int} (hq : d ≤ q * u) : cl u d (n + 1) ≤ cl u d n + q := by
  rw [cl_le hu]
  have e := (cl_le (u := u) (d := d) (n := n) (l := cl u d n) hu).mp (Int.le_refl _)
  rw [Int.add_mul, Int.one_mul, Int.add_mul]
  omega
theorem cl_nn (hu : 0 < u) (hd : 0 < d) (hn : 0 ≤ n) : 0 ≤ cl u d n := by
  have e := cl_le (u := u) (d := d) (n := n) (l := -1) hu
  have e2 : 0 ≤ n * d := Int.mul_nonneg hn (Int.le_of_lt hd)
  omega
theorem quo {a e b c g : Int} (hg : 0 < g) (h1 : a * e = g * u) (h2 : b * c = g * d) : 0 - (0 - n * b * c) / (a * e) = cl u d n := by
  unfold cl
  have e1 : 0 - n * b * c = g * (0 - n * d) := by
    rw [Int.mul_assoc, h2, Int.mul_sub, Int.mul_zero, Int.mul_left_comm]
  rw [e1, h1, Int.mul_ediv_mul_of_pos _ _ hg]
theorem quo2 {a e b c g : Int} (hg : 0 < g) (h1 : a * e = g * u) (h2 : b * c = g * d) : n * a * e / (b * c) = n * u / d := by
  have e1 : n * a * e = g * (n * u) := by
    rw [Int.mul_assoc, h1, Int.mul_left_comm]
  rw [e1, h2, Int.mul_ediv_mul_of_pos _ _ hg]
end
theorem v_slc0 {o : Out} {ρ : Env} {p q : IE} {a : D} {m : Int} (hp : evE o p ρ = .ok a) (hq : evE o q ρ = .ok (.int m)) : evE o (.slc p .nil (.cons q .nil)) ρ = noexc (slcEv a none (some m)) := by
  show (evE o p ρ).bind (fun x => (R.ok none : R (Option Int)).bind fun i => ((evE o q ρ).bind fun x => match x with
    | .int i => R.ok (some i)
    | _ => .bad).bind fun j => noexc (slcEv x i j)) = _
  rw [hp, hq]
theorem slc_mapL {F : Int → Int} {n : Nat} {m : Int} (h0 : 0 ≤ m) (h : m ≤ n) : noexc (slcEv (.lst (mapL F 0 n)) none (some m)) = .ok (.lst (mapL F 0 m.toNat)) := by
  show R.ok (D.lst (cut (mapL F 0 n) none (some m))) = _
  rw [mapL_cut F h0 h]
end FD
namespace FD
def GW (g w : Int) : Prop := (g = 24 ∧ w = 0) ∨ (g = 25 ∧ w = 0) ∨ (g = 30 ∧ w = 0) ∨ (g = 30 ∧ w = 2) ∨ (g = 60 ∧ w = 0) ∨ (g = 60 ∧ w = 4)
structure Cd where
  h : Int
  m : Int
  s : Int
  f : Int
def Cd.d (c : Cd) : D := .tup [.int c.h, .int c.m, .int c.s, .int c.f]
def tenF (g w : Int) : Int := 10 * (60 * g - w) + w
def dayF (g w : Int) : Int := 144 * tenF g w
def cnt (g w : Int) (c : Cd) : Int := (60 * (60 * c.h + c.m) + c.s) * g + c.f - w * (60 * c.h + c.m - (60 * c.h + c.m) / 10)
def cod (g w n : Int) : Cd :=
  if 60 * g ≤ n % tenF g w then
    let whole := 10 * (n / tenF g w) + (1 + (n % tenF g w - 60 * g) / (60 * g - w))
    let rest := (n % tenF g w - 60 * g) % (60 * g - w) + w
    ⟨whole / 60, whole % 60, rest / g, rest % g⟩
  else
    let whole := 10 * (n / tenF g w) + 0
    ⟨whole / 60, whole % 60, (n % tenF g w) / g, (n % tenF g w) % g⟩
def Cok (g w : Int) (c : Cd) : Prop := 0 ≤ c.h ∧ c.h ≤ 23 ∧ 0 ≤ c.m ∧ c.m ≤ 59 ∧ 0 ≤ c.s ∧ c.s ≤ 59 ∧ 0 ≤ c.f ∧ c.f ≤ g - 1 ∧ ¬ (c.s = 0 ∧ c.f < w ∧ c.m % 10 ≠ 0)
def Clt (a b : Cd) : Prop := a.h < b.h ∨ (a.h = b.h ∧ (a.m < b.m ∨ (a.m = b.m ∧ (a.s < b.s ∨ (a.s = b.s ∧ a.f < b.f)))))
section
variable {g w n : Int} {c e : Cd}
theorem cod_p (h : 60 * g ≤ n % tenF g w) : cod g w n = ⟨(10 * (n / tenF g w) + (1 + (n % tenF g w - 60 * g) / (60 * g - w))) / 60, (10 * (n / tenF g w) + (1 + (n % tenF g w - 60 * g) / (60 * g - w))) % 60, ((n % tenF g w - 60 * g) % (60 * g - w) + w) / g, ((n % tenF g w - 60 * g) % (60 * g - w) + w) % g⟩ := if_pos h
theorem cod_n (h : ¬ 60 * g ≤ n % tenF g w) : cod g w n = ⟨(10 * (n / tenF g w) + 0) / 60, (10 * (n / tenF g w) + 0) % 60, (n % tenF g w) / g, (n % tenF g w) % g⟩ := if_neg h
theorem cod_ok (H : GW g w) (h0 : 0 ≤ n) (h1 : n < dayF g w) : Cok g w (cod g w n) := by
  unfold GW at H
  by_cases hc : 60 * g ≤ n % tenF g w
  · rw [cod_p hc]
    rcases H with ⟨rfl, rfl⟩ | ⟨rfl, rfl⟩ | ⟨rfl, rfl⟩ | ⟨rfl, rfl⟩ | ⟨rfl, rfl⟩ | ⟨rfl, rfl⟩ <;> (unfold Cok; simp only [tenF, dayF, Int.reduceMul, Int.reduceSub, Int.reduceAdd] at *; refine ⟨?_, ?_, ?_, ?_, ?_, ?_, ?_, ?_, ?_⟩ <;> omega)
  · rw [cod_n hc]
    rcases H with ⟨rfl, rfl⟩ | ⟨rfl, rfl⟩ | ⟨rfl, rfl⟩ | ⟨rfl, rfl⟩ | ⟨rfl, rfl⟩ | ⟨rfl, rfl⟩ <;> (unfold Cok; simp only [tenF, dayF, Int.reduceMul, Int.reduceSub, Int.reduceAdd] at *; refine ⟨?_, ?_, ?_, ?_, ?_, ?_, ?_, ?_, ?_⟩ <;> omega)
theorem cnt_cod (H : GW g w) (h0 : 0 ≤ n) (h1 : n < dayF g w) : cnt g w (cod g w n) = n := by
  unfold GW at H
  by_cases hc : 60 * g ≤ n % tenF g w
  · rw [cod_p hc]
    unfold cnt
    rcases H with ⟨rfl, rfl⟩ | ⟨rfl, rfl⟩ | ⟨rfl, rfl⟩ | ⟨rfl, rfl⟩ | ⟨rfl, rfl⟩ | ⟨rfl, rfl⟩ <;> (simp only [tenF, dayF, Int.reduceMul, Int.reduceSub, Int.reduceAdd] at *; omega)
  · rw [cod_n hc]
    unfold cnt
    rcases H with ⟨rfl, rfl⟩ | ⟨rfl, rfl⟩ | ⟨rfl, rfl⟩ | ⟨rfl, rfl⟩ | ⟨rfl, rfl⟩ | ⟨rfl, rfl⟩ <;> (simp only [tenF, dayF, Int.reduceMul, Int.reduceSub, Int.reduceAdd] at *; omega)
theorem cnt_nn (H : GW g w) (k : Cok g w c) : 0 ≤ cnt g w c := by
  obtain ⟨h, m, s, f⟩ := c
  unfold GW at H
  unfold Cok at k
  rcases H with ⟨rfl, rfl⟩ | ⟨rfl, rfl⟩ | ⟨rfl, rfl⟩ | ⟨rfl, rfl⟩ | ⟨rfl, rfl⟩ | ⟨rfl, rfl⟩ <;> (unfold cnt; simp only [] at *; omega)
theorem cnt_lt (H : GW g w) (k : Cok g w c) : cnt g w c < dayF g w := by
  obtain ⟨h, m, s, f⟩ := c
  unfold GW at H
  unfold Cok at k
  rcases H with ⟨rfl, rfl⟩ | ⟨rfl, rfl⟩ | ⟨rfl, rfl⟩ | ⟨rfl, rfl⟩ | ⟨rfl, rfl⟩ | ⟨rfl, rfl⟩ <;> (unfold cnt; simp only [tenF, dayF] at *; omega)
theorem cnt_mono (H : GW g w) (k : Cok g w c) (l : Cok g w e) (h : Clt c e) : cnt g w c < cnt g w e := by
  obtain ⟨h1, m1, s1, f1⟩ := c
  obtain ⟨h2, m2, s2, f2⟩ := e
  unfold GW at H
  unfold Cok at k l
  unfold Clt at h
  simp only [] at k l h
  unfold cnt
  simp only []
  rcases h with h | ⟨rfl, h | ⟨rfl, h | ⟨rfl, h⟩⟩⟩ <;> rcases H with ⟨rfl, rfl⟩ | ⟨rfl, rfl⟩ | ⟨rfl, rfl⟩ | ⟨rfl, rfl⟩ | ⟨rfl, rfl⟩ | ⟨rfl, rfl⟩ <;> omega
theorem clt_or (c e : Cd) : Clt c e ∨ c = e ∨ Clt e c := by
  obtain ⟨h1, m1, s1, f1⟩ := c
  obtain ⟨h2, m2, s2, f2⟩ := e
  unfold Clt
  simp only [Cd.mk.injEq]
  omega
theorem cnt_inj (H : GW g w) (k : Cok g w c) (l : Cok g w e) (h : cnt g w c = cnt g w e) : c = e := by
  rcases clt_or c e with h1 | h1 | h1
  · have := cnt_mono H k l h1
    omega
  · exact h1
  · have := cnt_mono H l k h1
    omega
theorem clt_cnt (H : GW g w) (k : Cok g w c) (l : Cok g w e) : Clt c e ↔ cnt g w c < cnt g w e := by
  refine ⟨cnt_mono H k l, fun h => ?_⟩
  rcases clt_or c e with h1 | h1 | h1
  · exact h1
  · subst h1
    omega
  · have := cnt_mono H l k h1
    omega
theorem cod_cnt (H : GW g w) (k : Cok g w c) : cod g w (cnt g w c) = c :=
  cnt_inj H (cod_ok H (cnt_nn H k) (cnt_lt H k)) k (cnt_cod H (cnt_nn H k) (cnt_lt H k))
theorem day_pos (H : GW g w) : 0 < dayF g w := by
  unfold GW at H
  rcases H with ⟨rfl, rfl⟩ | ⟨rfl, rfl⟩ | ⟨rfl, rfl⟩ | ⟨rfl, rfl⟩ | ⟨rfl, rfl⟩ | ⟨rfl, rfl⟩ <;> decide
end
end FD
namespace FD
def ratesD : List D := [.str ⟨#[102, 105, 108, 109]⟩, .str ⟨#[101, 117, 114, 111, 112, 101]⟩, .str ⟨#[112, 108, 97, 105, 110]⟩, .str ⟨#[100, 114, 111, 112]⟩, .str ⟨#[102, 97, 115, 116]⟩, .str ⟨#[102, 97, 115, 116, 32, 100, 114, 111, 112]⟩]
def figs : List (PySem.Str × D) := [(⟨#[102, 105, 108, 109]⟩, .int 24), (⟨#[101, 117, 114, 111, 112, 101]⟩, .int 25), (⟨#[112, 108, 97, 105, 110]⟩, .int 30), (⟨#[100, 114, 111, 112]⟩, .int 30), (⟨#[102, 97, 115, 116]⟩, .int 60), (⟨#[102, 97, 115, 116, 32, 100, 114, 111, 112]⟩, .int 60)]
def outs : List (PySem.Str × D) := [(⟨#[100, 114, 111, 112]⟩, .int 2), (⟨#[102, 97, 115, 116, 32, 100, 114, 111, 112]⟩, .int 4)]
def intOf : D → Int
  | .int i => i
  | _ => 0
def gF (r : PySem.Str) : Int := intOf ((lkD r figs).getD (.int 0))
def wF (r : PySem.Str) : Int := intOf ((lkD r outs).getD (.int 0))
theorem by_rate {p : PySem.Str → Prop} (h0 : p ⟨#[102, 105, 108, 109]⟩) (h1 : p ⟨#[101, 117, 114, 111, 112, 101]⟩) (h2 : p ⟨#[112, 108, 97, 105, 110]⟩) (h3 : p ⟨#[100, 114, 111, 112]⟩) (h4 : p ⟨#[102, 97, 115, 116]⟩) (h5 : p ⟨#[102, 97, 115, 116, 32, 100, 114, 111, 112]⟩) : ∀ {r}, r ∈ rates → p r := by
  intro r hr
  simp only [rates, List.mem_cons, List.not_mem_nil, or_false] at hr
  rcases hr with rfl | rfl | rfl | rfl | rfl | rfl
  · exact h0
  · exact h1
  · exact h2
  · exact h3
  · exact h4
  · exact h5
section
variable {r : PySem.Str}
theorem lk_figs (hr : r ∈ rates) : lkD r figs = some (.int (gF r)) := by
  revert hr
  exact by_rate (p := fun r => lkD r figs = some (.int (gF r))) rfl rfl rfl rfl rfl rfl
theorem lk_outs (hr : r ∈ rates) : (lkD r outs).getD (.int 0) = .int (wF r) := by
  revert hr
  exact by_rate (p := fun r => (lkD r outs).getD (.int 0) = .int (wF r)) rfl rfl rfl rfl rfl rfl
theorem gw_of (hr : r ∈ rates) : GW (gF r) (wF r) := by
  revert hr
  exact by_rate (p := fun r => GW (gF r) (wF r)) (.inl ⟨rfl, rfl⟩) (.inr (.inl ⟨rfl, rfl⟩)) (.inr (.inr (.inl ⟨rfl, rfl⟩))) (.inr (.inr (.inr (.inl ⟨rfl, rfl⟩)))) (.inr (.inr (.inr (.inr (.inl ⟨rfl, rfl⟩))))) (.inr (.inr (.inr (.inr (.inr ⟨rfl, rfl⟩)))))
theorem inD_rate (hr : r ∈ rates) : inD (.str r) ratesD = true := by
  revert hr
  exact by_rate (p := fun r => inD (.str r) ratesD = true) rfl rfl rfl rfl rfl rfl
theorem okStr_rate (hr : r ∈ rates) : okStr r = true := by
  revert hr
  exact by_rate (p := fun r => okStr r = true) rfl rfl rfl rfl rfl rfl
end
theorem le_lim {n : Nat} (h : n ≤ 16777216) : n ≤ lim := h
theorem int_beq (a b : Int) : (a == b) = decide (a = b) := rfl
instance (a b : Cd) : Decidable (Clt a b) := by unfold Clt; exact inferInstance
instance : DecidableEq Cd := fun a b => decidable_of_iff (a.h = b.h ∧ a.m = b.m ∧ a.s = b.s ∧ a.f = b.f) (by cases a; cases b; simp)
theorem cd_eqv (a b : Cd) : eqv a.d b.d = decide (a = b) := by
  obtain ⟨h1, m1, s1, f1⟩ := a
  obtain ⟨h2, m2, s2, f2⟩ := b
  simp only [Cd.d, eqv, eqvs, Cd.mk.injEq, Bool.decide_and, Bool.and_true]
  rfl
theorem cd_shp (a : Cd) (n : Nat) : shp (n + 1) a.d = true := by simp [Cd.d, shp, shps]
theorem cd_eq (a b : Cd) : cmpEv .eq a.d b.d = .ok (.bl (decide (a = b))) := by
  show guard' (eqOk a.d b.d) (R.ok (D.bl (eqv a.d b.d))) = _
  rw [cd_eqv]
  simp [eqOk, cd_shp, guard']
theorem cd_ne (a b : Cd) : cmpEv .ne a.d b.d = .ok (.bl (!decide (a = b))) := by
  show guard' (eqOk a.d b.d) (R.ok (D.bl (!eqv a.d b.d))) = _
  rw [cd_eqv]
  simp [eqOk, cd_shp, guard']
theorem cd_ord (op : Cop) (a b : Cd) : ordD op a.d b.d = some (if a.h = b.h then (if a.m = b.m then (if a.s = b.s then (if a.f = b.f then ordL op 0 0 else ordI op a.f b.f) else ordI op a.s b.s) else ordI op a.m b.m) else ordI op a.h b.h) := by
  simp only [Cd.d, ordD, ordDs, eqv, List.length_nil, beq_iff_eq]
  by_cases h1 : a.h = b.h <;> by_cases h2 : a.m = b.m <;> by_cases h3 : a.s = b.s <;> by_cases h4 : a.f = b.f <;> simp only [h1, h2, h3, h4, if_true, if_false]
theorem cd_lt (a b : Cd) : cmpEv .lt a.d b.d = .ok (.bl (decide (Clt a b))) := by
  show guard' (shp 60 a.d && shp 60 b.d) (match ordD .lt a.d b.d with | some x => R.ok (D.bl x) | none => .bad) = _
  rw [cd_ord, cd_shp, cd_shp]
  show R.ok (D.bl _) = _
  congr 2
  simp only [ordL, ordI]
  repeat' split
  all_goals (apply decide_eq_decide.mpr; unfold Clt; omega)
theorem cd_gt (a b : Cd) : cmpEv .gt a.d b.d = .ok (.bl (decide (Clt b a))) := by
  show guard' (shp 60 a.d && shp 60 b.d) (match ordD .gt a.d b.d with | some x => R.ok (D.bl x) | none => .bad) = _
  rw [cd_ord, cd_shp, cd_shp]
  show R.ok (D.bl _) = _
  congr 2
  simp only [ordL, ordI]
  repeat' split
  all_goals (apply decide_eq_decide.mpr; unfold Clt; omega)
theorem cd_le (a b : Cd) : cmpEv .le a.d b.d = .ok (.bl (!decide (Clt b a))) := by
  show guard' (shp 60 a.d && shp 60 b.d) (match ordD .le a.d b.d with | some x => R.ok (D.bl x) | none => .bad) = _
  rw [cd_ord, cd_shp, cd_shp]
  show R.ok (D.bl _) = _
  congr 2
  simp only [ordL, ordI]
  rw [← decide_not]
  repeat' split
  all_goals (apply decide_eq_decide.mpr; unfold Clt; omega)
end FD
namespace FD
theorem for_ix {I : Int → Env → Prop} {j : Nat} {b : Env → SR} : ∀ (n : Nat) (i : Int) (ρ : Env), I i ρ → (∀ t ρ, i ≤ t → t < i + n → I t ρ → ∃ ρ', b (ρ.set j (.pv (.int t))) = .nx ρ' ∧ I (t + 1) ρ') → ∃ ρ', forLoop (.nm j) b (rangeL i n) ρ = .nx ρ' ∧ I (i + n) ρ'
  | 0, i, ρ, h, _ => ⟨ρ, rfl, by rw [show i + ((0 : Nat) : Int) = i by omega]; exact h⟩
  | n + 1, i, ρ, h, step => by
    obtain ⟨ρ1, e1, h1⟩ := step i ρ (Int.le_refl i) (by omega) h
    obtain ⟨ρ2, e2, h2⟩ := for_ix n (i + 1) ρ1 h1 fun t ρ a c => step t ρ (by omega) (by omega)
    refine ⟨ρ2, ?_, by rw [show i + ((n + 1 : Nat) : Int) = i + 1 + (n : Int) by omega]; exact h2⟩
    show (match b (ρ.set j (.pv (.int i))) with
      | .nx ρ' => forLoop (.nm j) b (rangeL (i + 1) n) ρ'
      | .ct ρ' => forLoop (.nm j) b (rangeL (i + 1) n) ρ'
      | .bk ρ' => .nx ρ'
      | z => z) = _
    rw [e1]
    exact e2
theorem wh_dn {J : Nat → Env → Prop} {c : Env → R Bool} {b : Env → SR} (step : ∀ m ρ, J m ρ → c ρ = .ok false ∨ (c ρ = .ok true ∧ ∃ ρ' m', b ρ = .nx ρ' ∧ J m' ρ' ∧ m' < m)) : ∀ (n m : Nat) (ρ : Env), J m ρ → m < n → ∃ ρ' m', whLoop c b n ρ = .nx ρ' ∧ J m' ρ' ∧ c ρ' = .ok false
  | 0, _, _, _, h => by omega
  | n + 1, m, ρ, h, hm => by
    rcases step m ρ h with e | ⟨e, ρ1, m1, e1, h1, l⟩
    · refine ⟨ρ, m, ?_, h, e⟩
      show (c ρ).st ρ (fun t => match t with
        | false => SR.nx ρ
        | true => (match b ρ with
          | .nx ρ' => whLoop c b n ρ'
          | .ct ρ' => whLoop c b n ρ'
          | .bk ρ' => .nx ρ'
          | r => r)) = _
      rw [e]
    · obtain ⟨ρ2, m2, e2, h2, f2⟩ := wh_dn step n m1 ρ1 h1 (by omega)
      refine ⟨ρ2, m2, ?_, h2, f2⟩
      show (c ρ).st ρ (fun t => match t with
        | false => SR.nx ρ
        | true => (match b ρ with
          | .nx ρ' => whLoop c b n ρ'
          | .ct ρ' => whLoop c b n ρ'
          | .bk ρ' => .nx ρ'
          | r => r)) = _
      rw [e]
      show (match b ρ with
          | .nx ρ' => whLoop c b n ρ'
          | .ct ρ' => whLoop c b n ρ'
          | .bk ρ' => .nx ρ'
          | r => r) = _
      rw [e1]
      exact e2
theorem idx_in {xs : List D} {q : Int} (h0 : 0 ≤ q) (h1 : q < xs.length) : ∃ d ∈ xs, idxEv (.lst xs) (.int q) = .ok d := by
  have hl : q.toNat < xs.length := by omega
  refine ⟨xs[q.toNat], List.getElem_mem hl, ?_⟩
  show (match place xs.length q with
    | some m => (match xs[m]? with | some d => R.ok d | none => .bad)
    | none => .bad) = _
  rw [place_in h0 h1]
  show (match xs[q.toNat]? with | some d => R.ok d | none => .bad) = _
  rw [List.getElem?_eq_getElem hl]
theorem idx_int (xs : List Int) {q : Int} (h0 : 0 ≤ q) (h1 : q < xs.length) : ∃ i ∈ xs, idxEv (.lst (xs.map .int)) (.int q) = .ok (.int i) := by
  obtain ⟨d, hd, e⟩ := idx_in (xs := xs.map .int) h0 (by rw [List.length_map]; exact h1)
  obtain ⟨i, hi, rfl⟩ := List.mem_map.mp hd
  exact ⟨i, hi, e⟩
theorem ti0 {a : D} {xs : List D} : idxEv (.tup (a :: xs)) (.int 0) = .ok a := by
  show (match place (xs.length + 1) 0 with
    | some m => (match (a :: xs)[m]? with | some d => R.ok d | none => .bad)
    | none => .bad) = _
  rw [place_in (by decide) (by omega)]
  rfl
theorem ti1 {a b : D} {xs : List D} : idxEv (.tup (a :: b :: xs)) (.int 1) = .ok b := by
  show (match place (xs.length + 1 + 1) 1 with
    | some m => (match (a :: b :: xs)[m]? with | some d => R.ok d | none => .bad)
    | none => .bad) = _
  rw [place_in (by decide) (by omega)]
  rfl
theorem ti2 {a b c : D} {xs : List D} : idxEv (.tup (a :: b :: c :: xs)) (.int 2) = .ok c := by
  show (match place (xs.length + 1 + 1 + 1) 2 with
    | some m => (match (a :: b :: c :: xs)[m]? with | some d => R.ok d | none => .bad)
    | none => .bad) = _
  rw [place_in (by decide) (by omega)]
  rfl
theorem ti3 {a b c e : D} {xs : List D} : idxEv (.tup (a :: b :: c :: e :: xs)) (.int 3) = .ok e := by
  show (match place (xs.length + 1 + 1 + 1 + 1) 3 with
    | some m => (match (a :: b :: c :: e :: xs)[m]? with | some d => R.ok d | none => .bad)
    | none => .bad) = _
  rw [place_in (by decide) (by omega)]
  rfl
theorem cd_0 (c : Cd) : idxEv c.d (.int 0) = .ok (.int c.h) := ti0
theorem cd_1 (c : Cd) : idxEv c.d (.int 1) = .ok (.int c.m) := ti1
theorem cd_2 (c : Cd) : idxEv c.d (.int 2) = .ok (.int c.s) := ti2
theorem cd_3 (c : Cd) : idxEv c.d (.int 3) = .ok (.int c.f) := ti3
theorem ci_eq (a b : Int) : cmpEv .eq (.int a) (.int b) = .ok (.bl (decide (a = b))) := rfl
theorem ci_ne (a b : Int) : cmpEv .ne (.int a) (.int b) = .ok (.bl (!decide (a = b))) := rfl
theorem ci_lt (a b : Int) : cmpEv .lt (.int a) (.int b) = .ok (.bl (decide (a < b))) := rfl
theorem ci_le (a b : Int) : cmpEv .le (.int a) (.int b) = .ok (.bl (decide (a ≤ b))) := rfl
theorem ci_gt (a b : Int) : cmpEv .gt (.int a) (.int b) = .ok (.bl (decide (b < a))) := rfl
theorem ci_ge (a b : Int) : cmpEv .ge (.int a) (.int b) = .ok (.bl (decide (b ≤ a))) := rfl
theorem cb_eq (a b : Bool) : cmpEv .eq (.bl a) (.bl b) = .ok (.bl (a == b)) := rfl
theorem cb_ne (a b : Bool) : cmpEv .ne (.bl a) (.bl b) = .ok (.bl (!(a == b))) := rfl
theorem cb_is (a b : Bool) : cmpEv .is (.bl a) (.bl b) = .ok (.bl (a == b)) := rfl
theorem cb_isnot (a b : Bool) : cmpEv .isnot (.bl a) (.bl b) = .ok (.bl (!(a == b))) := rfl
theorem cn_is_cd (a : Cd) : cmpEv .is a.d .non = .ok (.bl false) := rfl
theorem cn_isnot_cd (a : Cd) : cmpEv .isnot a.d .non = .ok (.bl true) := rfl
theorem cn_is : cmpEv .is .non .non = .ok (.bl true) := rfl
theorem cn_isnot : cmpEv .isnot .non .non = .ok (.bl false) := rfl
/-- within the bounds -/
def Cin (g : Int) (c : Cd) : Prop := 0 ≤ c.h ∧ c.h ≤ 23 ∧ 0 ≤ c.m ∧ c.m ≤ 59 ∧ 0 ≤ c.s ∧ c.s ≤ 59 ∧ 0 ≤ c.f ∧ c.f ≤ g - 1
theorem at_ok {g w n q U A x S : Int} (G : GW g w) (h0 : 0 ≤ n) (h1 : n < dayF g w) (q0 : 0 ≤ q) (q1 : q < 60) (hU : U = 3600 * g - 54 * w) (hA : A = n % U - (60 * g * q - w * (q - (q + 9) / 10))) (hx : x = if 0 < q % 10 then w else 0) (a0 : 0 ≤ A) (a1 : ¬ 60 * g - x ≤ A) (hS : S = A + x) : (⟨n / U, q, S / g, S % g⟩ : Cd) = cod g w n := by
  have c1 : Cok g w ⟨n / U, q, S / g, S % g⟩ ∧ cnt g w ⟨n / U, q, S / g, S % g⟩ = n := by
    unfold Cok cnt
    dsimp only
    unfold dayF tenF at h1
    unfold GW at G
    have k1 : (60 * (n / U) + q) / 10 = 6 * (n / U) + q / 10 := by omega
    rw [k1]
    by_cases hq : 0 < q % 10
    · rw [if_pos hq] at hx
      have k2 : (q + 9) / 10 = q / 10 + 1 := by omega
      rw [k2] at hA
      rcases G with ⟨rfl, rfl⟩ | ⟨rfl, rfl⟩ | ⟨rfl, rfl⟩ | ⟨rfl, rfl⟩ | ⟨rfl, rfl⟩ | ⟨rfl, rfl⟩ <;> simp only [Int.reduceMul, Int.reduceSub, Int.reduceAdd] at hU h1 <;> subst hU <;> refine ⟨⟨?_, ?_, ?_, ?_, ?_, ?_, ?_, ?_, ?_⟩, ?_⟩ <;> omega
    · rw [if_neg hq] at hx
      have k2 : (q + 9) / 10 = q / 10 := by omega
      rw [k2] at hA
      rcases G with ⟨rfl, rfl⟩ | ⟨rfl, rfl⟩ | ⟨rfl, rfl⟩ | ⟨rfl, rfl⟩ | ⟨rfl, rfl⟩ | ⟨rfl, rfl⟩ <;> simp only [Int.reduceMul, Int.reduceSub, Int.reduceAdd] at hU h1 <;> subst hU <;> refine ⟨⟨?_, ?_, ?_, ?_, ?_, ?_, ?_, ?_, ?_⟩, ?_⟩ <;> omega
  have := cod_cnt G c1.1
  rw [c1.2] at this
  exact this.symm
end FD
namespace FD
def gI (a b : Int) : Int := (Int.gcd a b : Int)
def shA (a b : Int) : Int := a / gI a b
def shB (a b : Int) : Int := b / gI a b
section
variable {a b : Int}
theorem gI_pos (hb : 0 < b) : 0 < gI a b := by
  have : 0 < Int.gcd a b := Int.gcd_pos_iff.mpr (.inr (by omega))
  unfold gI
  omega
theorem gI_le (hb : 0 < b) : gI a b ≤ b := Int.le_of_dvd hb (Int.gcd_dvd_right ..)
theorem sh_a : gI a b * shA a b = a := Int.mul_ediv_cancel' (Int.gcd_dvd_left ..)
theorem sh_b : gI a b * shB a b = b := Int.mul_ediv_cancel' (Int.gcd_dvd_right ..)
theorem sh_B0 (hb : 0 < b) : 0 < shB a b := by
  have h := gI_pos (a := a) hb
  have e := sh_b (a := a) (b := b)
  rcases Int.lt_or_le 0 (shB a b) with h1 | h1
  · exact h1
  · have : gI a b * shB a b ≤ gI a b * 0 := Int.mul_le_mul_of_nonneg_left h1 (Int.le_of_lt h)
    omega
theorem sh_Ble (hb : 0 < b) : shB a b ≤ b := by
  have h := gI_pos (a := a) hb
  have e := sh_b (a := a) (b := b)
  have h0 := sh_B0 (a := a) hb
  have : 1 * shB a b ≤ gI a b * shB a b := Int.mul_le_mul_of_nonneg_right (by omega) (by omega)
  omega
theorem sh_A0 (hb : 0 < b) (ha : 0 ≤ a) : 0 ≤ shA a b := Int.ediv_nonneg ha (Int.le_of_lt (gI_pos hb))
theorem sh_Ale (hb : 0 < b) (ha : 0 ≤ a) : shA a b ≤ a := by
  have h := gI_pos (a := a) hb
  have e := sh_a (a := a) (b := b)
  have h0 := sh_A0 hb ha
  have : 1 * shA a b ≤ gI a b * shA a b := Int.mul_le_mul_of_nonneg_right (by omega) (by omega)
  omega
/-- the same part -/
theorem sh_eq (hb : 0 < b) : shA a b * b = a * shB a b := by
  have e1 := sh_a (a := a) (b := b)
  have e2 := sh_b (a := a) (b := b)
  calc shA a b * b = shA a b * (gI a b * shB a b) := by rw [e2]
    _ = gI a b * shA a b * shB a b := by rw [← Int.mul_assoc, Int.mul_comm (shA a b)]
    _ = a * shB a b := by rw [e1]
theorem gI_sh (hb : 0 < b) : gI (shA a b) (shB a b) = 1 := by
  have h : 0 < Int.gcd a b := Int.gcd_pos_iff.mpr (.inr (by omega))
  have := Int.gcd_ediv (Int.gcd_dvd_left (a := a) (b := b)) (Int.gcd_dvd_right (a := a) (b := b))
  unfold gI shA shB
  unfold gI
  rw [this, Int.natAbs_natCast, Nat.div_self h]
  rfl
theorem shA_1 (h : gI a b = 1) : shA a b = a := by
  unfold shA
  rw [h, Int.ediv_one]
theorem shB_1 (h : gI a b = 1) : shB a b = b := by
  unfold shB
  rw [h, Int.ediv_one]
theorem shA_0 (hb : 0 < b) : shA 0 b = 0 := by
  unfold shA
  exact Int.zero_ediv _
theorem shB_0 (hb : 0 < b) : shB 0 b = 1 := by
  unfold shB gI
  rw [Int.gcd_zero_left]
  have : (b.natAbs : Int) = b := by omega
  rw [this]
  exact Int.ediv_self (by omega)
end
/-- Euclid's loop -/
theorem gcd_loop {c : Env → R Bool} {b : Env → SR} {E : Int → Int → Env} (hc : ∀ x y, c (E x y) = .ok (!decide (y = 0))) (hb : ∀ x y, 0 < y → b (E x y) = .nx (E y (x % y))) {n m : Nat} (h : n * m < 2 ^ 900) : whLoop c b 1000 (E n m) = .nx (E (Nat.gcd n m : Nat) 0) := by
  have f := wh_dn (J := fun k ρ => ∃ x y : Nat, Nat.gcd x y = Nat.gcd n m ∧ ((y ≤ x ∧ x * y < 2 ^ k) ∨ (∃ l, k = l + 1 ∧ x * y < 2 ^ l)) ∧ ρ = E x y) (c := c) (b := b) (by
    rintro k ρ ⟨x, y, hg, hk, rfl⟩
    rw [hc]
    by_cases hy : y = 0
    · left
      subst hy
      rfl
    · right
      have y0 : (0 : Int) < y := by omega
      have yn : ¬ (y : Int) = 0 := by omega
      refine ⟨by rw [decide_eq_false yn]; rfl, ?_⟩
      have hm : x % y < y := Nat.mod_lt _ (by omega)
      have hg2 : Nat.gcd y (x % y) = Nat.gcd n m := by rw [Nat.gcd_comm, ← Nat.gcd_rec, Nat.gcd_comm, hg]
      have he : ((x : Int) % (y : Int)) = ((x % y : Nat) : Int) := by omega
      rcases hk with ⟨hx, hk⟩ | ⟨l, rfl, hk⟩
      · have k0 : k ≠ 0 := by
          rintro rfl
          have : 1 ≤ x * y := Nat.mul_pos (by omega) (by omega)
          omega
        obtain ⟨l, rfl⟩ : ∃ l, k = l + 1 := ⟨k - 1, by omega⟩
        refine ⟨_, l, hb _ _ y0, ⟨y, x % y, hg2, .inl ⟨by omega, ?_⟩, by rw [he]⟩, by omega⟩
        have h1 : 2 * (x % y) ≤ x := by
          have := Nat.div_add_mod x y
          have : y * 1 ≤ y * (x / y) := Nat.mul_le_mul_left _ ((Nat.le_div_iff_mul_le (by omega)).mpr (by omega))
          omega
        have h2 : 2 * (y * (x % y)) ≤ x * y := by
          have : 2 * (x % y) * y ≤ x * y := Nat.mul_le_mul_right _ h1
          rw [Nat.mul_comm y, ← Nat.mul_assoc]
          exact this
        have h3 : 2 ^ (l + 1) = 2 * 2 ^ l := by rw [Nat.pow_succ, Nat.mul_comm]
        omega
      · refine ⟨_, l, hb _ _ y0, ⟨y, x % y, hg2, .inl ⟨by omega, ?_⟩, by rw [he]⟩, by omega⟩
        have : y * (x % y) ≤ y * x := Nat.mul_le_mul_left _ (Nat.mod_le _ _)
        rw [Nat.mul_comm y x] at this
        omega) 1000 901 (E n m) ⟨n, m, rfl, .inr ⟨900, rfl, h⟩, rfl⟩ (by decide)
  obtain ⟨ρ', k, e, ⟨x, y, hg, _, rfl⟩, ec⟩ := f
  rw [hc] at ec
  injection ec with ec
  have hy : (y : Int) = 0 := by
    by_cases h : (y : Int) = 0
    · exact h
    · rw [decide_eq_false h] at ec
      cases ec
  have hy : y = 0 := by omega
  subst hy
  rw [Nat.gcd_zero_right] at hg
  rw [e, hg]
  rfl
def dnS : PySem.Str := ⟨#[100, 111, 119, 110]⟩
def upS : PySem.Str := ⟨#[117, 112]⟩
def nrS : PySem.Str := ⟨#[110, 101, 97, 114]⟩
def ways : List PySem.Str := [dnS, upS, nrS]
def rnd (y : PySem.Str) (x d : Int) : Int := if y = dnS then x / d else if y = upS then 0 - (0 - x) / d else (2 * x + d) / (2 * d)
theorem by_way {p : PySem.Str → Prop} (h0 : p dnS) (h1 : p upS) (h2 : p nrS) : ∀ {y}, y ∈ ways → p y := by
  intro y hy
  simp only [ways, List.mem_cons, List.not_mem_nil, or_false] at hy
  rcases hy with rfl | rfl | rfl
  · exact h0
  · exact h1
  · exact h2
theorem rnd_dn (x d : Int) : rnd dnS x d = x / d := rfl
theorem rnd_up (x d : Int) : rnd upS x d = 0 - (0 - x) / d := rfl
theorem rnd_nr (x d : Int) : rnd nrS x d = (2 * x + d) / (2 * d) := rfl
theorem rnd_exact {y : PySem.Str} (hy : y ∈ ways) {x d n : Int} (hd : 0 < d) (h : x = n * d) : rnd y x d = n := by
  revert hy
  refine by_way (p := fun y => rnd y x d = n) ?_ ?_ ?_
  · rw [rnd_dn, h, Int.mul_ediv_cancel _ (by omega)]
  · rw [rnd_up, h]
    have : 0 - n * d = -n * d := by rw [Int.neg_mul]; omega
    rw [this, Int.mul_ediv_cancel _ (by omega)]
    omega
  · rw [rnd_nr, h]
    have e : 2 * (n * d) + d = d + n * (2 * d) := by
      rw [Int.mul_left_comm]
      omega
    rw [e, Int.add_mul_ediv_right _ _ (by omega), Int.ediv_eq_zero_of_lt (by omega) (by omega)]
    omega
def upF (r : PySem.Str) : Int := if wF r = 0 then gF r else gF r * 1000
def dnF (r : PySem.Str) : Int := if wF r = 0 then 1 else 1001
theorem ud_of {r : PySem.Str} (hr : r ∈ rates) : (wF r = 0 ∧ upF r = gF r ∧ dnF r = 1) ∨ (wF r ≠ 0 ∧ upF r = gF r * 1000 ∧ dnF r = 1001) := by
  unfold upF dnF
  by_cases h : wF r = 0
  · left
    rw [if_pos h, if_pos h]
    exact ⟨h, rfl, rfl⟩
  · right
    rw [if_neg h, if_neg h]
    exact ⟨h, rfl, rfl⟩
end FD
namespace FD
section
variable {g w U N t0 t1 : Int} {c : Cd}
theorem drift_small (G : GW g w) (hc : Cok g w c) (ud : (w = 0 ∧ U = g ∧ N = 1) ∨ (w ≠ 0 ∧ U = g * 1000 ∧ N = 1001)) (e : t0 * U = cnt g w c * N * t1) (h1 : 0 < t1) :
    -(t1 * g) < 5 * (t0 * g - ((3600 * c.h + 60 * c.m + c.s) * g + c.f) * t1) ∧ 5 * (t0 * g - ((3600 * c.h + 60 * c.m + c.s) * g + c.f) * t1) < t1 * g ∧ (w = 0 → t0 * g - ((3600 * c.h + 60 * c.m + c.s) * g + c.f) * t1 = 0) := by
  obtain ⟨T, hT⟩ : ∃ T, T = (3600 * c.h + 60 * c.m + c.s) * g + c.f := ⟨_, rfl⟩
  obtain ⟨n, hn⟩ : ∃ n, n = cnt g w c := ⟨_, rfl⟩
  obtain ⟨Z, hZ⟩ : ∃ Z, Z = n * N * g - T * U := ⟨_, rfl⟩
  rw [← hn] at e
  rw [← hT]
  have zb : -(g * U) < 5 * Z ∧ 5 * Z < g * U ∧ (w = 0 → Z = 0) ∧ 0 < U := by
    rw [hZ, hn, hT]
    unfold cnt
    unfold Cok at hc
    unfold GW at G
    rcases G with ⟨rfl, rfl⟩ | ⟨rfl, rfl⟩ | ⟨rfl, rfl⟩ | ⟨rfl, rfl⟩ | ⟨rfl, rfl⟩ | ⟨rfl, rfl⟩ <;> rcases ud with ⟨h, rfl, rfl⟩ | ⟨h, rfl, rfl⟩ <;> (first | (exact absurd rfl h) | (exact absurd h (by decide)) | (refine ⟨?_, ?_, ?_, ?_⟩ <;> omega))
  obtain ⟨z1, z2, z3, u0⟩ := zb
  have key : (t0 * g - T * t1) * U = t1 * Z := by
    rw [hZ, Int.sub_mul, Int.mul_sub]
    have e1 : t0 * g * U = t1 * (n * N * g) := by
      rw [show t0 * g * U = t0 * U * g by ac_rfl, e]
      ac_rfl
    have e2 : T * t1 * U = t1 * (T * U) := by ac_rfl
    rw [e1, e2]
  have k5 : 5 * (t0 * g - T * t1) * U = t1 * (5 * Z) := by
    rw [Int.mul_assoc, key]
    ac_rfl
  refine ⟨?_, ?_, fun hw => ?_⟩
  · refine Int.lt_of_mul_lt_mul_right ?_ (Int.le_of_lt u0)
    rw [k5, Int.neg_mul, Int.mul_assoc, ← Int.mul_neg]
    exact Int.mul_lt_mul_of_pos_left z1 h1
  · refine Int.lt_of_mul_lt_mul_right ?_ (Int.le_of_lt u0)
    rw [k5, Int.mul_assoc]
    exact Int.mul_lt_mul_of_pos_left z2 h1
  · rw [z3 hw, Int.mul_zero] at key
    rcases Int.mul_eq_zero.mp key with h | h
    · exact h
    · omega
theorem sh_small {X Y : Int} (hY : 0 < Y) (h0 : -Y < 5 * X) (h1 : 5 * X < Y) : (if shA X Y < 0 then -shA X Y else shA X Y) * 5 < shB X Y := by
  have g0 := gI_pos (a := X) hY
  have a := sh_a (a := X) (b := Y)
  have b := sh_b (a := X) (b := Y)
  have k1 : gI X Y * (5 * shA X Y) = 5 * X := by rw [Int.mul_left_comm, a]
  have l1 : 5 * shA X Y < shB X Y := Int.lt_of_mul_lt_mul_left (by rw [k1, b]; exact h1) (Int.le_of_lt g0)
  have l2 : -shB X Y < 5 * shA X Y := Int.lt_of_mul_lt_mul_left (by rw [k1, Int.mul_neg, b]; exact h0) (Int.le_of_lt g0)
  split <;> omega
/-- a time's frames are just so many -/
theorem back_eq {n : Int} (hU : 0 < U) : shA (n * N) U * U = n * (shB (n * N) U * N) := by
  rw [sh_eq hU]
  ac_rfl
theorem far_eq {n a0 a1 : Int} (e1 : t0 * U = n * N * t1) (e2 : a0 * U = (n + 1) * N * a1) : (a0 * t1 - t0 * a1) * U = N * t1 * a1 := by
  rw [Int.sub_mul, show a0 * t1 * U = a0 * U * t1 by ac_rfl, show t0 * a1 * U = t0 * U * a1 by ac_rfl, e1, e2, Int.add_mul, Int.one_mul, Int.add_mul, Int.add_mul]
  have : n * N * a1 * t1 = n * N * t1 * a1 := by ac_rfl
  have : N * a1 * t1 = N * t1 * a1 := by ac_rfl
  omega
end
theorem t2_eq {a b c d : Int} : cmpEv .eq (.tup [.int a, .int b]) (.tup [.int c, .int d]) = .ok (.bl (decide (a = c) && decide (b = d))) := by simp [cmpEv, eqOk, shp, shps, guard', eqv, eqvs, strBy, int_beq]
theorem t2_ne {a b c d : Int} : cmpEv .ne (.tup [.int a, .int b]) (.tup [.int c, .int d]) = .ok (.bl (!(decide (a = c) && decide (b = d)))) := by simp [cmpEv, eqOk, shp, shps, guard', eqv, eqvs, strBy, int_beq]
end FD
namespace FD
section
variable {x d k n P : Int} {y : PySem.Str}
theorem rnd_scale (hk : 0 < k) (y : PySem.Str) : rnd y (k * x) (k * d) = rnd y x d := by
  unfold rnd
  have e1 : k * x / (k * d) = x / d := Int.mul_ediv_mul_of_pos _ _ hk
  have e2 : (0 - k * x) / (k * d) = (0 - x) / d := by
    rw [show 0 - k * x = k * (0 - x) by rw [Int.mul_sub, Int.mul_zero]]
    exact Int.mul_ediv_mul_of_pos _ _ hk
  have e3 : (2 * (k * x) + k * d) / (2 * (k * d)) = (2 * x + d) / (2 * d) := by
    rw [show 2 * (k * x) + k * d = k * (2 * x + d) by rw [Int.mul_add, Int.mul_left_comm], show 2 * (k * d) = k * (2 * d) by rw [Int.mul_left_comm]]
    exact Int.mul_ediv_mul_of_pos _ _ hk
  rw [e1, e2, e3]
theorem up_eq (hd : 0 < d) : rnd upS x d = x / d + (if x % d = 0 then 0 else 1) := by
  rw [rnd_up]
  have e := Int.mul_ediv_add_emod x d
  have b0 := Int.emod_nonneg x (show d ≠ 0 by omega)
  have b1 := Int.emod_lt_of_pos x hd
  generalize x / d = a at *
  generalize x % d = b at *
  by_cases h : b = 0
  · rw [if_pos h]
    have : 0 - x = -a * d := by rw [Int.neg_mul, Int.mul_comm a d]; omega
    rw [this, Int.mul_ediv_cancel _ (by omega)]
    omega
  · rw [if_neg h]
    have : 0 - x = (d - b) + (-a - 1) * d := by rw [Int.sub_mul, Int.neg_mul, Int.mul_comm a d, Int.one_mul]; omega
    rw [this, Int.add_mul_ediv_right _ _ (by omega), Int.ediv_eq_zero_of_lt (by omega) (by omega)]
    omega
theorem nr_eq (hd : 0 < d) : rnd nrS x d = x / d + (if 2 * (x % d) < d then 0 else 1) := by
  rw [rnd_nr]
  have e := Int.mul_ediv_add_emod x d
  have b0 := Int.emod_nonneg x (show d ≠ 0 by omega)
  have b1 := Int.emod_lt_of_pos x hd
  generalize x / d = a at *
  generalize x % d = b at *
  have e1 : 2 * x + d = (2 * b + d) + a * (2 * d) := by rw [Int.mul_left_comm, Int.mul_comm a d]; omega
  rw [e1, Int.add_mul_ediv_right _ _ (by omega)]
  by_cases h : 2 * b < d
  · rw [if_pos h, Int.ediv_eq_zero_of_lt (by omega) (by omega)]
    omega
  · rw [if_neg h, show 2 * b + d = (2 * b - d) + 1 * (2 * d) by omega, Int.add_mul_ediv_right _ _ (by omega), Int.ediv_eq_zero_of_lt (by omega) (by omega)]
    omega
/-- the three ways -/
theorem rnd_all (hd : 0 < d) : rnd dnS x d ≤ rnd nrS x d ∧ rnd nrS x d ≤ rnd upS x d ∧ (rnd upS x d - rnd dnS x d = 0 ∨ rnd upS x d - rnd dnS x d = 1) ∧ (rnd dnS x d = rnd upS x d ↔ x % d = 0) := by
  have b0 := Int.emod_nonneg x (show d ≠ 0 by omega)
  rw [up_eq hd, nr_eq hd, rnd_dn]
  generalize x / d = a at *
  generalize x % d = b at *
  by_cases h1 : b = 0
  · rw [if_pos h1]
    have h2 : 2 * b < d := by omega
    rw [if_pos h2]
    refine ⟨by omega, by omega, by omega, ?_⟩
    exact ⟨fun _ => h1, fun _ => by omega⟩
  · rw [if_neg h1]
    refine ⟨?_, ?_, by omega, ?_⟩
    · split <;> omega
    · split <;> omega
    · exact ⟨fun h => by omega, fun h => absurd h h1⟩
theorem up_le (hd : 0 < d) {B : Int} (h : x ≤ B * d) : rnd upS x d ≤ B := by
  rw [rnd_up]
  have e := Int.le_ediv_iff_mul_le (a := -B) (b := 0 - x) hd
  rw [Int.neg_mul] at e
  omega
theorem dn_nn (hd : 0 < d) (h : 0 ≤ x) : 0 ≤ rnd dnS x d := by
  rw [rnd_dn]
  exact Int.ediv_nonneg h (Int.le_of_lt hd)
theorem cop_dvd {a b c : Int} (h : Int.gcd a c = 1) (hd : a ∣ b * c) : a ∣ b := by
  rw [← Int.natAbs_dvd_natAbs] at hd ⊢
  rw [Int.natAbs_mul] at hd
  exact Nat.Coprime.dvd_of_dvd_mul_right (show Nat.gcd a.natAbs c.natAbs = 1 from h) hd
/-- just the multiples -/
theorem step_iff (hd : 0 < d) (hP : 0 < P) : n * P % d = 0 ↔ n % shA d P = 0 := by
  have g0 := gI_pos (a := d) hP
  have a := sh_a (a := d) (b := P)
  have b := sh_b (a := d) (b := P)
  have c : Int.gcd (shA d P) (shB d P) = 1 := by
    have := gI_sh (a := d) hP
    unfold gI at this
    omega
  rw [← Int.dvd_iff_emod_eq_zero, ← Int.dvd_iff_emod_eq_zero]
  have e1 : n * P = gI d P * (n * shB d P) := by rw [Int.mul_left_comm, b]
  have key : d ∣ n * P ↔ shA d P ∣ n * shB d P := by
    rw [e1]
    have := Int.mul_dvd_mul_iff_left (a := gI d P) (b := shA d P) (c := n * shB d P) (by omega)
    rw [a] at this
    exact this
  rw [key]
  exact ⟨fun h => cop_dvd c h, fun h => Int.dvd_mul_of_dvd_left h⟩
theorem shA_self (hd : 0 < d) : shA d d = 1 := by
  unfold shA gI
  rw [Int.gcd_self]
  have : (d.natAbs : Int) = d := by omega
  rw [this]
  exact Int.ediv_self (by omega)
end
theorem led_rnd {U N U2 N2 n : Int} (hU : 0 < U) (y : PySem.Str) : rnd y (shA (n * N) U * U2) (shB (n * N) U * N2) = rnd y (n * (N * U2)) (N2 * U) := by
  have e := sh_eq (a := n * N) (b := U) hU
  have z := sh_B0 (a := n * N) (b := U) hU
  generalize shA (n * N) U = t0 at *
  generalize shB (n * N) U = t1 at *
  rw [← rnd_scale hU y, ← rnd_scale (x := n * (N * U2)) (d := N2 * U) z y]
  have e1 : U * (t0 * U2) = t1 * (n * (N * U2)) := by
    rw [show U * (t0 * U2) = t0 * U * U2 by ac_rfl, e]
    ac_rfl
  have e2 : U * (t1 * N2) = t1 * (N2 * U) := by ac_rfl
  rw [e1, e2]
theorem pair_ok : ∀ r ∈ rates, ∀ q ∈ rates, 2000000 * (dnF r * upF q) ≤ (dayF (gF q) (wF q) - 1) * (dnF q * upF r) ∧ 1 ≤ shA (upF r * dnF q) (dnF r * upF q) ∧ shA (upF r * dnF q) (dnF r * upF q) < 100000 := by decide +kernel
end FD
namespace FD
theorem ord_gt (a b : Cd) : ordD .gt a.d b.d = some (decide (Clt b a)) := by
  have h := cd_gt a b
  have h' : guard' (shp 60 a.d && shp 60 b.d) (match ordD .gt a.d b.d with | some x => R.ok (D.bl x) | none => .bad) = _ := h
  rw [cd_shp, cd_shp] at h'
  cases e : ordD .gt a.d b.d with
  | none => rw [e] at h'; cases h'
  | some x =>
    rw [e] at h'
    have h2 : R.ok (D.bl x) = .ok (.bl (decide (Clt b a))) := h'
    injection h2 with h3
    injection h3 with h4
    rw [h4]
theorem ord_lt (a b : Cd) : ordD .lt a.d b.d = some (decide (Clt a b)) := by
  have h := cd_lt a b
  have h' : guard' (shp 60 a.d && shp 60 b.d) (match ordD .lt a.d b.d with | some x => R.ok (D.bl x) | none => .bad) = _ := h
  rw [cd_shp, cd_shp] at h'
  cases e : ordD .lt a.d b.d with
  | none => rw [e] at h'; cases h'
  | some x =>
    rw [e] at h'
    have h2 : R.ok (D.bl x) = .ok (.bl (decide (Clt a b))) := h'
    injection h2 with h3
    injection h3 with h4
    rw [h4]
theorem max_cd (a b : Cd) : maxD a.d b.d = .ok (if Clt a b then b.d else a.d) := by
  have e : maxD a.d b.d = guard' (shp 60 b.d && shp 60 a.d) (match ordD .gt b.d a.d with
      | some c => (match c with | true => .ok b.d | false => .ok a.d)
      | none => .bad) := rfl
  rw [e, cd_shp, cd_shp, ord_gt]
  by_cases h : Clt a b
  · rw [decide_eq_true h, if_pos h]
    rfl
  · rw [decide_eq_false h, if_neg h]
    rfl
theorem min_cd (a b : Cd) : minD a.d b.d = .ok (if Clt b a then b.d else a.d) := by
  have e : minD a.d b.d = guard' (shp 60 b.d && shp 60 a.d) (match ordD .lt b.d a.d with
      | some c => (match c with | true => .ok b.d | false => .ok a.d)
      | none => .bad) := rfl
  rw [e, cd_shp, cd_shp, ord_lt]
  by_cases h : Clt b a
  · rw [decide_eq_true h, if_pos h]
    rfl
  · rw [decide_eq_false h, if_neg h]
    rfl
section
variable {g w a b : Int}
/-- the code of a count -/
def cdD (g w n : Int) : D := (cod g w n).d
theorem clt_cod (G : GW g w) (a0 : 0 ≤ a) (a1 : a < dayF g w) (b0 : 0 ≤ b) (b1 : b < dayF g w) : Clt (cod g w a) (cod g w b) ↔ a < b := by
  rw [clt_cnt G (cod_ok G a0 a1) (cod_ok G b0 b1), cnt_cod G a0 a1, cnt_cod G b0 b1]
theorem max_cod (G : GW g w) (a0 : 0 ≤ a) (a1 : a < dayF g w) (b0 : 0 ≤ b) (b1 : b < dayF g w) {m : Int} (hm : (a < b ∧ m = b) ∨ (¬ a < b ∧ m = a)) : biEv .max2 [cdD g w a, cdD g w b] = .ok (cdD g w m) := by
  show maxD (cod g w a).d (cod g w b).d = _
  rw [max_cd]
  rcases hm with ⟨h, rfl⟩ | ⟨h, rfl⟩
  · rw [if_pos ((clt_cod G a0 a1 b0 b1).mpr h)]
    rfl
  · rw [if_neg (fun z => h ((clt_cod G a0 a1 b0 b1).mp z))]
    rfl
theorem min_cod (G : GW g w) (a0 : 0 ≤ a) (a1 : a < dayF g w) (b0 : 0 ≤ b) (b1 : b < dayF g w) {m : Int} (hm : (b < a ∧ m = b) ∨ (¬ b < a ∧ m = a)) : biEv .min2 [cdD g w a, cdD g w b] = .ok (cdD g w m) := by
  show minD (cod g w a).d (cod g w b).d = _
  rw [min_cd]
  rcases hm with ⟨h, rfl⟩ | ⟨h, rfl⟩
  · rw [if_pos ((clt_cod G b0 b1 a0 a1).mpr h)]
    rfl
  · rw [if_neg (fun z => h ((clt_cod G b0 b1 a0 a1).mp z))]
    rfl
theorem lt_cod (G : GW g w) (a0 : 0 ≤ a) (a1 : a < dayF g w) (b0 : 0 ≤ b) (b1 : b < dayF g w) : cmpEv .lt (cdD g w a) (cdD g w b) = .ok (.bl (decide (a < b))) := by
  show cmpEv .lt (cod g w a).d (cod g w b).d = _
  rw [cd_lt, decide_eq_decide.mpr (clt_cod G a0 a1 b0 b1)]
theorem gt_cod (G : GW g w) (a0 : 0 ≤ a) (a1 : a < dayF g w) (b0 : 0 ≤ b) (b1 : b < dayF g w) : cmpEv .gt (cdD g w a) (cdD g w b) = .ok (.bl (decide (b < a))) := by
  show cmpEv .gt (cod g w a).d (cod g w b).d = _
  rw [cd_gt, decide_eq_decide.mpr (clt_cod G b0 b1 a0 a1)]
/-- a span of counts -/
def spD2 (g w a b : Int) : D := .tup [cdD g w a, cdD g w b]
theorem sp_0 : idxEv (spD2 g w a b) (.int 0) = .ok (cdD g w a) := ti0
theorem sp_1 : idxEv (spD2 g w a b) (.int 1) = .ok (cdD g w b) := ti1
theorem sp_ne : cmpEv .ne (spD2 g w a b) (spD2 g w a b) = .ok (.bl false) := by
  simp [cmpEv, spD2, cdD, eqOk, shp, shps, cd_shp, eqv, eqvs, cd_eqv, guard']
theorem sp_is : cmpEv .is (spD2 g w a b) .non = .ok (.bl false) := rfl
theorem sp_isnot : cmpEv .isnot (spD2 g w a b) .non = .ok (.bl true) := rfl
theorem nn_ne : cmpEv .ne .non .non = .ok (.bl false) := rfl
end
end FD
namespace FD
structure Pc where
  x : PySem.Str
  a : Int
  b : Int
theorem Pc.ext' {p q : Pc} (h1 : p.x = q.x) (h2 : p.a = q.a) (h3 : p.b = q.b) : p = q := by
  cases p
  cases q
  cases h1
  cases h2
  cases h3
  rfl
instance : DecidableEq Pc := fun p q => decidable_of_iff (p.x = q.x ∧ p.a = q.a ∧ p.b = q.b) ⟨fun h => Pc.ext' h.1 h.2.1 h.2.2, fun h => by subst h; exact ⟨rfl, rfl, rfl⟩⟩
abbrev Fr := PySem.Str × Int
def runs (x : PySem.Str) (a : Int) : Nat → List Fr
  | 0 => []
  | n + 1 => (x, a) :: runs x (a + 1) n
theorem runs_len (x : PySem.Str) : ∀ (n : Nat) (a : Int), (runs x a n).length = n
  | 0, _ => rfl
  | n + 1, a => congrArg (· + 1) (runs_len x n (a + 1))
theorem runs_app (x : PySem.Str) : ∀ (n m : Nat) (a : Int), runs x a (n + m) = runs x a n ++ runs x (a + n) m
  | 0, m, a => by
    rw [Nat.zero_add, show a + ((0 : Nat) : Int) = a by omega]
    rfl
  | n + 1, m, a => by
    rw [show n + 1 + m = (n + m) + 1 by omega]
    show (x, a) :: runs x (a + 1) (n + m) = (x, a) :: (runs x (a + 1) n ++ runs x (a + ((n + 1 : Nat) : Int)) m)
    rw [runs_app x n m (a + 1), show a + 1 + (n : Int) = a + ((n + 1 : Nat) : Int) by omega]
theorem runs_take (x : PySem.Str) : ∀ (n k : Nat) (a : Int), (runs x a n).take k = runs x a (min k n)
  | 0, k, a => by simp [runs]
  | n + 1, 0, a => by simp [runs]
  | n + 1, k + 1, a => by
    show (x, a) :: (runs x (a + 1) n).take k = _
    rw [runs_take x n k (a + 1), show min (k + 1) (n + 1) = min k n + 1 by omega]
    rfl
theorem runs_drop (x : PySem.Str) : ∀ (n k : Nat) (a : Int), (runs x a n).drop k = runs x (a + (min k n : Nat)) (n - k)
  | 0, k, a => by simp [runs]
  | n + 1, 0, a => by
    rw [List.drop_zero, show ((min 0 (n + 1) : Nat) : Int) = 0 by simp, show a + 0 = a by omega, Nat.sub_zero]
  | n + 1, k + 1, a => by
    show (runs x (a + 1) n).drop k = _
    rw [runs_drop x n k (a + 1), show a + 1 + ((min k n : Nat) : Int) = a + ((min (k + 1) (n + 1) : Nat) : Int) by omega, show n + 1 - (k + 1) = n - k by omega]
theorem runs_get (x : PySem.Str) : ∀ (n k : Nat) (a : Int), k < n → (runs x a n)[k]? = some (x, a + k)
  | 0, k, a, h => absurd h (Nat.not_lt_zero _)
  | n + 1, 0, a, h => by
    show some (x, a) = some (x, a + ((0 : Nat) : Int))
    rw [show a + ((0 : Nat) : Int) = a by omega]
  | n + 1, k + 1, a, h => by
    show (runs x (a + 1) n)[k]? = _
    rw [runs_get x n k (a + 1) (by omega), show a + 1 + (k : Int) = a + ((k + 1 : Nat) : Int) by omega]
def Pc.n (p : Pc) : Nat := (p.b - p.a).toNat
def Pc.fr (p : Pc) : List Fr := runs p.x p.a p.n
theorem Pc.fr_len (p : Pc) : p.fr.length = p.n := runs_len _ _ _
def frs (ps : List Pc) : List Fr := ps.flatMap Pc.fr
theorem frs_nil : frs [] = [] := rfl
theorem frs_cons (p : Pc) (ps : List Pc) : frs (p :: ps) = p.fr ++ frs ps := rfl
theorem frs_app (ps qs : List Pc) : frs (ps ++ qs) = frs ps ++ frs qs := List.flatMap_append
def many (ps : List Pc) : Int := (ps.map fun p => p.b - p.a).sum
theorem many_cons (p : Pc) (ps : List Pc) : many (p :: ps) = p.b - p.a + many ps := by
  unfold many
  rw [List.map_cons, List.sum_cons]
theorem many_len : ∀ {ps : List Pc}, (∀ p ∈ ps, p.a ≤ p.b) → many ps = (frs ps).length
  | [], _ => rfl
  | p :: ps, h => by
    have h1 := h p (List.mem_cons_self ..)
    rw [many_cons, many_len fun q hq => h q (List.mem_cons_of_mem _ hq), frs_cons, List.length_append, Pc.fr_len]
    unfold Pc.n
    omega
def clStep (m : List Pc) (p : Pc) : List Pc :=
  if p.a = p.b then m else match m.getLast? with
    | some q => if q.x = p.x ∧ q.b = p.a then m.dropLast ++ [⟨p.x, q.a, p.b⟩] else m ++ [p]
    | none => m ++ [p]
def clos (ps : List Pc) : List Pc := ps.foldl clStep []
/-- each piece has a frame, none goes on where the one ahead ends -/
def Can : List Pc → Prop
  | [] => True
  | p :: ps => p.a < p.b ∧ (match ps with | [] => True | q :: _ => ¬ (p.x = q.x ∧ p.b = q.a)) ∧ Can ps
theorem Can.tl {p : Pc} {ps : List Pc} (h : Can (p :: ps)) : Can ps := h.2.2
theorem fr_head {p : Pc} (h : p.a < p.b) : ∃ t, p.fr = (p.x, p.a) :: t := by
  unfold Pc.fr Pc.n
  obtain ⟨n, e⟩ : ∃ n, (p.b - p.a).toNat = n + 1 := ⟨(p.b - p.a).toNat - 1, by omega⟩
  rw [e]
  exact ⟨_, rfl⟩
theorem frs_head {p : Pc} {ps : List Pc} (h : p.a < p.b) : (frs (p :: ps))[0]? = some (p.x, p.a) := by
  obtain ⟨t, e⟩ := fr_head h
  rw [frs_cons, e]
  rfl
theorem can_uniq : ∀ {ps qs : List Pc}, Can ps → Can qs → frs ps = frs qs → ps = qs
  | [], [], _, _, _ => rfl
  | [], q :: qs, _, h, e => by
    have := frs_head (ps := qs) h.1
    rw [← e] at this
    cases this
  | p :: ps, [], h, _, e => by
    have := frs_head (ps := ps) h.1
    rw [e] at this
    cases this
  | p :: ps, q :: qs, hp, hq, e => by
    have h1 := frs_head (ps := ps) hp.1
    rw [e, frs_head hq.1] at h1
    have hx : q.x = p.x := congrArg Prod.fst (Option.some.inj h1)
    have ha : q.a = p.a := congrArg Prod.snd (Option.some.inj h1)
    have key : ∀ (p q : Pc) (ps qs : List Pc), Can (p :: ps) → Can (q :: qs) → q.x = p.x → q.a = p.a → frs (p :: ps) = frs (q :: qs) → ¬ p.b < q.b := by
      intro p q ps qs hp hq hx ha e hlt
      have lp := hp.1
      have at1 : (frs (q :: qs))[p.n]? = some (p.x, p.b) := by
        rw [frs_cons, List.getElem?_append_left (by rw [Pc.fr_len]; unfold Pc.n; omega)]
        unfold Pc.fr
        rw [runs_get _ _ _ _ (by unfold Pc.n; omega), hx, ha]
        unfold Pc.n
        congr 2
        omega
      rw [← e, frs_cons, List.getElem?_append_right (by rw [Pc.fr_len]; omega), Pc.fr_len, Nat.sub_self] at at1
      cases ps with
      | nil => cases at1
      | cons p2 ps =>
        rw [frs_head hp.tl.1] at at1
        have z := Option.some.inj at1
        exact hp.2.1 ⟨(congrArg Prod.fst z).symm, (congrArg Prod.snd z).symm⟩
    have hb : p.b = q.b := by
      have n1 := key p q ps qs hp hq hx ha e
      have n2 := key q p qs ps hq hp hx.symm ha.symm e.symm
      omega
    have hpq : p = q := Pc.ext' hx.symm ha.symm hb
    subst hpq
    rw [frs_cons, frs_cons] at e
    rw [can_uniq hp.tl hq.tl (List.append_cancel_left e)]
theorem can_snoc : ∀ {m : List Pc} {p : Pc}, Can m → p.a < p.b → (∀ q, m.getLast? = some q → ¬ (q.x = p.x ∧ q.b = p.a)) → Can (m ++ [p])
  | [], p, _, h, _ => ⟨h, True.intro, True.intro⟩
  | [q], p, hm, h, hl => ⟨hm.1, hl q rfl, h, True.intro, True.intro⟩
  | q :: q2 :: m, p, hm, h, hl => by
    have ih := can_snoc (m := q2 :: m) hm.tl h (fun z hz => hl z (by rw [List.getLast?_cons_cons]; exact hz))
    exact ⟨hm.1, hm.2.1, ih⟩
theorem can_last : ∀ {m : List Pc} {q : Pc} {b : Int}, Can (m ++ [q]) → q.a < b → Can (m ++ [⟨q.x, q.a, b⟩])
  | [], q, b, h, hb => ⟨hb, True.intro, True.intro⟩
  | [z], q, b, h, hb => ⟨h.1, h.2.1, hb, True.intro, True.intro⟩
  | z :: z2 :: m, q, b, h, hb => ⟨h.1, h.2.1, can_last (m := z2 :: m) h.tl hb⟩
theorem snoc_of_last {α : Type} {m : List α} {q : α} (h : m.getLast? = some q) : m = m.dropLast ++ [q] := by
  have hne : m ≠ [] := fun e => by rw [e] at h; cases h
  rw [List.getLast?_eq_some_getLast hne] at h
  have := List.dropLast_concat_getLast hne
  rw [Option.some.inj h] at this
  exact this.symm
theorem clStep_ok {m : List Pc} {p : Pc} (hm : Can m) (hp : p.a ≤ p.b) : Can (clStep m p) ∧ frs (clStep m p) = frs m ++ p.fr := by
  unfold clStep
  by_cases h0 : p.a = p.b
  · rw [if_pos h0]
    refine ⟨hm, ?_⟩
    unfold Pc.fr Pc.n
    rw [show (p.b - p.a).toNat = 0 by omega]
    exact (List.append_nil _).symm
  · rw [if_neg h0]
    have hlt : p.a < p.b := by omega
    have one : frs [p] = p.fr := List.append_nil _
    cases hl : m.getLast? with
    | none =>
      dsimp only
      refine ⟨can_snoc hm hlt (fun q hq => by rw [hl] at hq; cases hq), ?_⟩
      rw [frs_app, one]
    | some q =>
      dsimp only
      have em := snoc_of_last hl
      by_cases hc : q.x = p.x ∧ q.b = p.a
      · rw [if_pos hc]
        rw [em] at hm
        have ab : q.a < q.b := by
          have key : ∀ {l : List Pc} {z : Pc}, Can (l ++ [z]) → z.a < z.b := by
            intro l
            induction l with
            | nil => intro z h; exact h.1
            | cons y l ih => intro z h; exact ih h.tl
          exact key hm
        have c1 := can_last (b := p.b) hm (by omega)
        rw [← hc.1]
        refine ⟨c1, ?_⟩
        rw [frs_app]
        conv => rhs; rw [em, frs_app]
        rw [List.append_assoc]
        congr 1
        show runs q.x q.a (p.b - q.a).toNat ++ [] = (runs q.x q.a (q.b - q.a).toNat ++ []) ++ p.fr
        rw [List.append_nil, List.append_nil]
        unfold Pc.fr Pc.n
        rw [show (p.b - q.a).toNat = (q.b - q.a).toNat + (p.b - p.a).toNat by omega, runs_app, hc.1, show q.a + (((q.b - q.a).toNat : Nat) : Int) = p.a by omega]
      · rw [if_neg hc]
        refine ⟨can_snoc hm hlt (fun z hz => by rw [hl] at hz; cases hz; exact hc), ?_⟩
        rw [frs_app, one]
theorem clos_go : ∀ (ps m : List Pc), Can m → (∀ p ∈ ps, p.a ≤ p.b) → Can (ps.foldl clStep m) ∧ frs (ps.foldl clStep m) = frs m ++ frs ps
  | [], m, hm, _ => ⟨hm, (List.append_nil _).symm⟩
  | p :: ps, m, hm, h => by
    obtain ⟨h1, h2⟩ := clStep_ok hm (h p (List.mem_cons_self ..))
    obtain ⟨h3, h4⟩ := clos_go ps (clStep m p) h1 fun q hq => h q (List.mem_cons_of_mem _ hq)
    refine ⟨h3, ?_⟩
    rw [List.foldl_cons, h4, h2, List.append_assoc, frs_cons]
theorem clos_can {ps : List Pc} (h : ∀ p ∈ ps, p.a ≤ p.b) : Can (clos ps) := (clos_go ps [] True.intro h).1
theorem clos_frs {ps : List Pc} (h : ∀ p ∈ ps, p.a ≤ p.b) : frs (clos ps) = frs ps := (clos_go ps [] True.intro h).2
theorem clos_eq {ps qs : List Pc} (hp : ∀ p ∈ ps, p.a ≤ p.b) (hq : ∀ p ∈ qs, p.a ≤ p.b) (h : frs ps = frs qs) : clos ps = clos qs :=
  can_uniq (clos_can hp) (clos_can hq) (by rw [clos_frs hp, clos_frs hq, h])
theorem clos_same {ps : List Pc} (h : Can ps) (hp : ∀ p ∈ ps, p.a ≤ p.b) : clos ps = ps := can_uniq (clos_can hp) h (clos_frs hp)
theorem can_le : ∀ {ps : List Pc}, Can ps → ∀ p ∈ ps, p.a < p.b
  | [], _, p, hp => by cases hp
  | q :: ps, h, p, hp => by
    rcases List.mem_cons.mp hp with rfl | hp
    · exact h.1
    · exact can_le h.tl p hp
theorem clStep_len (m : List Pc) (p : Pc) : (clStep m p).length ≤ m.length + 1 := by
  unfold clStep
  split
  · omega
  · split
    · rename_i q hl
      split
      · have := snoc_of_last hl
        have hh := congrArg List.length this
        rw [List.length_append] at hh
        rw [List.length_append]
        simp only [List.length_cons, List.length_nil] at *
        omega
      · simp
    · simp
theorem clos_len_go : ∀ (ps m : List Pc), (ps.foldl clStep m).length ≤ m.length + ps.length
  | [], m => Nat.le_refl _
  | p :: ps, m => by
    have h1 := clos_len_go ps (clStep m p)
    have h2 := clStep_len m p
    rw [List.foldl_cons, List.length_cons]
    omega
theorem clos_len (ps : List Pc) : (clos ps).length ≤ ps.length := by
  have := clos_len_go ps []
  rw [List.length_nil] at this
  unfold clos
  omega
/-- what holds of all pieces' reels and ends holds of the fewest -/
theorem clStep_all {P : PySem.Str → Prop} {A : Int → Prop} {m : List Pc} {p : Pc} (hm : ∀ q ∈ m, P q.x ∧ A q.a ∧ A q.b) (hp : P p.x ∧ A p.a ∧ A p.b) : ∀ q ∈ clStep m p, P q.x ∧ A q.a ∧ A q.b := by
  intro q hq
  unfold clStep at hq
  split at hq
  · exact hm q hq
  · have ap : ∀ q, q ∈ m ++ [p] → P q.x ∧ A q.a ∧ A q.b := fun q hq => by
      rcases List.mem_append.mp hq with h | h
      · exact hm q h
      · rw [List.mem_singleton.mp h]; exact hp
    split at hq
    · rename_i z hl
      have hz : z ∈ m := List.mem_of_getLast? hl
      split at hq
      · rcases List.mem_append.mp hq with h | h
        · exact hm q (List.dropLast_subset m h)
        · rw [List.mem_singleton.mp h]
          exact ⟨hp.1, (hm z hz).2.1, hp.2.2⟩
      · exact ap q hq
    · exact ap q hq
theorem clos_all {P : PySem.Str → Prop} {A : Int → Prop} {ps : List Pc} (h : ∀ q ∈ ps, P q.x ∧ A q.a ∧ A q.b) : ∀ q ∈ clos ps, P q.x ∧ A q.a ∧ A q.b := by
  have go : ∀ (ps m : List Pc), (∀ q ∈ m, P q.x ∧ A q.a ∧ A q.b) → (∀ q ∈ ps, P q.x ∧ A q.a ∧ A q.b) → ∀ q ∈ ps.foldl clStep m, P q.x ∧ A q.a ∧ A q.b := by
    intro ps
    induction ps with
    | nil => intro m hm _; exact hm
    | cons p ps ih =>
      intro m hm hp
      exact ih _ (clStep_all hm (hp p (List.mem_cons_self ..))) fun q hq => hp q (List.mem_cons_of_mem _ hq)
  exact go ps [] (fun q hq => by cases hq) h
def strc (first last : Int) : Int → List Pc → List Pc
  | _, [] => []
  | ah, p :: ps => (if max (first - ah) 0 < min (last - ah) (p.b - p.a) then [⟨p.x, p.a + max (first - ah) 0, p.a + min (last - ah) (p.b - p.a)⟩] else []) ++ strc first last (ah + p.b - p.a) ps
theorem strc_frs {first last : Int} (h0 : 0 ≤ first) : ∀ {ps : List Pc} {ah : Int}, (∀ p ∈ ps, p.a ≤ p.b) → 0 ≤ ah → frs (strc first last ah ps) = ((frs ps).drop (first - ah).toNat).take ((last - ah).toNat - (first - ah).toNat)
  | [], ah, _, _ => by simp [strc, frs]
  | p :: ps, ah, h, ha => by
    have hp := h p (List.mem_cons_self ..)
    have ih := strc_frs (last := last) h0 (ps := ps) (ah := ah + p.b - p.a) (fun q hq => h q (List.mem_cons_of_mem _ hq)) (by omega)
    show frs ((if max (first - ah) 0 < min (last - ah) (p.b - p.a) then [⟨p.x, p.a + max (first - ah) 0, p.a + min (last - ah) (p.b - p.a)⟩] else []) ++ strc first last (ah + p.b - p.a) ps) = _
    rw [frs_app, ih, frs_cons, List.drop_append, List.take_append, Pc.fr_len]
    congr 1
    · have e1 : (p.fr.drop (first - ah).toNat).take ((last - ah).toNat - (first - ah).toNat) = runs p.x (p.a + (min (first - ah).toNat p.n : Nat)) (min ((last - ah).toNat - (first - ah).toNat) (p.n - (first - ah).toNat)) := by
        unfold Pc.fr
        rw [runs_drop, runs_take]
      rw [e1]
      split
      · rename_i hc
        show runs p.x (p.a + max (first - ah) 0) (p.a + min (last - ah) (p.b - p.a) - (p.a + max (first - ah) 0)).toNat ++ [] = _
        rw [List.append_nil]
        unfold Pc.n
        have w1 : ((min (first - ah).toNat (p.b - p.a).toNat : Nat) : Int) = max (first - ah) 0 := by omega
        rw [w1]
        congr 1
        omega
      · rename_i hc
        have w1 : min ((last - ah).toNat - (first - ah).toNat) (p.n - (first - ah).toNat) = 0 := by
          unfold Pc.n
          omega
        rw [w1]
        rfl
    · have w1 : (first - ah).toNat - p.n = (first - (ah + p.b - p.a)).toNat := by
        unfold Pc.n
        omega
      rw [w1]
      congr 1
      rw [List.length_drop, Pc.fr_len]
      unfold Pc.n
      omega
theorem strc_all {P : PySem.Str → Prop} {A : Int → Prop} {first last : Int} (cv : ∀ a b c, A a → A b → a ≤ c → c ≤ b → A c) : ∀ {ps : List Pc} {ah : Int}, (∀ q ∈ ps, P q.x ∧ A q.a ∧ A q.b) → ∀ q ∈ strc first last ah ps, (P q.x ∧ A q.a ∧ A q.b) ∧ q.a < q.b
  | [], ah, _, q, hq => by cases hq
  | p :: ps, ah, h, q, hq => by
    have hq' : q ∈ (if max (first - ah) 0 < min (last - ah) (p.b - p.a) then [⟨p.x, p.a + max (first - ah) 0, p.a + min (last - ah) (p.b - p.a)⟩] else ([] : List Pc)) ++ strc first last (ah + p.b - p.a) ps := hq
    rcases List.mem_append.mp hq' with hh | hh
    · split at hh
      · rename_i hc
        rw [List.mem_singleton.mp hh]
        obtain ⟨h1, h2, h3⟩ := h p (List.mem_cons_self ..)
        exact ⟨⟨h1, cv p.a p.b _ h2 h3 (by show p.a ≤ p.a + max (first - ah) 0; omega) (by show p.a + max (first - ah) 0 ≤ p.b; omega), cv p.a p.b _ h2 h3 (by show p.a ≤ p.a + min (last - ah) (p.b - p.a); omega) (by show p.a + min (last - ah) (p.b - p.a) ≤ p.b; omega)⟩, by show p.a + max (first - ah) 0 < p.a + min (last - ah) (p.b - p.a); omega⟩
      · cases hh
    · exact strc_all cv (fun z hz => h z (List.mem_cons_of_mem _ hz)) q hh
theorem strc_len {first last : Int} : ∀ (ps : List Pc) (ah : Int), (strc first last ah ps).length ≤ ps.length
  | [], ah => Nat.le_refl _
  | p :: ps, ah => by
    have ih := strc_len (first := first) (last := last) ps (ah + p.b - p.a)
    show ((if max (first - ah) 0 < min (last - ah) (p.b - p.a) then [_] else ([] : List Pc)) ++ strc first last (ah + p.b - p.a) ps).length ≤ _
    rw [List.length_append, List.length_cons]
    split <;> simp <;> omega
/-- frames as pieces of one frame each -/
def one1 (f : Fr) : Pc := ⟨f.1, f.2, f.2 + 1⟩
theorem ones_frs : ∀ fs : List Fr, frs (fs.map one1) = fs
  | [] => rfl
  | f :: fs => by
    rw [List.map_cons, frs_cons, ones_frs fs]
    show runs f.1 f.2 (f.2 + 1 - f.2).toNat ++ fs = _
    rw [show (f.2 + 1 - f.2).toNat = 1 by omega]
    rfl
theorem ones_le (fs : List Fr) : ∀ p ∈ fs.map one1, p.a ≤ p.b := fun p hp => by
  obtain ⟨f, _, rfl⟩ := List.mem_map.mp hp
  show f.2 ≤ f.2 + 1
  omega
theorem clos_ones {ps : List Pc} (h : ∀ p ∈ ps, p.a ≤ p.b) : clos ((frs ps).map one1) = clos ps := clos_eq (ones_le _) h (ones_frs _)
theorem clos_of {ps : List Pc} {fs : List Fr} (h : ∀ p ∈ ps, p.a ≤ p.b) (e : frs ps = fs) : clos (fs.map one1) = clos ps := by rw [← e]; exact clos_ones h
end FD
namespace FD
mutual
theorem eqv_refl : ∀ (n : Nat) (d : D), shp n d = true → eqv d d = true
  | _, .non, _ => rfl
  | _, .bl b, _ => by
    show (b == b) = true
    simp
  | _, .int i, _ => by
    show (i == i) = true
    simp
  | _, .str x, _ => by
    show (x == x) = true
    simp
  | n, .lst xs, h => by
    cases n with
    | zero => cases h
    | succ n => exact eqvs_refl n xs h
  | n, .tup xs, h => by
    cases n with
    | zero => cases h
    | succ n => exact eqvs_refl n xs h
  | _, .dic _, h => by cases h
  | _, .exc _, h => by cases h
  | _, .fn _, h => by cases h
  | _, .clo _ _, h => by cases h
  | _, .scr _, h => by cases h
theorem eqvs_refl : ∀ (n : Nat) (ds : List D), shps n ds = true → eqvs ds ds = true
  | _, [], _ => rfl
  | n, d :: ds, h => by
    have h' : (shp n d && shps n ds) = true := h
    rw [Bool.and_eq_true] at h'
    show (eqv d d && eqvs ds ds) = true
    rw [eqv_refl n d h'.1, eqvs_refl n ds h'.2]
    rfl
end
theorem ne_same {d : D} (h : shp 60 d = true) : cmpEv .ne d d = .ok (.bl false) := by
  show guard' (eqOk d d) (R.ok (D.bl (!eqv d d))) = _
  rw [eqv_refl 60 d h]
  unfold eqOk
  rw [h, Bool.and_true, Bool.or_true]
  rfl
theorem eq_same {d : D} (h : shp 60 d = true) : cmpEv .eq d d = .ok (.bl true) := by
  have e : cmpEv .eq d d = guard' (eqOk d d) (R.ok (D.bl (eqv d d))) := by
    cases d <;> first | rfl | (cases h)
  rw [e, eqv_refl 60 d h]
  unfold eqOk
  rw [h, Bool.and_true, Bool.or_true]
  rfl
theorem shps_all {n : Nat} : ∀ {ds : List D}, (∀ d ∈ ds, shp n d = true) → shps n ds = true
  | [], _ => rfl
  | d :: ds, h => by
    show (shp n d && shps n ds) = true
    rw [h d (List.mem_cons_self ..), shps_all fun x hx => h x (List.mem_cons_of_mem _ hx)]
    rfl
theorem shps_map {α : Type} {n : Nat} {f : α → D} (h : ∀ x, shp n (f x) = true) (xs : List α) : shps n (xs.map f) = true := shps_all fun d hd => by
  obtain ⟨x, _, rfl⟩ := List.mem_map.mp hd
  exact h x
section
variable {α β : Type}
theorem lc_sel {ft : Env → R Bool} {fe : Env → R D} {p : Pat} {ρ : Env} {f : α → D} {t : α → Bool} {g : α → D} : ∀ {xs : List α}, (∀ x ∈ xs, ∃ ρ', putP p (f x) ρ = .ok ρ' ∧ ft ρ' = .ok (t x) ∧ (t x = true → fe ρ' = .ok (g x))) → lcGo ft fe p ρ (xs.map f) = .ok ((xs.filter t).map g)
  | [], _ => rfl
  | x :: xs, h => by
    obtain ⟨ρ', e1, e2, e3⟩ := h x (List.mem_cons_self ..)
    have ih := lc_sel (xs := xs) fun y hy => h y (List.mem_cons_of_mem _ hy)
    show (putP p (f x) ρ).bind (fun ρ' => (ft ρ').bind fun b => match b with
      | true => (fe ρ').bind fun y => (lcGo ft fe p ρ (xs.map f)).bind fun ys => .ok (y :: ys)
      | false => lcGo ft fe p ρ (xs.map f)) = _
    rw [e1]
    show (ft ρ').bind (fun b => match b with
      | true => (fe ρ').bind fun y => (lcGo ft fe p ρ (xs.map f)).bind fun ys => .ok (y :: ys)
      | false => lcGo ft fe p ρ (xs.map f)) = _
    rw [e2, List.filter_cons]
    cases ht : t x with
    | false =>
      show lcGo ft fe p ρ (xs.map f) = _
      rw [ih]
      rfl
    | true =>
      show (fe ρ').bind (fun y => (lcGo ft fe p ρ (xs.map f)).bind fun ys => .ok (y :: ys)) = _
      rw [e3 ht, ih]
      rfl
theorem lc_map {ft : Env → R Bool} {fe : Env → R D} {p : Pat} {ρ : Env} {f : α → D} {g : α → D} {xs : List α} (h : ∀ x ∈ xs, ∃ ρ', putP p (f x) ρ = .ok ρ' ∧ ft ρ' = .ok true ∧ fe ρ' = .ok (g x)) : lcGo ft fe p ρ (xs.map f) = .ok (xs.map g) := by
  have := lc_sel (t := fun _ => true) (ft := ft) (fe := fe) (p := p) (ρ := ρ) (f := f) (g := g) (xs := xs) fun x hx => by
    obtain ⟨ρ', e1, e2, e3⟩ := h x hx
    exact ⟨ρ', e1, e2, fun _ => e3⟩
  rw [this, List.filter_eq_self.mpr fun _ _ => rfl]
theorem for_fold {f : α → D} {p : Pat} {b : Env → SR} {I : β → Env → Prop} {st : β → α → β} : ∀ {xs : List α}, (∀ s x ρ, x ∈ xs → I s ρ → ∃ ρ1 ρ2, putP p (f x) ρ = .ok ρ1 ∧ (b ρ1 = .nx ρ2 ∨ b ρ1 = .ct ρ2) ∧ I (st s x) ρ2) → ∀ {s : β} {ρ : Env}, I s ρ → ∃ ρ', forLoop p b (xs.map f) ρ = .nx ρ' ∧ I (xs.foldl st s) ρ'
  | [], _, s, ρ, h => ⟨ρ, rfl, h⟩
  | x :: xs, step, s, ρ, h => by
    obtain ⟨ρ1, ρ2, e1, e2, h2⟩ := step s x ρ (List.mem_cons_self ..) h
    obtain ⟨ρ', e3, h3⟩ := for_fold (fun s y ρ hy hI => step s y ρ (List.mem_cons_of_mem _ hy) hI) h2
    refine ⟨ρ', ?_, h3⟩
    show (putP p (f x) ρ).st ρ (fun ρ1 => match b ρ1 with
      | .nx ρ' => forLoop p b (xs.map f) ρ'
      | .ct ρ' => forLoop p b (xs.map f) ρ'
      | .bk ρ' => .nx ρ'
      | z => z) = _
    rw [e1]
    show (match b ρ1 with
      | .nx ρ' => forLoop p b (xs.map f) ρ'
      | .ct ρ' => forLoop p b (xs.map f) ρ'
      | .bk ρ' => .nx ρ'
      | z => z) = _
    rcases e2 with e2 | e2 <;> rw [e2] <;> exact e3
theorem for_done {f : α → D} {p : Pat} {b : Env → SR} {I : List α → Env → Prop} {xs : List α} (step : ∀ done x rest ρ, xs = done ++ x :: rest → I done ρ → ∃ ρ1 ρ2, putP p (f x) ρ = .ok ρ1 ∧ (b ρ1 = .nx ρ2 ∨ b ρ1 = .ct ρ2) ∧ I (done ++ [x]) ρ2) : ∀ {ρ : Env}, I [] ρ → ∃ ρ', forLoop p b (xs.map f) ρ = .nx ρ' ∧ I xs ρ' := by
  have gen : ∀ (todo done : List α) (ρ : Env), xs = done ++ todo → I done ρ → ∃ ρ', forLoop p b (todo.map f) ρ = .nx ρ' ∧ I xs ρ' := by
    intro todo
    induction todo with
    | nil =>
      intro done ρ e h
      rw [List.append_nil] at e
      subst e
      exact ⟨ρ, rfl, h⟩
    | cons x todo ih =>
      intro done ρ e h
      obtain ⟨ρ1, ρ2, e1, e2, h2⟩ := step done x todo ρ e h
      obtain ⟨ρ', e3, h3⟩ := ih (done ++ [x]) ρ2 (by rw [e, List.append_assoc]; rfl) h2
      refine ⟨ρ', ?_, h3⟩
      show (putP p (f x) ρ).st ρ (fun ρ1 => match b ρ1 with
        | .nx ρ' => forLoop p b (todo.map f) ρ'
        | .ct ρ' => forLoop p b (todo.map f) ρ'
        | .bk ρ' => .nx ρ'
        | z => z) = _
      rw [e1]
      show (match b ρ1 with
        | .nx ρ' => forLoop p b (todo.map f) ρ'
        | .ct ρ' => forLoop p b (todo.map f) ρ'
        | .bk ρ' => .nx ρ'
        | z => z) = _
      rcases e2 with e2 | e2 <;> rw [e2] <;> exact e3
  intro ρ h
  exact gen xs [] ρ rfl h
end
theorem v_lcg {o : Out} {elt : IE} {p : Pat} {it : II} {ifs : IEs} {ρ ρ' : Env} {xs ys : List D} (hw : wipeV ρ (slotsP p) = ρ') (h1 : evI o it ρ = .ok xs) (h2 : lcGo (evF o ifs) (evE o elt) p ρ' xs = .ok ys) (h3 : ys.length ≤ lim) : evE o (.lc elt p it ifs) ρ = .ok (.lst ys) := by
  subst hw
  unfold evE
  rw [h1]
  show (noexc (lcGo (evF o ifs) (evE o elt) p (wipeV ρ (slotsP p)) xs)).bind (fun ys => guard' (decide (ys.length ≤ lim)) (R.ok (D.lst ys))) = _
  rw [h2]
  show guard' (decide (ys.length ≤ lim)) (R.ok (D.lst ys)) = _
  rw [decide_eq_true h3]
  rfl
theorem v_rng1 {o : Out} {a : IE} {ρ : Env} {n : Int} (h : evE o a ρ = .ok (.int n)) (hr : rngOk n = true) : evI o (.rng1 a) ρ = .ok (rangeL 0 n.toNat) := by
  unfold evI
  rw [h]
  show guard' (rngOk n) (R.ok (rangeL 0 n.toNat)) = _
  rw [hr]
  rfl
theorem v_len1 {o : Out} {a : IE} {ρ : Env} {d : D} {n : Int} (h : evE o a ρ = .ok d) (hl : biEv .len [d] = .ok (.int n)) : evE o (.bi .len (.cons a .nil)) ρ = .ok (.int n) := by
  unfold evE evL
  rw [h]
  show noexc (biEv .len [d]) = _
  rw [hl]
  rfl
theorem rng_nat {n : Nat} (h : n ≤ 1000000) : rngOk (n : Int) = true := by
  unfold rngOk
  rw [decide_eq_true (show (-4611686018427387904 : Int) ≤ n by omega), decide_eq_true (show (n : Int) < 4611686018427387904 by omega)]
  rfl
theorem x_asgE {o : Out} {e : IE} {i : Nat} {ρ ρ' : Env} {d : D} (h : evE o e ρ = .ok d) (hs : ρ.set i (.pv d) = ρ') : exS o (.asg (.nm i) e) ρ = .nx ρ' := by rw [x_asg h, hs]
theorem x_no {o : Out} {c : IE} {a : ISs} {ρ : Env} (h : evT o c ρ = .ok false) : exS o (.iff c a .nil) ρ = .nx ρ := (x_iff h).trans rfl
theorem place_last (n : Nat) : place (n + 1) (-1) = some n := by
  unfold place
  rw [if_neg (by omega), if_pos (by omega)]
  congr 1
  omega
theorem last_idx (xs : List D) (d : D) : idxEv (.lst (xs ++ [d])) (.int (-1)) = .ok d := by
  show (match place (xs ++ [d]).length (-1) with
    | some m => (match (xs ++ [d])[m]? with | some d => R.ok d | none => .bad)
    | none => .bad) = _
  rw [List.length_append, List.length_singleton, place_last]
  show (match (xs ++ [d])[xs.length]? with | some d => R.ok d | none => .bad) = _
  rw [List.getElem?_append_right (Nat.le_refl _), Nat.sub_self]
  rfl
theorem last_at {α : Type} (xs : List α) (d : α) : atPl (xs ++ [d]) (.int (-1)) = .ok (xs.length, d) := by
  show (match place (xs ++ [d]).length (-1) with
    | some m => (match (xs ++ [d])[m]? with | some d => R.ok (m, d) | none => .bad)
    | none => .bad) = _
  rw [List.length_append, List.length_singleton, place_last]
  show (match (xs ++ [d])[xs.length]? with | some d => R.ok (xs.length, d) | none => .bad) = _
  rw [List.getElem?_append_right (Nat.le_refl _), Nat.sub_self]
  rfl
theorem set_last {α : Type} (xs : List α) (d e : α) : (xs ++ [d]).set xs.length e = xs ++ [e] := by
  rw [List.set_append_right _ _ (Nat.le_refl _), Nat.sub_self]
  rfl
theorem cs_eq (x y : PySem.Str) : cmpEv .eq (.str x) (.str y) = .ok (.bl (decide (x = y))) := by
  show guard' (eqOk (.str x) (.str y)) (R.ok (D.bl (x == y))) = _
  have e : eqOk (.str x) (.str y) = true := rfl
  have e2 : (x == y) = decide (x = y) := by
    by_cases h : x = y
    · subst h
      simp
    · rw [decide_eq_false h]
      simpa using h
  rw [e, e2]
  rfl
def intsFrom (a : Int) : Nat → List Int
  | 0 => []
  | n + 1 => a :: intsFrom (a + 1) n
theorem rangeL_eq : ∀ (n : Nat) (a : Int), rangeL a n = (intsFrom a n).map D.int
  | 0, _ => rfl
  | n + 1, a => by
    show D.int a :: rangeL (a + 1) n = D.int a :: (intsFrom (a + 1) n).map D.int
    rw [rangeL_eq n (a + 1)]
theorem runs_eq (x : PySem.Str) : ∀ (n : Nat) (a : Int), runs x a n = (intsFrom a n).map fun i => (x, i)
  | 0, _ => rfl
  | n + 1, a => by
    show (x, a) :: runs x (a + 1) n = (x, a) :: (intsFrom (a + 1) n).map fun i => (x, i)
    rw [runs_eq x n (a + 1)]
theorem intsFrom_len : ∀ (n : Nat) (a : Int), (intsFrom a n).length = n
  | 0, _ => rfl
  | n + 1, a => congrArg (· + 1) (intsFrom_len n (a + 1))
def occ (f : Fr) : Int → List Fr → List Int
  | _, [] => []
  | ah, g :: r => if g = f then ah :: occ f (ah + 1) r else occ f (ah + 1) r
theorem occ_app (f : Fr) : ∀ (xs ys : List Fr) (ah : Int), occ f ah (xs ++ ys) = occ f ah xs ++ occ f (ah + xs.length) ys
  | [], ys, ah => by
    show occ f ah ys = [] ++ occ f (ah + ((0 : Nat) : Int)) ys
    rw [show ah + ((0 : Nat) : Int) = ah by omega, List.nil_append]
  | g :: xs, ys, ah => by
    show (if g = f then ah :: occ f (ah + 1) (xs ++ ys) else occ f (ah + 1) (xs ++ ys)) = (if g = f then ah :: occ f (ah + 1) xs else occ f (ah + 1) xs) ++ _
    rw [occ_app f xs ys (ah + 1), List.length_cons, show ah + 1 + (xs.length : Int) = ah + ((xs.length + 1 : Nat) : Int) by omega]
    split <;> rfl
theorem occ_run (f : Fr) (x : PySem.Str) : ∀ (n : Nat) (a ah : Int), occ f ah (runs x a n) = if x = f.1 ∧ a ≤ f.2 ∧ f.2 < a + n then [ah + f.2 - a] else []
  | 0, a, ah => by
    rw [if_neg (by omega)]
    rfl
  | n + 1, a, ah => by
    show (if (x, a) = f then ah :: occ f (ah + 1) (runs x (a + 1) n) else occ f (ah + 1) (runs x (a + 1) n)) = _
    rw [occ_run f x n (a + 1) (ah + 1)]
    obtain ⟨y, b⟩ := f
    dsimp only
    by_cases hx : x = y
    · subst hx
      by_cases hb : a = b
      · subst hb
        rw [if_pos rfl, if_neg (by omega), if_pos ⟨rfl, by omega, by omega⟩, show ah + a - a = ah by omega]
      · rw [if_neg (fun z => hb (congrArg Prod.snd z))]
        by_cases h2 : a + 1 ≤ b ∧ b < a + 1 + n
        · rw [if_pos ⟨rfl, h2⟩, if_pos ⟨rfl, by omega, by omega⟩, show ah + 1 + b - (a + 1) = ah + b - a by omega]
        · rw [if_neg (fun z => h2 z.2), if_neg (fun z => h2 ⟨by omega, by omega⟩)]
    · rw [if_neg (fun z => hx (congrArg Prod.fst z)), if_neg (fun z => hx z.1), if_neg (fun z => hx z.1)]
theorem occ_pcs (f : Fr) : ∀ (ps : List Pc) (ah : Int), (occ f ah (frs ps)).length ≤ ps.length
  | [], _ => Nat.le_refl _
  | p :: ps, ah => by
    rw [frs_cons, occ_app, List.length_append, List.length_cons]
    have ih := occ_pcs f ps (ah + p.fr.length)
    have h1 : (occ f ah p.fr).length ≤ 1 := by
      unfold Pc.fr
      rw [occ_run]
      split <;> simp
    omega
theorem occ_len (f : Fr) : ∀ (xs : List Fr) (ah : Int), (occ f ah xs).length ≤ xs.length
  | [], _ => Nat.le_refl _
  | g :: xs, ah => by
    have ih := occ_len f xs (ah + 1)
    show (if g = f then ah :: occ f (ah + 1) xs else occ f (ah + 1) xs).length ≤ _
    split <;> simp only [List.length_cons] <;> omega
theorem occ_sel (f : Fr) : ∀ (xs ys : List Fr) (t : Int → Bool), (∀ i, i < ys.length → t ((xs.length + i : Nat) : Int) = decide (ys[i]? = some f)) → (intsFrom xs.length ys.length).filter t = occ f xs.length ys
  | xs, [], t, h => rfl
  | xs, g :: ys, t, h => by
    have h0 := h 0 (by simp)
    have ih := occ_sel f (xs ++ [g]) ys t fun i hi => by
      have := h (i + 1) (by rw [List.length_cons]; omega)
      rw [List.getElem?_cons_succ] at this
      rw [← this, List.length_append, List.length_singleton]
      congr 2
      omega
    rw [List.length_append, List.length_singleton, Int.natCast_add] at ih
    show ((xs.length : Int) :: intsFrom (xs.length + 1) ys.length).filter t = (if g = f then (xs.length : Int) :: occ f (xs.length + 1) ys else occ f (xs.length + 1) ys)
    rw [List.filter_cons, show t (xs.length : Int) = decide (g = f) by rw [show ((xs.length : Nat) : Int) = ((xs.length + 0 : Nat) : Int) by omega, h0]; simp]
    have ih' : (intsFrom (xs.length + 1) ys.length).filter t = occ f (xs.length + 1) ys := ih
    rw [ih']
    by_cases e : g = f
    · rw [if_pos e, if_pos (decide_eq_true e)]
    · rw [if_neg e, if_neg (by simpa using e)]
def Pc.d (p : Pc) : D := .tup [.str p.x, .int p.a, .int p.b]
def Pc.l (p : Pc) : List D := [.str p.x, .int p.a, .int p.b]
def frD (f : Fr) : D := .tup [.str f.1, .int f.2]
theorem pc_0 (p : Pc) : idxEv p.d (.int 0) = .ok (.str p.x) := ti0
theorem pc_1 (p : Pc) : idxEv p.d (.int 1) = .ok (.int p.a) := ti1
theorem pc_2 (p : Pc) : idxEv p.d (.int 2) = .ok (.int p.b) := ti2
theorem pl_0 (p : Pc) : idxEv (.lst p.l) (.int 0) = .ok (.str p.x) := rfl
theorem pl_2 (p : Pc) : idxEv (.lst p.l) (.int 2) = .ok (.int p.b) := rfl
theorem pl_at (p : Pc) : atPl p.l (.int 2) = .ok (2, .int p.b) := rfl
theorem max2_int (i j : Int) : biEv .max2 [.int i, .int j] = .ok (.int (max i j)) := by
  show R.ok (D.int (if j > i then j else i)) = _
  congr 2
  split <;> omega
theorem min2_int (i j : Int) : biEv .min2 [.int i, .int j] = .ok (.int (min i j)) := by
  show R.ok (D.int (if j < i then j else i)) = _
  congr 2
  split <;> omega
theorem bi_tuple (xs : List D) : biEv .tuple [.lst xs] = .ok (.tup xs) := rfl
theorem bi_tupleT (xs : List D) : biEv .tuple [.tup xs] = .ok (.tup xs) := rfl
theorem bi_listT (xs : List D) : biEv .list [.tup xs] = .ok (.lst xs) := rfl
theorem bi_lenL (xs : List D) : biEv .len [.lst xs] = .ok (.int xs.length) := rfl
theorem bi_lenT (xs : List D) : biEv .len [.tup xs] = .ok (.int xs.length) := rfl
theorem sort2 (u v : Int) : biEv .sorted [.lst [.int u, .int v]] = .ok (.lst [.int (min u v), .int (max u v)]) := by
  show guard' true (R.ok (D.lst (if ltD (.int v) (.int u) then [.int v, .int u] else [.int u, .int v]))) = _
  show R.ok (D.lst (if decide (v < u) = true then [D.int v, .int u] else [.int u, .int v])) = _
  by_cases h : v < u
  · rw [if_pos (decide_eq_true h), show min u v = v by omega, show max u v = u by omega]
  · rw [if_neg (by simpa using h), show min u v = u by omega, show max u v = v by omega]
theorem cut_map {α β : Type} (g : α → β) (xs : List α) (lo hi : Option Int) : cut (xs.map g) lo hi = (cut xs lo hi).map g := by
  unfold cut
  rw [List.length_map, List.map_take, List.map_drop]
theorem sb_nn {n d : Nat} {i : Int} (h0 : 0 ≤ i) (h1 : i ≤ n) : sbound n d (some i) = i.toNat := by
  show (if i < 0 then (if i + n < 0 then 0 else (i + n).toNat) else (if i < n then i.toNat else n)) = _
  rw [if_neg (by omega)]
  split <;> omega
theorem cut_both {α : Type} {xs : List α} {f l : Int} (h0 : 0 ≤ f) (h1 : f ≤ l) (h2 : l ≤ xs.length) : cut xs (some f) (some l) = (xs.drop f.toNat).take (l.toNat - f.toNat) := by
  unfold cut
  rw [sb_nn h0 (by omega), sb_nn (by omega) h2]
theorem cut_to {α : Type} {xs : List α} {l : Int} (h0 : 0 ≤ l) (h2 : l ≤ xs.length) : cut xs none (some l) = xs.take l.toNat := by
  unfold cut
  rw [sb_nn h0 h2]
  rfl
theorem cut_frm {α : Type} {xs : List α} {f : Int} (h0 : 0 ≤ f) (h2 : f ≤ xs.length) : cut xs (some f) none = xs.drop f.toNat := by
  unfold cut
  rw [sb_nn h0 h2]
  exact List.take_of_length_le (by rw [List.length_drop]; exact Nat.le_refl _)
theorem strc_snoc {f l : Int} (x : Pc) : ∀ (ps : List Pc) (ah : Int), strc f l ah (ps ++ [x]) = strc f l ah ps ++ (if max (f - (ah + many ps)) 0 < min (l - (ah + many ps)) (x.b - x.a) then [⟨x.x, x.a + max (f - (ah + many ps)) 0, x.a + min (l - (ah + many ps)) (x.b - x.a)⟩] else [])
  | [], ah => by
    rw [show ah + many [] = ah by unfold many; simp]
    show _ ++ [] = [] ++ _
    rw [List.append_nil, List.nil_append]
  | p :: ps, ah => by
    rw [List.cons_append]
    show _ ++ strc f l (ah + p.b - p.a) (ps ++ [x]) = (_ ++ strc f l (ah + p.b - p.a) ps) ++ _
    rw [strc_snoc x ps (ah + p.b - p.a), many_cons, show ah + p.b - p.a + many ps = ah + (p.b - p.a + many ps) by omega, List.append_assoc]
theorem many_app (ps qs : List Pc) : many (ps ++ qs) = many ps + many qs := by
  unfold many
  rw [List.map_append, List.sum_append]
/-- the reels that are drawn -/
def reelsR : List PySem.Str := [⟨#[97]⟩, ⟨#[98]⟩, ⟨#[99, 117, 116]⟩, ⟨#[122, 122]⟩, ⟨#[122, 122, 122]⟩, ⟨#[122]⟩, ⟨#[97, 98, 99, 100]⟩]
theorem okStr_reel {x : PySem.Str} (h : x ∈ reelsR) : okStr x = true := by
  simp only [reelsR, List.mem_cons, List.not_mem_nil, or_false] at h
  rcases h with rfl | rfl | rfl | rfl | rfl | rfl | rfl <;> rfl
/-- a clip's datum -/
def clD (g w : Int) (p : Pc) : D := .tup [.str p.x, spD2 g w p.a p.b]
theorem cl_shp {g w : Int} {p : Pc} (h : okStr p.x = true) : shp 50 (clD g w p) = true := by
  show (okStr p.x && (shps 48 [cdD g w p.a, cdD g w p.b] && true)) = true
  rw [h]
  show ((shp 48 (cod g w p.a).d && (shp 48 (cod g w p.b).d && true)) && true) = true
  rw [cd_shp, cd_shp]
  rfl
theorem cls_shp {g w : Int} {ps : List Pc} (h : ∀ p ∈ ps, okStr p.x = true) : shp 60 (.tup (ps.map (clD g w))) = true := by
  have mono : ∀ d, shp 50 d = true → shp 59 d = true := by
    have key : ∀ (d : D) (n : Nat), shp n d = true → shp (n + 9) d = true := by
      intro d
      exact D.rec (motive_1 := fun d => ∀ n, shp n d = true → shp (n + 9) d = true) (motive_2 := fun ds => ∀ n, shps n ds = true → shps (n + 9) ds = true) (motive_3 := fun _ => True) (motive_4 := fun _ => True)
        (fun _ _ => rfl) (fun _ _ _ => rfl) (fun _ _ _ => rfl) (fun _ _ h => h)
        (fun xs ih n h => by
          cases n with
          | zero => cases h
          | succ n =>
            have := ih n h
            rw [show n + 1 + 9 = (n + 9) + 1 by omega]
            exact this)
        (fun xs ih n h => by
          cases n with
          | zero => cases h
          | succ n =>
            have := ih n h
            rw [show n + 1 + 9 = (n + 9) + 1 by omega]
            exact this)
        (fun _ _ _ h => by cases h) (fun _ _ h => by cases h) (fun _ _ h => by cases h) (fun _ _ _ _ h => by cases h) (fun _ _ h => by cases h)
        (fun _ _ => rfl)
        (fun d ds ih1 ih2 n h => by
          have h' : (shp n d && shps n ds) = true := h
          rw [Bool.and_eq_true] at h'
          show (shp (n + 9) d && shps (n + 9) ds) = true
          rw [ih1 n h'.1, ih2 n h'.2]
          rfl)
        True.intro (fun _ _ _ _ => True.intro) (fun _ _ _ => True.intro) d
    exact fun d h => key d 50 h
  exact shps_all fun d hd => by
    obtain ⟨p, hp, rfl⟩ := List.mem_map.mp hd
    exact mono _ (cl_shp (h p hp))
end FD
namespace FD
def com {α : Type} [DecidableEq α] : List α → List α → Nat
  | x :: xs, y :: ys => if x = y then com xs ys + 1 else 0
  | _, _ => 0
section
variable {α : Type} [DecidableEq α]
theorem com_le : ∀ (F G : List α), com F G ≤ F.length ∧ com F G ≤ G.length
  | [], _ => ⟨Nat.le_refl _, Nat.zero_le _⟩
  | _ :: _, [] => ⟨Nat.zero_le _, Nat.le_refl _⟩
  | x :: F, y :: G => by
    have ih := com_le F G
    unfold com
    split
    · exact ⟨by rw [List.length_cons]; omega, by rw [List.length_cons]; omega⟩
    · exact ⟨Nat.zero_le _, Nat.zero_le _⟩
theorem com_get : ∀ (F G : List α) (j : Nat), j < com F G → F[j]? = G[j]?
  | [], _, j, h => absurd h (Nat.not_lt_zero _)
  | _ :: _, [], j, h => absurd h (Nat.not_lt_zero _)
  | x :: F, y :: G, j, h => by
    unfold com at h
    split at h
    · rename_i e
      cases j with
      | zero => simp [e]
      | succ j =>
        simp only [List.getElem?_cons_succ]
        exact com_get F G j (by omega)
    · exact absurd h (Nat.not_lt_zero _)
theorem com_stop : ∀ (F G : List α), com F G < F.length → com F G < G.length → F[com F G]? ≠ G[com F G]?
  | [], _, h, _ => absurd h (Nat.not_lt_zero _)
  | _ :: _, [], _, h => absurd h (Nat.not_lt_zero _)
  | x :: F, y :: G, h1, h2 => by
    by_cases e : x = y
    · have ec : com (x :: F) (y :: G) = com F G + 1 := if_pos e
      rw [ec] at h1 h2 ⊢
      rw [List.length_cons] at h1 h2
      simp only [List.getElem?_cons_succ]
      exact com_stop F G (by omega) (by omega)
    · have ec : com (x :: F) (y :: G) = 0 := if_neg e
      rw [ec]
      simpa using e
theorem com_take : ∀ (F G : List α), F.take (com F G) = G.take (com F G)
  | [], G => by simp [com]
  | _ :: _, [] => by simp [com]
  | x :: F, y :: G => by
    by_cases e : x = y
    · have ec : com (x :: F) (y :: G) = com F G + 1 := if_pos e
      rw [ec, List.take_succ_cons, List.take_succ_cons, com_take F G, e]
    · have ec : com (x :: F) (y :: G) = 0 := if_neg e
      rw [ec]
      rfl
theorem com_app : ∀ (A F G : List α), com (A ++ F) (A ++ G) = A.length + com F G
  | [], F, G => (Nat.zero_add _).symm
  | x :: A, F, G => by
    rw [List.cons_append, List.cons_append, List.length_cons]
    show (if x = x then com (A ++ F) (A ++ G) + 1 else 0) = _
    rw [if_pos rfl, com_app A F G]
    omega
theorem com_map {β : Type} [DecidableEq β] {φ : α → β} (inj : ∀ a b, φ a = φ b → a = b) : ∀ (F G : List α), com (F.map φ) (G.map φ) = com F G
  | [], G => by cases G <;> rfl
  | _ :: _, [] => rfl
  | x :: F, y :: G => by
    show (if φ x = φ y then com (F.map φ) (G.map φ) + 1 else 0) = if x = y then com F G + 1 else 0
    by_cases e : x = y
    · rw [if_pos (congrArg φ e), if_pos e, com_map inj F G]
    · rw [if_neg (fun z => e (inj x y z)), if_neg e]
end
/-- the program's way -/
def alk : List Pc → List Pc → Int
  | p :: ps, q :: qs => if p.x = q.x ∧ p.a = q.a then (min p.b q.b - p.a) + (if p.b = q.b then alk ps qs else 0) else 0
  | _, _ => 0
theorem com_ne {F G : List Fr} (h : F[0]? ≠ G[0]?) : com F G = 0 := by
  cases F with
  | nil => rfl
  | cons x F =>
    cases G with
    | nil => rfl
    | cons y G => exact if_neg fun e => h (by rw [e]; rfl)
theorem com_sym : ∀ (F G : List Fr), com F G = com G F
  | [], G => by cases G <;> rfl
  | _ :: _, [] => rfl
  | x :: F, y :: G => by
    show (if x = y then com F G + 1 else 0) = if y = x then com G F + 1 else 0
    by_cases e : x = y
    · rw [if_pos e, if_pos e.symm, com_sym F G]
    · rw [if_neg e, if_neg fun z => e z.symm]
theorem com_short {p q : Pc} {ps qs : List Pc} (hp : Can (p :: ps)) (hq : Can (q :: qs)) (hx : p.x = q.x) (ha : p.a = q.a) (hb : p.b < q.b) : (com (frs (p :: ps)) (frs (q :: qs)) : Int) = p.b - p.a := by
  have lp := hp.1
  have e1 : q.fr = p.fr ++ runs p.x p.b (q.b - p.b).toNat := by
    unfold Pc.fr Pc.n
    rw [show (q.b - q.a).toNat = (p.b - p.a).toNat + (q.b - p.b).toNat by omega, runs_app, hx, ← ha, show p.a + (((p.b - p.a).toNat : Nat) : Int) = p.b by omega]
  rw [frs_cons, frs_cons, e1, List.append_assoc, com_app, Pc.fr_len]
  have z : com (frs ps) (runs p.x p.b (q.b - p.b).toNat ++ frs qs) = 0 := by
    apply com_ne
    obtain ⟨n, en⟩ : ∃ n, (q.b - p.b).toNat = n + 1 := ⟨(q.b - p.b).toNat - 1, by omega⟩
    rw [en]
    show (frs ps)[0]? ≠ some (p.x, p.b)
    cases ps with
    | nil => intro h; cases h
    | cons p2 ps =>
      rw [frs_head hp.tl.1]
      intro h
      have z := Option.some.inj h
      exact hp.2.1 ⟨(congrArg Prod.fst z).symm, (congrArg Prod.snd z).symm⟩
  rw [z]
  unfold Pc.n
  omega
theorem alk_com : ∀ {ps qs : List Pc}, Can ps → Can qs → alk ps qs = com (frs ps) (frs qs)
  | [], qs, _, _ => by
    show (0 : Int) = com [] (frs qs)
    cases frs qs <;> rfl
  | p :: ps, [], _, _ => by
    show (0 : Int) = com (frs (p :: ps)) []
    cases frs (p :: ps) <;> rfl
  | p :: ps, q :: qs, hp, hq => by
    unfold alk
    by_cases hc : p.x = q.x ∧ p.a = q.a
    · rw [if_pos hc]
      rcases Int.lt_trichotomy p.b q.b with h | h | h
      · rw [if_neg (by omega), com_short hp hq hc.1 hc.2 h]
        omega
      · rw [if_pos h, alk_com hp.tl hq.tl]
        have e : p = q := Pc.ext' hc.1 hc.2 h
        subst e
        rw [frs_cons, frs_cons, com_app, Pc.fr_len]
        have := hp.1
        unfold Pc.n
        omega
      · rw [if_neg (by omega), com_sym, com_short hq hp hc.1.symm hc.2.symm h]
        omega
    · rw [if_neg hc]
      have : com (frs (p :: ps)) (frs (q :: qs)) = 0 := com_ne (by
        rw [frs_head hp.1, frs_head hq.1]
        intro h
        have z := Option.some.inj h
        exact hc ⟨congrArg Prod.fst z, congrArg Prod.snd z⟩)
      rw [this]
      rfl
def turn1 (p : Pc) : Pc := ⟨p.x, 0 - p.b, 0 - p.a⟩
def turn (ps : List Pc) : List Pc := ps.reverse.map turn1
def back1 (f : Fr) : Fr := (f.1, -1 - f.2)
theorem back_inj (f g : Fr) (h : back1 f = back1 g) : f = g := by
  obtain ⟨x, a⟩ := f
  obtain ⟨y, b⟩ := g
  have h1 : x = y := congrArg Prod.fst h
  have h2 : -1 - a = -1 - b := congrArg Prod.snd h
  rw [h1, show a = b by omega]
theorem runs_snoc (x : PySem.Str) : ∀ (n : Nat) (a : Int), runs x a (n + 1) = runs x a n ++ [(x, a + n)] := fun n a => by
  rw [runs_app]
  rfl
theorem runs_back (x : PySem.Str) : ∀ (n : Nat) (a : Int), (runs x a n).reverse.map back1 = runs x (0 - (a + n)) n
  | 0, a => rfl
  | n + 1, a => by
    rw [runs_snoc, List.reverse_append, List.map_append, runs_back x n a]
    show (x, -1 - (a + n)) :: runs x (0 - (a + n)) n = (x, 0 - (a + ((n + 1 : Nat) : Int))) :: runs x (0 - (a + ((n + 1 : Nat) : Int)) + 1) n
    rw [show -1 - (a + (n : Int)) = 0 - (a + ((n + 1 : Nat) : Int)) by omega, show 0 - (a + ((n + 1 : Nat) : Int)) + 1 = 0 - (a + (n : Int)) by omega]
theorem turn_frs : ∀ {ps : List Pc}, (∀ p ∈ ps, p.a ≤ p.b) → frs (turn ps) = (frs ps).reverse.map back1
  | [], _ => rfl
  | p :: ps, h => by
    have hp := h p (List.mem_cons_self ..)
    unfold turn
    rw [List.reverse_cons, List.map_append, frs_app, frs_cons, List.reverse_append, List.map_append]
    have ih : frs (turn ps) = (frs ps).reverse.map back1 := turn_frs fun q hq => h q (List.mem_cons_of_mem _ hq)
    unfold turn at ih
    rw [ih]
    congr 1
    show (turn1 p).fr ++ [] = _
    rw [List.append_nil]
    unfold Pc.fr
    rw [runs_back]
    unfold Pc.n turn1
    dsimp only
    rw [show (0 - p.a - (0 - p.b)).toNat = (p.b - p.a).toNat by omega, show 0 - p.b = 0 - (p.a + (((p.b - p.a).toNat : Nat) : Int)) by omega]
theorem can_mid : ∀ {l : List Pc} {p q : Pc} {r : List Pc}, Can (l ++ p :: q :: r) → ¬ (p.x = q.x ∧ p.b = q.a)
  | [], p, q, r, h => h.2.1
  | z :: l, p, q, r, h => can_mid (l := l) h.tl
theorem can_of : ∀ {ps : List Pc}, (∀ p ∈ ps, p.a < p.b) → (∀ l p q r, ps = l ++ p :: q :: r → ¬ (p.x = q.x ∧ p.b = q.a)) → Can ps
  | [], _, _ => True.intro
  | [p], h, _ => ⟨h p (List.mem_cons_self ..), True.intro, True.intro⟩
  | p :: q :: ps, h, hn => ⟨h p (List.mem_cons_self ..), hn [] p q ps rfl, can_of (fun z hz => h z (List.mem_cons_of_mem _ hz)) fun l a b r e => hn (p :: l) a b r (by rw [e]; rfl)⟩
theorem turn_can {ps : List Pc} (h : Can ps) : Can (turn ps) := by
  refine can_of (fun p hp => ?_) fun l p q r e => ?_
  · obtain ⟨z, hz, rfl⟩ := List.mem_map.mp hp
    have := can_le h z (List.mem_reverse.mp hz)
    show 0 - z.b < 0 - z.a
    omega
  · unfold turn at e
    have e2 : ps.map turn1 = (l ++ p :: q :: r).reverse := by
      rw [← e, ← List.map_reverse, List.reverse_reverse]
    rw [List.reverse_append, List.reverse_cons, List.reverse_cons, List.append_assoc, List.append_assoc] at e2
    obtain ⟨l1, l2, w1, w2, w3⟩ := List.map_eq_append_iff.mp e2
    have w3' : l2.map turn1 = q :: p :: l.reverse := w3
    obtain ⟨q', l3, v1, v2, v3⟩ := List.map_eq_cons_iff.mp w3'
    obtain ⟨p', l4, u1, u2, u3⟩ := List.map_eq_cons_iff.mp v3
    rw [w1, v1, u1] at h
    have := can_mid h
    rw [← v2, ← u2]
    rintro ⟨z1, z2⟩
    refine this ⟨z1.symm, ?_⟩
    have z2' : 0 - p'.a = 0 - q'.b := z2
    omega
theorem wh_count {c : Env → R Bool} {b : Env → SR} {st : Nat → Env} {N : Nat} (hT : ∀ j, j < N → c (st j) = .ok true ∧ b (st j) = .nx (st (j + 1))) (hF : c (st N) = .ok false) : ∀ (n j : Nat), j ≤ N → N - j < n → whLoop c b n (st j) = .nx (st N)
  | 0, j, _, h => absurd h (Nat.not_lt_zero _)
  | n + 1, j, hj, h => by
    show (c (st j)).st (st j) (fun t => match t with
      | false => SR.nx (st j)
      | true => (match b (st j) with
        | .nx ρ' => whLoop c b n ρ'
        | .ct ρ' => whLoop c b n ρ'
        | .bk ρ' => .nx ρ'
        | r => r)) = _
    by_cases e : j = N
    · subst e
      rw [hF]
    · obtain ⟨h1, h2⟩ := hT j (by omega)
      rw [h1]
      show (match b (st j) with
        | .nx ρ' => whLoop c b n ρ'
        | .ct ρ' => whLoop c b n ρ'
        | .bk ρ' => .nx ρ'
        | r => r) = _
      rw [h2]
      exact wh_count hT hF n (j + 1) (by omega) (by omega)
theorem fr_get {F : List Fr} {j : Nat} (h : j < F.length) : idxEv (.lst (F.map frD)) (.int j) = .ok (frD F[j]) := by
  show (match place (F.map frD).length j with
    | some m => (match (F.map frD)[m]? with | some d => R.ok d | none => .bad)
    | none => .bad) = _
  rw [List.length_map, place_in (by omega) (by omega), Int.toNat_natCast]
  show (match (F.map frD)[j]? with | some d => R.ok d | none => .bad) = _
  rw [List.getElem?_map, List.getElem?_eq_getElem h]
  rfl
theorem fr_back {F : List Fr} {j : Nat} (h : j < F.length) : idxEv (.lst (F.map frD)) (.int (-1 - j)) = .ok (frD (F.reverse[j]'(by rw [List.length_reverse]; exact h))) := by
  show (match place (F.map frD).length (-1 - j) with
    | some m => (match (F.map frD)[m]? with | some d => R.ok d | none => .bad)
    | none => .bad) = _
  have e : place (F.map frD).length (-1 - j) = some (F.length - 1 - j) := by
    unfold place
    rw [List.length_map, if_neg (by omega), if_pos (by omega)]
    congr 1
    omega
  rw [e]
  show (match (F.map frD)[F.length - 1 - j]? with | some d => R.ok d | none => .bad) = _
  rw [List.getElem?_map, List.getElem?_eq_getElem (by omega), List.getElem_reverse]
  rfl
theorem frd_eq {f g : Fr} (hf : okStr f.1 = true) (hg : okStr g.1 = true) : cmpEv .eq (frD f) (frD g) = .ok (.bl (decide (f = g))) := by
  show guard' (eqOk (frD f) (frD g)) (R.ok (D.bl (eqv (frD f) (frD g)))) = _
  have s : ∀ f : Fr, okStr f.1 = true → shp 60 (frD f) = true := fun f h => by
    show (okStr f.1 && (true && true)) = true
    rw [h]
    rfl
  have e1 : eqOk (frD f) (frD g) = true := by
    unfold eqOk
    rw [s f hf, s g hg, Bool.and_true, Bool.or_true]
  have e2 : eqv (frD f) (frD g) = decide (f = g) := by
    have := sh_eqv (.tup [.str, .int]) (frD f) (frD g) rfl rfl
    by_cases h : f = g
    · rw [decide_eq_true h]
      exact this.mpr (by rw [h])
    · rw [decide_eq_false h]
      cases q : eqv (frD f) (frD g) with
      | false => rfl
      | true =>
        have w := this.mp q
        unfold frD at w
        injection w with w
        injection w with w1 w
        injection w1 with w1
        injection w with w2 w
        injection w2 with w2
        exact absurd (Prod.ext w1 w2) h
  rw [e1, e2]
  rfl
theorem frd_ne {f g : Fr} (hf : okStr f.1 = true) (hg : okStr g.1 = true) : cmpEv .ne (.tup [.str f.1, .int f.2]) (.tup [.str g.1, .int g.2]) = .ok (.bl (!decide (f = g))) := by
  have h := frd_eq hf hg
  have e1 : cmpEv .eq (frD f) (frD g) = guard' (eqOk (frD f) (frD g)) (R.ok (D.bl (eqv (frD f) (frD g)))) := rfl
  rw [e1] at h
  show guard' (eqOk (frD f) (frD g)) (R.ok (D.bl (!eqv (frD f) (frD g)))) = _
  cases q : eqOk (frD f) (frD g) with
  | false =>
    rw [q] at h
    cases h
  | true =>
    rw [q] at h
    have h2 : R.ok (D.bl (eqv (frD f) (frD g))) = .ok (.bl (decide (f = g))) := h
    injection h2 with h3
    injection h3 with h4
    rw [h4]
    rfl
/-- a turn may end by continue -/
theorem for_ixc {I : Int → Env → Prop} {j : Nat} {b : Env → SR} : ∀ (n : Nat) (i : Int) (ρ : Env), I i ρ → (∀ t ρ, i ≤ t → t < i + n → I t ρ → ∃ ρ', (b (ρ.set j (.pv (.int t))) = .nx ρ' ∨ b (ρ.set j (.pv (.int t))) = .ct ρ') ∧ I (t + 1) ρ') → ∃ ρ', forLoop (.nm j) b (rangeL i n) ρ = .nx ρ' ∧ I (i + n) ρ'
  | 0, i, ρ, h, _ => ⟨ρ, rfl, by rw [show i + ((0 : Nat) : Int) = i by omega]; exact h⟩
  | n + 1, i, ρ, h, step => by
    obtain ⟨ρ1, e1, h1⟩ := step i ρ (Int.le_refl i) (by omega) h
    obtain ⟨ρ2, e2, h2⟩ := for_ixc n (i + 1) ρ1 h1 fun t ρ a c => step t ρ (by omega) (by omega)
    refine ⟨ρ2, ?_, by rw [show i + ((n + 1 : Nat) : Int) = i + 1 + (n : Int) by omega]; exact h2⟩
    show (match b (ρ.set j (.pv (.int i))) with
      | .nx ρ' => forLoop (.nm j) b (rangeL (i + 1) n) ρ'
      | .ct ρ' => forLoop (.nm j) b (rangeL (i + 1) n) ρ'
      | .bk ρ' => .nx ρ'
      | z => z) = _
    rcases e1 with e1 | e1
    · rw [e1]
      exact e2
    · rw [e1]
      exact e2
end FD
namespace FD
abbrev Sp := Int × Int
def sLt (a b : Sp) : Prop := a.1 < b.1 ∨ (a.1 = b.1 ∧ a.2 < b.2)
instance (a b : Sp) : Decidable (sLt a b) := by unfold sLt; exact inferInstance
def sIns (x : Sp) : List Sp → List Sp
  | [] => [x]
  | y :: r => if sLt y x then y :: sIns x r else x :: y :: r
def srt : List Sp → List Sp
  | [] => []
  | x :: r => sIns x (srt r)
theorem sIns_mem {x z : Sp} : ∀ {ys : List Sp}, z ∈ sIns x ys ↔ z = x ∨ z ∈ ys
  | [] => by simp [sIns]
  | y :: r => by
    unfold sIns
    split
    · rw [List.mem_cons, sIns_mem, List.mem_cons]
      constructor
      · rintro (h | h | h)
        · exact .inr (.inl h)
        · exact .inl h
        · exact .inr (.inr h)
      · rintro (h | h | h)
        · exact .inr (.inl h)
        · exact .inl h
        · exact .inr (.inr h)
    · rw [List.mem_cons]
theorem srt_mem {z : Sp} : ∀ {ys : List Sp}, z ∈ srt ys ↔ z ∈ ys
  | [] => Iff.rfl
  | y :: r => by
    show z ∈ sIns y (srt r) ↔ _
    rw [sIns_mem, srt_mem, List.mem_cons]
theorem sIns_len (x : Sp) : ∀ ys : List Sp, (sIns x ys).length = ys.length + 1
  | [] => rfl
  | y :: r => by
    unfold sIns
    split
    · rw [List.length_cons, sIns_len x r, List.length_cons]
    · rfl
theorem srt_len : ∀ ys : List Sp, (srt ys).length = ys.length
  | [] => rfl
  | y :: r => by
    show (sIns y (srt r)).length = _
    rw [sIns_len, srt_len, List.length_cons]
theorem insD_map {f : Sp → D} {x : Sp} : ∀ {ys : List Sp}, (∀ y ∈ ys, ltD (f y) (f x) = decide (sLt y x)) → insD (f x) (ys.map f) = (sIns x ys).map f
  | [], _ => rfl
  | y :: r, h => by
    show (if ltD (f y) (f x) then f y :: insD (f x) (r.map f) else f x :: f y :: r.map f) = (if sLt y x then y :: sIns x r else x :: y :: r).map f
    rw [h y (List.mem_cons_self ..), insD_map fun z hz => h z (List.mem_cons_of_mem _ hz)]
    by_cases q : sLt y x
    · rw [decide_eq_true q, if_pos rfl, if_pos q]
      rfl
    · rw [decide_eq_false q, if_neg (by decide), if_neg q]
      rfl
theorem isort_map {f : Sp → D} : ∀ {ys : List Sp}, (∀ x ∈ ys, ∀ y ∈ ys, ltD (f y) (f x) = decide (sLt y x)) → isort (ys.map f) = (srt ys).map f
  | [], _ => rfl
  | x :: r, h => by
    show insD (f x) (isort (r.map f)) = (sIns x (srt r)).map f
    rw [isort_map fun a ha b hb => h a (List.mem_cons_of_mem _ ha) b (List.mem_cons_of_mem _ hb), insD_map fun y hy => h x (List.mem_cons_self ..) y (List.mem_cons_of_mem _ (srt_mem.mp hy))]
/-- rising -/
def Ris : List Sp → Prop
  | [] => True
  | x :: r => (∀ y ∈ r, ¬ sLt y x) ∧ Ris r
theorem srt_same : ∀ {ys : List Sp}, Ris ys → srt ys = ys
  | [], _ => rfl
  | x :: r, h => by
    show sIns x (srt r) = _
    rw [srt_same h.2]
    cases r with
    | nil => rfl
    | cons y r => exact if_neg (h.1 y (List.mem_cons_self ..))
theorem sIns_ris {x : Sp} : ∀ {ys : List Sp}, Ris ys → Ris (sIns x ys)
  | [], _ => ⟨fun _ h => (by cases h), True.intro⟩
  | y :: r, h => by
    unfold sIns
    split
    · rename_i q
      refine ⟨fun z hz => ?_, sIns_ris h.2⟩
      rcases sIns_mem.mp hz with rfl | hz
      · unfold sLt at *
        omega
      · exact h.1 z hz
    · rename_i q
      refine ⟨fun z hz => ?_, h⟩
      rcases List.mem_cons.mp hz with rfl | hz
      · exact q
      · have := h.1 z hz
        unfold sLt at *
        omega
theorem srt_ris : ∀ ys : List Sp, Ris (srt ys)
  | [] => True.intro
  | x :: r => sIns_ris (srt_ris r)
/-- a span more, closed up with the last one -/
def uStep (m : List Sp) (s : Sp) : List Sp := match m.getLast? with
  | some q => if s.1 ≤ q.2 then m.dropLast ++ [(q.1, max q.2 s.2)] else m ++ [s]
  | none => m ++ [s]
def uni (ss : List Sp) : List Sp := (srt ss).foldl uStep []
theorem uStep_len (m : List Sp) (s : Sp) : (uStep m s).length ≤ m.length + 1 := by
  unfold uStep
  cases h : m.getLast? with
  | none => simp
  | some q =>
    dsimp only
    split
    · rw [List.length_append, List.length_dropLast, List.length_singleton]
      omega
    · simp
/-- clips from a number on, each with the number that it begins at -/
def lay : Int → List Pc → List (Int × Pc)
  | _, [] => []
  | h, p :: ps => (h, p) :: lay (h + (p.b - p.a)) ps
theorem lay_len : ∀ (h : Int) (ps : List Pc), (lay h ps).length = ps.length
  | _, [] => rfl
  | h, p :: ps => by
    show (lay (h + (p.b - p.a)) ps).length + 1 = _
    rw [lay_len]
    rfl
theorem lay_app : ∀ (h : Int) (ps qs : List Pc), lay h (ps ++ qs) = lay h ps ++ lay (h + many ps) qs
  | h, [], qs => by
    show lay h qs = lay (h + 0) qs
    rw [Int.add_zero]
  | h, p :: ps, qs => by
    show (h, p) :: lay (h + (p.b - p.a)) (ps ++ qs) = (h, p) :: (lay (h + (p.b - p.a)) ps ++ lay (h + many (p :: ps)) qs)
    rw [lay_app, many_cons]
    congr 3
    omega
/-- the end of a clip that is laid -/
def eEnd (e : Int × Pc) : Int := e.1 + (e.2.b - e.2.a)
theorem lay_snd : ∀ (h : Int) (ps : List Pc), (lay h ps).map (·.2) = ps
  | _, [] => rfl
  | h, p :: ps => by
    show p :: (lay (h + (p.b - p.a)) ps).map (·.2) = _
    rw [lay_snd]
theorem lay_mem : ∀ {h : Int} {ps : List Pc}, (∀ p ∈ ps, p.a < p.b) → ∀ e ∈ lay h ps, e.2 ∈ ps ∧ h ≤ e.1 ∧ e.1 < eEnd e ∧ eEnd e ≤ h + many ps
  | h, [], _, e, he => by cases he
  | h, p :: ps, hp, e, he => by
    have h1 := hp p (List.mem_cons_self ..)
    have nn : 0 ≤ many ps := by
      rw [many_len fun q hq => by have := hp q (List.mem_cons_of_mem _ hq); omega]
      omega
    rw [many_cons]
    rcases List.mem_cons.mp he with rfl | he
    · refine ⟨List.mem_cons_self .., Int.le_refl _, ?_, ?_⟩
      · show h < h + (p.b - p.a); omega
      · show h + (p.b - p.a) ≤ _; omega
    · obtain ⟨e1, e2, e3, e4⟩ := lay_mem (fun q hq => hp q (List.mem_cons_of_mem _ hq)) e he
      exact ⟨List.mem_cons_of_mem _ e1, by omega, e3, by omega⟩
theorem lay_chain : ∀ {h : Int} {ps : List Pc} (l : List (Int × Pc)) (d e : Int × Pc) (r : List (Int × Pc)), lay h ps = l ++ d :: e :: r → eEnd d = e.1
  | h, [], l, d, e, r, q => by
    have := congrArg List.length q
    simp [lay] at this
  | h, [p], l, d, e, r, q => by
    have := congrArg List.length q
    rw [lay_len] at this
    simp at this
    omega
  | h, p :: p2 :: ps, [], d, e, r, q => by
    have q' : (h, p) :: (h + (p.b - p.a), p2) :: lay (h + (p.b - p.a) + (p2.b - p2.a)) ps = d :: e :: r := q
    injection q' with q1 q2
    injection q2 with q2 q3
    subst q1 q2
    rfl
  | h, p :: p2 :: ps, x :: l, d, e, r, q => by
    have q' : (h, p) :: lay (h + (p.b - p.a)) (p2 :: ps) = x :: (l ++ d :: e :: r) := q
    injection q' with q1 q2
    exact lay_chain l d e r q2
theorem lay_zip : ∀ (h : Int) (ps : List Pc), ∀ x ∈ (lay h ps).zip ((lay h ps).drop 1), eEnd x.1 = x.2.1
  | h, [], x, hx => by cases hx
  | h, [p], x, hx => by cases hx
  | h, p :: p2 :: ps, x, hx => by
    have hx' : x ∈ ((h, p), (h + (p.b - p.a), p2)) :: (lay (h + (p.b - p.a)) (p2 :: ps)).zip ((lay (h + (p.b - p.a)) (p2 :: ps)).drop 1) := hx
    rcases List.mem_cons.mp hx' with rfl | hx'
    · rfl
    · exact lay_zip (h + (p.b - p.a)) (p2 :: ps) x hx'
theorem zipT2_map {α β : Type} (f : α → D) (g : β → D) : ∀ (xs : List α) (ys : List β), zipT2 (xs.map f) (ys.map g) = (xs.zip ys).map fun p => D.tup [f p.1, g p.2]
  | [], _ => rfl
  | _ :: _, [] => rfl
  | x :: xs, y :: ys => by
    show D.tup [f x, g y] :: zipT2 (xs.map f) (ys.map g) = _
    rw [zipT2_map f g xs ys]
    rfl
theorem zipT2_same {α : Type} (f g : α → D) (xs : List α) : zipT2 (xs.map f) (xs.map g) = xs.map fun p => D.tup [f p, g p] := by
  rw [zipT2_map]
  induction xs with
  | nil => rfl
  | cons x xs ih =>
    show D.tup [f x, g x] :: (xs.zip xs).map (fun p => D.tup [f p.1, g p.2]) = _
    rw [ih]
    rfl
/-- where a clip that is laid begins and ends -/
def recs (h : Int) (ps : List Pc) : List Sp := (lay h ps).map fun e => (e.1, eEnd e)
theorem recs_cons (h : Int) (p : Pc) (ps : List Pc) : recs h (p :: ps) = (h, h + (p.b - p.a)) :: recs (h + (p.b - p.a)) ps := rfl
theorem recs_ris : ∀ {h : Int} {ps : List Pc}, (∀ p ∈ ps, p.a < p.b) → Ris (recs h ps)
  | h, [], _ => True.intro
  | h, p :: ps, hp => by
    rw [recs_cons]
    refine ⟨fun y hy => ?_, recs_ris fun q hq => hp q (List.mem_cons_of_mem _ hq)⟩
    obtain ⟨e, he, rfl⟩ := List.mem_map.mp hy
    have := lay_mem (fun q hq => hp q (List.mem_cons_of_mem _ hq)) e he
    have h1 := hp p (List.mem_cons_self ..)
    unfold sLt
    show ¬ (e.1 < h ∨ (e.1 = h ∧ eEnd e < h + (p.b - p.a)))
    omega
theorem recs_fold : ∀ {h a : Int} {ps : List Pc} {m : List Sp}, (∀ p ∈ ps, p.a < p.b) → (recs h ps).foldl uStep (m ++ [(a, h)]) = m ++ [(a, h + many ps)]
  | h, a, [], m, _ => by
    show m ++ [(a, h)] = m ++ [(a, h + 0)]
    rw [Int.add_zero]
  | h, a, p :: ps, m, hp => by
    have h1 := hp p (List.mem_cons_self ..)
    rw [recs_cons, List.foldl_cons]
    have e : uStep (m ++ [(a, h)]) (h, h + (p.b - p.a)) = m ++ [(a, h + (p.b - p.a))] := by
      unfold uStep
      rw [List.getLast?_append]
      simp
      omega
    rw [e, recs_fold fun q hq => hp q (List.mem_cons_of_mem _ hq), many_cons, Int.add_assoc]
theorem recs_uni {h : Int} {ps : List Pc} (hp : ∀ p ∈ ps, p.a < p.b) (hn : ps ≠ []) : uni (recs h ps) = [(h, h + many ps)] := by
  unfold uni
  rw [srt_same (recs_ris hp)]
  cases ps with
  | nil => exact absurd rfl hn
  | cons p ps =>
    rw [recs_cons, List.foldl_cons]
    show (recs (h + (p.b - p.a)) ps).foldl uStep ([] ++ [(h, h + (p.b - p.a))]) = _
    rw [recs_fold fun q hq => hp q (List.mem_cons_of_mem _ hq), many_cons]
    show [(h, h + (p.b - p.a) + many ps)] = _
    congr 2
    omega
/-- the first clip that has a number -/
def evAt (n : Int) : List (Int × Pc) → Option Nat
  | [] => none
  | e :: r => if e.1 ≤ n ∧ n < eEnd e then some 0 else (evAt n r).map (· + 1)
/-- the frame with a number, by the clip that has it -/
theorem evAt_frs : ∀ {h : Int} {ps : List Pc} {j : Nat}, (∀ p ∈ ps, p.a < p.b) → j < (frs ps).length → ∃ i e, evAt (h + j) (lay h ps) = some i ∧ (lay h ps)[i]? = some e ∧ e.1 ≤ h + j ∧ h + j < eEnd e ∧ (frs ps)[j]? = some (e.2.x, e.2.a + (h + j - e.1))
  | h, [], j, _, hj => by cases hj
  | h, p :: ps, j, hp, hj => by
    have h1 := hp p (List.mem_cons_self ..)
    rw [frs_cons, List.length_append, Pc.fr_len] at hj
    by_cases hc : j < p.n
    · refine ⟨0, (h, p), ?_, rfl, ?_, ?_, ?_⟩
      · exact if_pos ⟨by show h ≤ h + j; omega, by show h + j < h + (p.b - p.a); unfold Pc.n at hc; omega⟩
      · show h ≤ h + j; omega
      · show h + j < h + (p.b - p.a); unfold Pc.n at hc; omega
      · rw [frs_cons, List.getElem?_append_left (by rw [Pc.fr_len]; exact hc)]
        unfold Pc.fr
        rw [runs_get _ _ _ _ hc]
        show some (p.x, p.a + j) = some (p.x, p.a + (h + j - h))
        congr 3
        omega
    · obtain ⟨i, e, e1, e2, e3, e4, e5⟩ := evAt_frs (h := h + (p.b - p.a)) (j := j - p.n) (fun q hq => hp q (List.mem_cons_of_mem _ hq)) (by omega)
      have hj2 : h + (p.b - p.a) + ((j - p.n : Nat) : Int) = h + j := by unfold Pc.n at *; omega
      rw [hj2] at e1 e3 e4 e5
      refine ⟨i + 1, e, ?_, e2, e3, e4, ?_⟩
      · show (if h ≤ h + j ∧ h + j < h + (p.b - p.a) then some 0 else (evAt (h + j) (lay (h + (p.b - p.a)) ps)).map (· + 1)) = _
        rw [if_neg (by unfold Pc.n at hc; omega), e1]
        rfl
      · rw [frs_cons, List.getElem?_append_right (by rw [Pc.fr_len]; omega), Pc.fr_len]
        exact e5
theorem evAt_none : ∀ {h n : Int} {ps : List Pc}, (∀ p ∈ ps, p.a < p.b) → (n < h ∨ h + many ps ≤ n) → evAt n (lay h ps) = none
  | h, n, [], _, _ => rfl
  | h, n, p :: ps, hp, hn => by
    have h1 := hp p (List.mem_cons_self ..)
    have nn : 0 ≤ many ps := by
      rw [many_len fun q hq => by have := hp q (List.mem_cons_of_mem _ hq); omega]
      omega
    rw [many_cons] at hn
    show (if h ≤ n ∧ n < h + (p.b - p.a) then some 0 else (evAt n (lay (h + (p.b - p.a)) ps)).map (· + 1)) = _
    rw [if_neg (by omega), evAt_none (fun q hq => hp q (List.mem_cons_of_mem _ hq)) (by omega)]
    rfl
theorem idx_nat {α : Type} {f : α → D} {xs : List α} {i : Nat} {x : α} (h : xs[i]? = some x) : idxEv (.lst (xs.map f)) (.int i) = .ok (f x) := by
  have hi : i < xs.length := by
    rcases Nat.lt_or_ge i xs.length with z | z
    · exact z
    · rw [List.getElem?_eq_none z] at h
      cases h
  have hp : place (xs.map f).length (i : Int) = some i := by
    unfold place
    rw [List.length_map]
    have h1 : ¬ (i : Int) < 0 := by omega
    simp [h1, hi]
  show (match place (xs.map f).length (i : Int) with | some n => (match (xs.map f)[n]? with | some d => R.ok d | none => .bad) | none => .bad) = _
  rw [hp]
  dsimp only
  rw [List.getElem?_map, h]
  rfl
theorem lay_get : ∀ {h : Int} {ps : List Pc} {i : Nat} {p : Pc}, ps[i]? = some p → (lay h ps)[i]? = some (h + many (ps.take i), p)
  | h, [], i, p, q => by simp at q
  | h, p0 :: ps, 0, p, q => by
    cases q
    show some (h, p0) = some (h + 0, p0)
    rw [Int.add_zero]
  | h, p0 :: ps, i + 1, p, q => by
    show (lay (h + (p0.b - p0.a)) ps)[i]? = some (h + many (p0 :: ps.take i), p)
    rw [lay_get (show ps[i]? = some p from q), many_cons, Int.add_assoc]
theorem recs_last {h : Int} {ps : List Pc} (hn : ps ≠ []) : ∃ m a, recs h ps = m ++ [(a, h + many ps)] := by
  obtain ⟨q, hq⟩ : ∃ q, ps.getLast? = some q := ⟨ps.getLast hn, List.getLast?_eq_some_getLast hn⟩
  have e := snoc_of_last hq
  refine ⟨recs h ps.dropLast, h + many ps.dropLast, ?_⟩
  have e2 : many ps = many ps.dropLast + (q.b - q.a) := by
    conv => lhs; rw [e]
    rw [many_app, many_cons]
    show _ + (_ + 0) = _
    omega
  conv => lhs; rw [e]
  unfold recs
  rw [lay_app, List.map_append, e2]
  show _ ++ [(h + many ps.dropLast, h + many ps.dropLast + (q.b - q.a))] = _
  rw [Int.add_assoc]
theorem recs_sum : ∀ (h : Int) (ps : List Pc), ((recs h ps).map fun s => s.2 - s.1).sum = many ps
  | _, [] => rfl
  | h, p :: ps => by
    rw [recs_cons, List.map_cons, List.sum_cons, recs_sum, many_cons]
    show h + (p.b - p.a) - h + _ = _
    omega
/-- each with its place -/
def idxs {α : Type} : Int → List α → List (Int × α)
  | _, [] => []
  | i, x :: xs => (i, x) :: idxs (i + 1) xs
theorem enumT_map {α : Type} (f : α → D) : ∀ (i : Int) (xs : List α), enumT i (xs.map f) = (idxs i xs).map fun q => D.tup [.int q.1, f q.2]
  | _, [] => rfl
  | i, x :: xs => by
    show D.tup [.int i, f x] :: enumT (i + 1) (xs.map f) = _
    rw [enumT_map f (i + 1) xs]
    rfl
theorem idxs_mem {α : Type} {q : Int × α} : ∀ {i : Int} {xs : List α}, q ∈ idxs i xs → q.2 ∈ xs
  | _, [], h => by cases h
  | i, x :: xs, h => by
    rcases List.mem_cons.mp (show q ∈ (i, x) :: idxs (i + 1) xs from h) with rfl | h
    · exact List.mem_cons_self ..
    · exact List.mem_cons_of_mem _ (idxs_mem h)
def evHas (n : Int) (e : Int × Pc) : Bool := decide (e.1 ≤ n) && decide (n < eEnd e)
/-- the first one of those that have a number -/
theorem evAt_sel (n : Int) : ∀ (i : Int) (es : List (Int × Pc)), (∀ j, evAt n es = some j → ∃ t, ((idxs i es).filter fun q => evHas n q.2).map (fun q => D.int q.1) = .int (i + j) :: t) ∧ (evAt n es = none → ((idxs i es).filter fun q => evHas n q.2) = [])
  | _, [] => ⟨fun _ h => (by cases h), fun _ => rfl⟩
  | i, e :: es => by
    have ih := evAt_sel n (i + 1) es
    have u : evAt n (e :: es) = if e.1 ≤ n ∧ n < eEnd e then some 0 else (evAt n es).map (· + 1) := rfl
    have v : idxs i (e :: es) = (i, e) :: idxs (i + 1) es := rfl
    rw [u, v, List.filter_cons]
    by_cases h : e.1 ≤ n ∧ n < eEnd e
    · have hh : evHas n e = true := by
        unfold evHas
        rw [decide_eq_true h.1, decide_eq_true h.2]
        rfl
      rw [if_pos h]
      refine ⟨fun j hj => ?_, fun z => (by cases z)⟩
      cases hj
      rw [if_pos hh]
      refine ⟨((idxs (i + 1) es).filter fun q => evHas n q.2).map (fun q => D.int q.1), ?_⟩
      rw [List.map_cons]
      show D.int i :: _ = D.int (i + 0) :: _
      rw [Int.add_zero]
    · have hh : ¬ evHas n e = true := by
        unfold evHas
        intro z
        have := (Bool.and_eq_true _ _).mp z
        exact h ⟨of_decide_eq_true this.1, of_decide_eq_true this.2⟩
      rw [if_neg h, if_neg hh]
      refine ⟨fun j hj => ?_, fun z => ih.2 ?_⟩
      · cases q : evAt n es with
        | none => rw [q] at hj; cases hj
        | some m =>
          rw [q] at hj
          cases hj
          obtain ⟨t, ht⟩ := ih.1 m q
          refine ⟨t, ht.trans ?_⟩
          show D.int (i + 1 + (m : Int)) :: t = D.int (i + ((m + 1 : Nat) : Int)) :: t
          rw [show i + 1 + (m : Int) = i + ((m + 1 : Nat) : Int) by omega]
      · cases q : evAt n es with
        | none => rfl
        | some m => rw [q] at z; cases z
theorem zip_mid {α : Type} : ∀ (l : List α) (x y : α) (r : List α), (x, y) ∈ (l ++ x :: y :: r).zip ((l ++ x :: y :: r).drop 1)
  | [], x, y, r => List.mem_cons_self ..
  | [a], x, y, r => List.mem_cons_of_mem _ (List.mem_cons_self ..)
  | a :: b :: l, x, y, r => List.mem_cons_of_mem _ (zip_mid (b :: l) x y r)
end FD
namespace FD
def Mem (x : Int) (ss : List Sp) : Prop := ∃ s ∈ ss, s.1 ≤ x ∧ x < s.2
theorem mem_nil {x : Int} : Mem x [] ↔ False := ⟨fun ⟨_, h, _⟩ => (by cases h), False.elim⟩
theorem mem_cons {x : Int} {s : Sp} {r : List Sp} : Mem x (s :: r) ↔ (s.1 ≤ x ∧ x < s.2) ∨ Mem x r := by
  constructor
  · rintro ⟨t, ht, h⟩
    rcases List.mem_cons.mp ht with rfl | ht
    · exact .inl h
    · exact .inr ⟨t, ht, h⟩
  · rintro (h | ⟨t, ht, h⟩)
    · exact ⟨s, List.mem_cons_self .., h⟩
    · exact ⟨t, List.mem_cons_of_mem _ ht, h⟩
theorem mem_app {x : Int} {a b : List Sp} : Mem x (a ++ b) ↔ Mem x a ∨ Mem x b := by
  constructor
  · rintro ⟨t, ht, h⟩
    rcases List.mem_append.mp ht with ht | ht
    · exact .inl ⟨t, ht, h⟩
    · exact .inr ⟨t, ht, h⟩
  · rintro (⟨t, ht, h⟩ | ⟨t, ht, h⟩)
    · exact ⟨t, List.mem_append_left _ ht, h⟩
    · exact ⟨t, List.mem_append_right _ ht, h⟩
theorem mem_of {x : Int} {a b : List Sp} (h : ∀ s, s ∈ a ↔ s ∈ b) : Mem x a ↔ Mem x b := by
  constructor <;> rintro ⟨t, ht, q⟩
  · exact ⟨t, (h t).mp ht, q⟩
  · exact ⟨t, (h t).mpr ht, q⟩
/-- rising, none touches another -/
def Cs : List Sp → Prop
  | [] => True
  | s :: r => s.1 < s.2 ∧ (∀ t ∈ r, s.2 < t.1) ∧ Cs r
theorem Cs.lt : ∀ {a : List Sp}, Cs a → ∀ s ∈ a, s.1 < s.2
  | [], _, _, h => by cases h
  | s :: r, c, t, h => by
    rcases List.mem_cons.mp h with rfl | h
    · exact c.1
    · exact c.2.2.lt t h
theorem Cs.behind {s : Sp} {r : List Sp} (c : Cs (s :: r)) {x : Int} (h : Mem x r) : s.2 < x := by
  obtain ⟨t, ht, q⟩ := h
  have := c.2.1 t ht
  omega
theorem Cs.self {a : List Sp} (c : Cs a) {s : Sp} (h : s ∈ a) : Mem s.1 a := ⟨s, h, Int.le_refl _, c.lt s h⟩
theorem cs_uniq : ∀ {a b : List Sp}, Cs a → Cs b → (∀ x, Mem x a ↔ Mem x b) → a = b
  | [], [], _, _, _ => rfl
  | [], t :: q, _, cb, h => absurd ((h t.1).mpr (cb.self (List.mem_cons_self ..))) (fun z => mem_nil.mp z)
  | s :: r, [], ca, _, h => absurd ((h s.1).mp (ca.self (List.mem_cons_self ..))) (fun z => mem_nil.mp z)
  | s :: r, t :: q, ca, cb, h => by
    have a1 := ca.1
    have b1 := cb.1
    have e1 : s.1 = t.1 := by
      have h1 := (h s.1).mp (ca.self (List.mem_cons_self ..))
      have h2 := (h t.1).mpr (cb.self (List.mem_cons_self ..))
      have g1 : t.1 ≤ s.1 := by
        rcases mem_cons.mp h1 with z | z
        · exact z.1
        · have := cb.behind z
          omega
      have g2 : s.1 ≤ t.1 := by
        rcases mem_cons.mp h2 with z | z
        · exact z.1
        · have := ca.behind z
          omega
      omega
    have e2 : s.2 = t.2 := by
      rcases Int.lt_trichotomy s.2 t.2 with z | z | z
      · have h1 := (h s.2).mpr (mem_cons.mpr (.inl ⟨by omega, z⟩))
        rcases mem_cons.mp h1 with w | w
        · omega
        · have := ca.behind w
          omega
      · exact z
      · have h1 := (h t.2).mp (mem_cons.mpr (.inl ⟨by omega, z⟩))
        rcases mem_cons.mp h1 with w | w
        · omega
        · have := cb.behind w
          omega
    have e3 : r = q := cs_uniq ca.2.2 cb.2.2 fun x => by
      constructor
      · intro hx
        have g := ca.behind hx
        rcases mem_cons.mp ((h x).mp (mem_cons.mpr (.inr hx))) with w | w
        · omega
        · exact w
      · intro hx
        have g := cb.behind hx
        rcases mem_cons.mp ((h x).mpr (mem_cons.mpr (.inr hx))) with w | w
        · omega
        · exact w
    rw [e3, show s = t from Prod.ext e1 e2]
theorem cs_snoc : ∀ {m : List Sp} {p : Sp}, Cs m → p.1 < p.2 → (∀ q, m.getLast? = some q → q.2 < p.1) → Cs (m ++ [p])
  | [], p, _, h, _ => ⟨h, (fun _ z => by cases z), True.intro⟩
  | [s], p, c, h, hq => ⟨c.1, (fun t ht => by
      rw [List.mem_singleton.mp ht]
      exact hq s rfl), h, (fun _ z => by cases z), True.intro⟩
  | s :: t :: m, p, c, h, hq => by
    have ih := cs_snoc (m := t :: m) c.2.2 h fun q e => hq q (by rw [List.getLast?_cons_cons]; exact e)
    refine ⟨c.1, fun u hu => ?_, ih⟩
    rcases List.mem_append.mp hu with z | z
    · exact c.2.1 u z
    · rw [List.mem_singleton.mp z]
      have a1 := c.2.1 t (List.mem_cons_self ..)
      have a2 := ih.2.1 p (List.mem_append_right _ (List.mem_singleton.mpr rfl))
      have a3 := c.2.2.1
      omega
theorem cs_repl : ∀ {m : List Sp} {q : Sp} {b : Int}, Cs (m ++ [q]) → q.1 < b → Cs (m ++ [(q.1, b)])
  | [], q, b, _, h => ⟨h, (fun _ z => by cases z), True.intro⟩
  | s :: m, q, b, c, h => by
    have c' : s.1 < s.2 ∧ (∀ t ∈ m ++ [q], s.2 < t.1) ∧ Cs (m ++ [q]) := c
    refine ⟨c'.1, fun t ht => ?_, cs_repl c'.2.2 h⟩
    rcases List.mem_append.mp ht with z | z
    · exact c'.2.1 t (List.mem_append_left _ z)
    · rw [List.mem_singleton.mp z]
      exact c'.2.1 q (List.mem_append_right _ (List.mem_singleton.mpr rfl))
theorem uni_go' : ∀ {xs m : List Sp}, Ris xs → (∀ s ∈ xs, s.1 < s.2) → Cs m → (∀ q, m.getLast? = some q → ∀ s ∈ xs, q.1 ≤ s.1) → Cs (xs.foldl uStep m) ∧ ∀ x, Mem x (xs.foldl uStep m) ↔ Mem x m ∨ Mem x xs
  | [], m, _, _, c, _ => ⟨c, fun x => ⟨.inl, fun h => h.elim id fun z => (mem_nil.mp z).elim⟩⟩
  | s :: xs, m, hr, hl, c, hq => by
    have hs := hl s (List.mem_cons_self ..)
    have key : Cs (uStep m s) ∧ (∀ x, Mem x (uStep m s) ↔ Mem x m ∨ (s.1 ≤ x ∧ x < s.2)) ∧ ∀ q, (uStep m s).getLast? = some q → q.1 ≤ s.1 := by
      cases e : m.getLast? with
      | none =>
        have em : m = [] := List.getLast?_eq_none_iff.mp e
        subst em
        refine ⟨⟨hs, (fun _ z => by cases z), True.intro⟩, fun x => ?_, fun q hq => ?_⟩
        · show Mem x [s] ↔ _
          rw [mem_cons, mem_nil]
          constructor
          · rintro (z | z)
            · exact .inr z
            · exact z.elim
          · rintro (z | z)
            · exact (z.elim)
            · exact .inl z
        · have : q = s := by
            have h' : some s = some q := hq
            cases h'
            rfl
          rw [this]
          exact Int.le_refl _
      | some q =>
        have ed := snoc_of_last e
        have hqs := hq q e s (List.mem_cons_self ..)
        have cq : q.1 < q.2 := c.lt q (List.mem_of_mem_getLast? e)
        by_cases hc : s.1 ≤ q.2
        · have eu : uStep m s = m.dropLast ++ [(q.1, max q.2 s.2)] := by
            unfold uStep
            rw [e]
            exact if_pos hc
          rw [eu]
          refine ⟨cs_repl (q := q) (by rw [← ed]; exact c) (by omega), fun x => ?_, fun q' h' => ?_⟩
          · have em : Mem x m ↔ Mem x m.dropLast ∨ (q.1 ≤ x ∧ x < q.2) := by
              conv => lhs; rw [ed]
              rw [mem_app, mem_cons, mem_nil, or_false]
            rw [em, mem_app, mem_cons, mem_nil, or_false]
            show Mem x m.dropLast ∨ (q.1 ≤ x ∧ x < max q.2 s.2) ↔ _
            constructor
            · rintro (z | z)
              · exact .inl (.inl z)
              · by_cases y : x < q.2
                · exact .inl (.inr ⟨z.1, y⟩)
                · exact .inr ⟨by omega, by omega⟩
            · rintro ((z | z) | z)
              · exact .inl z
              · exact .inr ⟨z.1, by omega⟩
              · exact .inr ⟨by omega, by omega⟩
          · rw [List.getLast?_append] at h'
            have h2 : some ((q.1, max q.2 s.2) : Sp) = some q' := by simpa using h'
            cases h2
            exact hqs
        · have eu : uStep m s = m ++ [s] := by
            unfold uStep
            rw [e]
            exact if_neg hc
          rw [eu]
          refine ⟨cs_snoc c hs fun q' h' => ?_, fun x => ?_, fun q' h' => ?_⟩
          · rw [e] at h'
            cases h'
            omega
          · rw [mem_app, mem_cons, mem_nil, or_false]
          · rw [List.getLast?_append] at h'
            have h2 : some s = some q' := by simpa using h'
            cases h2
            exact Int.le_refl _
    obtain ⟨k1, k2, k3⟩ := key
    obtain ⟨r1, r2⟩ := uni_go' (xs := xs) (m := uStep m s) hr.2 (fun t ht => hl t (List.mem_cons_of_mem _ ht)) k1 fun q h' t ht => by
      have a1 := k3 q h'
      have a2 := hr.1 t ht
      unfold sLt at a2
      omega
    refine ⟨r1, fun x => ?_⟩
    rw [List.foldl_cons, r2, k2, mem_cons]
    constructor
    · rintro ((z | z) | z)
      · exact .inl z
      · exact .inr (.inl z)
      · exact .inr (.inr z)
    · rintro (z | z | z)
      · exact .inl (.inl z)
      · exact .inl (.inr z)
      · exact .inr z
theorem uni_cs {ss : List Sp} (h : ∀ s ∈ ss, s.1 < s.2) : Cs (uni ss) := (uni_go' (m := []) (srt_ris ss) (fun s hs => h s (srt_mem.mp hs)) True.intro (fun _ z => by cases z)).1
theorem uni_mem {ss : List Sp} (h : ∀ s ∈ ss, s.1 < s.2) (x : Int) : Mem x (uni ss) ↔ Mem x ss := by
  have := (uni_go' (m := []) (srt_ris ss) (fun s hs => h s (srt_mem.mp hs)) True.intro (fun _ z => by cases z)).2 x
  unfold uni
  rw [this, mem_nil, false_or]
  exact mem_of fun s => srt_mem
theorem uni_eq {ss u : List Sp} (h : ∀ s ∈ ss, s.1 < s.2) (c : Cs u) (m : ∀ x, Mem x ss ↔ Mem x u) : uni ss = u := cs_uniq (uni_cs h) c fun x => (uni_mem h x).trans (m x)
theorem uni_self {u : List Sp} (c : Cs u) : uni u = u := uni_eq c.lt c fun _ => Iff.rfl
def gpL (hi : Int) : Int → List Sp → List Sp
  | h, [] => if h < hi then [(h, hi)] else []
  | h, s :: r => (if h < s.1 then [(h, min s.1 hi)] else []) ++ (if hi ≤ max h s.2 then [] else gpL hi (max h s.2) r)
theorem gpL_len (hi : Int) : ∀ (h : Int) (u : List Sp), (gpL hi h u).length ≤ u.length + 1
  | h, [] => by
    unfold gpL
    split <;> simp
  | h, s :: r => by
    unfold gpL
    rw [List.length_append, List.length_cons]
    have := gpL_len hi (max h s.2) r
    have a : (if h < s.1 then [((h, min s.1 hi) : Sp)] else []).length ≤ 1 := by split <;> simp
    have b : (if hi ≤ max h s.2 then ([] : List Sp) else gpL hi (max h s.2) r).length ≤ r.length + 1 := by
      split
      · simp
      · exact this
    omega
theorem gpL_ge {hi : Int} : ∀ {h : Int} {u : List Sp}, ∀ t ∈ gpL hi h u, h ≤ t.1
  | h, [], t, ht => by
    unfold gpL at ht
    split at ht
    · rw [List.mem_singleton.mp ht]
      exact Int.le_refl _
    · cases ht
  | h, s :: r, t, ht => by
    unfold gpL at ht
    rcases List.mem_append.mp ht with z | z
    · split at z
      · rw [List.mem_singleton.mp z]
        exact Int.le_refl _
      · cases z
    · split at z
      · cases z
      · have := gpL_ge t z
        omega
theorem gpL_ok {hi : Int} : ∀ {h : Int} {u : List Sp}, Cs u → h < hi → Cs (gpL hi h u) ∧ ∀ x, Mem x (gpL hi h u) ↔ (h ≤ x ∧ x < hi) ∧ ¬ Mem x u
  | h, [], _, hh => by
    have e : gpL hi h [] = [(h, hi)] := if_pos hh
    rw [e]
    refine ⟨⟨hh, (fun _ z => by cases z), True.intro⟩, fun x => ?_⟩
    rw [mem_cons, mem_nil, or_false]
    show h ≤ x ∧ x < hi ↔ _
    constructor
    · intro z
      exact ⟨z, fun y => y⟩
    · intro z
      exact z.1
  | h, s :: r, c, hh => by
    have c1 := c.1
    have un : gpL hi h (s :: r) = (if h < s.1 then [(h, min s.1 hi)] else []) ++ (if hi ≤ max h s.2 then [] else gpL hi (max h s.2) r) := rfl
    rw [un]
    by_cases e2 : hi ≤ max h s.2
    · rw [if_pos e2, List.append_nil]
      have nr : ∀ x, x < hi → ¬ Mem x r := fun x hx z => by
        have := c.behind z
        omega
      by_cases e1 : h < s.1
      · rw [if_pos e1]
        refine ⟨⟨by show h < min s.1 hi; omega, (fun _ z => by cases z), True.intro⟩, fun x => ?_⟩
        rw [mem_cons, mem_nil, or_false, mem_cons]
        show h ≤ x ∧ x < min s.1 hi ↔ _
        constructor
        · intro z
          refine ⟨⟨z.1, by omega⟩, fun y => ?_⟩
          rcases y with y | y
          · omega
          · exact nr x (by omega) y
        · rintro ⟨z, y⟩
          refine ⟨z.1, ?_⟩
          by_cases w : x < s.1
          · omega
          · exact absurd (.inl ⟨by omega, by omega⟩) y
      · rw [if_neg e1]
        refine ⟨True.intro, fun x => ?_⟩
        rw [mem_nil, mem_cons]
        constructor
        · exact False.elim
        · rintro ⟨z, y⟩
          exact y (.inl ⟨by omega, by omega⟩)
    · rw [if_neg e2]
      obtain ⟨i1, i2⟩ := gpL_ok (hi := hi) (h := max h s.2) c.2.2 (by omega)
      have nr : ∀ x, x < s.1 → ¬ Mem x r := fun x hx z => by
        have := c.behind z
        omega
      by_cases e1 : h < s.1
      · rw [if_pos e1]
        refine ⟨⟨by show h < min s.1 hi; omega, fun t ht => ?_, i1⟩, fun x => ?_⟩
        · have := gpL_ge t ht
          show min s.1 hi < t.1
          omega
        · show Mem x ((h, min s.1 hi) :: gpL hi (max h s.2) r) ↔ _
          rw [mem_cons, i2, mem_cons]
          show (h ≤ x ∧ x < min s.1 hi) ∨ _ ↔ _
          constructor
          · rintro (z | ⟨z, y⟩)
            · refine ⟨⟨z.1, by omega⟩, fun y => ?_⟩
              rcases y with y | y
              · omega
              · exact nr x (by omega) y
            · refine ⟨⟨by omega, z.2⟩, fun w => ?_⟩
              rcases w with w | w
              · omega
              · exact y w
          · rintro ⟨z, y⟩
            by_cases w : x < s.1
            · exact .inl ⟨z.1, by omega⟩
            · refine .inr ⟨⟨?_, z.2⟩, fun v => y (.inr v)⟩
              by_cases v : x < s.2
              · exact absurd (.inl ⟨by omega, v⟩) y
              · omega
      · rw [if_neg e1, List.nil_append]
        refine ⟨i1, fun x => ?_⟩
        rw [i2, mem_cons]
        constructor
        · rintro ⟨z, y⟩
          refine ⟨⟨by omega, z.2⟩, fun w => ?_⟩
          rcases w with w | w
          · omega
          · exact y w
        · rintro ⟨z, y⟩
          refine ⟨⟨?_, z.2⟩, fun v => y (.inr v)⟩
          by_cases v : x < s.2
          · exact absurd (.inl ⟨by omega, v⟩) y
          · omega
/-- how many numbers spans have together -/
def slen (ss : List Sp) : Int := (ss.map fun s => s.2 - s.1).sum
theorem slen_cons (s : Sp) (r : List Sp) : slen (s :: r) = s.2 - s.1 + slen r := by
  unfold slen
  rw [List.map_cons, List.sum_cons]
theorem slen_app (a b : List Sp) : slen (a ++ b) = slen a + slen b := by
  unfold slen
  rw [List.map_append, List.sum_append]
theorem gpL_slen {hi : Int} : ∀ {h : Int} {u : List Sp}, Cs u → h < hi → (∀ s ∈ u, h ≤ s.1 ∧ s.2 ≤ hi) → slen (gpL hi h u) + slen u = hi - h
  | h, [], _, hh, _ => by
    have e : gpL hi h [] = [(h, hi)] := if_pos hh
    rw [e, slen_cons]
    show hi - h + 0 + 0 = _
    omega
  | h, s :: r, c, hh, hu => by
    have hs := hu s (List.mem_cons_self ..)
    have c1 := c.1
    have un : gpL hi h (s :: r) = (if h < s.1 then [(h, min s.1 hi)] else []) ++ (if hi ≤ max h s.2 then [] else gpL hi (max h s.2) r) := rfl
    have pre : slen (if h < s.1 then [((h, min s.1 hi) : Sp)] else []) = s.1 - h := by
      by_cases e1 : h < s.1
      · rw [if_pos e1, slen_cons]
        show min s.1 hi - h + 0 = _
        omega
      · rw [if_neg e1]
        show (0 : Int) = _
        omega
    rw [un, slen_app, pre, slen_cons]
    by_cases e2 : hi ≤ max h s.2
    · rw [if_pos e2]
      have er : r = [] := by
        cases r with
        | nil => rfl
        | cons t r =>
          have a := c.2.1 t (List.mem_cons_self ..)
          have b := hu t (List.mem_cons_of_mem _ (List.mem_cons_self ..))
          have d := c.2.2.1
          omega
      subst er
      show s.1 - h + 0 + (s.2 - s.1 + 0) = _
      omega
    · rw [if_neg e2]
      have ih := gpL_slen (hi := hi) (h := max h s.2) c.2.2 (by omega) fun t ht => ⟨by have := c.2.1 t ht; omega, (hu t (List.mem_cons_of_mem _ ht)).2⟩
      omega
theorem asc_uniq : ∀ {a b : List Int}, a.Pairwise (· < ·) → b.Pairwise (· < ·) → (∀ x, x ∈ a ↔ x ∈ b) → a = b
  | [], [], _, _, _ => rfl
  | [], y :: b, _, _, h => absurd ((h y).mpr (List.mem_cons_self ..)) (by simp)
  | x :: a, [], _, _, h => absurd ((h x).mp (List.mem_cons_self ..)) (by simp)
  | x :: a, y :: b, ha, hb, h => by
    obtain ⟨a1, a2⟩ := List.pairwise_cons.mp ha
    obtain ⟨b1, b2⟩ := List.pairwise_cons.mp hb
    have e : x = y := by
      rcases List.mem_cons.mp ((h x).mp (List.mem_cons_self ..)) with z | z
      · exact z
      · rcases List.mem_cons.mp ((h y).mpr (List.mem_cons_self ..)) with w | w
        · exact w.symm
        · have := a1 y w
          have := b1 x z
          omega
    subst e
    rw [asc_uniq a2 b2 fun z => ?_]
    constructor
    · intro hz
      have := a1 z hz
      rcases List.mem_cons.mp ((h z).mp (List.mem_cons_of_mem _ hz)) with w | w
      · omega
      · exact w
    · intro hz
      have := b1 z hz
      rcases List.mem_cons.mp ((h z).mpr (List.mem_cons_of_mem _ hz)) with w | w
      · omega
      · exact w
/-- the most, and the first with it -/
def mStep (cnt : Int → Int) (b : Option (Int × Int)) (c : Int) : Option (Int × Int) := match b with
  | none => some (cnt c, c)
  | some p => if p.1 < cnt c then some (cnt c, c) else some p
theorem mst_some {cnt : Int → Int} : ∀ {cs : List Int} {p : Int × Int}, p.1 = cnt p.2 → ∃ q : Int × Int, cs.foldl (mStep cnt) (some p) = some q ∧ q.1 = cnt q.2 ∧ (q = p ∨ q.2 ∈ cs)
  | [], p, h => ⟨p, rfl, h, .inl rfl⟩
  | c :: cs, p, h => by
    rw [List.foldl_cons]
    by_cases e : p.1 < cnt c
    · have u : mStep cnt (some p) c = some (cnt c, c) := if_pos e
      rw [u]
      obtain ⟨q, h1, h2, h3⟩ := mst_some (cs := cs) (p := (cnt c, c)) rfl
      refine ⟨q, h1, h2, .inr ?_⟩
      rcases h3 with rfl | h3
      · exact List.mem_cons_self ..
      · exact List.mem_cons_of_mem _ h3
    · have u : mStep cnt (some p) c = some p := if_neg e
      rw [u]
      obtain ⟨q, h1, h2, h3⟩ := mst_some (cs := cs) (p := p) h
      exact ⟨q, h1, h2, h3.imp id fun z => List.mem_cons_of_mem _ z⟩
theorem mst_one {cnt : Int → Int} : ∀ {cs : List Int} {p : Int × Int}, p.1 = 1 → (∀ c ∈ cs, cnt c = 1) → cs.foldl (mStep cnt) (some p) = some p
  | [], p, _, _ => rfl
  | c :: cs, p, h, hc => by
    rw [List.foldl_cons]
    have u : mStep cnt (some p) c = some p := if_neg (by rw [hc c (List.mem_cons_self ..), h]; decide)
    rw [u]
    exact mst_one h fun d hd => hc d (List.mem_cons_of_mem _ hd)
theorem mst_get {cnt : Int → Int} {cs : List Int} (hn : cs ≠ []) : ∃ c ∈ cs, cs.foldl (mStep cnt) none = some (cnt c, c) := by
  cases cs with
  | nil => exact absurd rfl hn
  | cons c cs =>
    rw [List.foldl_cons]
    obtain ⟨q, h1, h2, h3⟩ := mst_some (cnt := cnt) (cs := cs) (p := (cnt c, c)) rfl
    refine ⟨q.2, ?_, by rw [show mStep cnt none c = some (cnt c, c) from rfl, h1, ← h2]⟩
    rcases h3 with rfl | h3
    · exact List.mem_cons_self ..
    · exact List.mem_cons_of_mem _ h3
def hasB (c : Int) (s : Sp) : Bool := decide (s.1 ≤ c) && decide (c < s.2)
def cntS (ss : List Sp) (c : Int) : Int := ((ss.filter (hasB c)).length : Nat)
theorem cntS_rev (ss : List Sp) (c : Int) : cntS ss.reverse c = cntS ss c := by
  unfold cntS
  rw [List.filter_reverse, List.length_reverse]
theorem cntS_cs : ∀ {u : List Sp}, Cs u → ∀ s ∈ u, cntS u s.1 = 1
  | [], _, _, h => by cases h
  | t :: u, c, s, h => by
    have c1 := c.1
    unfold cntS
    rcases List.mem_cons.mp h with rfl | h
    · have e1 : hasB s.1 s = true := by
        unfold hasB
        rw [decide_eq_true (Int.le_refl _), decide_eq_true c1]
        rfl
      have e2 : u.filter (hasB s.1) = [] := List.filter_eq_nil_iff.mpr fun t ht => by
        have := c.2.1 t ht
        unfold hasB
        rw [decide_eq_false (by omega)]
        simp
      rw [List.filter_cons, if_pos e1, e2]
      rfl
    · have := c.2.1 s h
      have e1 : ¬ hasB s.1 t = true := by
        unfold hasB
        rw [decide_eq_false (show ¬ s.1 < t.2 by omega), Bool.and_false]
        decide
      rw [List.filter_cons, if_neg e1]
      exact cntS_cs c.2.2 s h
theorem cs_asc : ∀ {u : List Sp}, Cs u → (u.map (·.1)).Pairwise (· < ·)
  | [], _ => List.Pairwise.nil
  | s :: u, c => by
    rw [List.map_cons]
    refine List.pairwise_cons.mpr ⟨fun x hx => ?_, cs_asc c.2.2⟩
    obtain ⟨t, ht, rfl⟩ := List.mem_map.mp hx
    have := c.2.1 t ht
    have := c.1
    omega
def pcOf (s : Sp) : Pc := ⟨⟨#[97]⟩, s.1, s.2⟩
theorem many_pc (ss : List Sp) : many (ss.map pcOf) = slen ss := by
  unfold many slen
  rw [List.map_map]
  rfl
theorem bind_okD {α β : Type} (a : α) (f : α → R β) : R.bind (.ok a) f = f a := rfl
/-- by steps, so that no number is unfolded -/
theorem v_rng2 {o : Out} {a b : IE} {ρ : Env} {x y : D} {xs : List D} (h1 : evE o a ρ = .ok x) (h2 : evE o b ρ = .ok y) (h3 : rng2D x y = .ok xs) : evI o (.rng2 a b) ρ = .ok xs := by
  unfold evI
  rw [h1, bind_okD, h2, bind_okD]
  exact h3
end FD
namespace K20
/-- is_rate: thing -/
def d0 : FD.IDef := ⟨1, 1, (.cons (.ret (.and (.isi (.var 0) .str) (.cmp .inn (.var 0) (.glo 0)))) .nil)⟩
/-- look_rate: rate -/
def d1 : FD.IDef := ⟨1, 1, (.cons (.iff (.nt (.call 0 (.cons (.var 0) .nil))) (.cons (.raise 1) .nil) .nil) .nil)⟩
/-- minute_frames: rate -/
def d2 : FD.IDef := ⟨1, 1, (.cons (.ret (.bin .sub (.bin .mul (.cst (.int 60)) (.idx (.glo 1) (.var 0))) (.mt .get2 (.glo 2) (.cons (.var 0) (.cons (.cst (.int 0)) .nil))))) .nil)⟩
/-- ten_frames: rate -/
def d3 : FD.IDef := ⟨1, 1, (.cons (.ret (.bin .add (.bin .mul (.cst (.int 10)) (.call 2 (.cons (.var 0) .nil))) (.mt .get2 (.glo 2) (.cons (.var 0) (.cons (.cst (.int 0)) .nil))))) .nil)⟩
/-- day_frames: rate -/
def d4 : FD.IDef := ⟨1, 1, (.cons (.expr (.call 1 (.cons (.var 0) .nil))) (.cons (.ret (.bin .mul (.bin .mul (.cst (.int 6)) (.glo 3)) (.call 3 (.cons (.var 0) .nil)))) .nil))⟩
/-- is_whole: thing low high -/
def d5 : FD.IDef := ⟨3, 3, (.cons (.ret (.and (.isi (.var 0) .int) (.and (.nt (.isi (.var 0) .bool)) (.cmp2 .le .le (.var 1) (.var 0) (.var 2))))) .nil)⟩
/-- is_left_out: rate code -/
def d6 : FD.IDef := ⟨2, 2, (.cons (.ret (.and (.cmp .eq (.idx (.var 1) (.cst (.int 2))) (.cst (.int 0))) (.and (.cmp .lt (.idx (.var 1) (.cst (.int 3))) (.mt .get2 (.glo 2) (.cons (.var 0) (.cons (.cst (.int 0)) .nil)))) (.cmp .ne (.bin .mod (.idx (.var 1) (.cst (.int 1))) (.cst (.int 10))) (.cst (.int 0)))))) .nil)⟩
/-- has_shape: rate thing bounds one high -/
def d7 : FD.IDef := ⟨2, 5, (.cons (.iff (.or (.nt (.isi (.var 1) .tuple)) (.cmp .ne (.bi .len (.cons (.var 1) .nil)) (.cst (.int 4)))) (.cons (.ret (.cst (.bl false))) .nil) .nil) (.cons (.asg (.nm 2) (.tup (.cons (.bin .sub (.glo 3) (.cst (.int 1))) (.cons (.cst (.int 59)) (.cons (.cst (.int 59)) (.cons (.bin .sub (.idx (.glo 1) (.var 0)) (.cst (.int 1))) .nil)))))) (.cons (.ret (.bi .all (.cons (.lc (.call 5 (.cons (.var 3) (.cons (.cst (.int 0)) (.cons (.var 4) .nil)))) (.tp [(.nm 3), (.nm 4)]) (.zip2 (.var 1) (.var 2)) .nil) .nil))) .nil)))⟩
/-- is_code: rate thing -/
def d8 : FD.IDef := ⟨2, 2, (.cons (.expr (.call 1 (.cons (.var 0) .nil))) (.cons (.ret (.and (.call 7 (.cons (.var 0) (.cons (.var 1) .nil))) (.nt (.call 6 (.cons (.var 0) (.cons (.var 1) .nil)))))) .nil))⟩
/-- count_of: rate code whole told hours minutes seconds frames -/
def d9 : FD.IDef := ⟨2, 8, (.cons (.asg (.tp [(.nm 4), (.nm 5), (.nm 6), (.nm 7)]) (.var 1)) (.cons (.asg (.nm 2) (.bin .add (.bin .mul (.cst (.int 60)) (.var 4)) (.var 5))) (.cons (.asg (.nm 3) (.bin .add (.bin .mul (.bin .add (.bin .mul (.cst (.int 60)) (.var 2)) (.var 6)) (.idx (.glo 1) (.var 0))) (.var 7))) (.cons (.ret (.bin .sub (.var 3) (.bin .mul (.mt .get2 (.glo 2) (.cons (.var 0) (.cons (.cst (.int 0)) .nil))) (.bin .sub (.var 2) (.bin .fdiv (.var 2) (.cst (.int 10))))))) .nil))))⟩
/-- code_of: rate number few minutes whole tens rest -/
def d10 : FD.IDef := ⟨2, 7, (.cons (.par [5, 6] (.cons (.bin .fdiv (.var 1) (.call 3 (.cons (.var 0) .nil))) (.cons (.bin .mod (.var 1) (.call 3 (.cons (.var 0) .nil))) .nil))) (.cons (.asg (.nm 2) (.mt .get2 (.glo 2) (.cons (.var 0) (.cons (.cst (.int 0)) .nil)))) (.cons (.asg (.nm 3) (.cst (.int 0))) (.cons (.iff (.cmp .ge (.var 6) (.bin .mul (.cst (.int 60)) (.idx (.glo 1) (.var 0)))) (.cons (.asg (.nm 3) (.bin .add (.cst (.int 1)) (.bin .fdiv (.bin .sub (.var 6) (.bin .mul (.cst (.int 60)) (.idx (.glo 1) (.var 0)))) (.call 2 (.cons (.var 0) .nil))))) (.cons (.asg (.nm 6) (.bin .add (.bin .mod (.bin .sub (.var 6) (.bin .mul (.cst (.int 60)) (.idx (.glo 1) (.var 0)))) (.call 2 (.cons (.var 0) .nil))) (.var 2))) .nil)) .nil) (.cons (.asg (.nm 4) (.bin .add (.bin .mul (.cst (.int 10)) (.var 5)) (.var 3))) (.cons (.ret (.tup (.cons (.bin .fdiv (.var 4) (.cst (.int 60))) (.cons (.bin .mod (.var 4) (.cst (.int 60))) (.cons (.bin .fdiv (.var 6) (.idx (.glo 1) (.var 0))) (.cons (.bin .mod (.var 6) (.idx (.glo 1) (.var 0))) .nil)))))) .nil))))))⟩
/-- look_by: by -/
def d11 : FD.IDef := ⟨1, 1, (.cons (.iff (.or (.nt (.isi (.var 0) .int)) (.isi (.var 0) .bool)) (.cons (.raise 3) .nil) .nil) .nil)⟩
/-- is_span: rate thing code -/
def d12 : FD.IDef := ⟨2, 3, (.cons (.expr (.call 1 (.cons (.var 0) .nil))) (.cons (.iff (.or (.nt (.isi (.var 1) .tuple)) (.or (.cmp .ne (.bi .len (.cons (.var 1) .nil)) (.cst (.int 2))) (.nt (.bi .all (.cons (.lc (.call 8 (.cons (.var 0) (.cons (.var 2) .nil))) (.nm 2) (.seq (.var 1)) .nil) .nil))))) (.cons (.ret (.cst (.bl false))) .nil) .nil) (.cons (.ret (.cmp .lt (.idx (.var 1) (.cst (.int 0))) (.idx (.var 1) (.cst (.int 1))))) .nil)))⟩
/-- look_span: rate span -/
def d13 : FD.IDef := ⟨2, 2, (.cons (.iff (.nt (.call 12 (.cons (.var 0) (.cons (.var 1) .nil)))) (.cons (.raise 4) .nil) .nil) .nil)⟩
/-- counts_in: rate span -/
def d14 : FD.IDef := ⟨2, 2, (.cons (.ret (.tup (.cons (.call 9 (.cons (.var 0) (.cons (.idx (.var 1) (.cst (.int 0))) .nil))) (.cons (.call 9 (.cons (.var 0) (.cons (.idx (.var 1) (.cst (.int 1))) .nil))) .nil)))) .nil)⟩
/-- span_of: rate first last -/
def d15 : FD.IDef := ⟨3, 3, (.cons (.ret (.tup (.cons (.call 10 (.cons (.var 0) (.cons (.var 1) .nil))) (.cons (.call 10 (.cons (.var 0) (.cons (.var 2) .nil))) .nil)))) .nil)⟩
/-- long: rate span first last -/
def d16 : FD.IDef := ⟨2, 4, (.cons (.expr (.call 13 (.cons (.var 0) (.cons (.var 1) .nil)))) (.cons (.asg (.tp [(.nm 2), (.nm 3)]) (.call 14 (.cons (.var 0) (.cons (.var 1) .nil)))) (.cons (.ret (.bin .sub (.var 3) (.var 2))) .nil)))⟩
/-- shifted: rate span by first last -/
def d17 : FD.IDef := ⟨3, 5, (.cons (.expr (.call 13 (.cons (.var 0) (.cons (.var 1) .nil)))) (.cons (.expr (.call 11 (.cons (.var 2) .nil))) (.cons (.asg (.tp [(.nm 3), (.nm 4)]) (.call 14 (.cons (.var 0) (.cons (.var 1) .nil)))) (.cons (.iff (.or (.cmp .lt (.bin .add (.var 3) (.var 2)) (.cst (.int 0))) (.cmp .ge (.bin .add (.var 4) (.var 2)) (.call 4 (.cons (.var 0) .nil)))) (.cons (.raise 5) .nil) .nil) (.cons (.ret (.call 15 (.cons (.var 0) (.cons (.bin .add (.var 3) (.var 2)) (.cons (.bin .add (.var 4) (.var 2)) .nil))))) .nil)))))⟩
/-- common: rate one other first last -/
def d18 : FD.IDef := ⟨3, 5, (.cons (.expr (.call 13 (.cons (.var 0) (.cons (.var 1) .nil)))) (.cons (.expr (.call 13 (.cons (.var 0) (.cons (.var 2) .nil)))) (.cons (.par [3, 4] (.cons (.bi .max2 (.cons (.idx (.var 1) (.cst (.int 0))) (.cons (.idx (.var 2) (.cst (.int 0))) .nil))) (.cons (.bi .min2 (.cons (.idx (.var 1) (.cst (.int 1))) (.cons (.idx (.var 2) (.cst (.int 1))) .nil))) .nil))) (.cons (.ret (.ite (.cmp .lt (.var 3) (.var 4)) (.tup (.cons (.var 3) (.cons (.var 4) .nil))) (.cst (.non)))) .nil))))⟩
/-- joined: rate one other -/
def d19 : FD.IDef := ⟨3, 3, (.cons (.expr (.call 13 (.cons (.var 0) (.cons (.var 1) .nil)))) (.cons (.expr (.call 13 (.cons (.var 0) (.cons (.var 2) .nil)))) (.cons (.iff (.cmp .gt (.bi .max2 (.cons (.idx (.var 1) (.cst (.int 0))) (.cons (.idx (.var 2) (.cst (.int 0))) .nil))) (.bi .min2 (.cons (.idx (.var 1) (.cst (.int 1))) (.cons (.idx (.var 2) (.cst (.int 1))) .nil)))) (.cons (.raise 6) .nil) .nil) (.cons (.ret (.tup (.cons (.bi .min2 (.cons (.idx (.var 1) (.cst (.int 0))) (.cons (.idx (.var 2) (.cst (.int 0))) .nil))) (.cons (.bi .max2 (.cons (.idx (.var 1) (.cst (.int 1))) (.cons (.idx (.var 2) (.cst (.int 1))) .nil))) .nil)))) .nil))))⟩
/-- _law_cell: script k -/
def d20 : FD.IDef := ⟨2, 2, (.cons (.iff (.cmp .lt (.var 1) (.bi .len (.cons (.var 0) .nil))) (.cons (.ret (.idx (.var 0) (.var 1))) .nil) .nil) (.cons (.iff (.cmp .eq (.var 0) (.lst .nil)) (.cons (.ret (.cst (.int 0))) .nil) .nil) (.cons (.ret (.bin .add (.bin .mul (.idx (.var 0) (.bin .mod (.var 1) (.bi .len (.cons (.var 0) .nil)))) (.cst (.int 31))) (.var 1))) .nil)))⟩
/-- _law_pick: script k many drawn -/
def d21 : FD.IDef := ⟨3, 4, (.cons (.asg (.nm 3) (.bin .mod (.bin .mul (.bin .add (.call 20 (.cons (.var 0) (.cons (.var 1) .nil))) (.bin .mul (.cst (.int 6151)) (.bin .add (.var 1) (.cst (.int 1))))) (.cst (.int 40692))) (.cst (.int 2147483399)))) (.cons (.ret (.bin .mod (.bin .mod (.bin .add (.bin .mul (.var 3) (.var 3)) (.bin .fdiv (.var 3) (.cst (.int 31)))) (.cst (.int 2147483629))) (.var 2))) .nil))⟩
/-- _law_rate: script at -/
def d22 : FD.IDef := ⟨2, 2, (.cons (.ret (.idx (.lst (.cons (.cst (.str ⟨#[102, 105, 108, 109]⟩)) (.cons (.cst (.str ⟨#[101, 117, 114, 111, 112, 101]⟩)) (.cons (.cst (.str ⟨#[112, 108, 97, 105, 110]⟩)) (.cons (.cst (.str ⟨#[100, 114, 111, 112]⟩)) (.cons (.cst (.str ⟨#[102, 97, 115, 116]⟩)) (.cons (.cst (.str ⟨#[102, 97, 115, 116, 32, 100, 114, 111, 112]⟩)) (.cons (.cst (.str ⟨#[100, 114, 111, 112]⟩)) (.cons (.cst (.str ⟨#[102, 97, 115, 116, 32, 100, 114, 111, 112]⟩)) .nil))))))))) (.call 21 (.cons (.var 0) (.cons (.var 1) (.cons (.cst (.int 8)) .nil)))))) .nil)⟩
/-- _law_facts: rate figures -/
def d23 : FD.IDef := ⟨1, 2, (.cons (.asg (.nm 1) (.dic [⟨#[102, 105, 108, 109]⟩, ⟨#[101, 117, 114, 111, 112, 101]⟩, ⟨#[112, 108, 97, 105, 110]⟩, ⟨#[100, 114, 111, 112]⟩, ⟨#[102, 97, 115, 116]⟩, ⟨#[102, 97, 115, 116, 32, 100, 114, 111, 112]⟩] (.cons (.cst (.int 24)) (.cons (.cst (.int 25)) (.cons (.cst (.int 30)) (.cons (.cst (.int 30)) (.cons (.cst (.int 60)) (.cons (.cst (.int 60)) .nil)))))))) (.cons (.ret (.tup (.cons (.idx (.var 1) (.var 0)) (.cons (.mt .get2 (.dic [⟨#[100, 114, 111, 112]⟩, ⟨#[102, 97, 115, 116, 32, 100, 114, 111, 112]⟩] (.cons (.cst (.int 2)) (.cons (.cst (.int 4)) .nil))) (.cons (.var 0) (.cons (.cst (.int 0)) .nil))) .nil)))) .nil))⟩
/-- _law_shape: script at rate most hours minutes seconds frames -/
def d24 : FD.IDef := ⟨3, 8, (.cons (.asg (.nm 3) (.idx (.call 23 (.cons (.var 2) .nil)) (.cst (.int 0)))) (.cons (.asg (.nm 4) (.idx (.lst (.cons (.cst (.int 0)) (.cons (.cst (.int 0)) (.cons (.cst (.int 1)) (.cons (.cst (.int 23)) (.cons (.call 21 (.cons (.var 0) (.cons (.var 1) (.cons (.cst (.int 24)) .nil)))) .nil)))))) (.call 21 (.cons (.var 0) (.cons (.bin .add (.var 1) (.cst (.int 1))) (.cons (.cst (.int 5)) .nil)))))) (.cons (.asg (.nm 5) (.call 21 (.cons (.var 0) (.cons (.bin .add (.var 1) (.cst (.int 2))) (.cons (.cst (.int 60)) .nil))))) (.cons (.iff (.cmp .eq (.call 21 (.cons (.var 0) (.cons (.bin .add (.var 1) (.cst (.int 3))) (.cons (.cst (.int 3)) .nil)))) (.cst (.int 0))) (.cons (.asg (.nm 5) (.idx (.lst (.cons (.cst (.int 0)) (.cons (.cst (.int 1)) (.cons (.cst (.int 9)) (.cons (.cst (.int 10)) (.cons (.cst (.int 11)) (.cons (.cst (.int 59)) .nil))))))) (.call 21 (.cons (.var 0) (.cons (.bin .add (.var 1) (.cst (.int 2))) (.cons (.cst (.int 6)) .nil)))))) .nil) .nil) (.cons (.asg (.nm 6) (.idx (.lst (.cons (.cst (.int 0)) (.cons (.cst (.int 0)) (.cons (.cst (.int 59)) (.cons (.call 21 (.cons (.var 0) (.cons (.bin .add (.var 1) (.cst (.int 4))) (.cons (.cst (.int 60)) .nil)))) .nil))))) (.call 21 (.cons (.var 0) (.cons (.bin .add (.var 1) (.cst (.int 5))) (.cons (.cst (.int 4)) .nil)))))) (.cons (.asg (.nm 7) (.idx (.lst (.cons (.cst (.int 0)) (.cons (.cst (.int 1)) (.cons (.cst (.int 2)) (.cons (.cst (.int 3)) (.cons (.cst (.int 4)) (.cons (.bin .sub (.var 3) (.cst (.int 1))) (.cons (.call 21 (.cons (.var 0) (.cons (.bin .add (.var 1) (.cst (.int 6))) (.cons (.var 3) .nil)))) .nil)))))))) (.call 21 (.cons (.var 0) (.cons (.bin .add (.var 1) (.cst (.int 7))) (.cons (.cst (.int 7)) .nil)))))) (.cons (.ret (.tup (.cons (.var 4) (.cons (.var 5) (.cons (.var 6) (.cons (.var 7) .nil)))))) .nil)))))))⟩
/-- _law_is_out: rate code -/
def d25 : FD.IDef := ⟨2, 2, (.cons (.ret (.and (.cmp .eq (.idx (.var 1) (.cst (.int 2))) (.cst (.int 0))) (.and (.cmp .lt (.idx (.var 1) (.cst (.int 3))) (.idx (.call 23 (.cons (.var 0) .nil)) (.cst (.int 1)))) (.cmp .notin (.idx (.var 1) (.cst (.int 1))) (.tup (.cons (.cst (.int 0)) (.cons (.cst (.int 10)) (.cons (.cst (.int 20)) (.cons (.cst (.int 30)) (.cons (.cst (.int 40)) (.cons (.cst (.int 50)) .nil))))))))))) .nil)⟩
/-- _law_code: script at rate made -/
def d26 : FD.IDef := ⟨3, 4, (.cons (.asg (.nm 3) (.call 24 (.cons (.var 0) (.cons (.var 1) (.cons (.var 2) .nil))))) (.cons (.ret (.ite (.call 25 (.cons (.var 2) (.cons (.var 3) .nil))) (.bin .add (.slc (.var 3) .nil (.cons (.cst (.int 3)) .nil)) (.tup (.cons (.bin .add (.idx (.var 3) (.cst (.int 3))) (.cst (.int 4))) .nil))) (.var 3))) .nil))⟩
/-- _law_count: rate code hour made minute most few -/
def d27 : FD.IDef := ⟨2, 7, (.cons (.asg (.tp [(.nm 5), (.nm 6)]) (.call 23 (.cons (.var 0) .nil))) (.cons (.asg (.nm 2) (.bin .sub (.bin .mul (.bin .mul (.cst (.int 60)) (.cst (.int 60))) (.var 5)) (.bin .mul (.cst (.int 54)) (.var 6)))) (.cons (.asg (.nm 3) (.bin .mul (.idx (.var 1) (.cst (.int 0))) (.var 2))) (.cons (.for (.nm 4) (.rng1 (.idx (.var 1) (.cst (.int 1)))) (.cons (.asg (.nm 3) (.bin .sub (.bin .add (.var 3) (.bin .mul (.cst (.int 60)) (.var 5))) (.ite (.cmp .gt (.bin .mod (.var 4) (.cst (.int 10))) (.cst (.int 0))) (.var 6) (.cst (.int 0))))) .nil)) (.cons (.asg (.nm 3) (.bin .add (.bin .add (.var 3) (.bin .mul (.idx (.var 1) (.cst (.int 2))) (.var 5))) (.idx (.var 1) (.cst (.int 3))))) (.cons (.ret (.bin .sub (.var 3) (.ite (.cmp .gt (.bin .mod (.idx (.var 1) (.cst (.int 1))) (.cst (.int 10))) (.cst (.int 0))) (.var 6) (.cst (.int 0))))) .nil))))))⟩
/-- _law_day: rate -/
def d28 : FD.IDef := ⟨1, 1, (.cons (.ret (.bin .add (.call 27 (.cons (.var 0) (.cons (.tup (.cons (.cst (.int 23)) (.cons (.cst (.int 59)) (.cons (.cst (.int 59)) (.cons (.bin .sub (.idx (.call 23 (.cons (.var 0) .nil)) (.cst (.int 0))) (.cst (.int 1))) .nil))))) .nil))) (.cst (.int 1)))) .nil)⟩
/-- _law_at: rate number hour rest most few minute -/
def d29 : FD.IDef := ⟨2, 7, (.cons (.asg (.tp [(.nm 4), (.nm 5)]) (.call 23 (.cons (.var 0) .nil))) (.cons (.asg (.nm 2) (.bin .sub (.bin .mul (.bin .mul (.cst (.int 60)) (.cst (.int 60))) (.var 4)) (.bin .mul (.cst (.int 54)) (.var 5)))) (.cons (.par [3, 6] (.cons (.bin .mod (.var 1) (.var 2)) (.cons (.cst (.int 0)) .nil))) (.cons (.whl 1000 (.cmp .ge (.var 3) (.bin .sub (.bin .mul (.cst (.int 60)) (.var 4)) (.ite (.cmp .gt (.bin .mod (.var 6) (.cst (.int 10))) (.cst (.int 0))) (.var 5) (.cst (.int 0))))) (.cons (.asg (.nm 3) (.bin .add (.bin .sub (.var 3) (.bin .mul (.cst (.int 60)) (.var 4))) (.ite (.cmp .gt (.bin .mod (.var 6) (.cst (.int 10))) (.cst (.int 0))) (.var 5) (.cst (.int 0))))) (.cons (.asg (.nm 6) (.bin .add (.var 6) (.cst (.int 1)))) .nil))) (.cons (.asg (.nm 3) (.bin .add (.var 3) (.ite (.cmp .gt (.bin .mod (.var 6) (.cst (.int 10))) (.cst (.int 0))) (.var 5) (.cst (.int 0))))) (.cons (.ret (.tup (.cons (.bin .fdiv (.var 1) (.var 2)) (.cons (.var 6) (.cons (.bin .fdiv (.var 3) (.var 4)) (.cons (.bin .mod (.var 3) (.var 4)) .nil)))))) .nil))))))⟩
/-- _law_low: up down one other -/
def d30 : FD.IDef := ⟨2, 4, (.cons (.par [2, 3] (.cons (.bi .abs (.cons (.var 0) .nil)) (.cons (.var 1) .nil))) (.cons (.whl 1000 (.cmp .ne (.var 3) (.cst (.int 0))) (.cons (.par [2, 3] (.cons (.var 3) (.cons (.bin .mod (.var 2) (.var 3)) .nil))) .nil)) (.cons (.ret (.tup (.cons (.bin .fdiv (.var 0) (.var 2)) (.cons (.bin .fdiv (.var 1) (.var 2)) .nil)))) .nil)))⟩
/-- _law_true: rate most few -/
def d31 : FD.IDef := ⟨1, 3, (.cons (.asg (.tp [(.nm 1), (.nm 2)]) (.call 23 (.cons (.var 0) .nil))) (.cons (.ret (.ite (.cmp .gt (.var 2) (.cst (.int 0))) (.tup (.cons (.bin .mul (.var 1) (.cst (.int 1000))) (.cons (.cst (.int 1001)) .nil))) (.tup (.cons (.var 1) (.cons (.cst (.int 1)) .nil))))) .nil))⟩
/-- _law_places: thing made k place -/
def d32 : FD.IDef := ⟨1, 4, (.cons (.own 1 (.lst (.cons (.tup .nil) .nil))) (.cons (.iff (.isi (.var 0) .tuple) (.cons (.for (.nm 2) (.rng1 (.bi .len (.cons (.var 0) .nil))) (.cons (.ext 1 (.lc (.bin .add (.tup (.cons (.var 2) .nil)) (.var 3)) (.nm 3) (.seq (.call 32 (.cons (.idx (.var 0) (.var 2)) .nil))) .nil)) .nil)) .nil) .nil) (.cons (.frz 1) (.cons (.ret (.var 1)) .nil))))⟩
/-- _law_put: thing place new k -/
def d33 : FD.IDef := ⟨3, 4, (.cons (.iff (.cmp .eq (.var 1) (.tup .nil)) (.cons (.ret (.var 2)) .nil) .nil) (.cons (.asg (.nm 3) (.idx (.var 1) (.cst (.int 0)))) (.cons (.ret (.bin .add (.bin .add (.slc (.var 0) .nil (.cons (.var 3) .nil)) (.tup (.cons (.call 33 (.cons (.idx (.var 0) (.var 3)) (.cons (.slc (.var 1) (.cons (.cst (.int 1)) .nil) .nil) (.cons (.var 2) .nil)))) .nil))) (.slc (.var 0) (.cons (.bin .add (.var 3) (.cst (.int 1))) .nil) .nil))) .nil)))⟩
/-- _law_spoilt_thing: script at thing places place here k some way -/
def d34 : FD.IDef := ⟨3, 9, (.cons (.asg (.nm 3) (.call 32 (.cons (.var 2) .nil))) (.cons (.asg (.nm 4) (.idx (.var 3) (.call 21 (.cons (.var 0) (.cons (.var 1) (.cons (.bi .len (.cons (.var 3) .nil)) .nil)))))) (.cons (.asg (.nm 5) (.var 2)) (.cons (.for (.nm 6) (.seq (.var 4)) (.cons (.asg (.nm 5) (.idx (.var 5) (.var 6))) .nil)) (.cons (.asg (.nm 7) (.lst (.cons (.cst (.int 0)) (.cons (.cst (.int 1)) (.cons (.cst (.int 23)) (.cons (.cst (.int 24)) (.cons (.cst (.int 25)) (.cons (.cst (.int 30)) (.cons (.cst (.int 59)) (.cons (.cst (.int 60)) (.cons (.neg (.cst (.int 1))) (.cons (.cst (.bl true)) (.cons (.cst (.non)) (.cons (.cst (.str ⟨#[49]⟩)) (.cons (.tup .nil) (.cons (.tup (.cons (.cst (.int 0)) (.cons (.cst (.int 0)) .nil))) (.cons (.lst (.cons (.cst (.int 0)) .nil)) (.cons (.tup (.cons (.var 5) .nil)) (.cons (.tup (.cons (.var 5) (.cons (.var 5) .nil))) .nil))))))))))))))))))) (.cons (.asg (.nm 8) (.call 21 (.cons (.var 0) (.cons (.bin .add (.var 1) (.cst (.int 1))) (.cons (.cst (.int 23)) .nil))))) (.cons (.iff (.cmp .lt (.var 8) (.cst (.int 17))) (.cons (.ret (.call 33 (.cons (.var 2) (.cons (.var 4) (.cons (.idx (.var 7) (.var 8)) .nil))))) .nil) .nil) (.cons (.iff (.and (.isi (.var 5) .tuple) (.cmp .ne (.var 5) (.tup .nil))) (.cons (.asg (.nm 6) (.call 21 (.cons (.var 0) (.cons (.bin .add (.var 1) (.cst (.int 2))) (.cons (.bi .len (.cons (.var 5) .nil)) .nil))))) (.cons (.ret (.call 33 (.cons (.var 2) (.cons (.var 4) (.cons (.ite (.cmp .lt (.var 8) (.cst (.int 20))) (.bin .add (.slc (.var 5) .nil (.cons (.var 6) .nil)) (.slc (.var 5) (.cons (.bin .add (.var 6) (.cst (.int 1))) .nil) .nil)) (.bin .add (.slc (.var 5) .nil (.cons (.bin .add (.var 6) (.cst (.int 1))) .nil)) (.slc (.var 5) (.cons (.var 6) .nil) .nil))) .nil))))) .nil)) .nil) (.cons (.ret (.call 33 (.cons (.var 2) (.cons (.var 4) (.cons (.ite (.isi (.var 5) .int) (.bin .sub (.bin .add (.var 5) (.var 8)) (.cst (.int 20))) (.cst (.int 7))) .nil))))) .nil)))))))))⟩
/-- _law_is_code: rate thing one most -/
def d35 : FD.IDef := ⟨2, 4, (.cons (.iff (.or (.nt (.isi (.var 1) .tuple)) (.cmp .ne (.bi .len (.cons (.var 1) .nil)) (.cst (.int 4)))) (.cons (.ret (.cst (.bl false))) .nil) .nil) (.cons (.for (.tp [(.nm 2), (.nm 3)]) (.zip2 (.var 1) (.tup (.cons (.cst (.int 24)) (.cons (.cst (.int 60)) (.cons (.cst (.int 60)) (.cons (.idx (.call 23 (.cons (.var 0) .nil)) (.cst (.int 0))) .nil)))))) (.cons (.iff (.or (.nt (.isi (.var 2) .int)) (.or (.isi (.var 2) .bool) (.nt (.cmp2 .le .lt (.cst (.int 0)) (.var 2) (.var 3))))) (.cons (.ret (.cst (.bl false))) .nil) .nil) .nil)) (.cons (.ret (.nt (.call 25 (.cons (.var 0) (.cons (.var 1) .nil))))) .nil)))⟩
/-- _law_word: kept kinds -/
def d36 : FD.IDef := ⟨1, 2, (.cons (.own 1 (.lst (.cons (.isi (.var 0) (.cls 2)) (.cons (.isi (.var 0) (.cls 6)) (.cons (.isi (.var 0) (.cls 3)) (.cons (.isi (.var 0) (.cls 1)) .nil)))))) (.cons (.ext 1 (.lst (.cons (.isi (.var 0) (.cls 4)) (.cons (.isi (.var 0) (.cls 7)) (.cons (.isi (.var 0) (.cls 5)) .nil))))) (.cons (.frz 1) (.cons (.iff (.or (.cmp .ne (.mt .count (.var 1) (.cons (.cst (.bl true)) .nil)) (.cst (.int 1))) (.nt (.isi (.var 0) .vale))) (.cons (.ret (.cst (.str ⟨#[119, 114, 111, 110, 103]⟩))) .nil) .nil) (.cons (.ret (.idx (.lst (.cons (.cst (.str ⟨#[110, 111, 32, 99, 111, 100, 101]⟩)) (.cons (.cst (.str ⟨#[110, 111, 32, 102, 105, 116]⟩)) (.cons (.cst (.str ⟨#[110, 111, 32, 110, 117, 109, 98, 101, 114]⟩)) (.cons (.cst (.str ⟨#[110, 111, 32, 114, 97, 116, 101]⟩)) (.cons (.cst (.str ⟨#[110, 111, 32, 115, 112, 97, 110]⟩)) (.cons (.cst (.str ⟨#[110, 111, 32, 116, 101, 120, 116]⟩)) (.cons (.cst (.str ⟨#[116, 111, 111, 32, 102, 97, 114]⟩)) .nil)))))))) (.mt .index (.var 1) (.cons (.cst (.bl true)) .nil)))) .nil)))))⟩
/-- _law_do: what rate one other kept answer e -/
def d37 : FD.IDef := ⟨4, 7, (.cons (.asg (.nm 4) (.cst (.non))) (.cons (.asg (.nm 5) (.cst (.non))) (.cons (.try_ (.cons (.iff (.cmp .lt (.var 0) (.cst (.int 2))) (.cons (.asg (.nm 5) (.ite (.cmp .eq (.var 0) (.cst (.int 0))) (.call 16 (.cons (.var 1) (.cons (.var 2) .nil))) (.call 12 (.cons (.var 1) (.cons (.var 2) .nil))))) .nil) (.cons (.asg (.nm 5) (.callv [17, 18, 19] (.idx (.lst (.cons (.gfn 17) (.cons (.gfn 18) (.cons (.gfn 19) .nil)))) (.bin .sub (.var 0) (.cst (.int 2)))) (.cons (.var 1) (.cons (.var 2) (.cons (.var 3) .nil))))) .nil)) .nil) 0 (some 6) (.cons (.asg (.nm 4) (.var 6)) .nil)) (.cons (.iff (.cmp .is (.var 4) (.cst (.non))) (.cons (.ret (.var 5)) .nil) .nil) (.cons (.ret (.call 36 (.cons (.var 4) .nil))) .nil)))))⟩
/-- _law_span: script at rate start first last -/
def d38 : FD.IDef := ⟨4, 6, (.cons (.asg (.nm 4) (.bin .add (.var 3) (.call 21 (.cons (.var 0) (.cons (.var 1) (.cons (.cst (.int 40)) .nil)))))) (.cons (.asg (.nm 5) (.bi .min2 (.cons (.bin .sub (.call 28 (.cons (.var 2) .nil)) (.cst (.int 1))) (.cons (.bin .add (.bin .add (.var 4) (.cst (.int 1))) (.call 21 (.cons (.var 0) (.cons (.bin .add (.var 1) (.cst (.int 1))) (.cons (.cst (.int 30)) .nil))))) .nil)))) (.cons (.ret (.tup (.cons (.call 29 (.cons (.var 2) (.cons (.bi .min2 (.cons (.var 4) (.cons (.bin .sub (.var 5) (.cst (.int 1))) .nil))) .nil))) (.cons (.call 29 (.cons (.var 2) (.cons (.var 5) .nil))) .nil)))) .nil)))⟩
/-- _law_is_span: rate thing code -/
def d39 : FD.IDef := ⟨2, 3, (.cons (.iff (.or (.nt (.isi (.var 1) .tuple)) (.cmp .ne (.bi .len (.cons (.var 1) .nil)) (.cst (.int 2)))) (.cons (.ret (.cst (.bl false))) .nil) .nil) (.cons (.iff (.cmp .ne (.lc (.var 2) (.nm 2) (.seq (.var 1)) (.cons (.nt (.call 35 (.cons (.var 0) (.cons (.var 2) .nil)))) .nil)) (.lst .nil)) (.cons (.ret (.cst (.bl false))) .nil) .nil) (.cons (.ret (.cmp .lt (.call 27 (.cons (.var 0) (.cons (.idx (.var 1) (.cst (.int 0))) .nil))) (.call 27 (.cons (.var 0) (.cons (.idx (.var 1) (.cst (.int 1))) .nil))))) .nil)))⟩
/-- _law_frames: rate span -/
def d40 : FD.IDef := ⟨2, 2, (.cons (.ret (.lrg (.call 27 (.cons (.var 0) (.cons (.idx (.var 1) (.cst (.int 0))) .nil))) (.call 27 (.cons (.var 0) (.cons (.idx (.var 1) (.cst (.int 1))) .nil))))) .nil)⟩
/-- _law_are_told_apart: script rate one k thing told rows what odd -/
def d41 : FD.IDef := ⟨3, 9, (.cons (.for (.nm 3) (.rng1 (.cst (.int 6))) (.cons (.asg (.nm 4) (.call 34 (.cons (.var 0) (.cons (.bin .add (.cst (.int 300)) (.bin .mul (.cst (.int 5)) (.var 3))) (.cons (.var 2) .nil))))) (.cons (.iff (.cmp .lt (.var 3) (.cst (.int 2))) (.cons (.asg (.nm 4) (.tup (.cons (.idx (.var 2) (.cst (.int 1))) (.cons (.idx (.var 2) (.var 3)) .nil)))) .nil) .nil) (.cons (.asg (.nm 5) (.call 37 (.cons (.cst (.int 1)) (.cons (.var 1) (.cons (.var 4) (.cons (.cst (.non)) .nil)))))) (.cons (.iff (.or (.cmp .ne (.var 5) (.call 39 (.cons (.var 1) (.cons (.var 4) .nil)))) (.nt (.isi (.var 5) .bool))) (.cons (.ret (.cst (.bl false))) .nil) .nil) (.cons (.own 6 (.lc (.call 37 (.cons (.var 7) (.cons (.var 1) (.cons (.var 4) (.cons (.cst (.non)) .nil))))) (.nm 7) (.seq (.tup (.cons (.cst (.int 0)) (.cons (.cst (.int 2)) (.cons (.cst (.int 3)) (.cons (.cst (.int 4)) .nil)))))) .nil)) (.cons (.ext 6 (.lc (.call 37 (.cons (.var 7) (.cons (.var 1) (.cons (.var 2) (.cons (.var 4) .nil))))) (.nm 7) (.seq (.tup (.cons (.cst (.int 3)) (.cons (.cst (.int 4)) .nil)))) .nil)) (.cons (.frz 6) (.cons (.iff (.and (.nt (.var 5)) (.cmp .ne (.var 6) (.bin .mul (.lst (.cons (.cst (.str ⟨#[110, 111, 32, 115, 112, 97, 110]⟩)) .nil)) (.cst (.int 6))))) (.cons (.ret (.cst (.bl false))) .nil) .nil) .nil))))))))) (.cons (.iff (.cmp .ne (.lc (.call 37 (.cons (.cst (.int 2)) (.cons (.var 1) (.cons (.var 2) (.cons (.var 8) .nil))))) (.nm 8) (.seq (.tup (.cons (.cst (.non)) (.cons (.cst (.bl true)) (.cons (.cst (.str ⟨#[49]⟩)) .nil))))) .nil) (.bin .mul (.lst (.cons (.cst (.str ⟨#[110, 111, 32, 110, 117, 109, 98, 101, 114]⟩)) .nil)) (.cst (.int 3)))) (.cons (.ret (.cst (.bl false))) .nil) .nil) (.cons (.ret (.cmp .eq (.lc (.call 37 (.cons (.var 7) (.cons (.cst (.str ⟨#[110, 111, 110, 101]⟩)) (.cons (.cst (.non)) (.cons (.cst (.non)) .nil))))) (.nm 7) (.rng1 (.cst (.int 5))) .nil) (.bin .mul (.lst (.cons (.cst (.str ⟨#[110, 111, 32, 114, 97, 116, 101]⟩)) .nil)) (.cst (.int 5))))) .nil)))⟩
/-- law: script rate day start by more due one two mine yours both whole first last frame -/
def d42 : FD.IDef := ⟨1, 16, (.cons (.asg (.nm 1) (.call 22 (.cons (.var 0) (.cons (.cst (.int 0)) .nil)))) (.cons (.asg (.nm 2) (.call 28 (.cons (.var 1) .nil))) (.cons (.asg (.nm 3) (.idx (.lst (.cons (.cst (.int 0)) (.cons (.bin .sub (.bin .mul (.cst (.int 60)) (.idx (.call 23 (.cons (.var 1) .nil)) (.cst (.int 0)))) (.cst (.int 20))) (.cons (.bin .sub (.var 2) (.cst (.int 60))) (.cons (.call 21 (.cons (.var 0) (.cons (.cst (.int 1)) (.cons (.bin .sub (.var 2) (.cst (.int 100))) .nil)))) .nil))))) (.call 21 (.cons (.var 0) (.cons (.cst (.int 2)) (.cons (.cst (.int 4)) .nil)))))) (.cons (.par [7, 8] (.cons (.call 38 (.cons (.var 0) (.cons (.cst (.int 10)) (.cons (.var 1) (.cons (.var 3) .nil))))) (.cons (.call 38 (.cons (.var 0) (.cons (.cst (.int 20)) (.cons (.var 1) (.cons (.var 3) .nil))))) .nil))) (.cons (.iff (.and (.cmp .eq (.call 21 (.cons (.var 0) (.cons (.cst (.int 6)) (.cons (.cst (.int 3)) .nil)))) (.cst (.int 0))) (.cmp .lt (.idx (.var 7) (.cst (.int 1))) (.call 29 (.cons (.var 1) (.cons (.bin .sub (.var 2) (.cst (.int 30))) .nil))))) (.cons (.asg (.nm 8) (.tup (.cons (.idx (.var 7) (.cst (.int 1))) (.cons (.call 29 (.cons (.var 1) (.cons (.bin .add (.bin .add (.call 27 (.cons (.var 1) (.cons (.idx (.var 7) (.cst (.int 1))) .nil))) (.cst (.int 1))) (.call 21 (.cons (.var 0) (.cons (.cst (.int 7)) (.cons (.cst (.int 9)) .nil))))) .nil))) .nil)))) .nil) .nil) (.cons (.asg (.tp [(.nm 9), (.nm 10)]) (.tup (.cons (.call 40 (.cons (.var 1) (.cons (.var 7) .nil))) (.cons (.call 40 (.cons (.var 1) (.cons (.var 8) .nil))) .nil)))) (.cons (.iff (.or (.cmp .ne (.call 37 (.cons (.cst (.int 0)) (.cons (.var 1) (.cons (.var 7) (.cons (.cst (.non)) .nil))))) (.bi .len (.cons (.var 9) .nil))) (.cmp .isnot (.call 37 (.cons (.cst (.int 1)) (.cons (.var 1) (.cons (.var 7) (.cons (.cst (.non)) .nil))))) (.cst (.bl true)))) (.cons (.ret (.cst (.bl false))) .nil) .nil) (.cons (.asg (.nm 4) (.bin .mul (.call 21 (.cons (.var 0) (.cons (.cst (.int 3)) (.cons (.idx (.lst (.cons (.cst (.int 50)) (.cons (.bin .mul (.cst (.int 2)) (.var 2)) .nil))) (.call 21 (.cons (.var 0) (.cons (.cst (.int 4)) (.cons (.cst (.int 2)) .nil))))) .nil)))) (.bin .sub (.cst (.int 1)) (.bin .mul (.cst (.int 2)) (.call 21 (.cons (.var 0) (.cons (.cst (.int 5)) (.cons (.cst (.int 2)) .nil)))))))) (.cons (.iff (.cmp .eq (.call 21 (.cons (.var 0) (.cons (.cst (.int 8)) (.cons (.cst (.int 3)) .nil)))) (.cst (.int 0))) (.cons (.asg (.nm 4) (.bin .sub (.bin .sub (.bin .sub (.var 2) (.cst (.int 1))) (.idx (.var 9) (.neg (.cst (.int 1))))) (.call 21 (.cons (.var 0) (.cons (.cst (.int 9)) (.cons (.cst (.int 4)) .nil)))))) .nil) .nil) (.cons (.for (.nm 5) (.seq (.tup (.cons (.var 4) (.cons (.bin .sub (.cst (.int 0)) (.idx (.var 9) (.cst (.int 0)))) (.cons (.bin .sub (.neg (.cst (.int 1))) (.idx (.var 9) (.cst (.int 0)))) (.cons (.bin .sub (.bin .sub (.var 2) (.cst (.int 2))) (.idx (.var 9) (.neg (.cst (.int 1))))) (.cons (.bin .sub (.bin .sub (.var 2) (.cst (.int 1))) (.idx (.var 9) (.neg (.cst (.int 1))))) .nil))))))) (.cons (.par [13, 14] (.cons (.bin .add (.idx (.var 9) (.cst (.int 0))) (.var 5)) (.cons (.bin .add (.bin .add (.idx (.var 9) (.neg (.cst (.int 1)))) (.cst (.int 1))) (.var 5)) .nil))) (.cons (.asg (.nm 6) (.ite (.and (.cmp .le (.cst (.int 0)) (.var 13)) (.cmp .lt (.var 14) (.var 2))) (.tup (.cons (.call 29 (.cons (.var 1) (.cons (.var 13) .nil))) (.cons (.call 29 (.cons (.var 1) (.cons (.var 14) .nil))) .nil))) (.cst (.str ⟨#[116, 111, 111, 32, 102, 97, 114]⟩)))) (.cons (.iff (.cmp .ne (.call 37 (.cons (.cst (.int 2)) (.cons (.var 1) (.cons (.var 7) (.cons (.var 5) .nil))))) (.var 6)) (.cons (.ret (.cst (.bl false))) .nil) .nil) .nil)))) (.cons (.par [11, 12] (.cons (.lc (.var 15) (.nm 15) (.seq (.var 9)) (.cons (.cmp .inn (.var 15) (.var 10)) .nil)) (.cons (.sst (.bin .add (.var 9) (.var 10))) .nil))) (.cons (.asg (.nm 6) (.ite (.cmp .ne (.var 11) (.lst .nil)) (.tup (.cons (.call 29 (.cons (.var 1) (.cons (.idx (.var 11) (.cst (.int 0))) .nil))) (.cons (.call 29 (.cons (.var 1) (.cons (.bin .add (.idx (.var 11) (.neg (.cst (.int 1)))) (.cst (.int 1))) .nil))) .nil))) (.cst (.non)))) (.cons (.iff (.or (.cmp .ne (.call 37 (.cons (.cst (.int 3)) (.cons (.var 1) (.cons (.var 7) (.cons (.var 8) .nil))))) (.var 6)) (.cmp .ne (.call 18 (.cons (.var 1) (.cons (.var 8) (.cons (.var 7) .nil)))) (.var 6))) (.cons (.ret (.cst (.bl false))) .nil) .nil) (.cons (.asg (.nm 6) (.tup (.cons (.call 29 (.cons (.var 1) (.cons (.idx (.var 12) (.cst (.int 0))) .nil))) (.cons (.call 29 (.cons (.var 1) (.cons (.bin .add (.idx (.var 12) (.neg (.cst (.int 1)))) (.cst (.int 1))) .nil))) .nil)))) (.cons (.iff (.cmp .ne (.call 37 (.cons (.cst (.int 4)) (.cons (.var 1) (.cons (.var 7) (.cons (.var 8) .nil))))) (.ite (.cmp .eq (.bin .add (.bin .sub (.idx (.var 12) (.neg (.cst (.int 1)))) (.idx (.var 12) (.cst (.int 0)))) (.cst (.int 1))) (.bi .len (.cons (.var 12) .nil))) (.var 6) (.cst (.str ⟨#[110, 111, 32, 102, 105, 116]⟩)))) (.cons (.ret (.cst (.bl false))) .nil) .nil) (.cons (.ret (.call 41 (.cons (.var 0) (.cons (.var 1) (.cons (.var 7) .nil))))) .nil))))))))))))))))⟩
def csts : List FD.D := [.tup FD.ratesD, .dic FD.figs, .dic FD.outs, .int 24]
def subT : List (List Bool) := [[true, false, false, false, false, false, false, false], [true, true, false, false, false, false, false, false], [true, false, true, false, false, false, false, false], [true, false, false, true, false, false, false, false], [true, false, false, false, true, false, false, false], [true, false, false, false, false, true, false, false], [true, false, false, false, false, false, true, false], [true, false, false, false, false, false, false, true]]
def sub (c d : Nat) : Bool := (subT.getD c []).getD d false
def Pr : FD.Prg := ⟨[d0, d1, d2, d3, d4, d5, d6, d7, d8, d9, d10, d11, d12, d13, d14, d15, d16, d17, d18, d19, d20, d21, d22, d23, d24, d25, d26, d27, d28, d29, d30, d31, d32, d33, d34, d35, d36, d37, d38, d39, d40, d41, d42], sub, csts, 8⟩
end K20
namespace K20
open FD
section
variable {k : Nat} {r : PySem.Str} {c e : Cd} {n i : Int}
theorem cst_eq : Pr.cst = csts := rfl
theorem mulOk_l {i j : Int} (h : decide (i.natAbs < 18446744073709551616) = true) : mulOk i j = true := by
  unfold mulOk
  rw [h, Bool.true_or]
theorem g_pos (hr : r ∈ rates) : 0 < gF r := by
  have := gw_of hr
  unfold GW at this
  omega
theorem g_small (hr : r ∈ rates) : gF r ≤ 60 := by
  have := gw_of hr
  unfold GW at this
  omega
theorem w_nn (hr : r ∈ rates) : 0 ≤ wF r ∧ wF r ≤ 4 := by
  have := gw_of hr
  unfold GW at this
  omega
theorem mul_g (hr : r ∈ rates) (i : Int) : mulOk i (gF r) = true := mulOk_r (decide_eq_true (by have := g_pos hr; have := g_small hr; omega))
theorem mul_w (hr : r ∈ rates) (i : Int) : mulOk (wF r) i = true := mulOk_l (decide_eq_true (by have := w_nn hr; omega))
theorem mul_60 (i : Int) : mulOk 60 i = true := mulOk_l (by decide)
theorem mul_10 (i : Int) : mulOk 10 i = true := mulOk_l (by decide)
theorem L_is_rate (hr : r ∈ rates) : lev Pr (k + 1) 0 [.str r] = .ok (.bl true) := by
  revert hr
  exact by_rate (p := fun r => lev Pr (k + 1) 0 [.str r] = .ok (.bl true)) rfl rfl rfl rfl rfl rfl
theorem L_look_rate (hr : r ∈ rates) : lev Pr (k + 2) 1 [.str r] = .ok .non := by
  revert hr
  exact by_rate (p := fun r => lev Pr (k + 2) 1 [.str r] = .ok .non) rfl rfl rfl rfl rfl rfl
theorem L_minute_frames (hr : r ∈ rates) : lev Pr (k + 1) 2 [.str r] = .ok (.int (60 * gF r - wF r)) := by
  revert hr
  exact by_rate (p := fun r => lev Pr (k + 1) 2 [.str r] = .ok (.int (60 * gF r - wF r))) rfl rfl rfl rfl rfl rfl
theorem L_ten_frames (hr : r ∈ rates) : lev Pr (k + 2) 3 [.str r] = .ok (.int (tenF (gF r) (wF r))) := by
  revert hr
  exact by_rate (p := fun r => lev Pr (k + 2) 3 [.str r] = .ok (.int (tenF (gF r) (wF r)))) rfl rfl rfl rfl rfl rfl
theorem L_day_frames (hr : r ∈ rates) : lev Pr (k + 3) 4 [.str r] = .ok (.int (dayF (gF r) (wF r))) := by
  revert hr
  exact by_rate (p := fun r => lev Pr (k + 3) 4 [.str r] = .ok (.int (dayF (gF r) (wF r)))) rfl rfl rfl rfl rfl rfl
theorem L_facts (hr : r ∈ rates) : lev Pr (k + 1) 23 [.str r] = .ok (.tup [.int (gF r), .int (wF r)]) := by
  revert hr
  exact by_rate (p := fun r => lev Pr (k + 1) 23 [.str r] = .ok (.tup [.int (gF r), .int (wF r)])) rfl rfl rfl rfl rfl rfl
theorem L_is_whole (a lo hi : Int) : lev Pr (k + 1) 5 [.int a, .int lo, .int hi] = .ok (.bl (decide (lo ≤ a) && decide (a ≤ hi))) := by
  rw [lev_at (d := d5) rfl]
  by_cases h1 : lo ≤ a <;> by_cases h2 : a ≤ hi <;> simp [d5, runDef, start, exSs, exS, evE, evT, evL, getV, R.bind, R.st, isiEv, noexc, truth, cmpEv, ordEv, ordD, ordI, guard', shp, isD, isNon, binEv, idxEv, putN, putP, place, eqOk, strBy, flat, eqv, int_beq, h1, h2]
theorem L_is_left_out (hr : r ∈ rates) : lev Pr (k + 1) 6 [.str r, c.d] = .ok (.bl (decide (c.s = 0) && (decide (c.f < wF r) && !decide (c.m % 10 = 0)))) := by
  rw [lev_at (d := d6) rfl]
  by_cases h1 : c.s = 0 <;> by_cases h2 : c.f < wF r <;> by_cases h3 : c.m % 10 = 0 <;> simp [d6, runDef, start, exSs, exS, evE, evT, evL, getV, R.bind, R.st, isiEv, noexc, truth, cmpEv, ordEv, ordD, ordI, guard', shp, isD, isNon, binEv, idxEv, putN, putP, place, eqOk, strBy, flat, eqv, int_beq, Cd.d, cst_eq, csts, mtOk, mtEv, un2, un1, getD2, lk_outs hr, h1, h2, h3]
theorem L_has_shape (hr : r ∈ rates) (hc : Cok (gF r) (wF r) c) : lev Pr (k + 2) 7 [.str r, c.d] = .ok (.bl true) := by
  obtain ⟨h1, h2, h3, h4, h5, h6, h7, h8, h9⟩ := hc
  rw [lev_at (d := d7) rfl]
  simp [d7, runDef, start, exSs, exS, evE, evT, evL, getV, R.bind, R.st, isiEv, noexc, truth, cmpEv, ordEv, ordD, ordI, guard', shp, isD, isNon, binEv, idxEv, putN, putP, place, eqOk, strBy, flat, eqv, int_beq, Cd.d, cst_eq, csts, biEv, un1, lenD, lk_figs hr, evI, zip2D, zipT2, slotsP, slotsPs, wipeV, lcGo, putPs, evF, allD, bools, le_lim, L_is_whole, h1, h2, h3, h4, h5, h6, h7, h8]
theorem L_is_code (hr : r ∈ rates) (hc : Cok (gF r) (wF r) c) : lev Pr (k + 3) 8 [.str r, c.d] = .ok (.bl true) := by
  have e1 : (decide (c.s = 0) && (decide (c.f < wF r) && !decide (c.m % 10 = 0))) = false := by
    have := hc.2.2.2.2.2.2.2.2
    by_cases h1 : c.s = 0 <;> by_cases h2 : c.f < wF r <;> by_cases h3 : c.m % 10 = 0 <;> simp [h1, h2, h3]
    exact this ⟨h1, h2, h3⟩
  rw [lev_at (d := d8) rfl]
  simp [d8, runDef, start, exSs, exS, evE, evT, evL, getV, R.bind, R.st, isiEv, noexc, truth, cmpEv, ordEv, ordD, ordI, guard', shp, isD, isNon, binEv, idxEv, putN, putP, place, eqOk, strBy, flat, eqv, int_beq, L_look_rate hr, L_has_shape hr hc, L_is_left_out hr, e1]
theorem L_count_of (hr : r ∈ rates) : lev Pr (k + 1) 9 [.str r, c.d] = .ok (.int (cnt (gF r) (wF r) c)) := by
  rw [lev_at (d := d9) rfl]
  simp [d9, runDef, start, exSs, exS, evE, evT, evL, getV, R.bind, R.st, isiEv, noexc, truth, cmpEv, ordEv, ordD, ordI, guard', shp, isD, isNon, binEv, idxEv, putN, putP, place, eqOk, strBy, flat, eqv, int_beq, Cd.d, cst_eq, csts, mtOk, mtEv, un2, un1, getD2, lk_outs hr, lk_figs hr, putPs, mul_g hr, mul_w hr, mul_60, cnt]
theorem L_code_of (hr : r ∈ rates) (n : Int) : lev Pr (k + 3) 10 [.str r, .int n] = .ok (cod (gF r) (wF r) n).d := by
  have g1 := g_pos hr
  have g2 := g_small hr
  have g3 := w_nn hr
  have t1 : 0 < tenF (gF r) (wF r) := by have := gw_of hr; unfold GW at this; unfold tenF; omega
  have t2 : tenF (gF r) (wF r) < 1073741824 := by unfold tenF; omega
  have m1 : 0 < 60 * gF r - wF r := by have := gw_of hr; unfold GW at this; omega
  have m2 : 60 * gF r - wF r < 1073741824 := by omega
  have g4 : gF r < 1073741824 := by omega
  have m3 : wF r < 60 * gF r := by omega
  have ef : lkD r figs = some (.int (gF r)) := lk_figs hr
  rw [lev_at (d := d10) rfl]
  by_cases hc : 60 * gF r ≤ n % tenF (gF r) (wF r)
  · rw [cod_p hc]
    have em : mulOk 10 (n / tenF (gF r) (wF r)) = true := mul_10 _
    simp [d10, runDef, start, exSs, exS, evE, evT, evL, getV, R.bind, R.st, isiEv, noexc, truth, cmpEv, ordEv, ordD, ordI, guard', shp, isD, isNon, binEv, idxEv, putN, putP, place, eqOk, strBy, flat, eqv, int_beq, Cd.d, cst_eq, csts, mtOk, mtEv, un2, un1, getD2, lk_outs hr, ef, mul_60, mul_10, L_ten_frames hr, L_minute_frames hr, hc, t1, t2, m1, m2, m3, g1, g4]
  · rw [cod_n hc]
    simp [d10, runDef, start, exSs, exS, evE, evT, evL, getV, R.bind, R.st, isiEv, noexc, truth, cmpEv, ordEv, ordD, ordI, guard', shp, isD, isNon, binEv, idxEv, putN, putP, place, eqOk, strBy, flat, eqv, int_beq, Cd.d, cst_eq, csts, mtOk, mtEv, un2, un1, getD2, lk_outs hr, ef, mul_60, mul_10, L_ten_frames hr, L_minute_frames hr, hc, t1, t2, m1, m2, m3, g1, g4]
theorem L_look_by (i : Int) : lev Pr (k + 1) 11 [.int i] = .ok .non := by
  rw [lev_at (d := d11) rfl]
  simp [d11, runDef, start, exSs, exS, evE, evT, evL, getV, R.bind, R.st, isiEv, noexc, truth, cmpEv, ordEv, ordD, ordI, guard', shp, isD, isNon, binEv, idxEv, putN, putP, place, eqOk, strBy, flat, eqv, int_beq]
end
end K20
namespace K20
open FD
section
variable {k : Nat} {r : PySem.Str} {c e : Cd} {n i j m : Int} {ns : List Int}
theorem h_cell : Pr.defs[20]? = some cellD := rfl
theorem h_pick : Pr.defs[21]? = some (pickD 20) := rfl
theorem h_rate : Pr.defs[22]? = some (rateD 21) := rfl
theorem L_pick (ns : List Int) (hj : 0 ≤ j) (hm : 0 < m) : ∃ v, 0 ≤ v ∧ v < m ∧ ∀ k, lev Pr (k + 2) 21 [.scr ns, .int j, .int m] = .ok (.int v) := pick_all h_cell h_pick ns j m hj hm
theorem L_rate (ns : List Int) (hj : 0 ≤ j) : ∃ x ∈ rates, ∀ k, lev Pr (k + 3) 22 [.scr ns, .int j] = .ok (.str x) := rate_all h_cell h_pick h_rate ns j hj
theorem L_shape (hr : r ∈ rates) (ns : List Int) (hj : 0 ≤ j) : ∃ c, Cin (gF r) c ∧ ∀ k, lev Pr (k + 3) 24 [.scr ns, .int j, .str r] = .ok c.d := by
  have g0 : 24 ≤ gF r := by have := gw_of hr; unfold GW at this; omega
  obtain ⟨p0, p01, p02, q0⟩ := L_pick ns (j := j) (m := 24) hj (by decide)
  obtain ⟨p1, p11, p12, q1⟩ := L_pick ns (j := j + 1) (m := 5) (by omega) (by decide)
  obtain ⟨p2, p21, p22, q2⟩ := L_pick ns (j := j + 2) (m := 60) (by omega) (by decide)
  obtain ⟨p3, p31, p32, q3⟩ := L_pick ns (j := j + 3) (m := 3) (by omega) (by decide)
  obtain ⟨p2', p21', p22', q2'⟩ := L_pick ns (j := j + 2) (m := 6) (by omega) (by decide)
  obtain ⟨p4, p41, p42, q4⟩ := L_pick ns (j := j + 4) (m := 60) (by omega) (by decide)
  obtain ⟨p5, p51, p52, q5⟩ := L_pick ns (j := j + 5) (m := 4) (by omega) (by decide)
  obtain ⟨p6, p61, p62, q6⟩ := L_pick ns (j := j + 6) (m := gF r) (by omega) (by omega)
  obtain ⟨p7, p71, p72, q7⟩ := L_pick ns (j := j + 7) (m := 7) (by omega) (by decide)
  obtain ⟨h, hh, eh⟩ := idx_int [0, 0, 1, 23, p0] p11 p12
  obtain ⟨mi, hmi, emi⟩ := idx_int [0, 1, 9, 10, 11, 59] p21' p22'
  obtain ⟨s, hs, es⟩ := idx_int [0, 0, 59, p4] p51 p52
  obtain ⟨f, hf, ef⟩ := idx_int [0, 1, 2, 3, 4, gF r - 1, p6] p71 p72
  simp only [List.mem_cons, List.not_mem_nil, or_false] at hh hmi hs hf
  simp only [List.map] at eh emi es ef
  by_cases h3 : p3 = 0
  · refine ⟨⟨h, mi, s, f⟩, by unfold Cin; dsimp only; omega, fun k => ?_⟩
    rw [lev_at (d := d24) rfl]
    simp [d24, runDef, start, exSs, exS, evE, evT, evL, getV, R.bind, R.st, isiEv, noexc, truth, cmpEv, ordEv, ordD, ordI, guard', shp, isD, isNon, binEv, putN, putP, eqOk, strBy, flat, eqv, int_beq, L_facts hr, ti0, q0, q1, q2, q3, q2', q4, q5, q6, q7, eh, emi, es, ef, h3, Cd.d]
  · refine ⟨⟨h, p2, s, f⟩, by unfold Cin; dsimp only; omega, fun k => ?_⟩
    rw [lev_at (d := d24) rfl]
    simp [d24, runDef, start, exSs, exS, evE, evT, evL, getV, R.bind, R.st, isiEv, noexc, truth, cmpEv, ordEv, ordD, ordI, guard', shp, isD, isNon, binEv, putN, putP, eqOk, strBy, flat, eqv, int_beq, L_facts hr, ti0, q0, q1, q2, q3, q2', q4, q5, q6, q7, eh, emi, es, ef, h3, Cd.d]
theorem L_is_out (hr : r ∈ rates) (h0 : 0 ≤ c.m) (h1 : c.m ≤ 59) : lev Pr (k + 2) 25 [.str r, c.d] = .ok (.bl (decide (c.s = 0) && (decide (c.f < wF r) && !decide (c.m % 10 = 0)))) := by
  have hm : (0 = c.m ∨ 10 = c.m ∨ 20 = c.m ∨ 30 = c.m ∨ 40 = c.m ∨ 50 = c.m) ↔ c.m % 10 = 0 := by omega
  rw [lev_at (d := d25) rfl]
  by_cases h1 : c.s = 0 <;> by_cases h2 : c.f < wF r <;> by_cases h3 : c.m % 10 = 0 <;> simp [d25, runDef, start, exSs, exS, evE, evT, evL, getV, R.bind, R.st, isiEv, noexc, truth, cmpEv, ordEv, ordD, ordI, guard', shp, isD, isNon, binEv, putN, putP, eqOk, strBy, flat, eqv, int_beq, L_facts hr, ti0, ti1, cd_1, cd_2, cd_3, h1, h2, h3, inD, List.all]
  · rw [← hm] at h3
    rcases h3 with h | h | h | h | h | h <;> simp [← h]
  · rw [← hm] at h3
    simp only [not_or] at h3
    obtain ⟨a, b, c, d, e, f⟩ := h3
    simp [a, b, c, d, e, f]
theorem L_code (hr : r ∈ rates) (ns : List Int) (hj : 0 ≤ j) : ∃ c, Cok (gF r) (wF r) c ∧ ∀ k, lev Pr (k + 4) 26 [.scr ns, .int j, .str r] = .ok c.d := by
  have G := gw_of hr
  unfold GW at G
  obtain ⟨c, ⟨h1, h2, h3, h4, h5, h6, h7, h8⟩, e⟩ := L_shape hr ns hj
  have eo := fun k => L_is_out (k := k) (c := c) hr h3 h4
  by_cases ho : (decide (c.s = 0) && (decide (c.f < wF r) && !decide (c.m % 10 = 0))) = true
  · simp only [Bool.and_eq_true, decide_eq_true_eq, Bool.not_eq_true', decide_eq_false_iff_not] at ho
    obtain ⟨o1, o2, o3⟩ := ho
    refine ⟨⟨c.h, c.m, c.s, c.f + 4⟩, ⟨h1, h2, h3, h4, h5, h6, ?_, ?_, ?_⟩, fun k => ?_⟩
    · show 0 ≤ c.f + 4
      omega
    · show c.f + 4 ≤ gF r - 1
      omega
    · show ¬ (c.s = 0 ∧ c.f + 4 < wF r ∧ c.m % 10 ≠ 0)
      omega
    · rw [lev_at (d := d26) rfl]
      simp [d26, runDef, start, exSs, exS, evE, evT, evL, getV, R.bind, R.st, isiEv, noexc, truth, cmpEv, ordEv, ordD, ordI, guard', shp, isD, isNon, binEv, putN, putP, eqOk, strBy, flat, eqv, int_beq, e, eo, o1, o2, o3, cd_3, evO, slcEv]
      simp [Cd.d, cut, sbound, guard', le_lim, o1]
  · rw [Bool.not_eq_true] at ho
    refine ⟨c, ⟨h1, h2, h3, h4, h5, h6, h7, h8, ?_⟩, fun k => ?_⟩
    · intro hx
      simp [hx.1, hx.2.1, hx.2.2] at ho
    · rw [lev_at (d := d26) rfl]
      simp [d26, runDef, start, exSs, exS, evE, evT, evL, getV, R.bind, R.st, isiEv, noexc, truth, cmpEv, ordEv, ordD, ordI, guard', shp, isD, isNon, binEv, putN, putP, eqOk, strBy, flat, eqv, int_beq, e, eo, ho]
theorem L_lcount (hr : r ∈ rates) (h0 : 0 ≤ c.m) (h1 : c.m ≤ 59) : lev Pr (k + 2) 27 [.str r, c.d] = .ok (.int (cnt (gF r) (wF r) c)) := by
  have g0 := g_pos hr
  have g1 := g_small hr
  have w0 := w_nn hr
  have G := gw_of hr
  obtain ⟨U, hU⟩ : ∃ U, U = 3600 * gF r - 54 * wF r := ⟨_, rfl⟩
  obtain ⟨A, hA⟩ : ∃ A : Int → Int, ∀ t, A t = c.h * U + 60 * gF r * t - wF r * (t - (t + 9) / 10) := ⟨_, fun _ => rfl⟩
  have A0 : A 0 = c.h * U := by rw [hA]; simp
  have M : ∀ t, A t + 60 * gF r - (if 0 < t % 10 then wF r else 0) = A (t + 1) := by
    intro t
    rw [hA, hA]
    generalize c.h * U = X
    unfold GW at G
    rcases G with ⟨a, b⟩ | ⟨a, b⟩ | ⟨a, b⟩ | ⟨a, b⟩ | ⟨a, b⟩ | ⟨a, b⟩ <;> rw [a, b] <;> split <;> omega
  obtain ⟨B, hB⟩ : ∃ B : ISs, B = (.cons (.asg (.nm 3) (.bin .sub (.bin .add (.var 3) (.bin .mul (.cst (.int 60)) (.var 5))) (.ite (.cmp .gt (.bin .mod (.var 4) (.cst (.int 10))) (.cst (.int 0))) (.var 6) (.cst (.int 0))))) .nil) := ⟨_, rfl⟩
  have f := for_ix (j := 4) (I := fun t ρ => ∃ x, ρ = [.pv (.str r), .pv c.d, .pv (.int U), .pv (.int (A t)), x, .pv (.int (gF r)), .pv (.int (wF r))])
    (b := exSs ⟨lev Pr (k + 1), Pr.sub, Pr.cst, Pr.nc⟩ B) c.m.toNat 0
    [.pv (.str r), .pv c.d, .pv (.int U), .pv (.int (c.h * U)), .un, .pv (.int (gF r)), .pv (.int (wF r))]
    ⟨.un, by rw [A0]⟩ (by
      rintro t ρ t0 t1 ⟨x, rfl⟩
      rw [hB]
      have := M t
      by_cases ht : 0 < t % 10
      · rw [if_pos ht] at this
        refine ⟨_, by simp [runDef, start, exSs, exS, evE, evT, evL, getV, R.bind, R.st, isiEv, noexc, truth, cmpEv, ordEv, ordD, ordI, guard', shp, isD, isNon, binEv, putN, putP, eqOk, strBy, flat, eqv, int_beq, mul_60, ht]; rfl, .pv (.int t), by rw [this]⟩
      · rw [if_neg ht, Int.sub_zero] at this
        refine ⟨_, by simp [runDef, start, exSs, exS, evE, evT, evL, getV, R.bind, R.st, isiEv, noexc, truth, cmpEv, ordEv, ordD, ordI, guard', shp, isD, isNon, binEv, putN, putP, eqOk, strBy, flat, eqv, int_beq, mul_60, ht]; rfl, .pv (.int t), by rw [this]⟩)
  obtain ⟨ρ', ef, x, rfl⟩ := f
  have rk : rngOk c.m = true := rngOk_of h0 (by omega)
  have m3 : mulOk c.h U = true := mulOk_r (decide_eq_true (by omega))
  have m4 : mulOk 3600 (gF r) = true := mul_g hr _
  have m5 : mulOk 54 (wF r) = true := mulOk_l (by decide)
  have m6 : mulOk 60 60 = true := mulOk_l (by decide)
  have hm : (0 : Int) + c.m.toNat = c.m := by omega
  rw [hm] at ef
  rw [lev_at (d := d27) rfl]
  unfold d27
  rw [← hB]
  simp [runDef, start, exSs, exS, evE, evT, evL, getV, R.bind, R.st, isiEv, noexc, truth, cmpEv, ordEv, ordD, ordI, guard', shp, isD, isNon, binEv, putN, putP, eqOk, strBy, flat, eqv, int_beq, L_facts hr, ti0, ti1, cd_0, cd_1, cd_2, cd_3, putPs, mul_g hr, m4, m5, m6, ← hU, evI, rng1D, rk, m3, ef]
  have fin : A c.m + c.s * gF r + c.f - (if 0 < c.m % 10 then wF r else 0) = cnt (gF r) (wF r) c := by
    rw [hA, hU]
    unfold cnt
    unfold GW at G
    rcases G with ⟨a, b⟩ | ⟨a, b⟩ | ⟨a, b⟩ | ⟨a, b⟩ | ⟨a, b⟩ | ⟨a, b⟩ <;> rw [a, b] <;> split <;> omega
  by_cases ht : 0 < c.m % 10
  · rw [if_pos ht] at fin
    simp [ht, fin]
  · rw [if_neg ht, Int.sub_zero] at fin
    simp [ht, fin]
theorem L_lday (hr : r ∈ rates) : lev Pr (k + 3) 28 [.str r] = .ok (.int (dayF (gF r) (wF r))) := by
  have G := gw_of hr
  have e := L_lcount (k := k) (r := r) (c := ⟨23, 59, 59, gF r - 1⟩) hr (by show (0 : Int) ≤ 59; decide) (by show (59 : Int) ≤ 59; decide)
  have f : cnt (gF r) (wF r) ⟨23, 59, 59, gF r - 1⟩ + 1 = dayF (gF r) (wF r) := by
    unfold cnt dayF tenF
    dsimp only
    unfold GW at G
    rcases G with ⟨a, b⟩ | ⟨a, b⟩ | ⟨a, b⟩ | ⟨a, b⟩ | ⟨a, b⟩ | ⟨a, b⟩ <;> rw [a, b] <;> decide
  simp only [Cd.d] at e
  rw [lev_at (d := d28) rfl]
  simp [d28, runDef, start, exSs, exS, evE, evT, evL, getV, R.bind, R.st, isiEv, noexc, truth, cmpEv, ordEv, ordD, ordI, guard', shp, isD, isNon, binEv, putN, putP, eqOk, strBy, flat, eqv, int_beq, L_facts hr, ti0, e, f]
theorem L_at (hr : r ∈ rates) (h0 : 0 ≤ n) (h1 : n < dayF (gF r) (wF r)) : lev Pr (k + 2) 29 [.str r, .int n] = .ok (cod (gF r) (wF r) n).d := by
  have g0 := g_pos hr
  have g1 := g_small hr
  have w0 := w_nn hr
  have G := gw_of hr
  obtain ⟨U, hU⟩ : ∃ U, U = 3600 * gF r - 54 * wF r := ⟨_, rfl⟩
  obtain ⟨A, hA⟩ : ∃ A : Int → Int, ∀ t, A t = n % U - (60 * gF r * t - wF r * (t - (t + 9) / 10)) := ⟨_, fun _ => rfl⟩
  have A0 : A 0 = n % U := by rw [hA]; simp
  have U0 : 0 < U := by omega
  have M : ∀ t, A t - 60 * gF r + (if 0 < t % 10 then wF r else 0) = A (t + 1) := by
    intro t
    rw [hA, hA]
    generalize n % U = X
    unfold GW at G
    rcases G with ⟨a, b⟩ | ⟨a, b⟩ | ⟨a, b⟩ | ⟨a, b⟩ | ⟨a, b⟩ | ⟨a, b⟩ <;> rw [a, b] <;> split <;> omega
  have L : A 60 < 0 := by
    rw [hA]
    have : n % U < U := Int.emod_lt_of_pos _ U0
    generalize n % U = X at this ⊢
    rw [hU] at this
    unfold GW at G
    rcases G with ⟨a, b⟩ | ⟨a, b⟩ | ⟨a, b⟩ | ⟨a, b⟩ | ⟨a, b⟩ | ⟨a, b⟩ <;> rw [a, b] at this ⊢ <;> omega
  obtain ⟨B, hB⟩ : ∃ B : ISs, B = (.cons (.asg (.nm 3) (.bin .add (.bin .sub (.var 3) (.bin .mul (.cst (.int 60)) (.var 4))) (.ite (.cmp .gt (.bin .mod (.var 6) (.cst (.int 10))) (.cst (.int 0))) (.var 5) (.cst (.int 0))))) (.cons (.asg (.nm 6) (.bin .add (.var 6) (.cst (.int 1)))) .nil)) := ⟨_, rfl⟩
  obtain ⟨C, hC⟩ : ∃ C : IE, C = (.cmp .ge (.var 3) (.bin .sub (.bin .mul (.cst (.int 60)) (.var 4)) (.ite (.cmp .gt (.bin .mod (.var 6) (.cst (.int 10))) (.cst (.int 0))) (.var 5) (.cst (.int 0))))) := ⟨_, rfl⟩
  have cE : ∀ q, evT ⟨lev Pr (k + 1), Pr.sub, Pr.cst, Pr.nc⟩ C [.pv (.str r), .pv (.int n), .pv (.int U), .pv (.int (A q)), .pv (.int (gF r)), .pv (.int (wF r)), .pv (.int q)] = .ok (decide (60 * gF r - (if 0 < q % 10 then wF r else 0) ≤ A q)) := by
    intro q
    rw [hC]
    by_cases ht : 0 < q % 10 <;> simp [runDef, start, exSs, exS, evE, evT, evL, getV, R.bind, R.st, isiEv, noexc, truth, cmpEv, ordEv, ordD, ordI, guard', shp, isD, isNon, binEv, putN, putP, eqOk, strBy, flat, eqv, int_beq, mul_60, ht]
  have f := wh_dn (J := fun m ρ => ∃ q, 0 ≤ q ∧ q < 60 ∧ m = (60 - q).toNat ∧ 0 ≤ A q ∧ ρ = [.pv (.str r), .pv (.int n), .pv (.int U), .pv (.int (A q)), .pv (.int (gF r)), .pv (.int (wF r)), .pv (.int q)])
    (c := evT ⟨lev Pr (k + 1), Pr.sub, Pr.cst, Pr.nc⟩ C) (b := exSs ⟨lev Pr (k + 1), Pr.sub, Pr.cst, Pr.nc⟩ B) (by
      rintro m ρ ⟨q, q0, q1, rfl, q2, rfl⟩
      rw [cE]
      by_cases hq : 60 * gF r - (if 0 < q % 10 then wF r else 0) ≤ A q
      · right
        have m0 := M q
        have a1 : 0 ≤ A (q + 1) := by omega
        refine ⟨by rw [decide_eq_true hq], [.pv (.str r), .pv (.int n), .pv (.int U), .pv (.int (A (q + 1))), .pv (.int (gF r)), .pv (.int (wF r)), .pv (.int (q + 1))], (60 - (q + 1)).toNat, ?_, ⟨q + 1, by omega, ?_, rfl, a1, rfl⟩, by omega⟩
        · rw [hB, ← m0]
          by_cases ht : 0 < q % 10 <;> simp [runDef, start, exSs, exS, evE, evT, evL, getV, R.bind, R.st, isiEv, noexc, truth, cmpEv, ordEv, ordD, ordI, guard', shp, isD, isNon, binEv, putN, putP, eqOk, strBy, flat, eqv, int_beq, mul_60, ht]
        · by_cases h59 : q = 59
          · subst h59
            have : (59 : Int) + 1 = 60 := rfl
            rw [this] at a1
            omega
          · omega
      · left
        rw [decide_eq_false hq]) 1000 60 [.pv (.str r), .pv (.int n), .pv (.int U), .pv (.int (n % U)), .pv (.int (gF r)), .pv (.int (wF r)), .pv (.int 0)]
    ⟨0, by decide, by decide, rfl, by rw [A0]; exact Int.emod_nonneg _ (by omega), by rw [A0]⟩ (by decide)
  obtain ⟨ρ', m', ef, ⟨q, q0, q1, _, q2, rfl⟩, ec⟩ := f
  rw [cE] at ec
  injection ec with ec
  have ec := of_decide_eq_false ec
  have m4 : mulOk 3600 (gF r) = true := mul_g hr _
  have m5 : mulOk 54 (wF r) = true := mulOk_l (by decide)
  have m6 : mulOk 60 60 = true := mulOk_l (by decide)
  have u1 : U < 1073741824 := by omega
  have g2 : gF r < 1073741824 := by omega
  obtain ⟨S, hS⟩ : ∃ S, S = A q + (if 0 < q % 10 then wF r else 0) := ⟨_, rfl⟩
  have fin : (⟨n / U, q, S / gF r, S % gF r⟩ : Cd) = cod (gF r) (wF r) n := at_ok G h0 h1 q0 q1 hU (hA q) rfl q2 ec hS
  rw [← fin, lev_at (d := d29) rfl]
  unfold d29
  rw [← hB, ← hC]
  simp [runDef, start, exSs, exS, evE, evT, evL, getV, R.bind, R.st, isiEv, noexc, truth, cmpEv, ordEv, ordD, ordI, guard', shp, isD, isNon, binEv, putN, putP, eqOk, strBy, flat, eqv, int_beq, L_facts hr, putPs, m4, m5, m6, ← hU, U0, u1, ef]
  by_cases ht : 0 < q % 10
  · rw [if_pos ht] at hS
    simp [ht, ← hS, g0, g2, U0, u1, Cd.d]
  · rw [if_neg ht, Int.add_zero] at hS
    simp [ht, ← hS, g0, g2, U0, u1, Cd.d]
end
end K20
namespace K20
open FD
section
variable {k : Nat} {r : PySem.Str} {a b c d f l p q i n : Int}
/-- within a day -/
def In (r : PySem.Str) (n : Int) : Prop := 0 ≤ n ∧ n < dayF (gF r) (wF r)
def sp (r : PySem.Str) (a b : Int) : D := spD2 (gF r) (wF r) a b
def cdr (r : PySem.Str) (n : Int) : D := cdD (gF r) (wF r) n
theorem q_0 : idxEv (sp r a b) (.int 0) = .ok (cdr r a) := sp_0
theorem q_1 : idxEv (sp r a b) (.int 1) = .ok (cdr r b) := sp_1
theorem q_ne : cmpEv .ne (sp r a b) (sp r a b) = .ok (.bl false) := sp_ne
theorem q_is : cmpEv .is (sp r a b) .non = .ok (.bl false) := rfl
theorem q_isnot : cmpEv .isnot (sp r a b) .non = .ok (.bl true) := rfl
theorem M_code (hr : r ∈ rates) (ha : In r a) : lev Pr (k + 3) 8 [.str r, cdr r a] = .ok (.bl true) := L_is_code hr (cod_ok (gw_of hr) ha.1 ha.2)
theorem M_count (hr : r ∈ rates) (ha : In r a) : lev Pr (k + 1) 9 [.str r, cdr r a] = .ok (.int a) := by
  have := L_count_of (k := k) (c := cod (gF r) (wF r) a) hr
  rw [cnt_cod (gw_of hr) ha.1 ha.2] at this
  exact this
theorem M_of (hr : r ∈ rates) : lev Pr (k + 3) 10 [.str r, .int a] = .ok (cdr r a) := L_code_of hr a
theorem M_lt (hr : r ∈ rates) (ha : In r a) (hb : In r b) : cmpEv .lt (cdr r a) (cdr r b) = .ok (.bl (decide (a < b))) := lt_cod (gw_of hr) ha.1 ha.2 hb.1 hb.2
theorem M_gt (hr : r ∈ rates) (ha : In r a) (hb : In r b) : cmpEv .gt (cdr r a) (cdr r b) = .ok (.bl (decide (b < a))) := gt_cod (gw_of hr) ha.1 ha.2 hb.1 hb.2
theorem M_max (hr : r ∈ rates) (ha : In r a) (hb : In r b) (hm : (a < b ∧ n = b) ∨ (¬ a < b ∧ n = a)) : biEv .max2 [cdr r a, cdr r b] = .ok (cdr r n) := max_cod (gw_of hr) ha.1 ha.2 hb.1 hb.2 hm
theorem M_min (hr : r ∈ rates) (ha : In r a) (hb : In r b) (hm : (b < a ∧ n = b) ∨ (¬ b < a ∧ n = a)) : biEv .min2 [cdr r a, cdr r b] = .ok (cdr r n) := min_cod (gw_of hr) ha.1 ha.2 hb.1 hb.2 hm
theorem L_is_span (hr : r ∈ rates) (ha : In r a) (hb : In r b) (h : a < b) : lev Pr (k + 4) 12 [.str r, sp r a b] = .ok (.bl true) := by
  have e1 : isiEv Pr.sub (sp r a b) .tuple = .ok (.bl true) := rfl
  have e2 : biEv .len [sp r a b] = .ok (.int 2) := rfl
  have e3 : seqD (sp r a b) = .ok [cdr r a, cdr r b] := rfl
  have e4 : biEv .all [.lst [.bl true, .bl true]] = .ok (.bl true) := rfl
  rw [lev_at (d := d12) rfl]
  simp [d12, runDef, start, exSs, exS, evE, evT, evL, getV, R.bind, R.st, noexc, truth, guard', binEv, negD, putN, putP, putPs, ci_eq, ci_ne, ci_lt, ci_le, ci_gt, ci_ge, cb_eq, cb_ne, cb_is, cb_isnot, sp_0, sp_1, sp_ne, sp_is, sp_isnot, nn_ne, cn_is, cn_isnot, e1, e2, evI, e3, slotsP, wipeV, lcGo, evF, le_lim, L_look_rate hr, M_code hr ha, M_code hr hb, e4, q_0, q_1, M_lt hr ha hb, h]
theorem L_look_span (hr : r ∈ rates) (ha : In r a) (hb : In r b) (h : a < b) : lev Pr (k + 5) 13 [.str r, sp r a b] = .ok .non := by
  rw [lev_at (d := d13) rfl]
  simp [d13, runDef, start, exSs, exS, evE, evT, evL, getV, R.bind, R.st, noexc, truth, guard', binEv, negD, putN, putP, putPs, ci_eq, ci_ne, ci_lt, ci_le, ci_gt, ci_ge, cb_eq, cb_ne, cb_is, cb_isnot, sp_0, sp_1, sp_ne, sp_is, sp_isnot, nn_ne, cn_is, cn_isnot, L_is_span hr ha hb h]
theorem L_counts_in (hr : r ∈ rates) (ha : In r a) (hb : In r b) : lev Pr (k + 2) 14 [.str r, sp r a b] = .ok (.tup [.int a, .int b]) := by
  rw [lev_at (d := d14) rfl]
  simp [d14, runDef, start, exSs, exS, evE, evT, evL, getV, R.bind, R.st, noexc, truth, guard', binEv, negD, putN, putP, putPs, ci_eq, ci_ne, ci_lt, ci_le, ci_gt, ci_ge, cb_eq, cb_ne, cb_is, cb_isnot, sp_0, sp_1, sp_ne, sp_is, sp_isnot, nn_ne, cn_is, cn_isnot, q_0, q_1, M_count hr ha, M_count hr hb]
theorem L_span_of (hr : r ∈ rates) : lev Pr (k + 4) 15 [.str r, .int a, .int b] = .ok (sp r a b) := by
  rw [lev_at (d := d15) rfl]
  simp [d15, runDef, start, exSs, exS, evE, evT, evL, getV, R.bind, R.st, noexc, truth, guard', binEv, negD, putN, putP, putPs, ci_eq, ci_ne, ci_lt, ci_le, ci_gt, ci_ge, cb_eq, cb_ne, cb_is, cb_isnot, sp_0, sp_1, sp_ne, sp_is, sp_isnot, nn_ne, cn_is, cn_isnot, M_of hr]
  rfl
theorem L_long (hr : r ∈ rates) (ha : In r a) (hb : In r b) (h : a < b) : lev Pr (k + 6) 16 [.str r, sp r a b] = .ok (.int (b - a)) := by
  rw [lev_at (d := d16) rfl]
  simp [d16, runDef, start, exSs, exS, evE, evT, evL, getV, R.bind, R.st, noexc, truth, guard', binEv, negD, putN, putP, putPs, ci_eq, ci_ne, ci_lt, ci_le, ci_gt, ci_ge, cb_eq, cb_ne, cb_is, cb_isnot, sp_0, sp_1, sp_ne, sp_is, sp_isnot, nn_ne, cn_is, cn_isnot, L_look_span hr ha hb h, L_counts_in hr ha hb]
theorem L_shifted (hr : r ∈ rates) (ha : In r a) (hb : In r b) (h : a < b) (h0 : 0 ≤ a + i) (h1 : b + i < dayF (gF r) (wF r)) : lev Pr (k + 6) 17 [.str r, sp r a b, .int i] = .ok (sp r (a + i) (b + i)) := by
  have h2 : ¬ a + i < 0 := by omega
  have h3 : ¬ dayF (gF r) (wF r) ≤ b + i := by omega
  rw [lev_at (d := d17) rfl]
  simp [d17, runDef, start, exSs, exS, evE, evT, evL, getV, R.bind, R.st, noexc, truth, guard', binEv, negD, putN, putP, putPs, ci_eq, ci_ne, ci_lt, ci_le, ci_gt, ci_ge, cb_eq, cb_ne, cb_is, cb_isnot, sp_0, sp_1, sp_ne, sp_is, sp_isnot, nn_ne, cn_is, cn_isnot, L_look_span hr ha hb h, L_look_by, L_counts_in hr ha hb, L_day_frames hr, h2, h3, L_span_of hr]
theorem L_common (hr : r ∈ rates) (ha : In r a) (hb : In r b) (hab : a < b) (hc : In r c) (hd : In r d) (hcd : c < d) (hf : (a < c ∧ f = c) ∨ (¬ a < c ∧ f = a)) (hl : (d < b ∧ l = d) ∨ (¬ d < b ∧ l = b)) : lev Pr (k + 6) 18 [.str r, sp r a b, sp r c d] = .ok (if f < l then sp r f l else .non) := by
  have hf' : In r f := by rcases hf with ⟨_, rfl⟩ | ⟨_, rfl⟩ <;> assumption
  have hl' : In r l := by rcases hl with ⟨_, rfl⟩ | ⟨_, rfl⟩ <;> assumption
  have e1 := M_max hr ha hc hf
  have e2 := M_min hr hb hd hl
  have e3 : D.tup [cdr r f, cdr r l] = sp r f l := rfl
  rw [lev_at (d := d18) rfl]
  by_cases h : f < l
  · rw [if_pos h]
    simp [d18, runDef, start, exSs, exS, evE, evT, evL, getV, R.bind, R.st, noexc, truth, guard', binEv, negD, putN, putP, putPs, ci_eq, ci_ne, ci_lt, ci_le, ci_gt, ci_ge, cb_eq, cb_ne, cb_is, cb_isnot, sp_0, sp_1, sp_ne, sp_is, sp_isnot, nn_ne, cn_is, cn_isnot, L_look_span hr ha hb hab, L_look_span hr hc hd hcd, q_0, q_1, e1, e2, M_lt hr hf' hl', h, e3]
  · rw [if_neg h]
    simp [d18, runDef, start, exSs, exS, evE, evT, evL, getV, R.bind, R.st, noexc, truth, guard', binEv, negD, putN, putP, putPs, ci_eq, ci_ne, ci_lt, ci_le, ci_gt, ci_ge, cb_eq, cb_ne, cb_is, cb_isnot, sp_0, sp_1, sp_ne, sp_is, sp_isnot, nn_ne, cn_is, cn_isnot, L_look_span hr ha hb hab, L_look_span hr hc hd hcd, q_0, q_1, e1, e2, M_lt hr hf' hl', h]
theorem L_joined (hr : r ∈ rates) (ha : In r a) (hb : In r b) (hab : a < b) (hc : In r c) (hd : In r d) (hcd : c < d) (hf : (a < c ∧ f = c) ∨ (¬ a < c ∧ f = a)) (hl : (d < b ∧ l = d) ∨ (¬ d < b ∧ l = b)) (hfl : ¬ l < f) (hp : (c < a ∧ p = c) ∨ (¬ c < a ∧ p = a)) (hq : (b < d ∧ q = d) ∨ (¬ b < d ∧ q = b)) : lev Pr (k + 6) 19 [.str r, sp r a b, sp r c d] = .ok (sp r p q) := by
  have hf' : In r f := by rcases hf with ⟨_, rfl⟩ | ⟨_, rfl⟩ <;> assumption
  have hl' : In r l := by rcases hl with ⟨_, rfl⟩ | ⟨_, rfl⟩ <;> assumption
  have e1 := M_max hr ha hc hf
  have e2 := M_min hr hb hd hl
  have e3 : D.tup [cdr r p, cdr r q] = sp r p q := rfl
  have e4 := M_min hr ha hc hp
  have e5 := M_max hr hb hd hq
  rw [lev_at (d := d19) rfl]
  simp [d19, runDef, start, exSs, exS, evE, evT, evL, getV, R.bind, R.st, noexc, truth, guard', binEv, negD, putN, putP, putPs, ci_eq, ci_ne, ci_lt, ci_le, ci_gt, ci_ge, cb_eq, cb_ne, cb_is, cb_isnot, sp_0, sp_1, sp_ne, sp_is, sp_isnot, nn_ne, cn_is, cn_isnot, L_look_span hr ha hb hab, L_look_span hr hc hd hcd, q_0, q_1, e1, e2, M_gt hr hf' hl', hfl, e4, e5, e3]
theorem L_joined_no (hr : r ∈ rates) (ha : In r a) (hb : In r b) (hab : a < b) (hc : In r c) (hd : In r d) (hcd : c < d) (hf : (a < c ∧ f = c) ∨ (¬ a < c ∧ f = a)) (hl : (d < b ∧ l = d) ∨ (¬ d < b ∧ l = b)) (hfl : l < f) : lev Pr (k + 6) 19 [.str r, sp r a b, sp r c d] = .exc 6 := by
  have hf' : In r f := by rcases hf with ⟨_, rfl⟩ | ⟨_, rfl⟩ <;> assumption
  have hl' : In r l := by rcases hl with ⟨_, rfl⟩ | ⟨_, rfl⟩ <;> assumption
  have e1 := M_max hr ha hc hf
  have e2 := M_min hr hb hd hl
  rw [lev_at (d := d19) rfl]
  simp [d19, runDef, start, exSs, exS, evE, evT, evL, getV, R.bind, R.st, noexc, truth, guard', binEv, negD, putN, putP, putPs, ci_eq, ci_ne, ci_lt, ci_le, ci_gt, ci_ge, cb_eq, cb_ne, cb_is, cb_isnot, sp_0, sp_1, sp_ne, sp_is, sp_isnot, nn_ne, cn_is, cn_isnot, L_look_span hr ha hb hab, L_look_span hr hc hd hcd, q_0, q_1, e1, e2, M_gt hr hf' hl', hfl]
end
end K20
namespace K20
open FD
/-- a thing of which its kind can be told -/
def plainD : D → Bool
  | .non => true
  | .bl _ => true
  | .int _ => true
  | .str _ => true
  | .tup _ => true
  | .lst _ => true
  | _ => false
def plain2 : D → Bool
  | .tup xs => xs.all plainD
  | d => plainD d
def wB (x : D) (hi : Int) : Bool := match x with
  | .int i => decide (0 ≤ i) && decide (i ≤ hi)
  | _ => false
theorem wB_int {x : D} {hi : Int} (h : wB x hi = true) : ∃ i, x = .int i ∧ 0 ≤ i ∧ i ≤ hi := by
  cases x with
  | int i =>
    have h' : (decide (0 ≤ i) && decide (i ≤ hi)) = true := h
    simp at h'
    exact ⟨i, rfl, h'⟩
  | _ => cases h
section
variable {k : Nat} {r q y : PySem.Str} {c e : Cd} {n i j m a b : Int} {ns : List Int} {d x : D}
theorem L_is_whole_any (hx : plainD x = true) (hi : Int) : lev Pr (k + 1) 5 [x, .int 0, .int hi] = .ok (.bl (wB x hi)) := by
  cases x with
  | int i => exact L_is_whole i 0 hi
  | non => rfl
  | bl b => rfl
  | str s => rfl
  | tup xs => rfl
  | lst xs => rfl
  | _ => cases hx
theorem L_has_shape_4 (hr : r ∈ rates) {x0 x1 x2 x3 : D} (h0 : plainD x0 = true) (h1 : plainD x1 = true) (h2 : plainD x2 = true) (h3 : plainD x3 = true) : lev Pr (k + 2) 7 [.str r, .tup [x0, x1, x2, x3]] = .ok (.bl (wB x0 23 && (wB x1 59 && (wB x2 59 && wB x3 (gF r - 1))))) := by
  rw [lev_at (d := d7) rfl]
  simp [d7, runDef, start, exSs, exS, evE, evT, evL, getV, R.bind, R.st, isiEv, noexc, truth, cmpEv, ordEv, ordD, ordI, guard', shp, isD, isNon, binEv, idxEv, putN, putP, place, eqOk, strBy, flat, eqv, int_beq, cst_eq, csts, biEv, un1, lenD, lk_figs hr, evI, zip2D, zipT2, slotsP, slotsPs, wipeV, lcGo, putPs, evF, allD, bools, le_lim, L_is_whole_any h0, L_is_whole_any h1, L_is_whole_any h2, L_is_whole_any h3]
theorem L_has_shape_no (hd : plainD d = true) (h : ∀ x0 x1 x2 x3, d ≠ .tup [x0, x1, x2, x3]) : lev Pr (k + 2) 7 [.str r, d] = .ok (.bl false) := by
  cases d with
  | tup xs =>
    have hl : ¬ ((xs.length : Nat) : Int) = 4 := by
      intro hl
      match xs, hl, h with
      | [a, b, c, d], _, h => exact h a b c d rfl
      | [], hl, _ => simp at hl
      | [_], hl, _ => simp at hl
      | [_, _], hl, _ => simp at hl
      | [_, _, _], hl, _ => simp at hl
      | _ :: _ :: _ :: _ :: _ :: t, hl, _ => simp only [List.length_cons] at hl; omega
    rw [lev_at (d := d7) rfl]
    simp [d7, runDef, start, exSs, exS, evE, evT, evL, getV, R.bind, R.st, isiEv, noexc, truth, guard', shp, isD, isNon, binEv, putN, putP, ci_eq, ci_ne, ci_lt, ci_le, ci_gt, ci_ge, cb_eq, cb_ne, cb_is, cb_isnot, ti0, ti1, putPs, biEv, un1, lenD, hl]
  | non => rfl
  | bl b => rfl
  | int i => rfl
  | str s => rfl
  | lst xs => rfl
  | _ => cases hd
theorem L_is_code_4 (hr : r ∈ rates) {x0 x1 x2 x3 : D} (h0 : plainD x0 = true) (h1 : plainD x1 = true) (h2 : plainD x2 = true) (h3 : plainD x3 = true) (hw : (wB x0 23 && (wB x1 59 && (wB x2 59 && wB x3 (gF r - 1)))) = false) : lev Pr (k + 3) 8 [.str r, .tup [x0, x1, x2, x3]] = .ok (.bl false) := by
  have e := L_has_shape_4 (k := k) hr h0 h1 h2 h3
  rw [hw] at e
  rw [lev_at (d := d8) rfl]
  simp [d8, runDef, start, exSs, exS, evE, evT, evL, getV, R.bind, R.st, isiEv, noexc, truth, guard', shp, isD, isNon, binEv, putN, putP, ci_eq, ci_ne, ci_lt, ci_le, ci_gt, ci_ge, cb_eq, cb_ne, cb_is, cb_isnot, ti0, ti1, putPs, L_look_rate hr, e]
theorem L_is_code_no (hr : r ∈ rates) (hd : plainD d = true) (h : ∀ x0 x1 x2 x3, d ≠ .tup [x0, x1, x2, x3]) : lev Pr (k + 3) 8 [.str r, d] = .ok (.bl false) := by
  rw [lev_at (d := d8) rfl]
  simp [d8, runDef, start, exSs, exS, evE, evT, evL, getV, R.bind, R.st, isiEv, noexc, truth, guard', shp, isD, isNon, binEv, putN, putP, ci_eq, ci_ne, ci_lt, ci_le, ci_gt, ci_ge, cb_eq, cb_ne, cb_is, cb_isnot, ti0, ti1, putPs, L_look_rate hr, L_has_shape_no hd h]
theorem L_is_code_out (hr : r ∈ rates) (hc : Cin (gF r) c) : lev Pr (k + 3) 8 [.str r, c.d] = .ok (.bl (!(decide (c.s = 0) && (decide (c.f < wF r) && !decide (c.m % 10 = 0))))) := by
  obtain ⟨h1, h2, h3, h4, h5, h6, h7, h8⟩ := hc
  have e := L_has_shape_4 (k := k) (x0 := .int c.h) (x1 := .int c.m) (x2 := .int c.s) (x3 := .int c.f) hr rfl rfl rfl rfl
  have ew : (wB (.int c.h) 23 && (wB (.int c.m) 59 && (wB (.int c.s) 59 && wB (.int c.f) (gF r - 1)))) = true := by simp [wB, h1, h2, h3, h4, h5, h6, h7, h8]
  rw [ew] at e
  have e' : lev Pr (k + 2) 7 [.str r, c.d] = .ok (.bl true) := e
  have el := L_is_left_out (k := k + 1) (c := c) hr
  generalize (decide (c.s = 0) && (decide (c.f < wF r) && !decide (c.m % 10 = 0))) = b at *
  rw [lev_at (d := d8) rfl]
  simp [d8, runDef, start, exSs, exS, evE, evT, evL, getV, R.bind, R.st, isiEv, noexc, truth, guard', shp, isD, isNon, binEv, putN, putP, ci_eq, ci_ne, ci_lt, ci_le, ci_gt, ci_ge, cb_eq, cb_ne, cb_is, cb_isnot, ti0, ti1, putPs, L_look_rate hr, e', el]
theorem L_lis_code (hr : r ∈ rates) (hd : plain2 d = true) : ∃ b, (∀ k, lev Pr (k + 3) 35 [.str r, d] = .ok (.bl b)) ∧ (b = false → ∀ k, lev Pr (k + 3) 8 [.str r, d] = .ok (.bl false)) ∧ (b = true → ∃ c, d = c.d ∧ Cok (gF r) (wF r) c) := by
  have hp : plainD d = true := by
    cases d <;> first | rfl | exact hd
  by_cases h4 : ∃ x0 x1 x2 x3, d = .tup [x0, x1, x2, x3]
  · obtain ⟨x0, x1, x2, x3, rfl⟩ := h4
    have hall : (plainD x0 && (plainD x1 && (plainD x2 && (plainD x3 && true)))) = true := by
      have : [x0, x1, x2, x3].all plainD = true := hd
      simpa [List.all] using this
    simp only [Bool.and_eq_true, Bool.and_true] at hall
    obtain ⟨p0, p1, p2, p3⟩ := hall
    obtain ⟨B, hB⟩ : ∃ B : ISs, B = (.cons (.iff (.or (.nt (.isi (.var 2) .int)) (.or (.isi (.var 2) .bool) (.nt (.cmp2 .le .lt (.cst (.int 0)) (.var 2) (.var 3))))) (.cons (.ret (.cst (.bl false))) .nil) .nil) .nil) := ⟨_, rfl⟩
    have step : ∀ (k : Nat) (x : D) (m : Int), plainD x = true → exSs ⟨lev Pr (k + 2), Pr.sub, Pr.cst, Pr.nc⟩ B [.pv (.str r), .pv (.tup [x0, x1, x2, x3]), .pv x, .pv (.int m)] = if wB x (m - 1) = true then .nx [.pv (.str r), .pv (.tup [x0, x1, x2, x3]), .pv x, .pv (.int m)] else .rt (.bl false) := by
      intro k x m hx
      rw [hB]
      cases x with
      | int i =>
        have e : wB (.int i) (m - 1) = (decide (0 ≤ i) && decide (i < m)) := by
          show (decide (0 ≤ i) && decide (i ≤ m - 1)) = _
          congr 1
          rw [decide_eq_decide]
          omega
        rw [e]
        by_cases h1 : 0 ≤ i <;> by_cases h2 : i < m <;> simp [runDef, start, exSs, exS, evE, evT, evL, getV, R.bind, R.st, isiEv, noexc, truth, guard', shp, isD, isNon, binEv, putN, putP, ci_eq, ci_ne, ci_lt, ci_le, ci_gt, ci_ge, cb_eq, cb_ne, cb_is, cb_isnot, ti0, ti1, putPs, h1, h2]
      | non => rfl
      | bl b => rfl
      | str s => rfl
      | tup xs => rfl
      | lst xs => rfl
      | _ => cases hx
    cases hw : (wB x0 23 && (wB x1 59 && (wB x2 59 && wB x3 (gF r - 1)))) with
    | false =>
      refine ⟨false, fun k => ?_, fun _ k => L_is_code_4 hr p0 p1 p2 p3 hw, fun h => by cases h⟩
      rw [lev_at (d := d35) rfl]
      unfold d35
      rw [← hB]
      have s0 := fun m => step k x0 m p0
      have s1 := fun m => step k x1 m p1
      have s2 := fun m => step k x2 m p2
      have s3 := fun m => step k x3 m p3
      have hc4 : wB x0 23 = false ∨ (wB x0 23 = true ∧ wB x1 59 = false) ∨ (wB x0 23 = true ∧ wB x1 59 = true ∧ wB x2 59 = false) ∨ (wB x0 23 = true ∧ wB x1 59 = true ∧ wB x2 59 = true ∧ wB x3 (gF r - 1) = false) := by
        revert hw
        cases wB x0 23 <;> cases wB x1 59 <;> cases wB x2 59 <;> cases wB x3 (gF r - 1) <;> simp
      rcases hc4 with w0 | ⟨w0, w1⟩ | ⟨w0, w1, w2⟩ | ⟨w0, w1, w2, w3⟩
      · simp [runDef, start, exSs, exS, evE, evT, evL, getV, R.bind, R.st, isiEv, noexc, truth, guard', shp, isD, isNon, binEv, putN, putP, ci_eq, ci_ne, ci_lt, ci_le, ci_gt, ci_ge, cb_eq, cb_ne, cb_is, cb_isnot, ti0, ti1, putPs, biEv, un1, lenD, evI, zip2D, zipT2, L_facts hr, forLoop, s0, w0]
      · simp [runDef, start, exSs, exS, evE, evT, evL, getV, R.bind, R.st, isiEv, noexc, truth, guard', shp, isD, isNon, binEv, putN, putP, ci_eq, ci_ne, ci_lt, ci_le, ci_gt, ci_ge, cb_eq, cb_ne, cb_is, cb_isnot, ti0, ti1, putPs, biEv, un1, lenD, evI, zip2D, zipT2, L_facts hr, forLoop, s0, w0, s1, w1]
      · simp [runDef, start, exSs, exS, evE, evT, evL, getV, R.bind, R.st, isiEv, noexc, truth, guard', shp, isD, isNon, binEv, putN, putP, ci_eq, ci_ne, ci_lt, ci_le, ci_gt, ci_ge, cb_eq, cb_ne, cb_is, cb_isnot, ti0, ti1, putPs, biEv, un1, lenD, evI, zip2D, zipT2, L_facts hr, forLoop, s0, w0, s1, w1, s2, w2]
      · simp [runDef, start, exSs, exS, evE, evT, evL, getV, R.bind, R.st, isiEv, noexc, truth, guard', shp, isD, isNon, binEv, putN, putP, ci_eq, ci_ne, ci_lt, ci_le, ci_gt, ci_ge, cb_eq, cb_ne, cb_is, cb_isnot, ti0, ti1, putPs, biEv, un1, lenD, evI, zip2D, zipT2, L_facts hr, forLoop, s0, w0, s1, w1, s2, w2, s3, w3]
    | true =>
      simp only [Bool.and_eq_true] at hw
      obtain ⟨w0, w1, w2, w3⟩ := hw
      obtain ⟨h, rfl, h1, h2⟩ := wB_int w0
      obtain ⟨mi, rfl, h3, h4⟩ := wB_int w1
      obtain ⟨se, rfl, h5, h6⟩ := wB_int w2
      obtain ⟨f, rfl, h7, h8⟩ := wB_int w3
      have hc : Cin (gF r) ⟨h, mi, se, f⟩ := ⟨h1, h2, h3, h4, h5, h6, h7, h8⟩
      refine ⟨!(decide (se = 0) && (decide (f < wF r) && !decide (mi % 10 = 0))), fun k => ?_, fun hb k => ?_, fun hb => ⟨⟨h, mi, se, f⟩, rfl, h1, h2, h3, h4, h5, h6, h7, h8, fun hx => by
          have hx' : se = 0 ∧ f < wF r ∧ mi % 10 ≠ 0 := hx
          rw [decide_eq_true hx'.1, decide_eq_true hx'.2.1, decide_eq_false hx'.2.2] at hb
          cases hb⟩⟩
      · have o1 : lev Pr (k + 2) 25 [.str r, .tup [.int h, .int mi, .int se, .int f]] = .ok (.bl (decide (se = 0) && (decide (f < wF r) && !decide (mi % 10 = 0)))) := L_is_out (k := k) (c := ⟨h, mi, se, f⟩) hr h3 h4
        rw [lev_at (d := d35) rfl]
        unfold d35
        rw [← hB]
        have s0 := fun m => step k _ m p0
        have s1 := fun m => step k _ m p1
        have s2 := fun m => step k _ m p2
        have s3 := fun m => step k _ m p3
        simp [runDef, start, exSs, exS, evE, evT, evL, getV, R.bind, R.st, isiEv, noexc, truth, guard', shp, isD, isNon, binEv, putN, putP, ci_eq, ci_ne, ci_lt, ci_le, ci_gt, ci_ge, cb_eq, cb_ne, cb_is, cb_isnot, ti0, ti1, putPs, biEv, un1, lenD, evI, zip2D, zipT2, L_facts hr, forLoop, s0, s1, s2, s3, w0, w1, w2, w3, o1]
      · have e := L_is_code_out (k := k) hr hc
        rw [show (!(decide ((⟨h, mi, se, f⟩ : Cd).s = 0) && (decide ((⟨h, mi, se, f⟩ : Cd).f < wF r) && !decide ((⟨h, mi, se, f⟩ : Cd).m % 10 = 0)))) = false from hb] at e
        exact e
  · have hno : ∀ x0 x1 x2 x3, d ≠ .tup [x0, x1, x2, x3] := fun x0 x1 x2 x3 e => h4 ⟨x0, x1, x2, x3, e⟩
    refine ⟨false, fun k => ?_, fun _ k => L_is_code_no hr hp hno, fun h => by cases h⟩
    cases d with
    | tup xs =>
      have hl : ¬ ((xs.length : Nat) : Int) = 4 := by
        intro hl
        match xs, hl, hno with
        | [a, b, c, d], _, h => exact h a b c d rfl
        | [], hl, _ => simp at hl
        | [_], hl, _ => simp at hl
        | [_, _], hl, _ => simp at hl
        | [_, _, _], hl, _ => simp at hl
        | _ :: _ :: _ :: _ :: _ :: t, hl, _ => simp only [List.length_cons] at hl; omega
      rw [lev_at (d := d35) rfl]
      simp [d35, runDef, start, exSs, exS, evE, evT, evL, getV, R.bind, R.st, isiEv, noexc, truth, guard', shp, isD, isNon, binEv, putN, putP, ci_eq, ci_ne, ci_lt, ci_le, ci_gt, ci_ge, cb_eq, cb_ne, cb_is, cb_isnot, ti0, ti1, putPs, biEv, un1, lenD, hl]
    | non => rfl
    | bl b => rfl
    | int i => rfl
    | str s => rfl
    | lst xs => rfl
    | _ => cases hp
theorem L_put (i : Nat) (hi : i < 5) (c : Cd) (x : D) : lev Pr (k + 2) 33 [c.d, [D.tup [], .tup [.int 0], .tup [.int 1], .tup [.int 2], .tup [.int 3]].getD i .non, x] = .ok ([x, .tup [x, .int c.m, .int c.s, .int c.f], .tup [.int c.h, x, .int c.s, .int c.f], .tup [.int c.h, .int c.m, x, .int c.f], .tup [.int c.h, .int c.m, .int c.s, x]].getD i .non) := by
  match i, hi with
  | 0, _ => rfl
  | 1, _ => rfl
  | 2, _ => rfl
  | 3, _ => rfl
  | 4, _ => rfl
  | n + 5, h => omega
theorem L_places_int (i : Int) : lev Pr (k + 1) 32 [.int i] = .ok (.lst [.tup []]) := rfl
theorem L_places (c : Cd) : lev Pr (k + 2) 32 [c.d] = .ok (.lst [.tup [], .tup [.int 0], .tup [.int 1], .tup [.int 2], .tup [.int 3]]) := by
  have rk : rngOk 4 = true := rfl
  rw [lev_at (d := d32) rfl]
  simp [d32, runDef, start, exSs, exS, evE, evT, evL, getV, R.bind, R.st, isiEv, noexc, truth, guard', shp, isD, isNon, binEv, putN, putP, ci_eq, ci_ne, ci_lt, ci_le, ci_gt, ci_ge, cb_eq, cb_ne, cb_is, cb_isnot, ti0, ti1, putPs, biEv, un1, lenD, evI, rng1D, rangeL, rk, forLoop, getO, lcGo, slotsP, wipeV, seqD, evF, le_lim, L_places_int, ti2, ti3, Cd.d, lim]
end
end K20
namespace K20
open FD
def someL (here : D) : List D := [.int 0, .int 1, .int 23, .int 24, .int 25, .int 30, .int 59, .int 60, .int (-1), .bl true, .non, .str ⟨#[49]⟩, .tup [], .tup [.int 0, .int 0], .lst [.int 0], .tup [here], .tup [here, here]]
/-- what is put there -/
def XP (here x : D) : Prop := x ∈ someL here ∨ (∃ i, x = .int i) ∨ ∃ xs k, here = .tup xs ∧ (x = .tup (xs.take k ++ xs.drop (k + 1)) ∨ x = .tup (xs.take (k + 1) ++ xs.drop k))
section
variable {k : Nat} {r : PySem.Str} {ns : List Int} {j : Int} {th here d : D} {A B : Cd}
theorem spoilt_gen {ps pth : List D} {pf : D → D} {p : Int} (hj : 0 ≤ j) (hP : ∀ k, lev Pr (k + 3) 32 [th] = .ok (.lst ps)) (hlen : ps.length = 11) (hE1 : ∀ k, lev Pr (k + 2) 21 [.scr ns, .int j, .int 11] = .ok (.int p)) (hix : idxEv (.lst ps) (.int p) = .ok (.tup pth))
    (hloop : ∀ (o : Out) (X6 X7 X8 : SV), ∃ y6, forLoop (.nm 6) (exSs o (.cons (.asg (.nm 5) (.idx (.var 5) (.var 6))) .nil)) pth [.pv (.scr ns), .pv (.int j), .pv th, .pv (.lst ps), .pv (.tup pth), .pv th, X6, X7, X8] = .nx [.pv (.scr ns), .pv (.int j), .pv th, .pv (.lst ps), .pv (.tup pth), .pv here, y6, X7, X8])
    (hput : ∀ k x, lev Pr (k + 3) 33 [th, .tup pth, x] = .ok (pf x)) (hh : (∃ i, here = .int i) ∨ ∃ xs, here = .tup xs ∧ 0 < xs.length ∧ xs.length ≤ 4 ∧ shp 60 here = true) : ∃ x, XP here x ∧ ∀ k, lev Pr (k + 4) 34 [.scr ns, .int j, th] = .ok (pf x) := by
  obtain ⟨v, v0, v1, e2⟩ := L_pick ns (j := j + 1) (m := 23) (by omega) (by decide)
  have ln : biEv .len [.lst ps] = .ok (.int 11) := by
    show R.ok (D.int (ps.length : Nat)) = _
    rw [hlen]
    rfl
  obtain ⟨Bd, hBd⟩ : ∃ B : ISs, B = (.cons (.asg (.nm 5) (.idx (.var 5) (.var 6))) .nil) := ⟨_, rfl⟩
  rw [← hBd] at hloop
  have i1 : ∀ a b : Int, binEv .add (.int a) (.int b) = .ok (.int (a + b)) := fun _ _ => rfl
  have i2 : ∀ a b : Int, binEv .sub (.int a) (.int b) = .ok (.int (a - b)) := fun _ _ => rfl
  have sq : seqD (.tup pth) = .ok pth := rfl
  by_cases hv : v < 17
  · obtain ⟨x, hx, ex⟩ := idx_in (xs := someL here) v0 hv
    refine ⟨x, .inl hx, fun k => ?_⟩
    obtain ⟨y6, lp⟩ := hloop ⟨lev Pr (k + 3), Pr.sub, Pr.cst, Pr.nc⟩ .un .un .un
    have P := hP k
    have E1 := hE1 (k + 1)
    have E2 := e2 (k + 1)
    have U := hput k x
    unfold someL at ex
    rw [lev_at (d := d34) rfl]
    unfold d34
    rw [← hBd]
    simp [exSs, exS, evE, evT, evL, evO, getV, R.bind, R.st, noexc, truth, putN, putP, putPs, runDef, start, negD, P, ln, E1, hix, evI, sq, lp, i1, E2, ci_lt, hv, ex, U]
  · rcases hh with ⟨i, rfl⟩ | ⟨xs, rfl, hl0, hl4, hsh⟩
    · refine ⟨.int (i + v - 20), .inr (.inl ⟨_, rfl⟩), fun k => ?_⟩
      obtain ⟨y6, lp⟩ := hloop ⟨lev Pr (k + 3), Pr.sub, Pr.cst, Pr.nc⟩ .un .un .un
      have P := hP k
      have E1 := hE1 (k + 1)
      have E2 := e2 (k + 1)
      have U := hput k (.int (i + v - 20))
      have t1 : isiEv Pr.sub (.int i) .tuple = .ok (.bl false) := rfl
      have t2 : isiEv Pr.sub (.int i) .int = .ok (.bl true) := rfl
      rw [lev_at (d := d34) rfl]
      unfold d34
      rw [← hBd]
      simp [exSs, exS, evE, evT, evL, evO, getV, R.bind, R.st, noexc, truth, putN, putP, putPs, runDef, start, negD, P, ln, E1, hix, evI, sq, lp, i1, i2, E2, ci_lt, hv, t1, t2, U]
    · obtain ⟨u, u0, u1, e3⟩ := L_pick ns (j := j + 2) (m := xs.length) (by omega) (by omega)
      obtain ⟨m, rfl⟩ : ∃ m : Nat, u = (m : Int) := ⟨u.toNat, by omega⟩
      have t1 : isiEv Pr.sub (.tup xs) .tuple = .ok (.bl true) := rfl
      have ne : cmpEv .ne (.tup xs) (.tup []) = .ok (.bl true) := by
        show guard' (eqOk (.tup xs) (.tup [])) (R.ok (D.bl (!eqv (.tup xs) (.tup [])))) = _
        have h1 : eqOk (.tup xs) (.tup []) = true := by
          unfold eqOk
          rw [hsh]
          simp [shp, shps]
        rw [h1]
        cases xs with
        | nil => simp at hl0
        | cons _ _ => rfl
      have lx : biEv .len [.tup xs] = .ok (.int xs.length) := rfl
      have s1 : slcEv (.tup xs) none (some (m : Int)) = .ok (.tup (xs.take m)) := by
        show R.ok (D.tup (cut xs none (some (m : Int)))) = _
        rw [cut_to (by omega) (by omega), Int.toNat_natCast]
      have s2 : slcEv (.tup xs) (some ((m : Int) + 1)) none = .ok (.tup (xs.drop (m + 1))) := by
        show R.ok (D.tup (cut xs (some ((m : Int) + 1)) none)) = _
        rw [cut_frm (by omega) (by omega), show ((m : Int) + 1).toNat = m + 1 by omega]
      have s3 : slcEv (.tup xs) none (some ((m : Int) + 1)) = .ok (.tup (xs.take (m + 1))) := by
        show R.ok (D.tup (cut xs none (some ((m : Int) + 1)))) = _
        rw [cut_to (by omega) (by omega), show ((m : Int) + 1).toNat = m + 1 by omega]
      have s4 : slcEv (.tup xs) (some (m : Int)) none = .ok (.tup (xs.drop m)) := by
        show R.ok (D.tup (cut xs (some (m : Int)) none)) = _
        rw [cut_frm (by omega) (by omega), Int.toNat_natCast]
      have ad : ∀ a b : List D, a.length ≤ 10 → b.length ≤ 10 → binEv .add (.tup a) (.tup b) = .ok (.tup (a ++ b)) := fun a b ha hb => by
        show guard' (decide (a.length + b.length ≤ lim)) (R.ok (D.tup (a ++ b))) = _
        rw [decide_eq_true (Nat.le_trans (show a.length + b.length ≤ 20 by omega) (by decide))]
        rfl
      have a1 := ad (xs.take m) (xs.drop (m + 1)) (by rw [List.length_take]; omega) (by rw [List.length_drop]; omega)
      have a2 := ad (xs.take (m + 1)) (xs.drop m) (by rw [List.length_take]; omega) (by rw [List.length_drop]; omega)
      obtain ⟨x, hxd⟩ : ∃ x, x = if v < 20 then D.tup (xs.take m ++ xs.drop (m + 1)) else D.tup (xs.take (m + 1) ++ xs.drop m) := ⟨_, rfl⟩
      refine ⟨x, .inr (.inr ⟨xs, m, rfl, ?_⟩), fun k => ?_⟩
      · rw [hxd]
        by_cases h20 : v < 20
        · rw [if_pos h20]; exact .inl rfl
        · rw [if_neg h20]; exact .inr rfl
      · obtain ⟨y6, lp⟩ := hloop ⟨lev Pr (k + 3), Pr.sub, Pr.cst, Pr.nc⟩ .un .un .un
        have P := hP k
        have E1 := hE1 (k + 1)
        have E2 := e2 (k + 1)
        have E3 := e3 (k + 1)
        have U := hput k x
        obtain ⟨T1, hT1⟩ : ∃ T, T = D.tup (xs.take m) := ⟨_, rfl⟩
        obtain ⟨T2, hT2⟩ : ∃ T, T = D.tup (xs.drop (m + 1)) := ⟨_, rfl⟩
        obtain ⟨T3, hT3⟩ : ∃ T, T = D.tup (xs.take (m + 1)) := ⟨_, rfl⟩
        obtain ⟨T4, hT4⟩ : ∃ T, T = D.tup (xs.drop m) := ⟨_, rfl⟩
        rw [← hT1] at s1 a1
        rw [← hT2] at s2 a1
        rw [← hT3] at s3 a2
        rw [← hT4] at s4 a2
        rw [lev_at (d := d34) rfl]
        unfold d34
        rw [← hBd]
        by_cases h20 : v < 20
        · rw [if_pos h20] at hxd
          rw [← hxd] at a1
          simp [exSs, exS, evE, evT, evL, evO, getV, R.bind, R.st, noexc, truth, putN, putP, putPs, runDef, start, negD, P, ln, E1, hix, evI, sq, lp, i1, i2, E2, ci_lt, hv, t1, ne, lx, E3, h20, s1, s2, a1, U]
        · rw [if_neg h20] at hxd
          rw [← hxd] at a2
          simp [exSs, exS, evE, evT, evL, evO, getV, R.bind, R.st, noexc, truth, putN, putP, putPs, runDef, start, negD, P, ln, E1, hix, evI, sq, lp, i1, i2, E2, ci_lt, hv, t1, ne, lx, E3, h20, s3, s4, a2, U]
def plcs : List D := [.tup [], .tup [.int 0], .tup [.int 0, .int 0], .tup [.int 0, .int 1], .tup [.int 0, .int 2], .tup [.int 0, .int 3], .tup [.int 1], .tup [.int 1, .int 0], .tup [.int 1, .int 1], .tup [.int 1, .int 2], .tup [.int 1, .int 3]]
theorem L_places2 (A B : Cd) : lev Pr (k + 3) 32 [.tup [A.d, B.d]] = .ok (.lst plcs) := by
  have pa := L_places (k := k) A
  have pb := L_places (k := k) B
  have rk : rngOk 2 = true := rfl
  have ad : ∀ a b : List D, a.length + b.length ≤ 100 → binEv .add (.tup a) (.tup b) = .ok (.tup (a ++ b)) := fun a b hl => by
    show guard' (decide (a.length + b.length ≤ lim)) (R.ok (D.tup (a ++ b))) = _
    rw [decide_eq_true (Nat.le_trans hl (by decide))]
    rfl
  have l5 : (5 : Nat) ≤ lim := by decide
  have l6 : (1 : Nat) + 5 ≤ lim := by decide
  have l11 : (6 : Nat) + 5 ≤ lim := by decide
  have t1 : isiEv Pr.sub (.tup [A.d, B.d]) .tuple = .ok (.bl true) := rfl
  have lx : biEv .len [.tup [A.d, B.d]] = .ok (.int 2) := rfl
  rw [lev_at (d := d32) rfl]
  unfold plcs
  simp [d32, exSs, exS, evE, evT, evL, evO, getV, R.bind, R.st, noexc, truth, putN, putP, putPs, runDef, start, t1, lx, evI, rng1D, rk, guard', rangeL, forLoop, getO, lcGo, slotsP, wipeV, seqD, evF, ti0, ti1, pa, pb, ad, l5, l6, l11]
/-- a thing, whatever is in it being plain -/
def plain3 : D → Bool
  | .tup xs => xs.all plain2
  | d => plainD d
theorem some_plain {x here : D} (h : x ∈ someL here) : plainD x = true := by
  simp only [someL, List.mem_cons, List.not_mem_nil, or_false] at h
  rcases h with rfl | rfl | rfl | rfl | rfl | rfl | rfl | rfl | rfl | rfl | rfl | rfl | rfl | rfl | rfl | rfl | rfl <;> rfl
theorem some_plain2 {x here : D} (hh : plainD here = true) (h : x ∈ someL here) : plain2 x = true := by
  simp only [someL, List.mem_cons, List.not_mem_nil, or_false] at h
  rcases h with rfl | rfl | rfl | rfl | rfl | rfl | rfl | rfl | rfl | rfl | rfl | rfl | rfl | rfl | rfl | rfl | rfl <;> first | rfl | simp [plain2, hh]
theorem some_plain3 {x here : D} (hh : plain2 here = true) (h : x ∈ someL here) : plain3 x = true := by
  simp only [someL, List.mem_cons, List.not_mem_nil, or_false] at h
  rcases h with rfl | rfl | rfl | rfl | rfl | rfl | rfl | rfl | rfl | rfl | rfl | rfl | rfl | rfl | rfl | rfl | rfl <;> first | rfl | simp [plain3, hh]
theorem xp_int {x : D} {i : Int} (h : XP (.int i) x) : plainD x = true := by
  rcases h with h | ⟨i, rfl⟩ | ⟨xs, k, e, _⟩
  · exact some_plain h
  · rfl
  · cases e
theorem all_sub {P : D → Bool} {xs : List D} (h : xs.all P = true) (a b : Nat) : (xs.take a ++ xs.drop b).all P = true := by
  rw [List.all_eq_true] at h ⊢
  intro x hx
  rcases List.mem_append.mp hx with z | z
  · exact h x (List.take_subset _ _ z)
  · exact h x (List.drop_subset _ _ z)
theorem xp_cd {x : D} (h : XP A.d x) : plain2 x = true := by
  rcases h with h | ⟨i, rfl⟩ | ⟨xs, k, e, h⟩
  · exact some_plain2 rfl h
  · rfl
  · have ex : xs.all plainD = true := by
      have e' : [D.int A.h, .int A.m, .int A.s, .int A.f] = xs := by
        injection e
      rw [← e']
      rfl
    rcases h with rfl | rfl
    · exact all_sub ex _ _
    · exact all_sub ex _ _
theorem xp_sp {x : D} (h : XP (.tup [A.d, B.d]) x) : plain3 x = true := by
  rcases h with h | ⟨i, rfl⟩ | ⟨xs, k, e, h⟩
  · exact some_plain3 rfl h
  · rfl
  · have ex : xs.all plain2 = true := by
      have e' : [A.d, B.d] = xs := by injection e
      rw [← e']
      rfl
    rcases h with rfl | rfl
    · exact all_sub ex _ _
    · exact all_sub ex _ _
theorem shps_mem {n : Nat} : ∀ {xs : List D}, shps n xs = true → ∀ d ∈ xs, shp n d = true
  | [], _, _, h => by cases h
  | x :: xs, hs, d, h => by
    have hs' : (shp n x && shps n xs) = true := hs
    rw [Bool.and_eq_true] at hs'
    rcases List.mem_cons.mp h with rfl | h
    · exact hs'.1
    · exact shps_mem hs'.2 d h
theorem xp_shp {here x : D} (hh : ∀ n, shp (n + 5) here = true) (h : XP here x) (n : Nat) : shp (n + 6) x = true := by
  rcases h with h | ⟨i, rfl⟩ | ⟨xs, k, e, h⟩
  · have h5 : shp (n + 5) here = true := hh n
    simp only [someL, List.mem_cons, List.not_mem_nil, or_false] at h
    rcases h with rfl | rfl | rfl | rfl | rfl | rfl | rfl | rfl | rfl | rfl | rfl | rfl | rfl | rfl | rfl | rfl | rfl <;> first | rfl | (show (shp (n + 5) here && true) = true; rw [h5]; rfl) | (show (shp (n + 5) here && (shp (n + 5) here && true)) = true; rw [h5]; rfl)
  · rfl
  · have hx : ∀ d ∈ xs, shp (n + 5) d = true := fun d hd => by
      have := hh (n + 1)
      rw [e] at this
      exact shps_mem (show shps (n + 5) xs = true from this) d hd
    have sub : ∀ a b : Nat, shp (n + 6) (.tup (xs.take a ++ xs.drop b)) = true := fun a b => by
      show shps (n + 5) (xs.take a ++ xs.drop b) = true
      refine shps_all fun d hd => hx d ?_
      rcases List.mem_append.mp hd with z | z
      · exact List.take_subset _ _ z
      · exact List.drop_subset _ _ z
    rcases h with rfl | rfl
    · exact sub _ _
    · exact sub _ _
theorem p2_of {x : D} (h : plainD x = true) (ys zs : List D) (hy : ys.all plainD = true) (hz : zs.all plainD = true) : plain2 (.tup (ys ++ x :: zs)) = true := by
  show (ys ++ x :: zs).all plainD = true
  rw [List.all_append, List.all_cons, hy, h, hz]
  rfl
theorem L_spoilt_span (A B : Cd) (ns : List Int) (hj : 0 ≤ j) : ∃ d, plain3 d = true ∧ (∀ n, shp (n + 8) d = true) ∧ ∀ k, lev Pr (k + 4) 34 [.scr ns, .int j, .tup [A.d, B.d]] = .ok d := by
  obtain ⟨p, p0, p1, e1⟩ := L_pick ns (j := j) (m := 11) hj (by decide)
  have hp : p = 0 ∨ p = 1 ∨ p = 2 ∨ p = 3 ∨ p = 4 ∨ p = 5 ∨ p = 6 ∨ p = 7 ∨ p = 8 ∨ p = 9 ∨ p = 10 := by omega
  have P : ∀ k, lev Pr (k + 3) 32 [.tup [A.d, B.d]] = .ok (.lst plcs) := fun k => L_places2 A B
  have s4 : ∀ c : Cd, shp 60 c.d = true := fun c => cd_shp c 59
  have s2 : shp 60 (.tup [A.d, B.d]) = true := by
    show (shp 59 A.d && (shp 59 B.d && true)) = true
    rw [show shp 59 A.d = true from cd_shp A 58, show shp 59 B.d = true from cd_shp B 58]
    rfl
  have c5 : ∀ (c : Cd) (n : Nat), shp (n + 5) c.d = true := fun c n => cd_shp c (n + 4)
  have c6 : ∀ (c : Cd) (n : Nat), shp (n + 7) c.d = true := fun c n => cd_shp c (n + 6)
  have s5 : ∀ n, shp (n + 5) (.tup [A.d, B.d]) = true := fun n => by
    show (shp (n + 4) A.d && (shp (n + 4) B.d && true)) = true
    rw [cd_shp A (n + 3), cd_shp B (n + 3)]
    rfl
  have i5 : ∀ (i : Int) (n : Nat), shp (n + 5) (.int i) = true := fun _ _ => rfl
  rcases hp with rfl | rfl | rfl | rfl | rfl | rfl | rfl | rfl | rfl | rfl | rfl
  · obtain ⟨x, hx, e⟩ := spoilt_gen (pth := []) (here := .tup [A.d, B.d]) (pf := fun x => x) hj P rfl e1 rfl (fun o X6 X7 X8 => ⟨_, rfl⟩) (fun k x => rfl) (.inr ⟨_, rfl, by simp, by simp, s2⟩)
    exact ⟨_, xp_sp hx, fun n => xp_shp s5 hx (n + 2), e⟩
  · obtain ⟨x, hx, e⟩ := spoilt_gen (pth := [.int 0]) (here := A.d) (pf := fun x => .tup [x, B.d]) hj P rfl e1 rfl (fun o X6 X7 X8 => ⟨_, rfl⟩) (fun k x => rfl) (.inr ⟨_, rfl, by simp, by simp, s4 A⟩)
    exact ⟨_, (by show (plain2 x && (plain2 B.d && true)) = true; rw [xp_cd hx]; rfl), fun n => by show (shp (n + 7) x && (shp (n + 7) B.d && true)) = true; rw [xp_shp (c5 A) hx (n + 1), c6 B n]; rfl, e⟩
  · obtain ⟨x, hx, e⟩ := spoilt_gen (pth := [.int 0, .int 0]) (here := .int A.h) (pf := fun x => .tup [.tup [x, .int A.m, .int A.s, .int A.f], B.d]) hj P rfl e1 rfl (fun o X6 X7 X8 => ⟨_, rfl⟩) (fun k x => rfl) (.inl ⟨_, rfl⟩)
    exact ⟨_, (by show (plain2 (.tup ([] ++ x :: [.int A.m, .int A.s, .int A.f])) && (plain2 B.d && true)) = true; rw [p2_of (xp_int hx) _ _ rfl rfl]; rfl), fun n => by show ((shp (n + 6) x && (true && (true && (true && (true))))) && (shp (n + 7) B.d && true)) = true; rw [xp_shp (i5 _) hx n, c6 B n]; rfl, e⟩
  · obtain ⟨x, hx, e⟩ := spoilt_gen (pth := [.int 0, .int 1]) (here := .int A.m) (pf := fun x => .tup [.tup [.int A.h, x, .int A.s, .int A.f], B.d]) hj P rfl e1 rfl (fun o X6 X7 X8 => ⟨_, rfl⟩) (fun k x => rfl) (.inl ⟨_, rfl⟩)
    exact ⟨_, (by show (plain2 (.tup ([.int A.h] ++ x :: [.int A.s, .int A.f])) && (plain2 B.d && true)) = true; rw [p2_of (xp_int hx) _ _ rfl rfl]; rfl), fun n => by show ((true && (shp (n + 6) x && (true && (true && (true))))) && (shp (n + 7) B.d && true)) = true; rw [xp_shp (i5 _) hx n, c6 B n]; rfl, e⟩
  · obtain ⟨x, hx, e⟩ := spoilt_gen (pth := [.int 0, .int 2]) (here := .int A.s) (pf := fun x => .tup [.tup [.int A.h, .int A.m, x, .int A.f], B.d]) hj P rfl e1 rfl (fun o X6 X7 X8 => ⟨_, rfl⟩) (fun k x => rfl) (.inl ⟨_, rfl⟩)
    exact ⟨_, (by show (plain2 (.tup ([.int A.h, .int A.m] ++ x :: [.int A.f])) && (plain2 B.d && true)) = true; rw [p2_of (xp_int hx) _ _ rfl rfl]; rfl), fun n => by show ((true && (true && (shp (n + 6) x && (true && (true))))) && (shp (n + 7) B.d && true)) = true; rw [xp_shp (i5 _) hx n, c6 B n]; rfl, e⟩
  · obtain ⟨x, hx, e⟩ := spoilt_gen (pth := [.int 0, .int 3]) (here := .int A.f) (pf := fun x => .tup [.tup [.int A.h, .int A.m, .int A.s, x], B.d]) hj P rfl e1 rfl (fun o X6 X7 X8 => ⟨_, rfl⟩) (fun k x => rfl) (.inl ⟨_, rfl⟩)
    exact ⟨_, (by show (plain2 (.tup ([.int A.h, .int A.m, .int A.s] ++ x :: [])) && (plain2 B.d && true)) = true; rw [p2_of (xp_int hx) _ _ rfl rfl]; rfl), fun n => by show ((true && (true && (true && (shp (n + 6) x && (true))))) && (shp (n + 7) B.d && true)) = true; rw [xp_shp (i5 _) hx n, c6 B n]; rfl, e⟩
  · obtain ⟨x, hx, e⟩ := spoilt_gen (pth := [.int 1]) (here := B.d) (pf := fun x => .tup [A.d, x]) hj P rfl e1 rfl (fun o X6 X7 X8 => ⟨_, rfl⟩) (fun k x => rfl) (.inr ⟨_, rfl, by simp, by simp, s4 B⟩)
    exact ⟨_, (by show (plain2 A.d && (plain2 x && true)) = true; rw [xp_cd hx]; rfl), fun n => by show (shp (n + 7) A.d && (shp (n + 7) x && true)) = true; rw [xp_shp (c5 B) hx (n + 1), c6 A n]; rfl, e⟩
  · obtain ⟨x, hx, e⟩ := spoilt_gen (pth := [.int 1, .int 0]) (here := .int B.h) (pf := fun x => .tup [A.d, .tup [x, .int B.m, .int B.s, .int B.f]]) hj P rfl e1 rfl (fun o X6 X7 X8 => ⟨_, rfl⟩) (fun k x => rfl) (.inl ⟨_, rfl⟩)
    exact ⟨_, (by show (plain2 A.d && (plain2 (.tup ([] ++ x :: [.int B.m, .int B.s, .int B.f])) && true)) = true; rw [p2_of (xp_int hx) _ _ rfl rfl]; rfl), fun n => by show (shp (n + 7) A.d && ((shp (n + 6) x && (true && (true && (true && (true))))) && true)) = true; rw [xp_shp (i5 _) hx n, c6 A n]; rfl, e⟩
  · obtain ⟨x, hx, e⟩ := spoilt_gen (pth := [.int 1, .int 1]) (here := .int B.m) (pf := fun x => .tup [A.d, .tup [.int B.h, x, .int B.s, .int B.f]]) hj P rfl e1 rfl (fun o X6 X7 X8 => ⟨_, rfl⟩) (fun k x => rfl) (.inl ⟨_, rfl⟩)
    exact ⟨_, (by show (plain2 A.d && (plain2 (.tup ([.int B.h] ++ x :: [.int B.s, .int B.f])) && true)) = true; rw [p2_of (xp_int hx) _ _ rfl rfl]; rfl), fun n => by show (shp (n + 7) A.d && ((true && (shp (n + 6) x && (true && (true && (true))))) && true)) = true; rw [xp_shp (i5 _) hx n, c6 A n]; rfl, e⟩
  · obtain ⟨x, hx, e⟩ := spoilt_gen (pth := [.int 1, .int 2]) (here := .int B.s) (pf := fun x => .tup [A.d, .tup [.int B.h, .int B.m, x, .int B.f]]) hj P rfl e1 rfl (fun o X6 X7 X8 => ⟨_, rfl⟩) (fun k x => rfl) (.inl ⟨_, rfl⟩)
    exact ⟨_, (by show (plain2 A.d && (plain2 (.tup ([.int B.h, .int B.m] ++ x :: [.int B.f])) && true)) = true; rw [p2_of (xp_int hx) _ _ rfl rfl]; rfl), fun n => by show (shp (n + 7) A.d && ((true && (true && (shp (n + 6) x && (true && (true))))) && true)) = true; rw [xp_shp (i5 _) hx n, c6 A n]; rfl, e⟩
  · obtain ⟨x, hx, e⟩ := spoilt_gen (pth := [.int 1, .int 3]) (here := .int B.f) (pf := fun x => .tup [A.d, .tup [.int B.h, .int B.m, .int B.s, x]]) hj P rfl e1 rfl (fun o X6 X7 X8 => ⟨_, rfl⟩) (fun k x => rfl) (.inl ⟨_, rfl⟩)
    exact ⟨_, (by show (plain2 A.d && (plain2 (.tup ([.int B.h, .int B.m, .int B.s] ++ x :: [])) && true)) = true; rw [p2_of (xp_int hx) _ _ rfl rfl]; rfl), fun n => by show (shp (n + 7) A.d && ((true && (true && (true && (shp (n + 6) x && (true))))) && true)) = true; rw [xp_shp (i5 _) hx n, c6 A n]; rfl, e⟩
end
end K20
namespace K20
open FD
section
variable {k : Nat} {r : PySem.Str} {d : D} {a b : Int}
/-- whether a thing is a span, as both tell it -/
theorem L_lis_span (hr : r ∈ rates) (hd : plain3 d = true) (hsh : ∀ n, shp (n + 8) d = true) : ∃ q, (∀ k, lev Pr (k + 4) 39 [.str r, d] = .ok (.bl q)) ∧ (∀ k, lev Pr (k + 4) 12 [.str r, d] = .ok (.bl q)) ∧ (q = true → ∃ a b, d = sp r a b ∧ In r a ∧ In r b ∧ a < b) := by
  by_cases h2 : ∃ x y, d = .tup [x, y]
  · obtain ⟨x, y, rfl⟩ := h2
    have hp : (plain2 x && (plain2 y && true)) = true := hd
    rw [Bool.and_eq_true, Bool.and_true] at hp
    obtain ⟨bx, x1, x2, x3⟩ := L_lis_code hr hp.1
    obtain ⟨by', y1, y2, y3⟩ := L_lis_code hr hp.2
    have e1 : isiEv Pr.sub (.tup [x, y]) .tuple = .ok (.bl true) := rfl
    have e2 : biEv .len [.tup [x, y]] = .ok (.int 2) := rfl
    have e3 : seqD (.tup [x, y]) = .ok [x, y] := rfl
    have bo : ∀ p q : Bool, biEv .all [.lst [.bl p, .bl q]] = .ok (.bl (p && (q && true))) := fun p q => rfl
    have ll : (2 : Nat) ≤ lim := by decide
    have l1 : (1 : Nat) ≤ lim := by decide
    have l0 : (0 : Nat) ≤ lim := Nat.zero_le _
    have gx : ∀ k, lev Pr (k + 3) 8 [.str r, x] = .ok (.bl bx) := fun k => by
      cases bx with
      | false => exact x2 rfl k
      | true =>
        obtain ⟨c, rfl, hc⟩ := x3 rfl
        exact L_is_code hr hc
    have gy : ∀ k, lev Pr (k + 3) 8 [.str r, y] = .ok (.bl by') := fun k => by
      cases by' with
      | false => exact y2 rfl k
      | true =>
        obtain ⟨c, rfl, hc⟩ := y3 rfl
        exact L_is_code hr hc
    have shx : shp 59 x = true := by
      have : (shp 59 x && (shp 59 y && true)) = true := hsh 52
      rw [Bool.and_eq_true] at this
      exact this.1
    have shy : shp 59 y = true := by
      have : (shp 59 x && (shp 59 y && true)) = true := hsh 52
      rw [Bool.and_eq_true, Bool.and_eq_true] at this
      exact this.2.1
    have nel : ∀ z zs, shp 60 (.lst (z :: zs)) = true → cmpEv .ne (.lst (z :: zs)) (.lst []) = .ok (.bl true) := fun z zs hz => by
      show guard' (eqOk (.lst (z :: zs)) (.lst [])) (R.ok (D.bl true)) = _
      have : eqOk (.lst (z :: zs)) (.lst []) = true := by
        unfold eqOk
        rw [hz]
        simp [shp, shps]
      rw [this]
      rfl
    have nx : cmpEv .ne (.lst [x]) (.lst []) = .ok (.bl true) := nel x [] (by show (shp 59 x && true) = true; rw [shx]; rfl)
    have ny : cmpEv .ne (.lst [y]) (.lst []) = .ok (.bl true) := nel y [] (by show (shp 59 y && true) = true; rw [shy]; rfl)
    have nxy : cmpEv .ne (.lst [x, y]) (.lst []) = .ok (.bl true) := nel x [y] (by show (shp 59 x && (shp 59 y && true)) = true; rw [shx, shy]; rfl)
    have nn0 : cmpEv .ne (.lst []) (.lst []) = .ok (.bl false) := rfl
    cases bx with
    | false =>
      refine ⟨false, fun k => ?_, fun k => ?_, fun h => by cases h⟩
      · have a1 := x1 k
        have a2 := y1 k
        rw [lev_at (d := d39) rfl]
        cases by' <;> simp [d39, runDef, start, exSs, exS, evE, evT, evL, getV, R.bind, R.st, noexc, truth, guard', binEv, negD, putN, putP, putPs, ci_eq, ci_ne, ci_lt, ci_le, ci_gt, ci_ge, cb_eq, cb_ne, cb_is, cb_isnot, nn_ne, cn_is, cn_isnot, e1, e2, evI, e3, slotsP, wipeV, lcGo, evF, a1, a2, ll, l1, nx, nxy]
      · have a1 := gx k
        have a2 := gy k
        rw [lev_at (d := d12) rfl]
        cases by' <;> simp [d12, runDef, start, exSs, exS, evE, evT, evL, getV, R.bind, R.st, noexc, truth, guard', binEv, negD, putN, putP, putPs, ci_eq, ci_ne, ci_lt, ci_le, ci_gt, ci_ge, cb_eq, cb_ne, cb_is, cb_isnot, nn_ne, cn_is, cn_isnot, e1, e2, evI, e3, slotsP, wipeV, lcGo, evF, L_look_rate hr, a1, a2, bo, ll]
    | true =>
      cases by' with
      | false =>
        refine ⟨false, fun k => ?_, fun k => ?_, fun h => by cases h⟩
        · have a1 := x1 k
          have a2 := y1 k
          rw [lev_at (d := d39) rfl]
          simp [d39, runDef, start, exSs, exS, evE, evT, evL, getV, R.bind, R.st, noexc, truth, guard', binEv, negD, putN, putP, putPs, ci_eq, ci_ne, ci_lt, ci_le, ci_gt, ci_ge, cb_eq, cb_ne, cb_is, cb_isnot, nn_ne, cn_is, cn_isnot, e1, e2, evI, e3, slotsP, wipeV, lcGo, evF, a1, a2, l1, ny]
        · have a1 := gx k
          have a2 := gy k
          rw [lev_at (d := d12) rfl]
          simp [d12, runDef, start, exSs, exS, evE, evT, evL, getV, R.bind, R.st, noexc, truth, guard', binEv, negD, putN, putP, putPs, ci_eq, ci_ne, ci_lt, ci_le, ci_gt, ci_ge, cb_eq, cb_ne, cb_is, cb_isnot, nn_ne, cn_is, cn_isnot, e1, e2, evI, e3, slotsP, wipeV, lcGo, evF, L_look_rate hr, a1, a2, bo, ll]
      | true =>
        obtain ⟨c, rfl, hc⟩ := x3 rfl
        obtain ⟨e, rfl, he⟩ := y3 rfl
        have G := gw_of hr
        have hlt : decide (Clt c e) = decide (cnt (gF r) (wF r) c < cnt (gF r) (wF r) e) := decide_eq_decide.mpr (clt_cnt G hc he)
        refine ⟨decide (cnt (gF r) (wF r) c < cnt (gF r) (wF r) e), fun k => ?_, fun k => ?_, fun h => ?_⟩
        · have a1 := x1 k
          have a2 := y1 k
          have c1 := L_lcount (k := k + 1) (c := c) hr hc.2.2.1 hc.2.2.2.1
          have c2 := L_lcount (k := k + 1) (c := e) hr he.2.2.1 he.2.2.2.1
          rw [lev_at (d := d39) rfl]
          simp [d39, runDef, start, exSs, exS, evE, evT, evL, getV, R.bind, R.st, noexc, truth, guard', binEv, negD, putN, putP, putPs, ci_eq, ci_ne, ci_lt, ci_le, ci_gt, ci_ge, cb_eq, cb_ne, cb_is, cb_isnot, nn_ne, cn_is, cn_isnot, e1, e2, evI, e3, slotsP, wipeV, lcGo, evF, a1, a2, l0, nn0, ti0, ti1, c1, c2]
        · have a1 := gx k
          have a2 := gy k
          have cl := cd_lt c e
          rw [hlt] at cl
          rw [lev_at (d := d12) rfl]
          simp [d12, runDef, start, exSs, exS, evE, evT, evL, getV, R.bind, R.st, noexc, truth, guard', binEv, negD, putN, putP, putPs, ci_eq, ci_ne, ci_lt, ci_le, ci_gt, ci_ge, cb_eq, cb_ne, cb_is, cb_isnot, nn_ne, cn_is, cn_isnot, e1, e2, evI, e3, slotsP, wipeV, lcGo, evF, L_look_rate hr, a1, a2, bo, ll, ti0, ti1, cl]
        · refine ⟨cnt (gF r) (wF r) c, cnt (gF r) (wF r) e, ?_, ⟨cnt_nn G hc, cnt_lt G hc⟩, ⟨cnt_nn G he, cnt_lt G he⟩, of_decide_eq_true h⟩
          unfold sp spD2 cdD
          rw [cod_cnt G hc, cod_cnt G he]
  · refine ⟨false, fun k => ?_, fun k => ?_, fun h => by cases h⟩
    · cases d with
      | tup xs =>
        have hl : ¬ ((xs.length : Nat) : Int) = 2 := by
          intro hl
          match xs, hl, h2 with
          | [a, b], _, h => exact h ⟨a, b, rfl⟩
          | [], hl, _ => simp at hl
          | [_], hl, _ => simp at hl
          | _ :: _ :: _ :: t, hl, _ => simp only [List.length_cons] at hl; omega
        rw [lev_at (d := d39) rfl]
        simp [d39, runDef, start, exSs, exS, evE, evT, evL, getV, R.bind, R.st, noexc, truth, guard', binEv, negD, putN, putP, putPs, ci_eq, ci_ne, ci_lt, ci_le, ci_gt, ci_ge, cb_eq, cb_ne, cb_is, cb_isnot, nn_ne, cn_is, cn_isnot, isiEv, biEv, un1, lenD, hl]
      | non => rfl
      | bl b => rfl
      | int i => rfl
      | str s => rfl
      | lst xs => rfl
      | _ => cases hd
    · have lr := L_look_rate (k := k + 1) hr
      rw [lev_at (d := d12) rfl]
      cases d with
      | tup xs =>
        have hl : ¬ ((xs.length : Nat) : Int) = 2 := by
          intro hl
          match xs, hl, h2 with
          | [a, b], _, h => exact h ⟨a, b, rfl⟩
          | [], hl, _ => simp at hl
          | [_], hl, _ => simp at hl
          | _ :: _ :: _ :: t, hl, _ => simp only [List.length_cons] at hl; omega
        simp [d12, runDef, start, exSs, exS, evE, evT, evL, getV, R.bind, R.st, noexc, truth, guard', binEv, negD, putN, putP, putPs, ci_eq, ci_ne, ci_lt, ci_le, ci_gt, ci_ge, cb_eq, cb_ne, cb_is, cb_isnot, nn_ne, cn_is, cn_isnot, isiEv, biEv, un1, lenD, hl, lr]
      | non => simp [d12, runDef, start, exSs, exS, evE, evT, evL, getV, R.bind, R.st, noexc, truth, guard', binEv, negD, putN, putP, putPs, ci_eq, ci_ne, ci_lt, ci_le, ci_gt, ci_ge, cb_eq, cb_ne, cb_is, cb_isnot, nn_ne, cn_is, cn_isnot, isiEv, lr]
      | bl b => simp [d12, runDef, start, exSs, exS, evE, evT, evL, getV, R.bind, R.st, noexc, truth, guard', binEv, negD, putN, putP, putPs, ci_eq, ci_ne, ci_lt, ci_le, ci_gt, ci_ge, cb_eq, cb_ne, cb_is, cb_isnot, nn_ne, cn_is, cn_isnot, isiEv, lr]
      | int i => simp [d12, runDef, start, exSs, exS, evE, evT, evL, getV, R.bind, R.st, noexc, truth, guard', binEv, negD, putN, putP, putPs, ci_eq, ci_ne, ci_lt, ci_le, ci_gt, ci_ge, cb_eq, cb_ne, cb_is, cb_isnot, nn_ne, cn_is, cn_isnot, isiEv, lr]
      | str s => simp [d12, runDef, start, exSs, exS, evE, evT, evL, getV, R.bind, R.st, noexc, truth, guard', binEv, negD, putN, putP, putPs, ci_eq, ci_ne, ci_lt, ci_le, ci_gt, ci_ge, cb_eq, cb_ne, cb_is, cb_isnot, nn_ne, cn_is, cn_isnot, isiEv, lr]
      | lst xs => simp [d12, runDef, start, exSs, exS, evE, evT, evL, getV, R.bind, R.st, noexc, truth, guard', binEv, negD, putN, putP, putPs, ci_eq, ci_ne, ci_lt, ci_le, ci_gt, ci_ge, cb_eq, cb_ne, cb_is, cb_isnot, nn_ne, cn_is, cn_isnot, isiEv, lr]
      | _ => cases hd
theorem L_look_span_no (h : ∀ k, lev Pr (k + 4) 12 [.str r, d] = .ok (.bl false)) (k : Nat) : lev Pr (k + 5) 13 [.str r, d] = .exc 4 := by
  have := h k
  rw [lev_at (d := d13) rfl]
  simp [d13, runDef, start, exSs, exS, evE, evT, evL, getV, R.bind, R.st, noexc, truth, guard', binEv, negD, putN, putP, putPs, ci_eq, ci_ne, ci_lt, ci_le, ci_gt, ci_ge, cb_eq, cb_ne, cb_is, cb_isnot, nn_ne, cn_is, cn_isnot, this]
variable {q x y : D}
theorem do0 (h : lev Pr (k + 9) 16 [q, x] = .ok d) : lev Pr (k + 10) 37 [.int 0, q, x, y] = .ok d := by
  rw [lev_at (d := d37) rfl]
  simp [d37, runDef, start, exSs, exS, evE, evT, evL, getV, R.bind, R.st, noexc, truth, guard', binEv, negD, putN, putP, putPs, ci_eq, ci_ne, ci_lt, ci_le, ci_gt, ci_ge, cb_eq, cb_ne, cb_is, cb_isnot, nn_ne, cn_is, cn_isnot, h]
theorem do0x {c : Nat} {s : PySem.Str} (h : lev Pr (k + 9) 16 [q, x] = .exc c) (w : lev Pr (k + 9) 36 [.exc c] = .ok (.str s)) (h1 : Pr.sub c 0 = true) (h2 : c < Pr.nc) : lev Pr (k + 10) 37 [.int 0, q, x, y] = .ok (.str s) := by
  have h3 : cmpEv .is (.exc c) .non = .ok (.bl false) := rfl
  rw [lev_at (d := d37) rfl]
  simp [d37, runDef, start, exSs, exS, evE, evT, evL, getV, R.bind, R.st, noexc, truth, guard', binEv, negD, putN, putP, putPs, ci_eq, ci_ne, ci_lt, ci_le, ci_gt, ci_ge, cb_eq, cb_ne, cb_is, cb_isnot, nn_ne, cn_is, cn_isnot, h, h1, h2, h3, putA, unAs, SR.unAs, w]
theorem do1 (h : lev Pr (k + 9) 12 [q, x] = .ok d) : lev Pr (k + 10) 37 [.int 1, q, x, y] = .ok d := by
  rw [lev_at (d := d37) rfl]
  simp [d37, runDef, start, exSs, exS, evE, evT, evL, getV, R.bind, R.st, noexc, truth, guard', binEv, negD, putN, putP, putPs, ci_eq, ci_ne, ci_lt, ci_le, ci_gt, ci_ge, cb_eq, cb_ne, cb_is, cb_isnot, nn_ne, cn_is, cn_isnot, h]
theorem do1x {c : Nat} {s : PySem.Str} (h : lev Pr (k + 9) 12 [q, x] = .exc c) (w : lev Pr (k + 9) 36 [.exc c] = .ok (.str s)) (h1 : Pr.sub c 0 = true) (h2 : c < Pr.nc) : lev Pr (k + 10) 37 [.int 1, q, x, y] = .ok (.str s) := by
  have h3 : cmpEv .is (.exc c) .non = .ok (.bl false) := rfl
  rw [lev_at (d := d37) rfl]
  simp [d37, runDef, start, exSs, exS, evE, evT, evL, getV, R.bind, R.st, noexc, truth, guard', binEv, negD, putN, putP, putPs, ci_eq, ci_ne, ci_lt, ci_le, ci_gt, ci_ge, cb_eq, cb_ne, cb_is, cb_isnot, nn_ne, cn_is, cn_isnot, h, h1, h2, h3, putA, unAs, SR.unAs, w]
theorem do2 (h : lev Pr (k + 9) 17 [q, x, y] = .ok d) : lev Pr (k + 10) 37 [.int 2, q, x, y] = .ok d := by
  have ix : idxEv (.lst [.fn 17, .fn 18, .fn 19]) (.int 0) = .ok (.fn 17) := rfl
  rw [lev_at (d := d37) rfl]
  simp [d37, runDef, start, exSs, exS, evE, evT, evL, getV, R.bind, R.st, noexc, truth, guard', binEv, negD, putN, putP, putPs, ci_eq, ci_ne, ci_lt, ci_le, ci_gt, ci_ge, cb_eq, cb_ne, cb_is, cb_isnot, nn_ne, cn_is, cn_isnot, ix, h]
theorem do2x {c : Nat} {s : PySem.Str} (h : lev Pr (k + 9) 17 [q, x, y] = .exc c) (w : lev Pr (k + 9) 36 [.exc c] = .ok (.str s)) (h1 : Pr.sub c 0 = true) (h2 : c < Pr.nc) : lev Pr (k + 10) 37 [.int 2, q, x, y] = .ok (.str s) := by
  have h3 : cmpEv .is (.exc c) .non = .ok (.bl false) := rfl
  have ix : idxEv (.lst [.fn 17, .fn 18, .fn 19]) (.int 0) = .ok (.fn 17) := rfl
  rw [lev_at (d := d37) rfl]
  simp [d37, runDef, start, exSs, exS, evE, evT, evL, getV, R.bind, R.st, noexc, truth, guard', binEv, negD, putN, putP, putPs, ci_eq, ci_ne, ci_lt, ci_le, ci_gt, ci_ge, cb_eq, cb_ne, cb_is, cb_isnot, nn_ne, cn_is, cn_isnot, ix, h, h1, h2, h3, putA, unAs, SR.unAs, w]
theorem do3 (h : lev Pr (k + 9) 18 [q, x, y] = .ok d) : lev Pr (k + 10) 37 [.int 3, q, x, y] = .ok d := by
  have ix : idxEv (.lst [.fn 17, .fn 18, .fn 19]) (.int 1) = .ok (.fn 18) := rfl
  rw [lev_at (d := d37) rfl]
  simp [d37, runDef, start, exSs, exS, evE, evT, evL, getV, R.bind, R.st, noexc, truth, guard', binEv, negD, putN, putP, putPs, ci_eq, ci_ne, ci_lt, ci_le, ci_gt, ci_ge, cb_eq, cb_ne, cb_is, cb_isnot, nn_ne, cn_is, cn_isnot, ix, h]
theorem do3x {c : Nat} {s : PySem.Str} (h : lev Pr (k + 9) 18 [q, x, y] = .exc c) (w : lev Pr (k + 9) 36 [.exc c] = .ok (.str s)) (h1 : Pr.sub c 0 = true) (h2 : c < Pr.nc) : lev Pr (k + 10) 37 [.int 3, q, x, y] = .ok (.str s) := by
  have h3 : cmpEv .is (.exc c) .non = .ok (.bl false) := rfl
  have ix : idxEv (.lst [.fn 17, .fn 18, .fn 19]) (.int 1) = .ok (.fn 18) := rfl
  rw [lev_at (d := d37) rfl]
  simp [d37, runDef, start, exSs, exS, evE, evT, evL, getV, R.bind, R.st, noexc, truth, guard', binEv, negD, putN, putP, putPs, ci_eq, ci_ne, ci_lt, ci_le, ci_gt, ci_ge, cb_eq, cb_ne, cb_is, cb_isnot, nn_ne, cn_is, cn_isnot, ix, h, h1, h2, h3, putA, unAs, SR.unAs, w]
theorem do4 (h : lev Pr (k + 9) 19 [q, x, y] = .ok d) : lev Pr (k + 10) 37 [.int 4, q, x, y] = .ok d := by
  have ix : idxEv (.lst [.fn 17, .fn 18, .fn 19]) (.int 2) = .ok (.fn 19) := rfl
  rw [lev_at (d := d37) rfl]
  simp [d37, runDef, start, exSs, exS, evE, evT, evL, getV, R.bind, R.st, noexc, truth, guard', binEv, negD, putN, putP, putPs, ci_eq, ci_ne, ci_lt, ci_le, ci_gt, ci_ge, cb_eq, cb_ne, cb_is, cb_isnot, nn_ne, cn_is, cn_isnot, ix, h]
theorem do4x {c : Nat} {s : PySem.Str} (h : lev Pr (k + 9) 19 [q, x, y] = .exc c) (w : lev Pr (k + 9) 36 [.exc c] = .ok (.str s)) (h1 : Pr.sub c 0 = true) (h2 : c < Pr.nc) : lev Pr (k + 10) 37 [.int 4, q, x, y] = .ok (.str s) := by
  have h3 : cmpEv .is (.exc c) .non = .ok (.bl false) := rfl
  have ix : idxEv (.lst [.fn 17, .fn 18, .fn 19]) (.int 2) = .ok (.fn 19) := rfl
  rw [lev_at (d := d37) rfl]
  simp [d37, runDef, start, exSs, exS, evE, evT, evL, getV, R.bind, R.st, noexc, truth, guard', binEv, negD, putN, putP, putPs, ci_eq, ci_ne, ci_lt, ci_le, ci_gt, ci_ge, cb_eq, cb_ne, cb_is, cb_isnot, nn_ne, cn_is, cn_isnot, ix, h, h1, h2, h3, putA, unAs, SR.unAs, w]
abbrev wSpan : PySem.Str := ⟨#[110, 111, 32, 115, 112, 97, 110]⟩
abbrev wNumber : PySem.Str := ⟨#[110, 111, 32, 110, 117, 109, 98, 101, 114]⟩
abbrev wRate : PySem.Str := ⟨#[110, 111, 32, 114, 97, 116, 101]⟩
abbrev wFar : PySem.Str := ⟨#[116, 111, 111, 32, 102, 97, 114]⟩
abbrev wFit : PySem.Str := ⟨#[110, 111, 32, 102, 105, 116]⟩
/-- what is told where the first is no span -/
theorem first_no (h : ∀ k, lev Pr (k + 5) 13 [q, x] = .exc 4) (k : Nat) (y : D) : lev Pr (k + 6) 16 [q, x] = .exc 4 ∧ lev Pr (k + 6) 17 [q, x, y] = .exc 4 ∧ lev Pr (k + 6) 18 [q, x, y] = .exc 4 ∧ lev Pr (k + 6) 19 [q, x, y] = .exc 4 := by
  have := h k
  refine ⟨?_, ?_, ?_, ?_⟩
  · rw [lev_at (d := d16) rfl]; simp [d16, runDef, start, exSs, exS, evE, evT, evL, getV, R.bind, R.st, noexc, truth, guard', binEv, negD, putN, putP, putPs, ci_eq, ci_ne, ci_lt, ci_le, ci_gt, ci_ge, cb_eq, cb_ne, cb_is, cb_isnot, nn_ne, cn_is, cn_isnot, this]
  · rw [lev_at (d := d17) rfl]; simp [d17, runDef, start, exSs, exS, evE, evT, evL, getV, R.bind, R.st, noexc, truth, guard', binEv, negD, putN, putP, putPs, ci_eq, ci_ne, ci_lt, ci_le, ci_gt, ci_ge, cb_eq, cb_ne, cb_is, cb_isnot, nn_ne, cn_is, cn_isnot, this]
  · rw [lev_at (d := d18) rfl]; simp [d18, runDef, start, exSs, exS, evE, evT, evL, getV, R.bind, R.st, noexc, truth, guard', binEv, negD, putN, putP, putPs, ci_eq, ci_ne, ci_lt, ci_le, ci_gt, ci_ge, cb_eq, cb_ne, cb_is, cb_isnot, nn_ne, cn_is, cn_isnot, this]
  · rw [lev_at (d := d19) rfl]; simp [d19, runDef, start, exSs, exS, evE, evT, evL, getV, R.bind, R.st, noexc, truth, guard', binEv, negD, putN, putP, putPs, ci_eq, ci_ne, ci_lt, ci_le, ci_gt, ci_ge, cb_eq, cb_ne, cb_is, cb_isnot, nn_ne, cn_is, cn_isnot, this]
theorem second_no (h1 : ∀ k, lev Pr (k + 5) 13 [q, x] = .ok .non) (h : ∀ k, lev Pr (k + 5) 13 [q, y] = .exc 4) (k : Nat) : lev Pr (k + 6) 18 [q, x, y] = .exc 4 ∧ lev Pr (k + 6) 19 [q, x, y] = .exc 4 := by
  have a1 := h1 k
  have := h k
  refine ⟨?_, ?_⟩
  · rw [lev_at (d := d18) rfl]; simp [d18, runDef, start, exSs, exS, evE, evT, evL, getV, R.bind, R.st, noexc, truth, guard', binEv, negD, putN, putP, putPs, ci_eq, ci_ne, ci_lt, ci_le, ci_gt, ci_ge, cb_eq, cb_ne, cb_is, cb_isnot, nn_ne, cn_is, cn_isnot, a1, this]
  · rw [lev_at (d := d19) rfl]; simp [d19, runDef, start, exSs, exS, evE, evT, evL, getV, R.bind, R.st, noexc, truth, guard', binEv, negD, putN, putP, putPs, ci_eq, ci_ne, ci_lt, ci_le, ci_gt, ci_ge, cb_eq, cb_ne, cb_is, cb_isnot, nn_ne, cn_is, cn_isnot, a1, this]
end
end K20
namespace K20
open FD
theorem spw (k : Nat) : lev Pr (k + 1) 36 [.exc 4] = .ok (.str wSpan) := rfl
theorem nuw (k : Nat) : lev Pr (k + 1) 36 [.exc 3] = .ok (.str wNumber) := rfl
theorem raw (k : Nat) : lev Pr (k + 1) 36 [.exc 1] = .ok (.str wRate) := rfl
theorem faw (k : Nat) : lev Pr (k + 1) 36 [.exc 5] = .ok (.str wFar) := rfl
theorem fiw (k : Nat) : lev Pr (k + 1) 36 [.exc 6] = .ok (.str wFit) := rfl
theorem sp_shp8 {r : PySem.Str} {a b : Int} (n : Nat) : shp (n + 8) (sp r a b) = true := by
  show (shp (n + 7) (cdr r a) && (shp (n + 7) (cdr r b) && true)) = true
  rw [show shp (n + 7) (cdr r a) = true from cd_shp _ (n + 6), show shp (n + 7) (cdr r b) = true from cd_shp _ (n + 6)]
  rfl
/-- what is told of a thing -/
theorem rows_ok {r : PySem.Str} {a b : Int} {d : D} (hr : r ∈ rates) (ha : In r a) (hb : In r b) (hab : a < b) (hd : plain3 d = true) (hsh : ∀ n, shp (n + 8) d = true) : ∃ q z0 z2 z3 z4 y3 y4, lev Pr 10 39 [.str r, d] = .ok (.bl q) ∧ lev Pr 10 37 [.int 1, .str r, d, .non] = .ok (.bl q) ∧ lev Pr 10 37 [.int 0, .str r, d, .non] = .ok z0 ∧ lev Pr 10 37 [.int 2, .str r, d, .non] = .ok z2 ∧ lev Pr 10 37 [.int 3, .str r, d, .non] = .ok z3 ∧ lev Pr 10 37 [.int 4, .str r, d, .non] = .ok z4 ∧ lev Pr 10 37 [.int 3, .str r, sp r a b, d] = .ok y3 ∧ lev Pr 10 37 [.int 4, .str r, sp r a b, d] = .ok y4 ∧ (q = false → z0 = .str wSpan ∧ z2 = .str wSpan ∧ z3 = .str wSpan ∧ z4 = .str wSpan ∧ y3 = .str wSpan ∧ y4 = .str wSpan) := by
  obtain ⟨q, h1, h2, h3⟩ := L_lis_span hr hd hsh
  have H1 := h1 6
  have H2 := do1 (k := 0) (y := .non) (h2 5)
  have lk1 : ∀ k, lev Pr (k + 5) 13 [.str r, sp r a b] = .ok .non := fun k => L_look_span hr ha hb hab
  cases q with
  | false =>
    have ln := L_look_span_no h2
    obtain ⟨f0, f2, f3, f4⟩ := first_no ln 3 .non
    obtain ⟨g3, g4⟩ := second_no lk1 ln 3
    exact ⟨false, _, _, _, _, _, _, H1, H2, do0x (k := 0) f0 (spw _) rfl (by decide), do2x (k := 0) f2 (spw _) rfl (by decide), do3x (k := 0) f3 (spw _) rfl (by decide), do4x (k := 0) f4 (spw _) rfl (by decide), do3x (k := 0) g3 (spw _) rfl (by decide), do4x (k := 0) g4 (spw _) rfl (by decide), fun _ => ⟨rfl, rfl, rfl, rfl, rfl, rfl⟩⟩
  | true =>
    obtain ⟨c, e, rfl, hc, he, hce⟩ := h3 rfl
    have lk2 : ∀ k, lev Pr (k + 5) 13 [.str r, sp r c e] = .ok .non := fun k => L_look_span hr hc he hce
    have nln : ∀ k, lev Pr (k + 5) 13 [.str r, .non] = .exc 4 := by
      intro k
      have ns : ∀ k, lev Pr (k + 4) 12 [.str r, .non] = .ok (.bl false) := fun k => by
        have lr := L_look_rate (k := k + 1) hr
        rw [lev_at (d := d12) rfl]
        simp [d12, runDef, start, exSs, exS, evE, evT, evL, getV, R.bind, R.st, noexc, truth, guard', binEv, negD, putN, putP, putPs, ci_eq, ci_ne, ci_lt, ci_le, ci_gt, ci_ge, cb_eq, cb_ne, cb_is, cb_isnot, nn_ne, cn_is, cn_isnot, isiEv, lr]
      exact L_look_span_no ns k
    obtain ⟨g3, g4⟩ := second_no lk2 nln 3
    have lo := L_long (k := 3) hr hc he hce
    have sh : lev Pr 9 17 [.str r, sp r c e, .non] = .exc 3 := by
      have l1 := lk2 3
      have l2 : lev Pr 8 11 [.non] = .exc 3 := rfl
      simp only [Nat.reduceAdd] at l1
      rw [lev_at (d := d17) rfl]
      simp [d17, runDef, start, exSs, exS, evE, evT, evL, getV, R.bind, R.st, noexc, truth, guard', binEv, negD, putN, putP, putPs, ci_eq, ci_ne, ci_lt, ci_le, ci_gt, ci_ge, cb_eq, cb_ne, cb_is, cb_isnot, nn_ne, cn_is, cn_isnot, l1, l2]
    obtain ⟨f, hf⟩ : ∃ f : Int, (a < c ∧ f = c) ∨ (¬ a < c ∧ f = a) := by
      by_cases z : a < c
      · exact ⟨c, .inl ⟨z, rfl⟩⟩
      · exact ⟨a, .inr ⟨z, rfl⟩⟩
    obtain ⟨l, hl⟩ : ∃ l : Int, (e < b ∧ l = e) ∨ (¬ e < b ∧ l = b) := by
      by_cases z : e < b
      · exact ⟨e, .inl ⟨z, rfl⟩⟩
      · exact ⟨b, .inr ⟨z, rfl⟩⟩
    have cm := L_common (k := 3) hr ha hb hab hc he hce hf hl
    have jo : ∃ y4, lev Pr 10 37 [.int 4, .str r, sp r a b, sp r c e] = .ok y4 := by
      by_cases hfl : l < f
      · exact ⟨_, do4x (k := 0) (L_joined_no (k := 3) hr ha hb hab hc he hce hf hl hfl) (fiw _) rfl (by decide)⟩
      · obtain ⟨p, hp⟩ : ∃ p : Int, (c < a ∧ p = c) ∨ (¬ c < a ∧ p = a) := by
          by_cases z : c < a
          · exact ⟨c, .inl ⟨z, rfl⟩⟩
          · exact ⟨a, .inr ⟨z, rfl⟩⟩
        obtain ⟨q, hq⟩ : ∃ q : Int, (b < e ∧ q = e) ∨ (¬ b < e ∧ q = b) := by
          by_cases z : b < e
          · exact ⟨e, .inl ⟨z, rfl⟩⟩
          · exact ⟨b, .inr ⟨z, rfl⟩⟩
        exact ⟨_, do4 (k := 0) (L_joined (k := 3) hr ha hb hab hc he hce hf hl hfl hp hq)⟩
    obtain ⟨y4, hy4⟩ := jo
    exact ⟨true, _, _, _, _, _, y4, H1, H2, do0 (k := 0) lo, do2x (k := 0) sh (nuw _) rfl (by decide), do3x (k := 0) g3 (spw _) rfl (by decide), do4x (k := 0) g4 (spw _) rfl (by decide), do3 (k := 0) cm, hy4, fun z => by cases z⟩
theorem L_apart {r : PySem.Str} {a b : Int} (hr : r ∈ rates) (ns : List Int) (ha : In r a) (hb : In r b) (hab : a < b) : lev Pr 11 41 [.scr ns, .str r, sp r a b] = .ok (.bl true) := by
  obtain ⟨B, hB⟩ : ∃ B : ISs, B = (.cons (.asg (.nm 4) (.call 34 (.cons (.var 0) (.cons (.bin .add (.cst (.int 300)) (.bin .mul (.cst (.int 5)) (.var 3))) (.cons (.var 2) .nil))))) (.cons (.iff (.cmp .lt (.var 3) (.cst (.int 2))) (.cons (.asg (.nm 4) (.tup (.cons (.idx (.var 2) (.cst (.int 1))) (.cons (.idx (.var 2) (.var 3)) .nil)))) .nil) .nil) (.cons (.asg (.nm 5) (.call 37 (.cons (.cst (.int 1)) (.cons (.var 1) (.cons (.var 4) (.cons (.cst (.non)) .nil)))))) (.cons (.iff (.or (.cmp .ne (.var 5) (.call 39 (.cons (.var 1) (.cons (.var 4) .nil)))) (.nt (.isi (.var 5) .bool))) (.cons (.ret (.cst (.bl false))) .nil) .nil) (.cons (.own 6 (.lc (.call 37 (.cons (.var 7) (.cons (.var 1) (.cons (.var 4) (.cons (.cst (.non)) .nil))))) (.nm 7) (.seq (.tup (.cons (.cst (.int 0)) (.cons (.cst (.int 2)) (.cons (.cst (.int 3)) (.cons (.cst (.int 4)) .nil)))))) .nil)) (.cons (.ext 6 (.lc (.call 37 (.cons (.var 7) (.cons (.var 1) (.cons (.var 2) (.cons (.var 4) .nil))))) (.nm 7) (.seq (.tup (.cons (.cst (.int 3)) (.cons (.cst (.int 4)) .nil)))) .nil)) (.cons (.frz 6) (.cons (.iff (.and (.nt (.var 5)) (.cmp .ne (.var 6) (.bin .mul (.lst (.cons (.cst (.str ⟨#[110, 111, 32, 115, 112, 97, 110]⟩)) .nil)) (.cst (.int 6))))) (.cons (.ret (.cst (.bl false))) .nil) .nil) .nil)))))))) := ⟨_, rfl⟩
  have i1 : ∀ a b : Int, binEv .add (.int a) (.int b) = .ok (.int (a + b)) := fun _ _ => rfl
  have m6 : binEv .mul (.lst [.str wSpan]) (.int 6) = .ok (.lst [.str wSpan, .str wSpan, .str wSpan, .str wSpan, .str wSpan, .str wSpan]) := rfl
  have n6 : cmpEv .ne (.lst [.str wSpan, .str wSpan, .str wSpan, .str wSpan, .str wSpan, .str wSpan]) (.lst [.str wSpan, .str wSpan, .str wSpan, .str wSpan, .str wSpan, .str wSpan]) = .ok (.bl false) := rfl
  have l4 : (4 : Nat) ≤ lim := by decide
  have l2 : (2 : Nat) ≤ lim := by decide
  have l42 : (4 : Nat) + 2 ≤ lim := by decide
  have loop := for_ix (j := 3) (b := exSs ⟨lev Pr 10, Pr.sub, Pr.cst, Pr.nc⟩ B) (I := fun _ ρ => ∃ x3 x4 x5 x6, ρ = [.pv (.scr ns), .pv (.str r), .pv (sp r a b), x3, x4, x5, x6, .un, .un]) 6 0
    [.pv (.scr ns), .pv (.str r), .pv (sp r a b), .un, .un, .un, .un, .un, .un] ⟨_, _, _, _, rfl⟩ (by
    rintro t ρ t0 t1 ⟨x3, x4, x5, x6, rfl⟩
    obtain ⟨d0, hd0, hs0, es⟩ := L_spoilt_span (cod (gF r) (wF r) a) (cod (gF r) (wF r) b) ns (j := 300 + 5 * t) (by omega)
    have ES : lev Pr 10 34 [.scr ns, .int (300 + 5 * t), sp r a b] = .ok d0 := es 6
    have m5 : binEv .mul (.int 5) (.int t) = .ok (.int (5 * t)) := by
      show guard' (mulOk 5 t) (R.ok (D.int (5 * t))) = _
      rw [mulOk_l (by decide)]
      rfl
    obtain ⟨d, hd, hs, pre⟩ : ∃ d, plain3 d = true ∧ (∀ n, shp (n + 8) d = true) ∧ ∀ x3 x4 x5 x6 : SV, exSs ⟨lev Pr 10, Pr.sub, Pr.cst, Pr.nc⟩ B [.pv (.scr ns), .pv (.str r), .pv (sp r a b), .pv (.int t), x4, x5, x6, .un, .un] = exSs ⟨lev Pr 10, Pr.sub, Pr.cst, Pr.nc⟩ (.cons (.asg (.nm 5) (.call 37 (.cons (.cst (.int 1)) (.cons (.var 1) (.cons (.var 4) (.cons (.cst (.non)) .nil)))))) (.cons (.iff (.or (.cmp .ne (.var 5) (.call 39 (.cons (.var 1) (.cons (.var 4) .nil)))) (.nt (.isi (.var 5) .bool))) (.cons (.ret (.cst (.bl false))) .nil) .nil) (.cons (.own 6 (.lc (.call 37 (.cons (.var 7) (.cons (.var 1) (.cons (.var 4) (.cons (.cst (.non)) .nil))))) (.nm 7) (.seq (.tup (.cons (.cst (.int 0)) (.cons (.cst (.int 2)) (.cons (.cst (.int 3)) (.cons (.cst (.int 4)) .nil)))))) .nil)) (.cons (.ext 6 (.lc (.call 37 (.cons (.var 7) (.cons (.var 1) (.cons (.var 2) (.cons (.var 4) .nil))))) (.nm 7) (.seq (.tup (.cons (.cst (.int 3)) (.cons (.cst (.int 4)) .nil)))) .nil)) (.cons (.frz 6) (.cons (.iff (.and (.nt (.var 5)) (.cmp .ne (.var 6) (.bin .mul (.lst (.cons (.cst (.str ⟨#[110, 111, 32, 115, 112, 97, 110]⟩)) .nil)) (.cst (.int 6))))) (.cons (.ret (.cst (.bl false))) .nil) .nil) .nil)))))) [.pv (.scr ns), .pv (.str r), .pv (sp r a b), .pv (.int t), .pv d, x5, x6, .un, .un] := by
      obtain ⟨C, hC⟩ : ∃ C : ISs, C = (.cons (.asg (.nm 5) (.call 37 (.cons (.cst (.int 1)) (.cons (.var 1) (.cons (.var 4) (.cons (.cst (.non)) .nil)))))) (.cons (.iff (.or (.cmp .ne (.var 5) (.call 39 (.cons (.var 1) (.cons (.var 4) .nil)))) (.nt (.isi (.var 5) .bool))) (.cons (.ret (.cst (.bl false))) .nil) .nil) (.cons (.own 6 (.lc (.call 37 (.cons (.var 7) (.cons (.var 1) (.cons (.var 4) (.cons (.cst (.non)) .nil))))) (.nm 7) (.seq (.tup (.cons (.cst (.int 0)) (.cons (.cst (.int 2)) (.cons (.cst (.int 3)) (.cons (.cst (.int 4)) .nil)))))) .nil)) (.cons (.ext 6 (.lc (.call 37 (.cons (.var 7) (.cons (.var 1) (.cons (.var 2) (.cons (.var 4) .nil))))) (.nm 7) (.seq (.tup (.cons (.cst (.int 3)) (.cons (.cst (.int 4)) .nil)))) .nil)) (.cons (.frz 6) (.cons (.iff (.and (.nt (.var 5)) (.cmp .ne (.var 6) (.bin .mul (.lst (.cons (.cst (.str ⟨#[110, 111, 32, 115, 112, 97, 110]⟩)) .nil)) (.cst (.int 6))))) (.cons (.ret (.cst (.bl false))) .nil) .nil) .nil)))))) := ⟨_, rfl⟩
      rw [← hC]
      by_cases h2 : t < 2
      · have ht : t = 0 ∨ t = 1 := by omega
        have e1 : idxEv (sp r a b) (.int 1) = .ok (cdr r b) := q_1
        rcases ht with rfl | rfl
        · refine ⟨sp r b a, rfl, sp_shp8, fun x3 x4 x5 x6 => ?_⟩
          have e0 : idxEv (sp r a b) (.int 0) = .ok (cdr r a) := q_0
          have ES0 : lev Pr 10 34 [.scr ns, .int 300, sp r a b] = .ok d0 := ES
          have m50 : binEv .mul (.int 5) (.int 0) = .ok (.int 0) := m5
          have ep : D.tup [cdr r b, cdr r a] = sp r b a := rfl
          rw [hB, ← hC]
          simp [exSs, exS, evE, evT, evL, getV, R.bind, R.st, noexc, truth, putP, i1, m50, ES0, ci_lt, e0, e1, ep]
        · refine ⟨sp r b b, rfl, sp_shp8, fun x3 x4 x5 x6 => ?_⟩
          have ep : D.tup [cdr r b, cdr r b] = sp r b b := rfl
          have ES1 : lev Pr 10 34 [.scr ns, .int 305, sp r a b] = .ok d0 := ES
          have m51 : binEv .mul (.int 5) (.int 1) = .ok (.int 5) := m5
          rw [hB, ← hC]
          simp [exSs, exS, evE, evT, evL, getV, R.bind, R.st, noexc, truth, putP, i1, m51, ES1, ci_lt, e1, ep]
      · refine ⟨d0, hd0, hs0, fun x3 x4 x5 x6 => ?_⟩
        rw [hB, ← hC]
        simp [exSs, exS, evE, evT, evL, getV, R.bind, R.st, noexc, truth, putP, i1, m5, ES, ci_lt, h2]
    obtain ⟨q, z0, z2, z3, z4, y3, y4, a0, a1, a2, a3, a4, a5, a6, a7, hq⟩ := rows_ok hr ha hb hab hd hs
    refine ⟨[.pv (.scr ns), .pv (.str r), .pv (sp r a b), .pv (.int t), .pv d, .pv (.bl q), .pv (.lst [z0, z2, z3, z4, y3, y4]), .un, .un], ?_, _, _, _, _, rfl⟩
    show exSs ⟨lev Pr 10, Pr.sub, Pr.cst, Pr.nc⟩ B [.pv (.scr ns), .pv (.str r), .pv (sp r a b), .pv (.int t), x4, x5, x6, .un, .un] = _
    rw [pre x3 x4 x5 x6]
    have ib : isiEv Pr.sub (.bl q) .bool = .ok (.bl true) := rfl
    cases q with
    | false =>
      obtain ⟨rfl, rfl, rfl, rfl, rfl, rfl⟩ := hq rfl
      simp [exSs, exS, evE, evT, evL, getV, getO, R.bind, R.st, noexc, truth, putP, guard', evI, seqD, slotsP, wipeV, lcGo, evF, a0, a1, a2, a3, a4, a5, a6, a7, cb_ne, ib, l4, l2, l42, m6, n6]
    | true =>
      simp [exSs, exS, evE, evT, evL, getV, getO, R.bind, R.st, noexc, truth, putP, guard', evI, seqD, slotsP, wipeV, lcGo, evF, a0, a1, a2, a3, a4, a5, a6, a7, cb_ne, ib, l4, l2, l42])
  obtain ⟨ρ', lp, x3, x4, x5, x6, rfl⟩ := loop
  have lk1 := L_look_span (k := 3) hr ha hb hab
  have nb : ∀ o : D, lev Pr 8 11 [o] = .exc 3 → lev Pr 10 37 [.int 2, .str r, sp r a b, o] = .ok (.str wNumber) := fun o ho => by
    refine do2x (k := 0) (c := 3) ?_ (nuw _) rfl (by decide)
    simp only [Nat.reduceAdd] at lk1
    rw [lev_at (d := d17) rfl]
    simp [d17, runDef, start, exSs, exS, evE, evT, evL, getV, R.bind, R.st, noexc, truth, guard', binEv, negD, putN, putP, putPs, ci_eq, ci_ne, ci_lt, ci_le, ci_gt, ci_ge, cb_eq, cb_ne, cb_is, cb_isnot, nn_ne, cn_is, cn_isnot, lk1, ho]
  have b1 := nb .non rfl
  have b2 := nb (.bl true) rfl
  have b3 := nb (.str ⟨#[49]⟩) rfl
  have c0 : lev Pr 10 37 [.int 0, .str ⟨#[110, 111, 110, 101]⟩, .non, .non] = .ok (.str wRate) := do0x (k := 0) (c := 1) rfl (raw _) rfl (by decide)
  have c1 : lev Pr 10 37 [.int 1, .str ⟨#[110, 111, 110, 101]⟩, .non, .non] = .ok (.str wRate) := do1x (k := 0) (c := 1) rfl (raw _) rfl (by decide)
  have c2 : lev Pr 10 37 [.int 2, .str ⟨#[110, 111, 110, 101]⟩, .non, .non] = .ok (.str wRate) := do2x (k := 0) (c := 1) rfl (raw _) rfl (by decide)
  have c3 : lev Pr 10 37 [.int 3, .str ⟨#[110, 111, 110, 101]⟩, .non, .non] = .ok (.str wRate) := do3x (k := 0) (c := 1) rfl (raw _) rfl (by decide)
  have c4 : lev Pr 10 37 [.int 4, .str ⟨#[110, 111, 110, 101]⟩, .non, .non] = .ok (.str wRate) := do4x (k := 0) (c := 1) rfl (raw _) rfl (by decide)
  have m3 : binEv .mul (.lst [.str wNumber]) (.int 3) = .ok (.lst [.str wNumber, .str wNumber, .str wNumber]) := rfl
  have m5 : binEv .mul (.lst [.str wRate]) (.int 5) = .ok (.lst [.str wRate, .str wRate, .str wRate, .str wRate, .str wRate]) := rfl
  have n3 : cmpEv .ne (.lst [.str wNumber, .str wNumber, .str wNumber]) (.lst [.str wNumber, .str wNumber, .str wNumber]) = .ok (.bl false) := rfl
  have n5 : cmpEv .eq (.lst [.str wRate, .str wRate, .str wRate, .str wRate, .str wRate]) (.lst [.str wRate, .str wRate, .str wRate, .str wRate, .str wRate]) = .ok (.bl true) := rfl
  have rk6 : rngOk 6 = true := rfl
  have rk5 : rngOk 5 = true := rfl
  have l3 : (3 : Nat) ≤ lim := by decide
  have l5 : (5 : Nat) ≤ lim := by decide
  obtain ⟨RG, hRG⟩ : ∃ RG, RG = rangeL 0 6 := ⟨_, rfl⟩
  have r6 : rng1D (.int 6) = .ok RG := by rw [hRG]; rfl
  have lp' := lp
  rw [← hRG] at lp'
  have r5 : rng1D (.int 5) = .ok [.int 0, .int 1, .int 2, .int 3, .int 4] := rfl
  rw [lev_at (d := d41) rfl]
  unfold d41
  rw [← hB]
  simp [exSs, exS, evE, evT, evL, getV, R.bind, R.st, noexc, truth, putP, guard', runDef, start, evI, r6, lp', seqD, slotsP, wipeV, lcGo, evF, b1, b2, b3, l3, m3, n3, r5, c0, c1, c2, c3, c4, l5, m5, n5]
end K20
namespace K20
open FD
theorem if_mem : ∀ {n : Nat} {a i : Int}, i ∈ intsFrom a n ↔ a ≤ i ∧ i < a + n
  | 0, a, i => by
    show i ∈ ([] : List Int) ↔ _
    constructor
    · intro h; cases h
    · intro h; omega
  | n + 1, a, i => by
    show i ∈ a :: intsFrom (a + 1) n ↔ _
    rw [List.mem_cons, if_mem]
    omega
theorem if_asc : ∀ (n : Nat) (a : Int), (intsFrom a n).Pairwise (· < ·)
  | 0, _ => List.Pairwise.nil
  | n + 1, a => List.pairwise_cons.mpr ⟨fun i hi => by have := if_mem.mp hi; omega, if_asc n (a + 1)⟩
theorem if_snoc : ∀ (n : Nat) (a : Int), intsFrom a (n + 1) = intsFrom a n ++ [a + n]
  | 0, a => by
    show [a] = [a + 0]
    rw [Int.add_zero]
  | n + 1, a => by
    show a :: intsFrom (a + 1) (n + 1) = a :: (intsFrom (a + 1) n ++ [a + ((n + 1 : Nat) : Int)])
    rw [if_snoc n (a + 1), show a + 1 + (n : Int) = a + ((n + 1 : Nat) : Int) by omega]
def li (ns : List Int) : D := .lst (ns.map D.int)
theorem li_last {ns : List Int} {i : Int} (h : ns.getLast? = some i) : idxEv (li ns) (.int (-1)) = .ok (.int i) := by
  unfold li
  rw [snoc_of_last h, List.map_append]
  exact last_idx _ _
theorem li_0 {ns : List Int} {i : Int} (h : ns[0]? = some i) : idxEv (li ns) (.int 0) = .ok (.int i) := idx_nat (f := D.int) (i := 0) h
theorem if_last {a : Int} {n : Nat} (h : 0 < n) : (intsFrom a n).getLast? = some (a + n - 1) := by
  obtain ⟨m, rfl⟩ : ∃ m, n = m + 1 := ⟨n - 1, by omega⟩
  rw [if_snoc, List.getLast?_append]
  simp
  omega
theorem if_0 {a : Int} {n : Nat} (h : 0 < n) : (intsFrom a n)[0]? = some a := by
  obtain ⟨m, rfl⟩ : ∃ m, n = m + 1 := ⟨n - 1, by omega⟩
  rfl
theorem int_ind (i : Int) : ∀ (ns : List Int), inD (.int i) (ns.map D.int) = decide (i ∈ ns)
  | [] => by simp [inD]
  | n :: ns => by
    show (eqv (.int n) (.int i) || inD (.int i) (ns.map D.int)) = _
    rw [int_ind i ns]
    show ((n == i) || decide (i ∈ ns)) = _
    by_cases e : n = i
    · subst e
      simp
    · have e' : ¬ i = n := fun z => e z.symm
      have e2 : (n == i) = false := beq_eq_false_iff_ne.mpr e
      simp [e2, e']
theorem li_in (i : Int) (ns : List Int) : cmpEv .inn (.int i) (li ns) = .ok (.bl (decide (i ∈ ns))) := by
  show guard' ((flat (.int i) && (ns.map D.int).all flat) || (shp 60 (.int i) && shps 59 (ns.map D.int))) (R.ok (D.bl (inD (.int i) (ns.map D.int)))) = _
  rw [int_ind, shps_map (fun _ => rfl) ns, show shp 60 (.int i) = true from rfl, Bool.and_self, Bool.or_true]
  rfl
/-- each once, rising -/
theorem ints_set {ns : List Int} (hl : ns.length < 64) : ∃ cs : List Int, cs.Pairwise (· < ·) ∧ (∀ n, n ∈ cs ↔ n ∈ ns) ∧ ssetD (li ns) = .ok (li cs) := by
  have dd : ∀ (ms : List Int), ∃ es : List Int, es.Nodup ∧ (∀ n, n ∈ es ↔ n ∈ ms) ∧ dedup (ms.map D.int) = es.map D.int := by
    intro ms
    induction ms with
    | nil => exact ⟨[], List.Pairwise.nil, fun _ => Iff.rfl, rfl⟩
    | cons m ms ih =>
      obtain ⟨es, e1, e2, e3⟩ := ih
      have u : dedup ((m :: ms).map D.int) = if inD (.int m) (ms.map D.int) then dedup (ms.map D.int) else .int m :: dedup (ms.map D.int) := rfl
      rw [u, int_ind, e3]
      by_cases e : m ∈ ms
      · refine ⟨es, e1, fun n => ?_, by rw [decide_eq_true e, if_pos rfl]⟩
        rw [e2, List.mem_cons]
        constructor
        · exact .inr
        · rintro (z | z)
          · rw [z]; exact e
          · exact z
      · refine ⟨m :: es, List.nodup_cons.mpr ⟨fun z => e ((e2 m).mp z), e1⟩, fun n => ?_, by rw [decide_eq_false e, if_neg (by decide)]; rfl⟩
        rw [List.mem_cons, List.mem_cons, e2]
  have ins : ∀ (m : Int) (cs : List Int), cs.Pairwise (· < ·) → m ∉ cs → ∃ cs' : List Int, cs'.Pairwise (· < ·) ∧ (∀ n, n ∈ cs' ↔ n = m ∨ n ∈ cs) ∧ insD (.int m) (cs.map D.int) = cs'.map D.int := by
    intro m cs
    induction cs with
    | nil => intro _ _; exact ⟨[m], List.pairwise_cons.mpr ⟨(fun _ z => by cases z), List.Pairwise.nil⟩, fun n => by simp, rfl⟩
    | cons c cs ih =>
      intro pw hnm
      obtain ⟨p1, p2⟩ := List.pairwise_cons.mp pw
      have u : insD (.int m) ((c :: cs).map D.int) = if decide (c < m) = true then .int c :: insD (.int m) (cs.map D.int) else .int m :: .int c :: cs.map D.int := rfl
      rw [u]
      have ne : m ≠ c := fun z => hnm (by rw [z]; exact List.mem_cons_self ..)
      by_cases e : c < m
      · obtain ⟨cs', q1, q2, q3⟩ := ih p2 fun z => hnm (List.mem_cons_of_mem _ z)
        refine ⟨c :: cs', List.pairwise_cons.mpr ⟨fun x hx => ?_, q1⟩, fun n => ?_, by rw [if_pos (decide_eq_true e), q3]; rfl⟩
        · rcases (q2 x).mp hx with z | z
          · rw [z]; exact e
          · exact p1 x z
        · rw [List.mem_cons, q2, List.mem_cons]
          constructor
          · rintro (z | z | z)
            · exact .inr (.inl z)
            · exact .inl z
            · exact .inr (.inr z)
          · rintro (z | z | z)
            · exact .inr (.inl z)
            · exact .inl z
            · exact .inr (.inr z)
      · refine ⟨m :: c :: cs, List.pairwise_cons.mpr ⟨fun x hx => ?_, pw⟩, fun n => List.mem_cons, by rw [if_neg (by simpa using e)]; rfl⟩
        rcases List.mem_cons.mp hx with z | z
        · rw [z]; omega
        · have := p1 x z
          omega
  have srtE : ∀ (ms : List Int), ms.Nodup → ∃ cs : List Int, cs.Pairwise (· < ·) ∧ (∀ n, n ∈ cs ↔ n ∈ ms) ∧ isort (ms.map D.int) = cs.map D.int := by
    intro ms
    induction ms with
    | nil => intro _; exact ⟨[], List.Pairwise.nil, fun _ => Iff.rfl, rfl⟩
    | cons m ms ih =>
      intro nd
      obtain ⟨n1, n2⟩ := List.nodup_cons.mp nd
      obtain ⟨cs, q1, q2, q3⟩ := ih n2
      obtain ⟨cs', p1, p2, p3⟩ := ins m cs q1 fun z => n1 ((q2 m).mp z)
      refine ⟨cs', p1, fun n => ?_, ?_⟩
      · rw [p2, q2, List.mem_cons]
      · show insD (.int m) (isort (ms.map D.int)) = _
        rw [q3, p3]
  obtain ⟨es, e1, e2, e3⟩ := dd ns
  obtain ⟨cs, c1, c2, c3⟩ := srtE es e1
  refine ⟨cs, c1, fun n => (c2 n).trans (e2 n), ?_⟩
  have like : likeAll (ns.map D.int) = true := by
    cases ns with
    | nil => rfl
    | cons n ns =>
      show ((n :: ns).map D.int).all (fun y => hasSh .int y && shp 50 y) = true
      rw [List.all_eq_true]
      intro y hy
      obtain ⟨m, _, rfl⟩ := List.mem_map.mp hy
      rfl
  have so : setOk (ns.map D.int) = true := by
    unfold setOk
    rw [show (ns.map D.int).all isI = true from List.all_eq_true.mpr fun x hx => by
      obtain ⟨n, h1, rfl⟩ := List.mem_map.mp hx
      rfl, Bool.true_or]
  show guard' (likeAll (ns.map D.int) && (setOk (ns.map D.int) && decide ((ns.map D.int).length < 64))) (R.ok (D.lst (isort (dedup (ns.map D.int))))) = _
  rw [like, so, decide_eq_true (by rw [List.length_map]; exact hl), e3, c3]
  rfl
/-- both rows together -/
theorem whole_ok {a b c e : Int} (hab : a < b) (hce : c < e) (h1 : b - a ≤ 30) (h2 : e - c ≤ 30) : ∃ W : List Int, ssetD (li (intsFrom a (b - a).toNat ++ intsFrom c (e - c).toNat)) = .ok (li W) ∧ W[0]? = some (min a c) ∧ W.getLast? = some (max b e - 1) ∧ (¬ min b e < max a c → (W.length : Int) = max b e - min a c) ∧ (min b e < max a c → (W.length : Int) = (b - a) + (e - c)) := by
  obtain ⟨W, w1, w2, w3⟩ := ints_set (ns := intsFrom a (b - a).toNat ++ intsFrom c (e - c).toNat) (by rw [List.length_append, intsFrom_len, intsFrom_len]; omega)
  have wm : ∀ n, n ∈ W ↔ (a ≤ n ∧ n < b) ∨ (c ≤ n ∧ n < e) := fun n => by
    rw [w2, List.mem_append, if_mem, if_mem]
    omega
  by_cases hg : min b e < max a c
  · by_cases hbc : b < c
    · have eW : W = intsFrom a (b - a).toNat ++ intsFrom c (e - c).toNat := asc_uniq w1 (List.pairwise_append.mpr ⟨if_asc _ _, if_asc _ _, fun x hx y hy => by
        have := if_mem.mp hx
        have := if_mem.mp hy
        omega⟩) fun n => w2 n
      refine ⟨W, w3, ?_, ?_, fun z => absurd hg z, fun _ => ?_⟩
      · rw [eW, List.getElem?_append_left (by rw [intsFrom_len]; omega), if_0 (by omega), show min a c = a by omega]
      · rw [eW, List.getLast?_append, if_last (by omega)]
        show some _ = some _
        congr 1
        omega
      · rw [eW, List.length_append, intsFrom_len, intsFrom_len]
        omega
    · have eW : W = intsFrom c (e - c).toNat ++ intsFrom a (b - a).toNat := asc_uniq w1 (List.pairwise_append.mpr ⟨if_asc _ _, if_asc _ _, fun x hx y hy => by
        have := if_mem.mp hx
        have := if_mem.mp hy
        omega⟩) fun n => by
          rw [w2, List.mem_append, List.mem_append]
          exact Or.comm
      refine ⟨W, w3, ?_, ?_, fun z => absurd hg z, fun _ => ?_⟩
      · rw [eW, List.getElem?_append_left (by rw [intsFrom_len]; omega), if_0 (by omega), show min a c = c by omega]
      · rw [eW, List.getLast?_append, if_last (by omega)]
        show some _ = some _
        congr 1
        omega
      · rw [eW, List.length_append, intsFrom_len, intsFrom_len]
        omega
  · have eW : W = intsFrom (min a c) (max b e - min a c).toNat := asc_uniq w1 (if_asc _ _) fun n => by
      rw [wm, if_mem]
      omega
    refine ⟨W, w3, ?_, ?_, fun _ => ?_, fun z => absurd z hg⟩
    · rw [eW, if_0 (by omega)]
    · rw [eW, if_last (by omega)]
      congr 1
      omega
    · rw [eW, intsFrom_len]
      omega
theorem both_ok {a b c e : Int} : (intsFrom a (b - a).toNat).filter (fun i => decide (i ∈ intsFrom c (e - c).toNat)) = intsFrom (max a c) (min b e - max a c).toNat := by
  refine asc_uniq ((if_asc _ _).filter _) (if_asc _ _) fun n => ?_
  rw [List.mem_filter, decide_eq_true_iff, if_mem, if_mem, if_mem]
  omega
end K20
namespace K20
open FD
section
variable {k : Nat} {r : PySem.Str} {a b i : Int}
theorem i1 (a b : Int) : binEv .add (.int a) (.int b) = .ok (.int (a + b)) := rfl
theorem i2 (a b : Int) : binEv .sub (.int a) (.int b) = .ok (.int (a - b)) := rfl
theorem M_lcount (hr : r ∈ rates) (ha : In r a) : lev Pr (k + 2) 27 [.str r, cdr r a] = .ok (.int a) := by
  have ka := cod_ok (gw_of hr) ha.1 ha.2
  have := L_lcount (k := k) (c := cod (gF r) (wF r) a) hr ka.2.2.1 ka.2.2.2.1
  rw [cnt_cod (gw_of hr) ha.1 ha.2] at this
  exact this
theorem M_at (hr : r ∈ rates) (ha : In r a) : lev Pr (k + 2) 29 [.str r, .int a] = .ok (cdr r a) := L_at hr ha.1 ha.2
theorem day_big (hr : r ∈ rates) : 2000000 < dayF (gF r) (wF r) ∧ dayF (gF r) (wF r) ≤ 5184000 := by
  have G := gw_of hr
  unfold dayF tenF
  unfold GW at G
  omega
theorem L_shifted_far (hr : r ∈ rates) (ha : In r a) (hb : In r b) (h : a < b) (hf : ¬ (0 ≤ a + i ∧ b + i < dayF (gF r) (wF r))) : lev Pr (k + 6) 17 [.str r, sp r a b, .int i] = .exc 5 := by
  rw [lev_at (d := d17) rfl]
  by_cases h0 : a + i < 0
  · simp [d17, runDef, start, exSs, exS, evE, evT, evL, getV, R.bind, R.st, noexc, truth, guard', binEv, negD, putN, putP, putPs, ci_eq, ci_ne, ci_lt, ci_le, ci_gt, ci_ge, cb_eq, cb_ne, cb_is, cb_isnot, nn_ne, cn_is, cn_isnot, L_look_span hr ha hb h, L_look_by, L_counts_in hr ha hb, h0]
  · have h3 : dayF (gF r) (wF r) ≤ b + i := by omega
    simp [d17, runDef, start, exSs, exS, evE, evT, evL, getV, R.bind, R.st, noexc, truth, guard', binEv, negD, putN, putP, putPs, ci_eq, ci_ne, ci_lt, ci_le, ci_gt, ci_ge, cb_eq, cb_ne, cb_is, cb_isnot, nn_ne, cn_is, cn_isnot, L_look_span hr ha hb h, L_look_by, L_counts_in hr ha hb, L_day_frames hr, h0, h3]
theorem L_lfr (hr : r ∈ rates) (ha : In r a) (hb : In r b) (hab : a < b) : lev Pr (k + 3) 40 [.str r, sp r a b] = .ok (li (intsFrom a (b - a).toNat)) := by
  have c1 := M_lcount (k := k) hr ha
  have c2 := M_lcount (k := k) hr hb
  have day := day_big hr
  have r1 : rngOk a = true := by
    unfold rngOk
    simp only [Bool.and_eq_true, decide_eq_true_eq]
    have := ha.1
    have := ha.2
    omega
  have r2 : rngOk b = true := by
    unfold rngOk
    simp only [Bool.and_eq_true, decide_eq_true_eq]
    have := hb.1
    have := hb.2
    omega
  have r3 : decide (b - a ≤ 16777216) = true := decide_eq_true (by have := ha.1; have := hb.2; omega)
  have lg : lrgD (.int a) (.int b) = .ok (li (intsFrom a (b - a).toNat)) := by
    show guard' (rngOk a && (rngOk b && decide (b - a ≤ 16777216))) (R.ok (D.lst (rangeL a (b - a).toNat))) = _
    rw [r1, r2, r3, rangeL_eq]
    rfl
  rw [lev_at (d := d40) rfl]
  simp [d40, runDef, start, exSs, exS, evE, evT, evL, getV, R.bind, R.st, noexc, truth, guard', binEv, negD, putN, putP, putPs, ci_eq, ci_ne, ci_lt, ci_le, ci_gt, ci_ge, cb_eq, cb_ne, cb_is, cb_isnot, nn_ne, cn_is, cn_isnot, q_0, q_1, c1, c2, lg]
theorem L_lspan (hr : r ∈ rates) (ns : List Int) {t0 st : Int} (ht : 0 ≤ t0) (s0 : 0 ≤ st) (s1 : st ≤ dayF (gF r) (wF r) - 60) : ∃ a b, In r a ∧ In r b ∧ a < b ∧ b - a ≤ 30 ∧ ∀ k, lev Pr (k + 4) 38 [.scr ns, .int t0, .str r, .int st] = .ok (sp r a b) := by
  obtain ⟨v, v0, v1, ev⟩ := L_pick ns (j := t0) (m := 40) ht (by decide)
  obtain ⟨w, w0, w1, ew⟩ := L_pick ns (j := t0 + 1) (m := 30) (by omega) (by decide)
  have day := day_big hr
  obtain ⟨la, hla⟩ : ∃ la, la = min (dayF (gF r) (wF r) - 1) (st + v + 1 + w) := ⟨_, rfl⟩
  obtain ⟨aa, haa⟩ : ∃ aa, aa = min (st + v) (la - 1) := ⟨_, rfl⟩
  refine ⟨aa, la, ⟨by omega, by omega⟩, ⟨by omega, by omega⟩, by omega, by omega, fun k => ?_⟩
  have V := ev (k + 1)
  have W := ew (k + 1)
  have ld := L_lday (k := k) hr
  have m1 := min2_int (dayF (gF r) (wF r) - 1) (st + v + 1 + w)
  rw [← hla] at m1
  have m2 := min2_int (st + v) (la - 1)
  rw [← haa] at m2
  have a1 := M_at (k := k + 1) hr (a := aa) ⟨by omega, by omega⟩
  have a2 := M_at (k := k + 1) hr (a := la) ⟨by omega, by omega⟩
  have ep : D.tup [cdr r aa, cdr r la] = sp r aa la := rfl
  rw [lev_at (d := d38) rfl]
  simp [d38, runDef, start, exSs, exS, evE, evT, evL, getV, R.bind, R.st, noexc, truth, putP, i1, i2, V, W, ld, m1, m2, a1, a2, ep]
/-- a number that the span is shifted by -/
theorem more_ok (hr : r ∈ rates) (ns : List Int) (ha : In r a) (hb : In r b) (hab : a < b) (m : Int) {B : ISs} (hB : B = (.cons (.par [13, 14] (.cons (.bin .add (.idx (.var 9) (.cst (.int 0))) (.var 5)) (.cons (.bin .add (.bin .add (.idx (.var 9) (.neg (.cst (.int 1)))) (.cst (.int 1))) (.var 5)) .nil))) (.cons (.asg (.nm 6) (.ite (.and (.cmp .le (.cst (.int 0)) (.var 13)) (.cmp .lt (.var 14) (.var 2))) (.tup (.cons (.call 29 (.cons (.var 1) (.cons (.var 13) .nil))) (.cons (.call 29 (.cons (.var 1) (.cons (.var 14) .nil))) .nil))) (.cst (.str ⟨#[116, 111, 111, 32, 102, 97, 114]⟩)))) (.cons (.iff (.cmp .ne (.call 37 (.cons (.cst (.int 2)) (.cons (.var 1) (.cons (.var 7) (.cons (.var 5) .nil))))) (.var 6)) (.cons (.ret (.cst (.bl false))) .nil) .nil) .nil)))) (X3 X4 x6 X8 X10 X11 X12 x13 x14 X15 : SV) :
    ∃ y6 y13 y14, exSs ⟨lev Pr 11, Pr.sub, Pr.cst, Pr.nc⟩ B [.pv (.scr ns), .pv (.str r), .pv (.int (dayF (gF r) (wF r))), X3, X4, .pv (.int m), x6, .pv (sp r a b), X8, .pv (li (intsFrom a (b - a).toNat)), X10, X11, X12, x13, x14, X15] = .nx [.pv (.scr ns), .pv (.str r), .pv (.int (dayF (gF r) (wF r))), X3, X4, .pv (.int m), y6, .pv (sp r a b), X8, .pv (li (intsFrom a (b - a).toNat)), X10, X11, X12, y13, y14, X15] := by
  have x0 : idxEv (li (intsFrom a (b - a).toNat)) (.int 0) = .ok (.int a) := li_0 (if_0 (by omega))
  have x1 : idxEv (li (intsFrom a (b - a).toNat)) (.int (-1)) = .ok (.int (b - 1)) := li_last (by rw [if_last (by omega)]; congr 1; omega)
  obtain ⟨M, hM⟩ : ∃ M, M = li (intsFrom a (b - a).toNat) := ⟨_, rfl⟩
  rw [← hM] at x0 x1 ⊢
  have eb : b - 1 + 1 + m = b + m := by omega
  by_cases h0 : 0 ≤ a + m
  · by_cases h1 : b + m < dayF (gF r) (wF r)
    · have a1 := M_at (k := 9) hr (a := a + m) ⟨h0, by omega⟩
      have a2 := M_at (k := 9) hr (a := b + m) ⟨by omega, h1⟩
      have d2 : lev Pr 11 37 [.int 2, .str r, sp r a b, .int m] = .ok (sp r (a + m) (b + m)) := do2 (k := 1) (L_shifted (k := 4) hr ha hb hab h0 h1)
      have ep : D.tup [cdr r (a + m), cdr r (b + m)] = sp r (a + m) (b + m) := rfl
      have ne : cmpEv .ne (sp r (a + m) (b + m)) (sp r (a + m) (b + m)) = .ok (.bl false) := q_ne
      simp only [Nat.reduceAdd] at a1 a2
      refine ⟨.pv (sp r (a + m) (b + m)), .pv (.int (a + m)), .pv (.int (b + m)), ?_⟩
      rw [hB]
      simp [exSs, exS, evE, evT, evL, getV, R.bind, R.st, noexc, truth, putN, putP, negD, i1, i2, x0, x1, eb, ci_le, ci_lt, h0, h1, a1, a2, ep, d2, ne]
    · have d2 : lev Pr 11 37 [.int 2, .str r, sp r a b, .int m] = .ok (.str wFar) := do2x (k := 1) (L_shifted_far (k := 4) hr ha hb hab (fun z => h1 z.2)) (faw _) rfl (by decide)
      have ne : cmpEv .ne (.str wFar) (.str wFar) = .ok (.bl false) := rfl
      refine ⟨.pv (.str wFar), .pv (.int (a + m)), .pv (.int (b + m)), ?_⟩
      rw [hB]
      simp [exSs, exS, evE, evT, evL, getV, R.bind, R.st, noexc, truth, putN, putP, negD, i1, i2, x0, x1, eb, ci_le, ci_lt, h0, h1, d2, ne]
  · have d2 : lev Pr 11 37 [.int 2, .str r, sp r a b, .int m] = .ok (.str wFar) := do2x (k := 1) (L_shifted_far (k := 4) hr ha hb hab (fun z => h0 z.1)) (faw _) rfl (by decide)
    have ne : cmpEv .ne (.str wFar) (.str wFar) = .ok (.bl false) := rfl
    refine ⟨.pv (.str wFar), .pv (.int (a + m)), .pv (.int (b + m)), ?_⟩
    rw [hB]
    simp [exSs, exS, evE, evT, evL, getV, R.bind, R.st, noexc, truth, putN, putP, negD, i1, i2, x0, x1, eb, ci_le, h0, d2, ne]
end
/-- what both have, what either has -/
theorem end_ok {r : PySem.Str} {a b c e : Int} (hr : r ∈ rates) (ns : List Int) (ha : In r a) (hb : In r b) (hab : a < b) (h30 : b - a ≤ 30) (hc : In r c) (he : In r e) (hce : c < e) (h31 : e - c ≤ 30) {T : ISs} (hT : T = (.cons (.par [11, 12] (.cons (.lc (.var 15) (.nm 15) (.seq (.var 9)) (.cons (.cmp .inn (.var 15) (.var 10)) .nil)) (.cons (.sst (.bin .add (.var 9) (.var 10))) .nil))) (.cons (.asg (.nm 6) (.ite (.cmp .ne (.var 11) (.lst .nil)) (.tup (.cons (.call 29 (.cons (.var 1) (.cons (.idx (.var 11) (.cst (.int 0))) .nil))) (.cons (.call 29 (.cons (.var 1) (.cons (.bin .add (.idx (.var 11) (.neg (.cst (.int 1)))) (.cst (.int 1))) .nil))) .nil))) (.cst (.non)))) (.cons (.iff (.or (.cmp .ne (.call 37 (.cons (.cst (.int 3)) (.cons (.var 1) (.cons (.var 7) (.cons (.var 8) .nil))))) (.var 6)) (.cmp .ne (.call 18 (.cons (.var 1) (.cons (.var 8) (.cons (.var 7) .nil)))) (.var 6))) (.cons (.ret (.cst (.bl false))) .nil) .nil) (.cons (.asg (.nm 6) (.tup (.cons (.call 29 (.cons (.var 1) (.cons (.idx (.var 12) (.cst (.int 0))) .nil))) (.cons (.call 29 (.cons (.var 1) (.cons (.bin .add (.idx (.var 12) (.neg (.cst (.int 1)))) (.cst (.int 1))) .nil))) .nil)))) (.cons (.iff (.cmp .ne (.call 37 (.cons (.cst (.int 4)) (.cons (.var 1) (.cons (.var 7) (.cons (.var 8) .nil))))) (.ite (.cmp .eq (.bin .add (.bin .sub (.idx (.var 12) (.neg (.cst (.int 1)))) (.idx (.var 12) (.cst (.int 0)))) (.cst (.int 1))) (.bi .len (.cons (.var 12) .nil))) (.var 6) (.cst (.str ⟨#[110, 111, 32, 102, 105, 116]⟩)))) (.cons (.ret (.cst (.bl false))) .nil) .nil) (.cons (.ret (.call 41 (.cons (.var 0) (.cons (.var 1) (.cons (.var 7) .nil))))) .nil))))))) (X2 X3 X4 X5 X6 X13 X14 : SV) :
    exSs ⟨lev Pr 11, Pr.sub, Pr.cst, Pr.nc⟩ T [.pv (.scr ns), .pv (.str r), X2, X3, X4, X5, X6, .pv (sp r a b), .pv (sp r c e), .pv (li (intsFrom a (b - a).toNat)), .pv (li (intsFrom c (e - c).toNat)), .un, .un, X13, X14, .un] = .rt (.bl true) := by
  obtain ⟨W, w1, w2, w3, w4, w5⟩ := whole_ok hab hce h30 h31
  have ap := L_apart hr ns ha hb hab
  obtain ⟨f, hf⟩ : ∃ f, f = max a c := ⟨_, rfl⟩
  obtain ⟨l, hl⟩ : ∃ l, l = min b e := ⟨_, rfl⟩
  obtain ⟨p, hp⟩ : ∃ p, p = min a c := ⟨_, rfl⟩
  obtain ⟨q, hq⟩ : ∃ q, q = max b e := ⟨_, rfl⟩
  rw [← hp] at w2
  rw [← hq] at w3
  rw [← hf, ← hl, ← hq, ← hp] at w4
  rw [← hf, ← hl] at w5
  have inf : In r f := by unfold In at *; omega
  have inl : In r l := by unfold In at *; omega
  have inp : In r p := by unfold In at *; omega
  have inq : In r q := by unfold In at *; omega
  obtain ⟨M, hM⟩ : ∃ M, M = intsFrom a (b - a).toNat := ⟨_, rfl⟩
  obtain ⟨Y, hY⟩ : ∃ Y, Y = intsFrom c (e - c).toNat := ⟨_, rfl⟩
  have bo := both_ok (a := a) (b := b) (c := c) (e := e)
  rw [← hM, ← hY, ← hf, ← hl] at bo
  rw [← hM, ← hY] at w1 ⊢
  have lM : M.length ≤ 30 := by rw [hM, intsFrom_len]; omega
  have lY : Y.length ≤ 30 := by rw [hY, intsFrom_len]; omega
  obtain ⟨V15, hV15⟩ : ∃ E : IE, E = .var 15 := ⟨_, rfl⟩
  obtain ⟨F1, hF1⟩ : ∃ E : IEs, E = (.cons (.cmp .inn (.var 15) (.var 10)) .nil) := ⟨_, rfl⟩
  have lc : ∀ X2 X3 X4 X5 X6 X7 X8 X11 X12 X13 X14 : SV, lcGo (evF ⟨lev Pr 11, Pr.sub, Pr.cst, Pr.nc⟩ F1) (evE ⟨lev Pr 11, Pr.sub, Pr.cst, Pr.nc⟩ V15) (.nm 15) [.pv (.scr ns), .pv (.str r), X2, X3, X4, X5, X6, X7, X8, .pv (li M), .pv (li Y), X11, X12, X13, X14, .un] (M.map D.int) = .ok ((intsFrom f (l - f).toNat).map D.int) := by
    intro X2 X3 X4 X5 X6 X7 X8 X11 X12 X13 X14
    rw [← bo]
    refine lc_sel fun i hi => ⟨[.pv (.scr ns), .pv (.str r), X2, X3, X4, X5, X6, X7, X8, .pv (li M), .pv (li Y), X11, X12, X13, X14, .pv (.int i)], rfl, ?_, fun _ => ?_⟩
    · rw [hF1]
      have := li_in i Y
      by_cases z : i ∈ Y
      · rw [decide_eq_true z] at this ⊢
        simp [runDef, start, exSs, exS, evE, evT, evL, getV, R.bind, R.st, noexc, truth, guard', binEv, negD, putN, putP, putPs, ci_eq, ci_ne, ci_lt, ci_le, ci_gt, ci_ge, cb_eq, cb_ne, cb_is, cb_isnot, nn_ne, cn_is, cn_isnot, evF, this]
      · rw [decide_eq_false z] at this ⊢
        simp [runDef, start, exSs, exS, evE, evT, evL, getV, R.bind, R.st, noexc, truth, guard', binEv, negD, putN, putP, putPs, ci_eq, ci_ne, ci_lt, ci_le, ci_gt, ci_ge, cb_eq, cb_ne, cb_is, cb_isnot, nn_ne, cn_is, cn_isnot, evF, this]
    · rw [hV15]
      simp [runDef, start, exSs, exS, evE, evT, evL, getV, R.bind, R.st, noexc, truth, guard', binEv, negD, putN, putP, putPs, ci_eq, ci_ne, ci_lt, ci_le, ci_gt, ci_ge, cb_eq, cb_ne, cb_is, cb_isnot, nn_ne, cn_is, cn_isnot]
  obtain ⟨BO, hBO⟩ : ∃ BO, BO = intsFrom f (l - f).toNat := ⟨_, rfl⟩
  rw [← hBO] at lc
  have lB : BO.length ≤ lim := by rw [hBO, intsFrom_len]; exact Nat.le_trans (show _ ≤ 1000 by omega) (by decide)
  have sqM : seqD (li M) = .ok (M.map D.int) := rfl
  have adM : binEv .add (li M) (li Y) = .ok (li (M ++ Y)) := by
    show guard' (decide ((M.map D.int).length + (Y.map D.int).length ≤ lim)) (R.ok (D.lst (M.map D.int ++ Y.map D.int))) = _
    rw [decide_eq_true (by rw [List.length_map, List.length_map]; exact Nat.le_trans (show _ ≤ 60 by omega) (by decide)), ← List.map_append]
    rfl
  have eB : D.lst (BO.map D.int) = li BO := rfl
  have cm1 := L_common (k := 5) (f := f) (l := l) hr ha hb hab hc he hce (by omega) (by omega)
  have cm2 := L_common (k := 5) (f := f) (l := l) hr hc he hce ha hb hab (by omega) (by omega)
  have x0 : idxEv (li W) (.int 0) = .ok (.int p) := li_0 w2
  have x1 : idxEv (li W) (.int (-1)) = .ok (.int (q - 1)) := li_last w3
  have atp := M_at (k := 9) hr inp
  have atq := M_at (k := 9) hr inq
  have eq1 : q - 1 + 1 = q := by omega
  have eq2 : q - 1 - p + 1 = q - p := by omega
  have lW : biEv .len [li W] = .ok (.int W.length) := by
    show R.ok (D.int ((W.map D.int).length : Nat)) = _
    rw [List.length_map]
  have epq : D.tup [cdr r p, cdr r q] = sp r p q := rfl
  obtain ⟨T2, hT2⟩ : ∃ T : ISs, T = (.cons (.asg (.nm 6) (.tup (.cons (.call 29 (.cons (.var 1) (.cons (.idx (.var 12) (.cst (.int 0))) .nil))) (.cons (.call 29 (.cons (.var 1) (.cons (.bin .add (.idx (.var 12) (.neg (.cst (.int 1)))) (.cst (.int 1))) .nil))) .nil)))) (.cons (.iff (.cmp .ne (.call 37 (.cons (.cst (.int 4)) (.cons (.var 1) (.cons (.var 7) (.cons (.var 8) .nil))))) (.ite (.cmp .eq (.bin .add (.bin .sub (.idx (.var 12) (.neg (.cst (.int 1)))) (.idx (.var 12) (.cst (.int 0)))) (.cst (.int 1))) (.bi .len (.cons (.var 12) .nil))) (.var 6) (.cst (.str ⟨#[110, 111, 32, 102, 105, 116]⟩)))) (.cons (.ret (.cst (.bl false))) .nil) .nil) (.cons (.ret (.call 41 (.cons (.var 0) (.cons (.var 1) (.cons (.var 7) .nil))))) .nil))) := ⟨_, rfl⟩
  have part2 : ∀ X6 : SV, exSs ⟨lev Pr 11, Pr.sub, Pr.cst, Pr.nc⟩ T2 [.pv (.scr ns), .pv (.str r), X2, X3, X4, X5, X6, .pv (sp r a b), .pv (sp r c e), .pv (li M), .pv (li Y), .pv (li BO), .pv (li W), X13, X14, .un] = .rt (.bl true) := by
    intro X6
    simp only [Nat.reduceAdd] at atp atq
    by_cases hfl : l < f
    · have d4 : lev Pr 11 37 [.int 4, .str r, sp r a b, sp r c e] = .ok (.str wFit) := do4x (k := 1) (L_joined_no (k := 4) (f := f) (l := l) hr ha hb hab hc he hce (by omega) (by omega) hfl) (fiw _) rfl (by decide)
      have nl : ¬ q - p = (W.length : Int) := by
        rw [w5 hfl]
        omega
      have ne : cmpEv .ne (.str wFit) (.str wFit) = .ok (.bl false) := rfl
      rw [hT2]
      simp [exSs, exS, evE, evT, evL, getV, R.bind, R.st, noexc, truth, putP, negD, i1, i2, x0, x1, eq1, eq2, atp, atq, epq, d4, lW, ci_eq, nl, ne, ap]
    · have d4 : lev Pr 11 37 [.int 4, .str r, sp r a b, sp r c e] = .ok (sp r p q) := do4 (k := 1) (L_joined (k := 4) (f := f) (l := l) hr ha hb hab hc he hce (by omega) (by omega) hfl (by omega) (by omega))
      have nl : q - p = (W.length : Int) := (w4 hfl).symm
      have ne : cmpEv .ne (sp r p q) (sp r p q) = .ok (.bl false) := q_ne
      rw [hT2]
      simp [exSs, exS, evE, evT, evL, getV, R.bind, R.st, noexc, truth, putP, negD, i1, i2, x0, x1, eq1, eq2, atp, atq, epq, d4, lW, ci_eq, nl, ne, ap]
  rw [hT, ← hT2, ← hF1, ← hV15]
  by_cases hlt : f < l
  · rw [if_pos hlt] at cm1 cm2
    have d3 : lev Pr 11 37 [.int 3, .str r, sp r a b, sp r c e] = .ok (sp r f l) := by
      have := L_common (k := 4) (f := f) (l := l) hr ha hb hab hc he hce (by omega) (by omega)
      rw [if_pos hlt] at this
      exact do3 (k := 1) this
    have b0 : idxEv (li BO) (.int 0) = .ok (.int f) := li_0 (by rw [hBO]; exact if_0 (by omega))
    have b1 : idxEv (li BO) (.int (-1)) = .ok (.int (l - 1)) := li_last (by rw [hBO, if_last (by omega), show f + ((l - f).toNat : Int) - 1 = l - 1 by omega])
    have atf := M_at (k := 9) hr inf
    have atl := M_at (k := 9) hr inl
    have el : l - 1 + 1 = l := by omega
    have efl : D.tup [cdr r f, cdr r l] = sp r f l := rfl
    have ne : cmpEv .ne (sp r f l) (sp r f l) = .ok (.bl false) := q_ne
    have nb : cmpEv .ne (li BO) (.lst []) = .ok (.bl true) := by
      have hs : shp 60 (li BO) = true := by
        show shps 59 (BO.map D.int) = true
        exact shps_map (fun _ => rfl) _
      show guard' (eqOk (li BO) (.lst [])) (R.ok (D.bl (!eqv (li BO) (.lst [])))) = _
      have : eqOk (li BO) (.lst []) = true := by
        unfold eqOk
        rw [hs]
        simp [shp, shps]
      rw [this]
      obtain ⟨n, hn⟩ : ∃ n, (l - f).toNat = n + 1 := ⟨(l - f).toNat - 1, by omega⟩
      rw [hBO, hn]
      rfl
    simp only [Nat.reduceAdd] at cm2 atf atl
    simp [exSs, exS, evE, evT, evL, getV, R.bind, R.st, noexc, truth, guard', putN, putP, negD, i1, i2, evI, sqM, slotsP, wipeV, lc, lB, eB, adM, w1, nb, b0, b1, atf, atl, el, efl, d3, ne, cm2, part2]
  · rw [if_neg hlt] at cm1 cm2
    have d3 : lev Pr 11 37 [.int 3, .str r, sp r a b, sp r c e] = .ok .non := by
      have := L_common (k := 4) (f := f) (l := l) hr ha hb hab hc he hce (by omega) (by omega)
      rw [if_neg hlt] at this
      exact do3 (k := 1) this
    have eBO : BO = [] := by
      rw [hBO, show (l - f).toNat = 0 by omega]
      rfl
    have nb : cmpEv .ne (li BO) (.lst []) = .ok (.bl false) := by rw [eBO]; rfl
    have ne : cmpEv .ne .non .non = .ok (.bl false) := rfl
    simp only [Nat.reduceAdd] at cm2
    simp [exSs, exS, evE, evT, evL, getV, R.bind, R.st, noexc, truth, guard', putN, putP, negD, i1, i2, evI, sqM, slotsP, wipeV, lc, lB, eB, adM, w1, nb, d3, ne, cm2, part2]
theorem law_plain (ns : List Int) (h : ns.length ≤ 63) : FD.lev Pr 12 42 [.scr ns] = .ok (.bl true) := by
  obtain ⟨r, hr, e0⟩ := L_rate ns (j := 0) (by decide)
  have E0 := e0 8
  have ld := L_lday (k := 8) hr
  have fa := L_facts (k := 10) hr
  have day := day_big hr
  obtain ⟨dy, hdy⟩ : ∃ dy, dy = dayF (gF r) (wF r) := ⟨_, rfl⟩
  have g1 := g_pos hr
  have g2 := g_small hr
  obtain ⟨v1, v10, v11, ev1⟩ := L_pick ns (j := 1) (m := dy - 100) (by decide) (by omega)
  obtain ⟨v2, v20, v21, ev2⟩ := L_pick ns (j := 2) (m := 4) (by decide) (by decide)
  obtain ⟨v6, v60, v61, ev6⟩ := L_pick ns (j := 6) (m := 3) (by decide) (by decide)
  obtain ⟨v7, v70, v71, ev7⟩ := L_pick ns (j := 7) (m := 9) (by decide) (by decide)
  obtain ⟨v4, v40, v41, ev4⟩ := L_pick ns (j := 4) (m := 2) (by decide) (by decide)
  obtain ⟨v5, v50, v51, ev5⟩ := L_pick ns (j := 5) (m := 2) (by decide) (by decide)
  obtain ⟨v8, v80, v81, ev8⟩ := L_pick ns (j := 8) (m := 3) (by decide) (by decide)
  obtain ⟨v9, v90, v91, ev9⟩ := L_pick ns (j := 9) (m := 4) (by decide) (by decide)
  have V1 := ev1 9
  have V2 := ev2 9
  have V6 := ev6 9
  have V7 := ev7 9
  have V4 := ev4 9
  have V5 := ev5 9
  have V8 := ev8 9
  have V9 := ev9 9
  have m60 : binEv .mul (.int 60) (.int (gF r)) = .ok (.int (60 * gF r)) := by
    show guard' (mulOk 60 (gF r)) (R.ok (D.int (60 * gF r))) = _
    rw [mul_60]
    rfl
  obtain ⟨st, est, s0, s1⟩ : ∃ st, idxEv (.lst [.int 0, .int (60 * gF r - 20), .int (dy - 60), .int v1]) (.int v2) = .ok (.int st) ∧ 0 ≤ st ∧ st ≤ dy - 60 := by
    have hv : v2 = 0 ∨ v2 = 1 ∨ v2 = 2 ∨ v2 = 3 := by omega
    rcases hv with rfl | rfl | rfl | rfl
    · exact ⟨_, rfl, by omega, by omega⟩
    · exact ⟨_, rfl, by omega, by omega⟩
    · exact ⟨_, rfl, by omega, by omega⟩
    · exact ⟨_, rfl, by omega, by omega⟩
  obtain ⟨a, b, ha, hb, hab, h30, es1⟩ := L_lspan hr ns (t0 := 10) (by decide) s0 (by rw [← hdy]; exact s1)
  obtain ⟨c', e', hc', he', hce', h31', es2⟩ := L_lspan hr ns (t0 := 20) (by decide) s0 (by rw [← hdy]; exact s1)
  have S1 := es1 7
  have S2 := es2 7
  have at30 := M_at (k := 9) hr (a := dy - 30) ⟨by omega, by omega⟩
  have in30 : In r (dy - 30) := ⟨by omega, by omega⟩
  have lt30 := M_lt hr hb in30
  have cb := M_lcount (k := 9) hr hb
  obtain ⟨B, hB⟩ : ∃ B : ISs, B = (.cons (.par [13, 14] (.cons (.bin .add (.idx (.var 9) (.cst (.int 0))) (.var 5)) (.cons (.bin .add (.bin .add (.idx (.var 9) (.neg (.cst (.int 1)))) (.cst (.int 1))) (.var 5)) .nil))) (.cons (.asg (.nm 6) (.ite (.and (.cmp .le (.cst (.int 0)) (.var 13)) (.cmp .lt (.var 14) (.var 2))) (.tup (.cons (.call 29 (.cons (.var 1) (.cons (.var 13) .nil))) (.cons (.call 29 (.cons (.var 1) (.cons (.var 14) .nil))) .nil))) (.cst (.str ⟨#[116, 111, 111, 32, 102, 97, 114]⟩)))) (.cons (.iff (.cmp .ne (.call 37 (.cons (.cst (.int 2)) (.cons (.var 1) (.cons (.var 7) (.cons (.var 5) .nil))))) (.var 6)) (.cons (.ret (.cst (.bl false))) .nil) .nil) .nil))) := ⟨_, rfl⟩
  obtain ⟨T1, hT1⟩ : ∃ T : ISs, T = (.cons (.asg (.tp [(.nm 9), (.nm 10)]) (.tup (.cons (.call 40 (.cons (.var 1) (.cons (.var 7) .nil))) (.cons (.call 40 (.cons (.var 1) (.cons (.var 8) .nil))) .nil)))) (.cons (.iff (.or (.cmp .ne (.call 37 (.cons (.cst (.int 0)) (.cons (.var 1) (.cons (.var 7) (.cons (.cst (.non)) .nil))))) (.bi .len (.cons (.var 9) .nil))) (.cmp .isnot (.call 37 (.cons (.cst (.int 1)) (.cons (.var 1) (.cons (.var 7) (.cons (.cst (.non)) .nil))))) (.cst (.bl true)))) (.cons (.ret (.cst (.bl false))) .nil) .nil) (.cons (.asg (.nm 4) (.bin .mul (.call 21 (.cons (.var 0) (.cons (.cst (.int 3)) (.cons (.idx (.lst (.cons (.cst (.int 50)) (.cons (.bin .mul (.cst (.int 2)) (.var 2)) .nil))) (.call 21 (.cons (.var 0) (.cons (.cst (.int 4)) (.cons (.cst (.int 2)) .nil))))) .nil)))) (.bin .sub (.cst (.int 1)) (.bin .mul (.cst (.int 2)) (.call 21 (.cons (.var 0) (.cons (.cst (.int 5)) (.cons (.cst (.int 2)) .nil)))))))) (.cons (.iff (.cmp .eq (.call 21 (.cons (.var 0) (.cons (.cst (.int 8)) (.cons (.cst (.int 3)) .nil)))) (.cst (.int 0))) (.cons (.asg (.nm 4) (.bin .sub (.bin .sub (.bin .sub (.var 2) (.cst (.int 1))) (.idx (.var 9) (.neg (.cst (.int 1))))) (.call 21 (.cons (.var 0) (.cons (.cst (.int 9)) (.cons (.cst (.int 4)) .nil)))))) .nil) .nil) (.cons (.for (.nm 5) (.seq (.tup (.cons (.var 4) (.cons (.bin .sub (.cst (.int 0)) (.idx (.var 9) (.cst (.int 0)))) (.cons (.bin .sub (.neg (.cst (.int 1))) (.idx (.var 9) (.cst (.int 0)))) (.cons (.bin .sub (.bin .sub (.var 2) (.cst (.int 2))) (.idx (.var 9) (.neg (.cst (.int 1))))) (.cons (.bin .sub (.bin .sub (.var 2) (.cst (.int 1))) (.idx (.var 9) (.neg (.cst (.int 1))))) .nil))))))) (.cons (.par [13, 14] (.cons (.bin .add (.idx (.var 9) (.cst (.int 0))) (.var 5)) (.cons (.bin .add (.bin .add (.idx (.var 9) (.neg (.cst (.int 1)))) (.cst (.int 1))) (.var 5)) .nil))) (.cons (.asg (.nm 6) (.ite (.and (.cmp .le (.cst (.int 0)) (.var 13)) (.cmp .lt (.var 14) (.var 2))) (.tup (.cons (.call 29 (.cons (.var 1) (.cons (.var 13) .nil))) (.cons (.call 29 (.cons (.var 1) (.cons (.var 14) .nil))) .nil))) (.cst (.str ⟨#[116, 111, 111, 32, 102, 97, 114]⟩)))) (.cons (.iff (.cmp .ne (.call 37 (.cons (.cst (.int 2)) (.cons (.var 1) (.cons (.var 7) (.cons (.var 5) .nil))))) (.var 6)) (.cons (.ret (.cst (.bl false))) .nil) .nil) .nil)))) (.cons (.par [11, 12] (.cons (.lc (.var 15) (.nm 15) (.seq (.var 9)) (.cons (.cmp .inn (.var 15) (.var 10)) .nil)) (.cons (.sst (.bin .add (.var 9) (.var 10))) .nil))) (.cons (.asg (.nm 6) (.ite (.cmp .ne (.var 11) (.lst .nil)) (.tup (.cons (.call 29 (.cons (.var 1) (.cons (.idx (.var 11) (.cst (.int 0))) .nil))) (.cons (.call 29 (.cons (.var 1) (.cons (.bin .add (.idx (.var 11) (.neg (.cst (.int 1)))) (.cst (.int 1))) .nil))) .nil))) (.cst (.non)))) (.cons (.iff (.or (.cmp .ne (.call 37 (.cons (.cst (.int 3)) (.cons (.var 1) (.cons (.var 7) (.cons (.var 8) .nil))))) (.var 6)) (.cmp .ne (.call 18 (.cons (.var 1) (.cons (.var 8) (.cons (.var 7) .nil)))) (.var 6))) (.cons (.ret (.cst (.bl false))) .nil) .nil) (.cons (.asg (.nm 6) (.tup (.cons (.call 29 (.cons (.var 1) (.cons (.idx (.var 12) (.cst (.int 0))) .nil))) (.cons (.call 29 (.cons (.var 1) (.cons (.bin .add (.idx (.var 12) (.neg (.cst (.int 1)))) (.cst (.int 1))) .nil))) .nil)))) (.cons (.iff (.cmp .ne (.call 37 (.cons (.cst (.int 4)) (.cons (.var 1) (.cons (.var 7) (.cons (.var 8) .nil))))) (.ite (.cmp .eq (.bin .add (.bin .sub (.idx (.var 12) (.neg (.cst (.int 1)))) (.idx (.var 12) (.cst (.int 0)))) (.cst (.int 1))) (.bi .len (.cons (.var 12) .nil))) (.var 6) (.cst (.str ⟨#[110, 111, 32, 102, 105, 116]⟩)))) (.cons (.ret (.cst (.bl false))) .nil) .nil) (.cons (.ret (.call 41 (.cons (.var 0) (.cons (.var 1) (.cons (.var 7) .nil))))) .nil))))))))))) := ⟨_, rfl⟩
  obtain ⟨T3, hT3⟩ : ∃ T : ISs, T = (.cons (.par [11, 12] (.cons (.lc (.var 15) (.nm 15) (.seq (.var 9)) (.cons (.cmp .inn (.var 15) (.var 10)) .nil)) (.cons (.sst (.bin .add (.var 9) (.var 10))) .nil))) (.cons (.asg (.nm 6) (.ite (.cmp .ne (.var 11) (.lst .nil)) (.tup (.cons (.call 29 (.cons (.var 1) (.cons (.idx (.var 11) (.cst (.int 0))) .nil))) (.cons (.call 29 (.cons (.var 1) (.cons (.bin .add (.idx (.var 11) (.neg (.cst (.int 1)))) (.cst (.int 1))) .nil))) .nil))) (.cst (.non)))) (.cons (.iff (.or (.cmp .ne (.call 37 (.cons (.cst (.int 3)) (.cons (.var 1) (.cons (.var 7) (.cons (.var 8) .nil))))) (.var 6)) (.cmp .ne (.call 18 (.cons (.var 1) (.cons (.var 8) (.cons (.var 7) .nil)))) (.var 6))) (.cons (.ret (.cst (.bl false))) .nil) .nil) (.cons (.asg (.nm 6) (.tup (.cons (.call 29 (.cons (.var 1) (.cons (.idx (.var 12) (.cst (.int 0))) .nil))) (.cons (.call 29 (.cons (.var 1) (.cons (.bin .add (.idx (.var 12) (.neg (.cst (.int 1)))) (.cst (.int 1))) .nil))) .nil)))) (.cons (.iff (.cmp .ne (.call 37 (.cons (.cst (.int 4)) (.cons (.var 1) (.cons (.var 7) (.cons (.var 8) .nil))))) (.ite (.cmp .eq (.bin .add (.bin .sub (.idx (.var 12) (.neg (.cst (.int 1)))) (.idx (.var 12) (.cst (.int 0)))) (.cst (.int 1))) (.bi .len (.cons (.var 12) .nil))) (.var 6) (.cst (.str ⟨#[110, 111, 32, 102, 105, 116]⟩)))) (.cons (.ret (.cst (.bl false))) .nil) .nil) (.cons (.ret (.call 41 (.cons (.var 0) (.cons (.var 1) (.cons (.var 7) .nil))))) .nil)))))) := ⟨_, rfl⟩
  have h3 : T3 = (.cons (.par [11, 12] (.cons (.lc (.var 15) (.nm 15) (.seq (.var 9)) (.cons (.cmp .inn (.var 15) (.var 10)) .nil)) (.cons (.sst (.bin .add (.var 9) (.var 10))) .nil))) (.cons (.asg (.nm 6) (.ite (.cmp .ne (.var 11) (.lst .nil)) (.tup (.cons (.call 29 (.cons (.var 1) (.cons (.idx (.var 11) (.cst (.int 0))) .nil))) (.cons (.call 29 (.cons (.var 1) (.cons (.bin .add (.idx (.var 11) (.neg (.cst (.int 1)))) (.cst (.int 1))) .nil))) .nil))) (.cst (.non)))) (.cons (.iff (.or (.cmp .ne (.call 37 (.cons (.cst (.int 3)) (.cons (.var 1) (.cons (.var 7) (.cons (.var 8) .nil))))) (.var 6)) (.cmp .ne (.call 18 (.cons (.var 1) (.cons (.var 8) (.cons (.var 7) .nil)))) (.var 6))) (.cons (.ret (.cst (.bl false))) .nil) .nil) (.cons (.asg (.nm 6) (.tup (.cons (.call 29 (.cons (.var 1) (.cons (.idx (.var 12) (.cst (.int 0))) .nil))) (.cons (.call 29 (.cons (.var 1) (.cons (.bin .add (.idx (.var 12) (.neg (.cst (.int 1)))) (.cst (.int 1))) .nil))) .nil)))) (.cons (.iff (.cmp .ne (.call 37 (.cons (.cst (.int 4)) (.cons (.var 1) (.cons (.var 7) (.cons (.var 8) .nil))))) (.ite (.cmp .eq (.bin .add (.bin .sub (.idx (.var 12) (.neg (.cst (.int 1)))) (.idx (.var 12) (.cst (.int 0)))) (.cst (.int 1))) (.bi .len (.cons (.var 12) .nil))) (.var 6) (.cst (.str ⟨#[110, 111, 32, 102, 105, 116]⟩)))) (.cons (.ret (.cst (.bl false))) .nil) .nil) (.cons (.ret (.call 41 (.cons (.var 0) (.cons (.var 1) (.cons (.var 7) .nil))))) .nil)))))) := hT3
  rw [← hdy] at ld
  simp only [Nat.reduceAdd] at E0 ld fa V1 V2 V6 V7 V4 V5 V8 V9 S1 S2 at30 cb
  -- from the frames on
  have rest : ∀ c e : Int, In r c → In r e → c < e → e - c ≤ 30 → exSs ⟨lev Pr 11, Pr.sub, Pr.cst, Pr.nc⟩ T1 [.pv (.scr ns), .pv (.str r), .pv (.int dy), .pv (.int st), .un, .un, .un, .pv (sp r a b), .pv (sp r c e), .un, .un, .un, .un, .un, .un, .un] = .rt (.bl true) := by
    intro c e hc he hce h31
    have f1 := L_lfr (k := 8) hr ha hb hab
    have f2 := L_lfr (k := 8) hr hc he hce
    have d0 : lev Pr 11 37 [.int 0, .str r, sp r a b, .non] = .ok (.int (b - a)) := do0 (k := 1) (L_long (k := 4) hr ha hb hab)
    have d1 : lev Pr 11 37 [.int 1, .str r, sp r a b, .non] = .ok (.bl true) := do1 (k := 1) (L_is_span (k := 6) hr ha hb hab)
    have lM : biEv .len [li (intsFrom a (b - a).toNat)] = .ok (.int (b - a)) := by
      show R.ok (D.int (((intsFrom a (b - a).toNat).map D.int).length : Nat)) = _
      rw [List.length_map, intsFrom_len, show (((b - a).toNat : Nat) : Int) = b - a by omega]
    have x0 : idxEv (li (intsFrom a (b - a).toNat)) (.int 0) = .ok (.int a) := li_0 (if_0 (by omega))
    have x1 : idxEv (li (intsFrom a (b - a).toNat)) (.int (-1)) = .ok (.int (b - 1)) := li_last (by rw [if_last (by omega)]; congr 1; omega)
    have m2d : binEv .mul (.int 2) (.int dy) = .ok (.int (2 * dy)) := by
      show guard' (mulOk 2 dy) (R.ok (D.int (2 * dy))) = _
      rw [mulOk_l (by decide)]
      rfl
    have m2v : binEv .mul (.int 2) (.int v5) = .ok (.int (2 * v5)) := by
      show guard' (mulOk 2 v5) (R.ok (D.int (2 * v5))) = _
      rw [mulOk_l (by decide)]
      rfl
    obtain ⟨wd, ewd, wd0⟩ : ∃ wd, idxEv (.lst [.int 50, .int (2 * dy)]) (.int v4) = .ok (.int wd) ∧ 0 < wd := by
      have hv : v4 = 0 ∨ v4 = 1 := by omega
      rcases hv with rfl | rfl
      · exact ⟨_, rfl, by decide⟩
      · exact ⟨_, rfl, by omega⟩
    obtain ⟨v3, v30, v31, ev3⟩ := L_pick ns (j := 3) (m := wd) (by decide) wd0
    have V3 := ev3 9
    simp only [Nat.reduceAdd] at V3 f1 f2
    have mby : binEv .mul (.int v3) (.int (1 - 2 * v5)) = .ok (.int (v3 * (1 - 2 * v5))) := by
      show guard' (mulOk v3 (1 - 2 * v5)) (R.ok (D.int (v3 * (1 - 2 * v5)))) = _
      rw [mulOk_r (decide_eq_true (by omega))]
      rfl
    have en : ∀ (X4 X5 X6 X13 X14 : SV), exSs ⟨lev Pr 11, Pr.sub, Pr.cst, Pr.nc⟩ T3 [.pv (.scr ns), .pv (.str r), .pv (.int dy), .pv (.int st), X4, X5, X6, .pv (sp r a b), .pv (sp r c e), .pv (li (intsFrom a (b - a).toNat)), .pv (li (intsFrom c (e - c).toNat)), .un, .un, X13, X14, .un] = .rt (.bl true) := fun X4 X5 X6 X13 X14 => end_ok hr ns ha hb hab h30 hc he hce h31 h3 _ _ X4 X5 X6 X13 X14
    obtain ⟨M, hM⟩ : ∃ M, M = li (intsFrom a (b - a).toNat) := ⟨_, rfl⟩
    obtain ⟨Y, hY⟩ : ∃ Y, Y = li (intsFrom c (e - c).toNat) := ⟨_, rfl⟩
    rw [← hM] at f1 lM x0 x1 en
    rw [← hY] at f2 en
    have loop : ∀ (xs : List Int) (X4 : SV), ∃ x5 x6 x13 x14, forLoop (.nm 5) (exSs ⟨lev Pr 11, Pr.sub, Pr.cst, Pr.nc⟩ B) (xs.map D.int) [.pv (.scr ns), .pv (.str r), .pv (.int dy), .pv (.int st), X4, .un, .un, .pv (sp r a b), .pv (sp r c e), .pv M, .pv Y, .un, .un, .un, .un, .un] = .nx [.pv (.scr ns), .pv (.str r), .pv (.int dy), .pv (.int st), X4, x5, x6, .pv (sp r a b), .pv (sp r c e), .pv M, .pv Y, .un, .un, x13, x14, .un] := by
      intro xs X4
      obtain ⟨ρ', e1, x5, x6, x13, x14, rfl⟩ := for_done (f := D.int) (p := .nm 5) (b := exSs ⟨lev Pr 11, Pr.sub, Pr.cst, Pr.nc⟩ B) (xs := xs) (I := fun _ ρ => ∃ x5 x6 x13 x14, ρ = [.pv (.scr ns), .pv (.str r), .pv (.int dy), .pv (.int st), X4, x5, x6, .pv (sp r a b), .pv (sp r c e), .pv M, .pv Y, .un, .un, x13, x14, .un]) (by
        rintro done m rest ρ _ ⟨x5, x6, x13, x14, rfl⟩
        obtain ⟨y6, y13, y14, e⟩ := more_ok hr ns ha hb hab m hB (.pv (.int st)) X4 x6 (.pv (sp r c e)) (.pv Y) .un .un x13 x14 .un
        rw [← hM, ← hdy] at e
        exact ⟨_, _, rfl, .inl e, _, _, _, _, rfl⟩) (ρ := [.pv (.scr ns), .pv (.str r), .pv (.int dy), .pv (.int st), X4, .un, .un, .pv (sp r a b), .pv (sp r c e), .pv M, .pv Y, .un, .un, .un, .un, .un]) ⟨_, _, _, _, rfl⟩
      exact ⟨x5, x6, x13, x14, e1⟩
    have ns1 : ∀ q : Int, cmpEv .ne (.int q) (.int q) = .ok (.bl false) := fun q => ne_same rfl
    have isn : cmpEv .isnot (.bl true) (.bl true) = .ok (.bl false) := rfl
    have sqt : ∀ xs : List D, seqD (.tup xs) = .ok xs := fun _ => rfl
    rw [hT1, ← hB, ← hT3]
    by_cases h8 : v8 = 0
    · obtain ⟨x5, x6, x13, x14, lp⟩ := loop [dy - 1 - (b - 1) - v9, 0 - a, -1 - a, dy - 2 - (b - 1), dy - 1 - (b - 1)] (.pv (.int (dy - 1 - (b - 1) - v9)))
      have lp' := lp
      simp only [List.map_cons, List.map_nil, Int.zero_sub] at lp'
      have c8 : cmpEv .eq (.int v8) (.int 0) = .ok (.bl true) := by rw [h8]; rfl
      simp [exSs, exS, evE, evT, evL, getV, R.bind, R.st, noexc, truth, putN, putP, putPs, negD, i1, i2, f1, f2, d0, d1, lM, ns1, isn, m2d, V4, ewd, V3, V5, m2v, mby, V8, c8, x0, x1, V9, evI, sqt, lp', en]
    · obtain ⟨x5, x6, x13, x14, lp⟩ := loop [v3 * (1 - 2 * v5), 0 - a, -1 - a, dy - 2 - (b - 1), dy - 1 - (b - 1)] (.pv (.int (v3 * (1 - 2 * v5))))
      have lp' := lp
      simp only [List.map_cons, List.map_nil, Int.zero_sub] at lp'
      have c8 : cmpEv .eq (.int v8) (.int 0) = .ok (.bl false) := by
        show R.ok (D.bl (decide (v8 = 0))) = _
        rw [decide_eq_false h8]
      simp [exSs, exS, evE, evT, evL, getV, R.bind, R.st, noexc, truth, putN, putP, putPs, negD, i1, i2, f1, f2, d0, d1, lM, ns1, isn, m2d, V4, ewd, V3, V5, m2v, mby, V8, c8, x0, x1, evI, sqt, lp', en]
  have t0' : ∀ a b : D, idxEv (.tup [a, b]) (.int 0) = .ok a := fun _ _ => ti0
  rw [lev_at (d := d42) rfl]
  unfold d42
  rw [← hT1]
  by_cases h6 : v6 = 0
  · have c6 : cmpEv .eq (.int v6) (.int 0) = .ok (.bl true) := by rw [h6]; rfl
    by_cases hlt : b < dy - 30
    · rw [decide_eq_true hlt] at lt30
      have inb : In r (b + 1 + v7) := ⟨by have := hb.1; omega, by omega⟩
      have at7 := M_at (k := 9) hr inb
      have ep : D.tup [cdr r b, cdr r (b + 1 + v7)] = sp r b (b + 1 + v7) := rfl
      have re := rest b (b + 1 + v7) hb inb (by omega) (by omega)
      simp only [Nat.reduceAdd] at at7
      simp [exSs, exS, evE, evT, evL, getV, R.bind, R.st, noexc, truth, putN, putP, putPs, runDef, start, i1, i2, E0, ld, fa, t0', m60, V1, V2, est, S1, S2, V6, c6, q_1, at30, lt30, cb, V7, at7, ep, re]
    · rw [decide_eq_false hlt] at lt30
      have re := rest c' e' hc' he' hce' h31'
      simp [exSs, exS, evE, evT, evL, getV, R.bind, R.st, noexc, truth, putN, putP, putPs, runDef, start, i1, i2, E0, ld, fa, t0', m60, V1, V2, est, S1, S2, V6, c6, q_1, at30, lt30, re]
  · have c6 : cmpEv .eq (.int v6) (.int 0) = .ok (.bl false) := by
      show R.ok (D.bl (decide (v6 = 0))) = _
      rw [decide_eq_false h6]
    have re := rest c' e' hc' he' hce' h31'
    simp [exSs, exS, evE, evT, evL, getV, R.bind, R.st, noexc, truth, putN, putP, putPs, runDef, start, i1, i2, E0, ld, fa, t0', m60, V1, V2, est, S1, S2, V6, c6, re]
end K20
namespace K20
open PySem PySem.Spec PyProof.Rows L2
abbrev P0 : Program := PySem.Challenge.pw_framecodes_k20_whole_spans
def top (i : Nat) : Stmt := P0.main.body.getD i (.Pass ⟨0, 0, 0, 0⟩)
def mk (s : Stmt) (ps N : List Str) (ir : FD.IDef) : FD.DefF := match s with
  | .FunctionDef n a b _ _ _ sc _ _ _ => ⟨n, ps, N, a, b, sc, ir⟩
  | _ => ⟨"", [], [], ⟨[], [], none, [], [], none, []⟩, [], ⟨.function, [], false, false, []⟩, ir⟩
def T : FD.Tb := ⟨[("is_rate" : PySem.Str), ("look_rate" : PySem.Str), ("minute_frames" : PySem.Str), ("ten_frames" : PySem.Str), ("day_frames" : PySem.Str), ("is_whole" : PySem.Str), ("is_left_out" : PySem.Str), ("has_shape" : PySem.Str), ("is_code" : PySem.Str), ("count_of" : PySem.Str), ("code_of" : PySem.Str), ("look_by" : PySem.Str), ("is_span" : PySem.Str), ("look_span" : PySem.Str), ("counts_in" : PySem.Str), ("span_of" : PySem.Str), ("long" : PySem.Str), ("shifted" : PySem.Str), ("common" : PySem.Str), ("joined" : PySem.Str), ("_law_cell" : PySem.Str), ("_law_pick" : PySem.Str), ("_law_rate" : PySem.Str), ("_law_facts" : PySem.Str), ("_law_shape" : PySem.Str), ("_law_is_out" : PySem.Str), ("_law_code" : PySem.Str), ("_law_count" : PySem.Str), ("_law_day" : PySem.Str), ("_law_at" : PySem.Str), ("_law_low" : PySem.Str), ("_law_true" : PySem.Str), ("_law_places" : PySem.Str), ("_law_put" : PySem.Str), ("_law_spoilt_thing" : PySem.Str), ("_law_is_code" : PySem.Str), ("_law_word" : PySem.Str), ("_law_do" : PySem.Str), ("_law_span" : PySem.Str), ("_law_is_span" : PySem.Str), ("_law_frames" : PySem.Str), ("_law_are_told_apart" : PySem.Str), ("law" : PySem.Str)], [1, 1, 1, 1, 1, 3, 2, 2, 2, 2, 2, 1, 2, 2, 2, 3, 2, 3, 3, 3, 2, 3, 2, 1, 3, 2, 3, 2, 1, 2, 2, 1, 1, 3, 3, 2, 1, 4, 4, 2, 2, 3, 1], [("NAMES" : PySem.Str), ("FIGURES" : PySem.Str), ("LEFT_OUT" : PySem.Str), ("HOURS" : PySem.Str)], [("CodeError" : PySem.Str), ("NoRate" : PySem.Str), ("NoCode" : PySem.Str), ("NoNumber" : PySem.Str), ("NoSpan" : PySem.Str), ("TooFar" : PySem.Str), ("NoFit" : PySem.Str), ("NoText" : PySem.Str)], none, [], false, true⟩
def ds : List FD.DefF := [mk (top 14) [("thing" : PySem.Str)] [("thing" : PySem.Str)] d0, mk (top 15) [("rate" : PySem.Str)] [("rate" : PySem.Str)] d1, mk (top 16) [("rate" : PySem.Str)] [("rate" : PySem.Str)] d2, mk (top 17) [("rate" : PySem.Str)] [("rate" : PySem.Str)] d3, mk (top 18) [("rate" : PySem.Str)] [("rate" : PySem.Str)] d4, mk (top 20) [("thing" : PySem.Str), ("low" : PySem.Str), ("high" : PySem.Str)] [("thing" : PySem.Str), ("low" : PySem.Str), ("high" : PySem.Str)] d5, mk (top 21) [("rate" : PySem.Str), ("code" : PySem.Str)] [("rate" : PySem.Str), ("code" : PySem.Str)] d6, mk (top 22) [("rate" : PySem.Str), ("thing" : PySem.Str)] [("rate" : PySem.Str), ("thing" : PySem.Str), ("bounds" : PySem.Str), ("one" : PySem.Str), ("high" : PySem.Str)] d7, mk (top 23) [("rate" : PySem.Str), ("thing" : PySem.Str)] [("rate" : PySem.Str), ("thing" : PySem.Str)] d8, mk (top 24) [("rate" : PySem.Str), ("code" : PySem.Str)] [("rate" : PySem.Str), ("code" : PySem.Str), ("whole" : PySem.Str), ("told" : PySem.Str), ("hours" : PySem.Str), ("minutes" : PySem.Str), ("seconds" : PySem.Str), ("frames" : PySem.Str)] d9, mk (top 25) [("rate" : PySem.Str), ("number" : PySem.Str)] [("rate" : PySem.Str), ("number" : PySem.Str), ("few" : PySem.Str), ("minutes" : PySem.Str), ("whole" : PySem.Str), ("tens" : PySem.Str), ("rest" : PySem.Str)] d10, mk (top 26) [("by" : PySem.Str)] [("by" : PySem.Str)] d11, mk (top 28) [("rate" : PySem.Str), ("thing" : PySem.Str)] [("rate" : PySem.Str), ("thing" : PySem.Str), ("code" : PySem.Str)] d12, mk (top 29) [("rate" : PySem.Str), ("span" : PySem.Str)] [("rate" : PySem.Str), ("span" : PySem.Str)] d13, mk (top 30) [("rate" : PySem.Str), ("span" : PySem.Str)] [("rate" : PySem.Str), ("span" : PySem.Str)] d14, mk (top 31) [("rate" : PySem.Str), ("first" : PySem.Str), ("last" : PySem.Str)] [("rate" : PySem.Str), ("first" : PySem.Str), ("last" : PySem.Str)] d15, mk (top 32) [("rate" : PySem.Str), ("span" : PySem.Str)] [("rate" : PySem.Str), ("span" : PySem.Str), ("first" : PySem.Str), ("last" : PySem.Str)] d16, mk (top 33) [("rate" : PySem.Str), ("span" : PySem.Str), ("by" : PySem.Str)] [("rate" : PySem.Str), ("span" : PySem.Str), ("by" : PySem.Str), ("first" : PySem.Str), ("last" : PySem.Str)] d17, mk (top 34) [("rate" : PySem.Str), ("one" : PySem.Str), ("other" : PySem.Str)] [("rate" : PySem.Str), ("one" : PySem.Str), ("other" : PySem.Str), ("first" : PySem.Str), ("last" : PySem.Str)] d18, mk (top 35) [("rate" : PySem.Str), ("one" : PySem.Str), ("other" : PySem.Str)] [("rate" : PySem.Str), ("one" : PySem.Str), ("other" : PySem.Str)] d19, mk (top 37) [("script" : PySem.Str), ("k" : PySem.Str)] [("script" : PySem.Str), ("k" : PySem.Str)] d20, mk (top 38) [("script" : PySem.Str), ("k" : PySem.Str), ("many" : PySem.Str)] [("script" : PySem.Str), ("k" : PySem.Str), ("many" : PySem.Str), ("drawn" : PySem.Str)] d21, mk (top 39) [("script" : PySem.Str), ("at" : PySem.Str)] [("script" : PySem.Str), ("at" : PySem.Str)] d22, mk (top 40) [("rate" : PySem.Str)] [("rate" : PySem.Str), ("figures" : PySem.Str)] d23, mk (top 41) [("script" : PySem.Str), ("at" : PySem.Str), ("rate" : PySem.Str)] [("script" : PySem.Str), ("at" : PySem.Str), ("rate" : PySem.Str), ("most" : PySem.Str), ("hours" : PySem.Str), ("minutes" : PySem.Str), ("seconds" : PySem.Str), ("frames" : PySem.Str)] d24, mk (top 42) [("rate" : PySem.Str), ("code" : PySem.Str)] [("rate" : PySem.Str), ("code" : PySem.Str)] d25, mk (top 43) [("script" : PySem.Str), ("at" : PySem.Str), ("rate" : PySem.Str)] [("script" : PySem.Str), ("at" : PySem.Str), ("rate" : PySem.Str), ("made" : PySem.Str)] d26, mk (top 44) [("rate" : PySem.Str), ("code" : PySem.Str)] [("rate" : PySem.Str), ("code" : PySem.Str), ("hour" : PySem.Str), ("made" : PySem.Str), ("minute" : PySem.Str), ("most" : PySem.Str), ("few" : PySem.Str)] d27, mk (top 45) [("rate" : PySem.Str)] [("rate" : PySem.Str)] d28, mk (top 46) [("rate" : PySem.Str), ("number" : PySem.Str)] [("rate" : PySem.Str), ("number" : PySem.Str), ("hour" : PySem.Str), ("rest" : PySem.Str), ("most" : PySem.Str), ("few" : PySem.Str), ("minute" : PySem.Str)] d29, mk (top 47) [("up" : PySem.Str), ("down" : PySem.Str)] [("up" : PySem.Str), ("down" : PySem.Str), ("one" : PySem.Str), ("other" : PySem.Str)] d30, mk (top 48) [("rate" : PySem.Str)] [("rate" : PySem.Str), ("most" : PySem.Str), ("few" : PySem.Str)] d31, mk (top 49) [("thing" : PySem.Str)] [("thing" : PySem.Str), ("made" : PySem.Str), ("k" : PySem.Str), ("place" : PySem.Str)] d32, mk (top 50) [("thing" : PySem.Str), ("place" : PySem.Str), ("new" : PySem.Str)] [("thing" : PySem.Str), ("place" : PySem.Str), ("new" : PySem.Str), ("k" : PySem.Str)] d33, mk (top 51) [("script" : PySem.Str), ("at" : PySem.Str), ("thing" : PySem.Str)] [("script" : PySem.Str), ("at" : PySem.Str), ("thing" : PySem.Str), ("places" : PySem.Str), ("place" : PySem.Str), ("here" : PySem.Str), ("k" : PySem.Str), ("some" : PySem.Str), ("way" : PySem.Str)] d34, mk (top 52) [("rate" : PySem.Str), ("thing" : PySem.Str)] [("rate" : PySem.Str), ("thing" : PySem.Str), ("one" : PySem.Str), ("most" : PySem.Str)] d35, mk (top 53) [("kept" : PySem.Str)] [("kept" : PySem.Str), ("kinds" : PySem.Str)] d36, mk (top 54) [("what" : PySem.Str), ("rate" : PySem.Str), ("one" : PySem.Str), ("other" : PySem.Str)] [("what" : PySem.Str), ("rate" : PySem.Str), ("one" : PySem.Str), ("other" : PySem.Str), ("kept" : PySem.Str), ("answer" : PySem.Str), ("e" : PySem.Str)] d37, mk (top 55) [("script" : PySem.Str), ("at" : PySem.Str), ("rate" : PySem.Str), ("start" : PySem.Str)] [("script" : PySem.Str), ("at" : PySem.Str), ("rate" : PySem.Str), ("start" : PySem.Str), ("first" : PySem.Str), ("last" : PySem.Str)] d38, mk (top 56) [("rate" : PySem.Str), ("thing" : PySem.Str)] [("rate" : PySem.Str), ("thing" : PySem.Str), ("code" : PySem.Str)] d39, mk (top 57) [("rate" : PySem.Str), ("span" : PySem.Str)] [("rate" : PySem.Str), ("span" : PySem.Str)] d40, mk (top 58) [("script" : PySem.Str), ("rate" : PySem.Str), ("one" : PySem.Str)] [("script" : PySem.Str), ("rate" : PySem.Str), ("one" : PySem.Str), ("k" : PySem.Str), ("thing" : PySem.Str), ("told" : PySem.Str), ("rows" : PySem.Str), ("what" : PySem.Str), ("odd" : PySem.Str)] d41, mk (top 59) [("script" : PySem.Str)] [("script" : PySem.Str), ("rate" : PySem.Str), ("day" : PySem.Str), ("start" : PySem.Str), ("by" : PySem.Str), ("more" : PySem.Str), ("due" : PySem.Str), ("one" : PySem.Str), ("two" : PySem.Str), ("mine" : PySem.Str), ("yours" : PySem.Str), ("both" : PySem.Str), ("whole" : PySem.Str), ("first" : PySem.Str), ("last" : PySem.Str), ("frame" : PySem.Str)] d42]
theorem st : FD.stB T Pr ds = true := by decide +kernel
end K20
namespace K20
open PySem PySem.Spec PyProof.Rows L2
abbrev Rw : PySem.W.OpenRow := PySem.W.OpenLaw.row PySem.Challenge.rw_framecodes_k20_whole_spans
def fa : List He.Fa := []
abbrev hk : PySem.W.Hook := He.hookX 4 fa (ds.map FD.defOf) (FD.tabs T.cst Pr.cst) (FD.tfOf T) (FD.exB T Pr)
def ob (s : PySem.W.SharedT) : He.AlX := He.obsX 4 fa (ds.map FD.defOf) (FD.tabs T.cst Pr.cst) (FD.tfOf T) (FD.exB T Pr) (HandSHeadRun.getT s)
theorem ob_eq (s : PySem.W.SharedT) : ob s = hk.obs s.abs := He.obsX_eq (HandSHeadRun.getT_eq s)
def names : List PySem.Str := T.cls ++ T.cst ++ T.fns.filter fun x => decide (x ≠ ("law" : PySem.Str))
theorem run0 (w : World) : HandSHeadRun.RunEq Rw (PySem.W.view Rw.prog [P0.main.body.length - 1]) hk ob 30000 names (w.withFollow "special-get-raises" false) := fun os => by kernel_rfl
theorem run1 (w : World) : HandSHeadRun.RunEq Rw (PySem.W.view Rw.prog [P0.main.body.length - 1]) hk ob 30000 names (w.withFollow "special-get-raises" true) := fun os => by kernel_rfl
theorem run (w : World) : HandSHeadRun.RunEq Rw (PySem.W.view Rw.prog [P0.main.body.length - 1]) hk ob 30000 names w :=
  PySem.W.byRow2 "special-get-raises" (P := fun w => HandSHeadRun.RunEq Rw (PySem.W.view Rw.prog [P0.main.body.length - 1]) hk ob 30000 names w) run0 run1 w
end K20
namespace K20
open PySem PySem.Spec PyProof.Rows L2
theorem binds : FD.AllB ds := ⟨FD.bd 1 rfl (fun _ _ _ _ _ _ us hl => match us, hl with | [_], _ => rfl), FD.bd 1 rfl (fun _ _ _ _ _ _ us hl => match us, hl with | [_], _ => rfl), FD.bd 1 rfl (fun _ _ _ _ _ _ us hl => match us, hl with | [_], _ => rfl), FD.bd 1 rfl (fun _ _ _ _ _ _ us hl => match us, hl with | [_], _ => rfl), FD.bd 1 rfl (fun _ _ _ _ _ _ us hl => match us, hl with | [_], _ => rfl), FD.bd 3 rfl (fun _ _ _ _ _ _ us hl => match us, hl with | [_, _, _], _ => rfl), FD.bd 2 rfl (fun _ _ _ _ _ _ us hl => match us, hl with | [_, _], _ => rfl), FD.bd 2 rfl (fun _ _ _ _ _ _ us hl => match us, hl with | [_, _], _ => rfl), FD.bd 2 rfl (fun _ _ _ _ _ _ us hl => match us, hl with | [_, _], _ => rfl), FD.bd 2 rfl (fun _ _ _ _ _ _ us hl => match us, hl with | [_, _], _ => rfl), FD.bd 2 rfl (fun _ _ _ _ _ _ us hl => match us, hl with | [_, _], _ => rfl), FD.bd 1 rfl (fun _ _ _ _ _ _ us hl => match us, hl with | [_], _ => rfl), FD.bd 2 rfl (fun _ _ _ _ _ _ us hl => match us, hl with | [_, _], _ => rfl), FD.bd 2 rfl (fun _ _ _ _ _ _ us hl => match us, hl with | [_, _], _ => rfl), FD.bd 2 rfl (fun _ _ _ _ _ _ us hl => match us, hl with | [_, _], _ => rfl), FD.bd 3 rfl (fun _ _ _ _ _ _ us hl => match us, hl with | [_, _, _], _ => rfl), FD.bd 2 rfl (fun _ _ _ _ _ _ us hl => match us, hl with | [_, _], _ => rfl), FD.bd 3 rfl (fun _ _ _ _ _ _ us hl => match us, hl with | [_, _, _], _ => rfl), FD.bd 3 rfl (fun _ _ _ _ _ _ us hl => match us, hl with | [_, _, _], _ => rfl), FD.bd 3 rfl (fun _ _ _ _ _ _ us hl => match us, hl with | [_, _, _], _ => rfl), FD.bd 2 rfl (fun _ _ _ _ _ _ us hl => match us, hl with | [_, _], _ => rfl), FD.bd 3 rfl (fun _ _ _ _ _ _ us hl => match us, hl with | [_, _, _], _ => rfl), FD.bd 2 rfl (fun _ _ _ _ _ _ us hl => match us, hl with | [_, _], _ => rfl), FD.bd 1 rfl (fun _ _ _ _ _ _ us hl => match us, hl with | [_], _ => rfl), FD.bd 3 rfl (fun _ _ _ _ _ _ us hl => match us, hl with | [_, _, _], _ => rfl), FD.bd 2 rfl (fun _ _ _ _ _ _ us hl => match us, hl with | [_, _], _ => rfl), FD.bd 3 rfl (fun _ _ _ _ _ _ us hl => match us, hl with | [_, _, _], _ => rfl), FD.bd 2 rfl (fun _ _ _ _ _ _ us hl => match us, hl with | [_, _], _ => rfl), FD.bd 1 rfl (fun _ _ _ _ _ _ us hl => match us, hl with | [_], _ => rfl), FD.bd 2 rfl (fun _ _ _ _ _ _ us hl => match us, hl with | [_, _], _ => rfl), FD.bd 2 rfl (fun _ _ _ _ _ _ us hl => match us, hl with | [_, _], _ => rfl), FD.bd 1 rfl (fun _ _ _ _ _ _ us hl => match us, hl with | [_], _ => rfl), FD.bd 1 rfl (fun _ _ _ _ _ _ us hl => match us, hl with | [_], _ => rfl), FD.bd 3 rfl (fun _ _ _ _ _ _ us hl => match us, hl with | [_, _, _], _ => rfl), FD.bd 3 rfl (fun _ _ _ _ _ _ us hl => match us, hl with | [_, _, _], _ => rfl), FD.bd 2 rfl (fun _ _ _ _ _ _ us hl => match us, hl with | [_, _], _ => rfl), FD.bd 1 rfl (fun _ _ _ _ _ _ us hl => match us, hl with | [_], _ => rfl), FD.bd 4 rfl (fun _ _ _ _ _ _ us hl => match us, hl with | [_, _, _, _], _ => rfl), FD.bd 4 rfl (fun _ _ _ _ _ _ us hl => match us, hl with | [_, _, _, _], _ => rfl), FD.bd 2 rfl (fun _ _ _ _ _ _ us hl => match us, hl with | [_, _], _ => rfl), FD.bd 2 rfl (fun _ _ _ _ _ _ us hl => match us, hl with | [_, _], _ => rfl), FD.bd 3 rfl (fun _ _ _ _ _ _ us hl => match us, hl with | [_, _, _], _ => rfl), FD.bd 1 rfl (fun _ _ _ _ _ _ us hl => match us, hl with | [_], _ => rfl), True.intro⟩
theorem dl : ds[42]? = some (mk (top (P0.main.body.length - 1)) ["script"] (FD.DefF.N (ds.getD 42 (mk (top 0) [] [] d0))) d42) := by kernel_rfl
end K20
namespace K20
open PySem PySem.W PySem.Calls PyProof.Rows HandSHeadRun
theorem t_e : opening Rw.prog = plainProg Rw.prog.main.scope.names := by kernel_rfl
theorem t_f : ∀ s, fenceModules? Rw.prog s = some s := fun s => by kernel_rfl
theorem t_d : defOf (view Rw.prog [P0.main.body.length - 1]) Rw.name = some (topDef Rw.prog (P0.main.body.length - 1), []) := by kernel_rfl
theorem t_p : Rw.prog.theDef Rw.name = some ((topDef Rw.prog (P0.main.body.length - 1)).params, (topDef Rw.prog (P0.main.body.length - 1)).body, (topDef Rw.prog (P0.main.body.length - 1)).scope) := by kernel_rfl
theorem t_k : kwWritten? (topDef Rw.prog (P0.main.body.length - 1)).params.kwonlyargs (topDef Rw.prog (P0.main.body.length - 1)).params.kw_defaults = some [] := by kernel_rfl
theorem t_r : (!Rw.writes || Rw.records.isEmpty) = true := by rfl
theorem t_s : Rw.wellSaid = true := by decide +kernel
theorem t_o : (chainsOk (view Rw.prog [P0.main.body.length - 1]) && opensWell Rw.prog && (frees Rw.toRowW && Rw.within.isEmpty)) = true := by decide +kernel
theorem t_b : Rw.prog.bare := ⟨rfl, rfl, rfl, rfl, rfl, by decide +kernel⟩
theorem t_w : Rw.toRowW.promised := by w_witness2
theorem t_n : (topDef Rw.prog (P0.main.body.length - 1)).name = ("law" : PySem.Str) := by kernel_rfl
theorem t_c : WalkO (view Rw.prog [P0.main.body.length - 1]) names (XL (view Rw.prog [P0.main.body.length - 1]) []) hk.says Rw.toRowW (topDef Rw.prog (P0.main.body.length - 1)) [] fun f vs => PySem.call f vs := by
  refine LamX.walk_ofTsE (l := PySem.Challenge.rw_framecodes_k20_whole_spans) (n := 63) (k := 12) (x := "script") (CX := fun w => L2.CX PySem.Challenge.rw_framecodes_k20_whole_spans.prog w) rfl (by decide) (by kernel_rfl) ⟨rfl, by decide, by decide⟩ (fun w mg fa h Y G hmg0 => ?_) (fun _ _ _ _ _ z => FD.cx_no z)
  obtain ⟨K, KX, c⟩ := Y
  have hmg : mg ("law" : PySem.Str) = some (.ref fa) := by
    rw [← t_n]
    exact hmg0
  exact ⟨K, KX, FD.law_at KX G K20.fa c K20.st rfl K20.binds K20.dl rfl K20.law_plain hmg⟩
end K20
open PySem PySem.W PySem.Calls PyProof.Rows
theorem PySem.Challenge.cw_framecodes_k20_whole_spans_holds : PySem.Challenge.rw_framecodes_k20_whole_spans.Holds := by
  w_on; o_law
  exact HandSHeadRun.head_any (r := K20.Rw) (q := view K20.Rw.prog [K20.P0.main.body.length - 1]) (H := K20.hk) (ob := K20.ob) (M := 30000) (loose := K20.names) (d := HandSHeadRun.topDef K20.Rw.prog (K20.P0.main.body.length - 1)) (kwd := []) K20.ob_eq
    K20.t_e K20.t_f K20.run K20.t_d K20.t_p K20.t_k K20.t_r K20.t_s K20.t_o K20.t_b K20.t_w K20.t_c
