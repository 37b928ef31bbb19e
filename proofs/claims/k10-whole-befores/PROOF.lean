import PyProof.Rows.All
import Wide.All
import OpenK.AllK
import Wide.FinOn
import HandS.ForMost
import KE.KDictKeyed
import KE.KDictCopyH
import KE.SortData
import HandS.TupAny
import HandS.TupMul
import HandS.TupLe
import KE.DataMinMax
import KE.DataCmp
import HandS.Conv
import HandS.IsInst
import HandS.TupLen
import HandS.ExcValue
import KE.KDictSum
import HandS.Star
import KE.KDictDisplayH
import HandS.Codes
import HandS.Walk
import HandS.Zip
import KE.GoesNewDict
import KE.GoesDict
import KE.GoesNew
import HandS.Style
import HandS.Ends
import HandS.TupSets
import HandS.SetFor
import PySem.Challenge.RW_stoopers_k10_whole_befores
set_option Elab.async false
set_option maxRecDepth 100000
set_option autoImplicit false
set_option linter.all false
/-! Ev, part A: a pure evaluator with value semantics for a small part of the language. -/
namespace Ev
open PySem

/-- data -/
inductive D where
  | non | bl (b : Bool) | int (i : Int) | str (s : Str) | tup (l : List D) | lst (l : List D) | dct (ks vs : List D)

/-! the equality of the language (True is 1) -/
mutual
def eqD : D → D → Bool
  | .non, .non => true
  | .bl a, .bl b => a == b
  | .bl a, .int j => (if a then 1 else 0) == j
  | .int i, .bl b => i == (if b then 1 else 0)
  | .int i, .int j => i == j
  | .str x, .str y => x == y
  | .tup xs, .tup ys => eqDs xs ys
  | .lst xs, .lst ys => eqDs xs ys
  | _, _ => false
def eqDs : List D → List D → Bool
  | [], [] => true
  | x :: xs, y :: ys => eqD x y && eqDs xs ys
  | _, _ => false
end
/-! no dict within -/
mutual
def flatD : D → Bool
  | .dct _ _ => false
  | .str s => s.cps.all (· < 1114112)
  | .tup l => flatDs l
  | .lst l => flatDs l
  | _ => true
def flatDs : List D → Bool
  | [] => true
  | x :: xs => flatD x && flatDs xs
end
mutual
def depD : D → Nat
  | .tup l => depDs l + 1
  | .lst l => depDs l + 1
  | .dct _ _ => 1
  | _ => 0
def depDs : List D → Nat
  | [] => 0
  | x :: xs => max (depD x) (depDs xs)
end
/-! two data can be compared by < -/
mutual
def alikeD : D → D → Bool
  | .non, .non => true
  | .bl _, .bl _ => true
  | .int _, .int _ => true
  | .str _, .str _ => true
  | .tup xs, .tup ys => alikeDs xs ys
  | .lst xs, .lst ys => alikeDs xs ys
  | _, _ => false
def alikeDs : List D → List D → Bool
  | x :: xs, y :: ys => alikeD x y && alikeDs xs ys
  | _, _ => true
end
mutual
def ltD : D → D → Bool
  | .bl a, .bl b => !a && b
  | .int i, .int j => decide (i < j)
  | .str x, .str y => decide (x.cps.toList < y.cps.toList)
  | .tup xs, .tup ys => ltDs xs ys
  | .lst xs, .lst ys => ltDs xs ys
  | _, _ => false
def ltDs : List D → List D → Bool
  | [], _ :: _ => true
  | x :: xs, y :: ys => if eqD x y then ltDs xs ys else ltD x y
  | _, _ => false
end
/-- comparable as a whole: ok D at its shape, small depth -/
def okD (d : D) : Bool := flatD d && decide (depD d ≤ 64)
/-! a key of a dict: a tuple of scalars and such tuples, to depth 8 -/
mutual
def keyD : D → Bool
  | .non => true
  | .bl _ => true
  | .int _ => true
  | .str _ => true
  | .tup l => keyDs l
  | _ => false
def keyDs : List D → Bool
  | [] => true
  | x :: xs => keyD x && keyDs xs
end
def tupKey : D → Bool
  | .tup l => keyDs l && decide (depDs l ≤ 7)
  | _ => false
def scalKey : D → Bool
  | .int _ => true
  | .str _ => true
  | _ => false

def isTup : D → Bool | .tup _ => true | _ => false
def isNon : D → Bool | .non => true | _ => false

/-- stable insertion sort -/
def insBy (lt : D → D → Bool) (x : D) : List D → List D
  | [] => [x]
  | y :: ys => if lt y x then y :: insBy lt x ys else x :: y :: ys
def sortBy (lt : D → D → Bool) : List D → List D
  | [] => []
  | x :: xs => insBy lt x (sortBy lt xs)

/-- all are alike, and either all are tuples that are not empty or none is None or a tuple -/
def allAlike : List D → Bool
  | [] => true
  | x :: xs => alikeD x x && xs.all (fun y => alikeD x y && alikeD y x) && allAlike xs
def neTup : D → Bool | .tup (_ :: _) => true | _ => false
def noTup : D → Bool | .tup _ => false | .non => false | _ => true
def canSort (l : List D) : Bool := allAlike l && (l.all neTup || l.all noTup) && l.all okD && decide (l.length ≤ 16777216)

/-! ### dicts -/
def fkey : List D → D → Option Nat
  | [], _ => none
  | k :: ks, x => if eqD k x then some 0 else match fkey ks x with
    | some j => some (j + 1)
    | none => none
def dget (ks vs : List D) (x : D) : Option D := match fkey ks x with
  | some j => vs[j]?
  | none => none
def dput (ks vs : List D) (x y : D) : List D × List D := match fkey ks x with
  | some j => (ks, vs.set j y)
  | none => (ks ++ [x], vs ++ [y])

/-! ### the small language -/
inductive BOp where | add | sub | mul | fdiv | mod | pow
  deriving DecidableEq
inductive COp where | eq | ne | lt | le | gt | ge | is_ | isnot | in_ | notin
  deriving DecidableEq
inductive Ty where | int | bl | str | tup | lst
  deriving DecidableEq
inductive BI where
  | len | sorted | tuple | list | sum | any | all | min | max | abs | int | isa (ts : List Ty) | sset | tuprng | lstrng | lset
  deriving DecidableEq
inductive MT where | get | index | count
  deriving DecidableEq
/-- what is walked -/
inductive IK where | seq | range | enum | zip | items | values
  deriving DecidableEq
inductive Tgt where | nm (i : Nat) | tp (l : List Tgt)

inductive RE where
  | cst (d : D)
  | var (i : Nat)
  | mov (i : Nat)
  | plc (i : Nat)
  | pop (i : Nat)
  | bin (op : BOp) (a b : RE)
  | neg (a : RE)
  | not (a : RE)
  | cmp (op : COp) (a b : RE)
  | chn (o1 o2 : COp) (a b c : RE)
  | and (a b : RE)
  | or (a b : RE)
  | ife (c a b : RE)
  | tup (st : List Bool) (es : List RE)
  | lst (st : List Bool) (es : List RE)
  | dct (ks vs : List RE)
  | ix (a i : RE)
  | slc (a lo hi : RE)
  | rev (a : RE)
  | nop
  | call (f : Nat) (io : List Bool) (es : List RE)
  | bi (b : BI) (es : List RE)
  | mth (m : MT) (o : RE) (es : List RE)
  | comp (k : IK) (srcs : List RE) (t : Tgt) (own : List Nat) (conds : List RE) (elt : RE)

/-- a slot: nothing known; shared; owned (it alone holds the object); a parameter that the def changes; owned and locked (it is walked) -/
inductive Sl where | no | sh (d : D) | ow (d : D) | io (d : D) | lk (d : D)
abbrev Env := List Sl
/-- an operand: a value (fresh: nobody else has it), or the place of a slot, read when it is used -/
inductive OV where | val (fr : Bool) (d : D) | plc (i : Nat)

def isVal : OV → Bool
  | .val _ _ => true
  | _ => false
def Sl.get : Sl → Option D
  | .no => none
  | .sh d => some d
  | .ow d => some d
  | .io d => some d
  | .lk d => some d
def getS (ρ : Env) (i : Nat) : Option D := match ρ[i]? with
  | some s => s.get
  | none => none
def rd (ρ : Env) : OV → Option D
  | .val _ d => some d
  | .plc i => getS ρ i
def rds (ρ : Env) : List OV → Option (List D)
  | [] => some []
  | o :: os => match rd ρ o, rds ρ os with
    | some d, some es => some (d :: es)
    | _, _ => none
/-- the contents of an owned slot changed -/
def putS (ρ : Env) (i : Nat) (d : D) : Option Env := match ρ[i]? with
  | some (.ow _) => some (ρ.set i (.ow d))
  | some (.io _) => some (ρ.set i (.io d))
  | _ => none
/-- may be changed -/
def isMut : Sl → Bool
  | .ow _ => true
  | .io _ => true
  | _ => false
/-- nobody else has it -/
def isOwn : Sl → Bool
  | .ow _ => true
  | .io _ => true
  | .lk _ => true
  | _ => false
/-- may be stored to -/
def isFree : Sl → Bool
  | .io _ => false
  | .lk _ => false
  | _ => true
def mutS (ρ : Env) (i : Nat) : Bool := match ρ[i]? with
  | some s => isMut s
  | none => false
def ownS (ρ : Env) (i : Nat) : Bool := match ρ[i]? with
  | some s => isOwn s
  | none => false
def setS (ρ : Env) (i : Nat) (s : Sl) : Option Env := match ρ[i]? with
  | some t => if isFree t then some (ρ.set i s) else none
  | none => none
def isCol : D → Bool
  | .lst _ => true
  | .dct _ _ => true
  | _ => false

/-! ### operators -/
def mulOk (i j : Int) : Bool := decide (i.natAbs ≤ 18446744073709551615) || decide (j.natAbs ≤ 18446744073709551615)
def addD : D → D → Option D
  | .int i, .int j => some (.int (i + j))
  | .str x, .str y => if x.length + y.length ≤ 16777216 then some (.str (x ++ y)) else none
  | .lst x, .lst y => if x.length + y.length ≤ 16777216 then some (.lst (x ++ y)) else none
  | .tup x, .tup y => if x.length + y.length ≤ 16777216 then some (.tup (x ++ y)) else none
  | _, _ => none
def subD : D → D → Option D
  | .int i, .int j => some (.int (i - j))
  | _, _ => none
def mulD : D → D → Option D
  | .int i, .int j => if mulOk i j then some (.int (i * j)) else none
  | .lst x, .int j => if x.length * j.toNat ≤ 16777216 ∧ j.natAbs ≤ 9223372036854775807 then some (.lst (List.replicate j.toNat x).flatten) else none
  | .tup x, .int j => if 0 < x.length ∧ x.length ≤ 1000 ∧ 2 ≤ j ∧ j ≤ 1000 then some (.tup (List.replicate j.toNat x).flatten) else none
  | _, _ => none
def fdivD : D → D → Option D
  | .int i, .int j => if j ≠ 0 ∧ j.natAbs < 1073741824 then some (.int (i.fdiv j)) else none
  | _, _ => none
def modD : D → D → Option D
  | .int i, .int j => if j ≠ 0 then some (.int (i.fmod j)) else none
  | _, _ => none
def powD : D → D → Option D
  | .int i, .int j => if 0 ≤ j ∧ j ≤ 1000000 ∧ i.natAbs < 2 ^ 64 then some (.int (i ^ j.toNat)) else none
  | _, _ => none
def binD : BOp → D → D → Option D
  | .add => addD
  | .sub => subD
  | .mul => mulD
  | .fdiv => fdivD
  | .mod => modD
  | .pow => powD
def inD (x : D) : List D → Bool
  | [] => false
  | y :: ys => eqD y x || inD x ys
/-- the keys of a dict are of one kind, and this one too -/
def keyOk (ks : List D) (x : D) : Bool := tupKey x && ks.all tupKey || scalKey x && ks.all scalKey
def eqO (a b : D) : Option Bool := if okD a && okD b then some (eqD a b) else none
def neO (a b : D) : Option Bool := if okD a && okD b then some (!eqD a b) else none
/-- < and its like can be asked of two data -/
def ordOk (a b : D) : Bool := alikeD a b && flatD a && flatD b && !isNon a && decide (depD a ≤ 60)
def ltO (a b : D) : Option Bool := if ordOk a b then some (ltD a b) else none
def gtO (a b : D) : Option Bool := if ordOk a b then some (ltD b a) else none
def leO (a b : D) : Option Bool := if ordOk a b then some (!ltD b a) else none
def geO (a b : D) : Option Bool := if ordOk a b then some (!ltD a b) else none
def isO : D → D → Option Bool
  | a, .non => some (isNon a)
  | .bl a, .bl b => some (a == b)
  | _, _ => none
def isnotO : D → D → Option Bool
  | a, .non => some (!isNon a)
  | _, _ => none
def inO : D → D → Option Bool
  | x, .lst l => if okD x && l.all okD then some (inD x l) else none
  | x, .tup l => if okD x && l.all okD then some (inD x l) else none
  | x, .dct ks vs => if keyOk ks x then some (dget ks vs x).isSome else none
  | _, _ => none
def notinO (x y : D) : Option Bool := match inO x y with | some b => some (!b) | none => none
def cmpD : COp → D → D → Option Bool
  | .eq => eqO
  | .ne => neO
  | .lt => ltO
  | .gt => gtO
  | .le => leO
  | .ge => geO
  | .is_ => isO
  | .isnot => isnotO
  | .in_ => inO
  | .notin => notinO
/-- the place of an index -/
abbrev ixN (n : Nat) (i : Int) : Option Nat := L2.ixN n i
def ixD : D → D → Option D
  | .lst l, .int i => match ixN l.length i with | some j => l[j]? | none => none
  | .tup l, .int i => match ixN l.length i with | some j => l[j]? | none => none
  | .dct ks vs, x => if keyOk ks x then dget ks vs x else none
  | _, _ => none
def cutIx (n d : Nat) : Option Int → Nat
  | none => d
  | some i => if i < 0 then (i + n).toNat else min i.toNat n
def cutD (l : List D) (lo hi : Option Int) : List D := (l.drop (cutIx l.length 0 lo)).take (cutIx l.length l.length hi - cutIx l.length 0 lo)
def slcD : D → Option Int → Option Int → Option (Bool × D)
  | .lst l, lo, hi => some (true, .lst (cutD l lo hi))
  | .tup l, lo, hi => some (false, .tup (cutD l lo hi))
  | _, _, _ => none
def intsD : List D → Option (List Int)
  | [] => some []
  | .int i :: r => match intsD r with | some l => some (i :: l) | none => none
  | _ :: _ => none
def blsD : List D → Option (List Bool)
  | [] => some []
  | .bl b :: r => match blsD r with | some l => some (b :: l) | none => none
  | _ :: _ => none
def seqD : D → Option (List D)
  | .lst l => some l
  | .tup l => some l
  | .dct ks _ => some ks
  | _ => none
def minBy (lt : D → D → Bool) : D → List D → D
  | m, [] => m
  | m, x :: xs => minBy lt (if lt x m then x else m) xs
def maxBy (lt : D → D → Bool) : D → List D → D
  | m, [] => m
  | m, x :: xs => maxBy lt (if lt m x then x else m) xs
/-- small enough (told by natural numbers: a check of whole ones would be unfolded one by one) -/
def rngOk (a b : Int) : Bool := decide (a.natAbs ≤ 4611686018427387903) && decide (b.natAbs ≤ 4611686018427387903)
def rngD (a b : Int) : List D := (List.range (b - a).toNat).map fun (k : Nat) => D.int (a + (k : Int))
def isaD : Ty → D → Bool
  | .int, .int _ => true
  | .int, .bl _ => true
  | .bl, .bl _ => true
  | .str, .str _ => true
  | .tup, .tup _ => true
  | .lst, .lst _ => true
  | _, _ => false
/-- a set: each member once -/
def ddup {α : Type} [DecidableEq α] : List α → List α
  | [] => []
  | x :: xs => if x ∈ xs then ddup xs else x :: ddup xs
/-- a tuple of whole numbers -/
def rowD (ns : List Int) : D := .tup (ns.map D.int)
def rowsD : List D → Option (List (List Int))
  | [] => some []
  | .tup l :: r => match intsD l, rowsD r with
    | some ns, some m => some (ns :: m)
    | _, _ => none
  | _ :: _ => none
def ssetI (ns : List Int) : Option (List D) := if ns.length < 4000 ∧ canSort ((ddup ns).map D.int) = true then some (sortBy ltD ((ddup ns).map D.int)) else none
def ssetT (rs : List (List Int)) : Option (List D) := if rs.length < 64 ∧ canSort ((ddup rs).map rowD) = true then some (sortBy ltD ((ddup rs).map rowD)) else none
def lenB : List D → Option (Bool × D)
  | [.lst l] => some (false, .int l.length)
  | [.tup l] => some (false, .int l.length)
  | [.dct ks _] => some (false, .int ks.length)
  | _ => none
def sortedB : List D → Option (Bool × D)
  | [.lst l] => if canSort l then some (true, .lst (sortBy ltD l)) else none
  | [.dct ks _] => if canSort ks then some (true, .lst (sortBy ltD ks)) else none
  | _ => none
def tupleB : List D → Option (Bool × D)
  | [.lst l] => some (false, .tup l)
  | [.tup l] => some (false, .tup l)
  | _ => none
def listB : List D → Option (Bool × D)
  | [.lst l] => some (true, .lst l)
  | [.tup l] => some (true, .lst l)
  | [.dct ks _] => some (true, .lst ks)
  | _ => none
def sumB : List D → Option (Bool × D)
  | [.lst l] => match intsD l with | some ns => some (false, .int ns.sum) | none => none
  | [.tup l] => match intsD l with | some ns => some (false, .int ns.sum) | none => none
  | _ => none
def anyB : List D → Option (Bool × D)
  | [.lst l] => match blsD l with | some bs => some (false, .bl (bs.any id)) | none => none
  | _ => none
def allB : List D → Option (Bool × D)
  | [.lst l] => match blsD l with | some bs => some (false, .bl (bs.all id)) | none => none
  | _ => none
def minB : List D → Option (Bool × D)
  | [.lst l] => match intsD l with | some (n :: ns) => some (false, .int (ns.foldl min n)) | _ => none
  | [.tup l] => match intsD l with | some (n :: ns) => some (false, .int (ns.foldl min n)) | _ => none
  | [.int i, .int j] => some (false, .int (if j < i then j else i))
  | _ => none
def maxB : List D → Option (Bool × D)
  | [.lst l] => match intsD l with | some (n :: ns) => some (false, .int (ns.foldl max n)) | _ => none
  | [.tup l] => match intsD l with | some (n :: ns) => some (false, .int (ns.foldl max n)) | _ => none
  | [.int i, .int j] => some (false, .int (if j > i then j else i))
  | _ => none
def absB : List D → Option (Bool × D)
  | [.int i] => some (false, .int (if i < 0 then -i else i))
  | _ => none
def intB : List D → Option (Bool × D)
  | [.int i] => some (false, .int i)
  | _ => none
def isaB (ts : List Ty) : List D → Option (Bool × D)
  | [.dct _ _] => none
  | [d] => some (false, .bl (ts.any fun t => isaD t d))
  | _ => none
def tuprngB : List D → Option (Bool × D)
  | [.int n] => if rngOk 0 n && decide (n.toNat ≤ 16777216) then some (false, .tup (rngD 0 n)) else none
  | _ => none
def lstrngB : List D → Option (Bool × D)
  | [.int n] => if rngOk 0 n && decide (n.toNat ≤ 16777216) then some (true, .lst (rngD 0 n)) else none
  | _ => none
/-- sorted(set(x)) -/
def ssetB : List D → Option (Bool × D)
  | [.lst l] => match intsD l with
    | some ns => (ssetI ns).map fun m => (true, .lst m)
    | none => match rowsD l with
      | some rs => (ssetT rs).map fun m => (true, .lst m)
      | none => none
  | [.tup l] => match intsD l with
    | some ns => (ssetI ns).map fun m => (true, .lst m)
    | none => none
  | _ => none
/-- len(set(x)) -/
def lsetB : List D → Option (Bool × D)
  | [.lst l] => match intsD l with
    | some ns => if ns.length < 4000 then some (false, .int (ddup ns).length) else none
    | none => none
  | [.tup l] => match intsD l with
    | some ns => if ns.length < 4000 then some (false, .int (ddup ns).length) else none
    | none => none
  | _ => none
def biD : BI → List D → Option (Bool × D)
  | .len => lenB
  | .sorted => sortedB
  | .tuple => tupleB
  | .list => listB
  | .sum => sumB
  | .any => anyB
  | .all => allB
  | .min => minB
  | .max => maxB
  | .abs => absB
  | .int => intB
  | .isa ts => isaB ts
  | .tuprng => tuprngB
  | .lstrng => lstrngB
  | .sset => ssetB
  | .lset => lsetB
def getM : D → List D → Option D
  | .dct ks vs, [x, y] => if keyOk ks x then some ((dget ks vs x).getD y) else none
  | .dct ks vs, [x] => if keyOk ks x then some ((dget ks vs x).getD .non) else none
  | _, _ => none
/-- what has the method -/
def mtTy : MT → D → Bool
  | .get, .dct _ _ => true
  | _, _ => false
def mtD : MT → D → List D → Option D
  | .get => getM
  | .index => fun _ _ => none
  | .count => fun _ _ => none

/-! ### what is walked -/
def enumFrom (k : Nat) : List D → List D
  | [] => []
  | x :: xs => .tup [.int k, x] :: enumFrom (k + 1) xs
def zipD : List D → List D → List D
  | x :: xs, y :: ys => .tup [x, y] :: zipD xs ys
  | _, _ => []
def itD : IK → List D → Option (List D)
  | .seq, [.lst l] => some l
  | .seq, [.tup l] => some l
  | .range, [.int n] => if rngOk 0 n then some (rngD 0 n) else none
  | .range, [.int a, .int b] => if rngOk a b then some (rngD a b) else none
  | .enum, [.lst l] => some (enumFrom 0 l)
  | .enum, [.tup l] => some (enumFrom 0 l)
  | .zip, [.lst x, .lst y] => some (zipD x y)
  | .zip, [.tup x, .tup y] => some (zipD x y)
  | .items, [.dct ks vs] => some (zipD ks vs)
  | .values, [.dct _ vs] => some vs
  | _, _ => none

/-! ### targets -/
mutual
def bindT : Tgt → D → Env → Option Env
  | .nm i, d, ρ => setS ρ i (.sh d)
  | .tp ts, .tup ds, ρ => bindTs ts ds ρ
  | .tp _, _, _ => none
def bindTs : List Tgt → List D → Env → Option Env
  | [], [], ρ => some ρ
  | t :: ts, d :: ds, ρ => match bindT t d ρ with
    | some ρ' => bindTs ts ds ρ'
    | none => none
  | _, _, _ => none
end

/-- slots forgotten -/
def wipeE (ρ : Env) : List Nat → Env
  | [] => ρ
  | i :: is => (wipeE ρ is).set i .no
/-- the slots as they were -/
def backE (ρ ρ0 : Env) : List Nat → Env
  | [] => ρ
  | i :: is => match ρ0[i]? with
    | some s => (backE ρ ρ0 is).set i s
    | none => backE ρ ρ0 is
/-- the places that are walked are locked -/
def lockE (ρ : Env) : List OV → Env
  | [] => ρ
  | .plc i :: os => match (lockE ρ os)[i]? with
    | some (.ow d) => (lockE ρ os).set i (.lk d)
    | some (.io d) => (lockE ρ os).set i (.lk d)
    | _ => lockE ρ os
  | _ :: os => lockE ρ os
/-- .. and unlocked, to what they were in ρ0 -/
def unlockE (ρ0 ρ : Env) : List OV → Env
  | [] => ρ
  | .plc i :: os => match ρ0[i]? with
    | some (.ow d) => (unlockE ρ0 ρ os).set i (.ow d)
    | some (.io d) => (unlockE ρ0 ρ os).set i (.io d)
    | _ => unlockE ρ0 ρ os
  | _ :: os => unlockE ρ0 ρ os

abbrev EvE := Env → Option (OV × Env)
/-- a value, not a place -/
def toVal : Option (OV × Env) → Option (Bool × D × Env)
  | some (.val fr d, ρ) => some (fr, d, ρ)
  | _ => none
/-- a test -/
def toBl : Option (OV × Env) → Option (Bool × Env)
  | some (.val _ (.bl b), ρ) => some (b, ρ)
  | _ => none
/-- an int, for a part of a slice -/
def toInt : Option (OV × Env) → Option (Option Int × Env)
  | some (.val _ (.int i), ρ) => some (some i, ρ)
  | _ => none
def isNop : RE → Bool
  | .nop => true
  | _ => false
/-- the turns of a comprehension -/
def compLoop (t : Tgt) (own : List Nat) (conds : Env → Option (Bool × Env)) (elt : EvE) : List D → Env → List D → Option (List D × Env)
  | [], ρ, acc => some (acc, ρ)
  | d :: ds, ρ, acc => match bindT t d (wipeE ρ own) with
    | none => none
    | some ρ1 => match conds ρ1 with
      | none => none
      | some (true, ρ2) => match toVal (elt ρ2) with
        | none => none
        | some (_, x, ρ3) => if acc.length < 16777216 then compLoop t own conds elt ds (wipeE ρ3 own) (acc ++ [x]) else none
      | some (false, ρ2) => compLoop t own conds elt ds (wipeE ρ2 own) acc
/-- the owned slots that a call changes, and the values of all arguments -/
def ioPlaces : List Bool → List OV → List (Option Nat)
  | true :: fs, .plc i :: os => some i :: ioPlaces fs os
  | true :: fs, _ :: os => none :: ioPlaces fs os
  | false :: fs, _ :: os => ioPlaces fs os
  | _, _ => []
/-- the arguments are as they should be: owned places or fresh values where the def changes, values elsewhere -/
def ioOk (ρ : Env) : List Bool → List OV → Bool
  | true :: fs, .plc i :: os => mutS ρ i && ioOk ρ fs os
  | true :: fs, .val fr _ :: os => fr && ioOk ρ fs os
  | false :: fs, .val _ _ :: os => ioOk ρ fs os
  | [], [] => true
  | _, _ => false
def noTwice : List (Option Nat) → Bool
  | [] => true
  | none :: r => noTwice r
  | some i :: r => !(r.any fun x => x == some i) && noTwice r
def backIo : List (Option Nat) → List D → Env → Option Env
  | [], [], ρ => some ρ
  | none :: r, _ :: ds, ρ => backIo r ds ρ
  | some i :: r, d :: ds, ρ => match putS ρ i d with
    | some ρ' => backIo r ds ρ'
    | none => none
  | _, _, _ => none
abbrev CallS := Nat → List D → Option (Bool × D × List D)

mutual
def evE (C : CallS) : RE → EvE
  | .cst d, ρ => if okD d && !isCol d && !isTup d then some (.val false d, ρ) else none
  | .var i, ρ => match ρ[i]? with
    | some (.sh d) => some (.val false d, ρ)
    | some (.ow d) => some (.val false d, ρ.set i (.sh d))
    | _ => none
  | .mov i, ρ => match ρ[i]? with
    | some (.sh d) => some (.val false d, ρ)
    | some (.ow d) => some (.val true d, ρ.set i .no)
    | _ => none
  | .plc i, ρ => match getS ρ i with
    | some _ => some (.plc i, ρ)
    | none => none
  | .pop i, ρ => match getS ρ i with
    | some (.lst l) => match l.getLast? with
      | some x => match putS ρ i (.lst l.dropLast) with
        | some ρ' => some (.val false x, ρ')
        | none => none
      | none => none
    | _ => none
  | .bin op a b, ρ => match evE C a ρ with
    | none => none
    | some (oa, ρ1) => match evE C b ρ1 with
      | none => none
      | some (ob, ρ2) => match rd ρ2 oa, rd ρ2 ob with
        | some x, some y => match binD op x y with
          | some z => some (.val (isCol z) z, ρ2)
          | none => none
        | _, _ => none
  | .neg a, ρ => match evE C a ρ with
    | some (.val _ (.int i), ρ1) => some (.val false (.int (-i)), ρ1)
    | _ => none
  | .not a, ρ => match toBl (evE C a ρ) with
    | some (b, ρ1) => some (.val false (.bl (!b)), ρ1)
    | none => none
  | .cmp op a b, ρ => match evE C a ρ with
    | none => none
    | some (oa, ρ1) => match evE C b ρ1 with
      | none => none
      | some (ob, ρ2) => match rd ρ2 oa, rd ρ2 ob with
        | some x, some y => match cmpD op x y with
          | some z => some (.val false (.bl z), ρ2)
          | none => none
        | _, _ => none
  | .chn o1 o2 a b c, ρ => match evE C a ρ with
    | none => none
    | some (oa, ρ1) => match evE C b ρ1 with
      | none => none
      | some (ob, ρ2) => match rd ρ2 oa, rd ρ2 ob with
        | some x, some y => match cmpD o1 x y with
          | none => none
          | some false => some (.val false (.bl false), ρ2)
          | some true => match evE C c ρ2 with
            | none => none
            | some (oc, ρ3) => match rd ρ3 ob, rd ρ3 oc with
              | some y, some z => match cmpD o2 y z with
                | some r => some (.val false (.bl r), ρ3)
                | none => none
              | _, _ => none
        | _, _ => none
  | .and a b, ρ => match toBl (evE C a ρ) with
    | none => none
    | some (true, ρ1) => evE C b ρ1
    | some (false, ρ1) => some (.val false (.bl false), ρ1)
  | .or a b, ρ => match toBl (evE C a ρ) with
    | none => none
    | some (true, ρ1) => some (.val false (.bl true), ρ1)
    | some (false, ρ1) => evE C b ρ1
  | .ife c a b, ρ => match toBl (evE C c ρ) with
    | none => none
    | some (true, ρ1) => evE C a ρ1
    | some (false, ρ1) => evE C b ρ1
  | .tup st es, ρ => match evD C st es ρ with
    | some (ds, ρ1) => if ds.length ≤ 16777216 then some (.val false (.tup ds), ρ1) else none
    | none => none
  | .lst st es, ρ => match evD C st es ρ with
    | some (ds, ρ1) => if ds.length ≤ 16777216 then some (.val true (.lst ds), ρ1) else none
    | none => none
  | .dct ks vs, ρ => match ks, vs with
    | [], [] => some (.val true (.dct [] []), ρ)
    | [k], [v] => match toVal (evE C k ρ) with
      | none => none
      | some (_, dk, ρ1) => match toVal (evE C v ρ1) with
        | none => none
        | some (_, dv, ρ2) => if tupKey dk || scalKey dk then some (.val true (.dct [dk] [dv]), ρ2) else none
    | _, _ => none
  | .ix a i, ρ => match evE C a ρ with
    | none => none
    | some (oa, ρ1) => match evE C i ρ1 with
      | none => none
      | some (oi, ρ2) => match rd ρ2 oa, rd ρ2 oi with
        | some x, some y => match ixD x y with
          | some z => some (.val false z, ρ2)
          | none => none
        | _, _ => none
  | .slc a lo hi, ρ => match evE C a ρ with
    | none => none
    | some (oa, ρ1) => match (if isNop lo then some (none, ρ1) else toInt (evE C lo ρ1)) with
      | none => none
      | some (l, ρ2) => match (if isNop hi then some (none, ρ2) else toInt (evE C hi ρ2)) with
        | none => none
        | some (h, ρ3) => match rd ρ3 oa with
          | some x => match slcD x l h with
            | some (fr, z) => some (.val fr z, ρ3)
            | none => none
          | none => none
  | .rev _, _ => none
  | .nop, _ => none
  | .call f io es, ρ => match evL C es ρ with
    | none => none
    | some (os, ρ1) => if ioOk ρ1 io os && noTwice (ioPlaces io os) then
        match rds ρ1 os with
        | none => none
        | some ds => match C f ds with
          | none => none
          | some (fr, d, outs) => match backIo (ioPlaces io os) outs ρ1 with
            | none => none
            | some ρ2 => some (.val fr d, ρ2)
      else none
  | .bi b es, ρ => match evL C es ρ with
    | none => none
    | some (os, ρ1) => match rds ρ1 os with
      | none => none
      | some ds => match biD b ds with
        | none => none
        | some (fr, d) => some (.val fr d, ρ1)
  | .mth m o es, ρ => match evE C o ρ with
    | none => none
    | some (oo, ρ1) => match rd ρ1 oo with
      | none => none
      | some x0 => if mtTy m x0 then match evL C es ρ1 with
          | none => none
          | some (os, ρ2) => if os.all isVal then match rd ρ2 oo, rds ρ2 os with
              | some x, some ds => match mtD m x ds with
                | some d => some (.val false d, ρ2)
                | none => none
              | _, _ => none
            else none
        else none
  | .comp k srcs t own conds elt, ρ => match evL C srcs ρ with
    | none => none
    | some (os, ρ1) => match rds ρ1 os with
      | none => none
      | some ds => match itD k ds with
        | none => none
        | some items => if own.all (fun i => !ownS ρ1 i) then
            match compLoop t own (evC C conds) (evE C elt) items (lockE ρ1 os) [] with
            | none => none
            | some (acc, ρ2) => some (.val true (.lst acc), unlockE ρ1 (backE ρ2 ρ1 own) os)
          else none
/-- operands in a row -/
def evL (C : CallS) : List RE → Env → Option (List OV × Env)
  | [], ρ => some ([], ρ)
  | e :: es, ρ => match evE C e ρ with
    | none => none
    | some (o, ρ1) => match evL C es ρ1 with
      | none => none
      | some (os, ρ2) => some (o :: os, ρ2)
/-- the items of a display -/
def evD (C : CallS) : List Bool → List RE → Env → Option (List D × Env)
  | false :: st, e :: es, ρ => match toVal (evE C e ρ) with
    | none => none
    | some (_, d, ρ1) => match evD C st es ρ1 with
      | none => none
      | some (ds, ρ2) => some (d :: ds, ρ2)
  | true :: st, e :: es, ρ => match evE C e ρ with
    | none => none
    | some (o, ρ1) => match rd ρ1 o with
      | some (.lst l) => match evD C st es ρ1 with
        | none => none
        | some (ds, ρ2) => some (l ++ ds, ρ2)
      | some (.tup l) => match evD C st es ρ1 with
        | none => none
        | some (ds, ρ2) => some (l ++ ds, ρ2)
      | _ => none
  | [], [], ρ => some ([], ρ)
  | _, _, _ => none
/-- tests, all of them -/
def evC (C : CallS) : List RE → Env → Option (Bool × Env)
  | [], ρ => some (true, ρ)
  | e :: es, ρ => match toBl (evE C e ρ) with
    | none => none
    | some (true, ρ1) => evC C es ρ1
    | some (false, ρ1) => some (false, ρ1)
end

/-! ### statements -/
inductive RS where
  | asg (i : Nat) (e : RE)
  | asgT (t : Tgt) (e : RE)
  | par (is : List Nat) (es : List RE)
  | setix (o : Nat) (ix e : RE)
  | aug (i : Nat) (op : BOp) (e : RE)
  | app (i : Nat) (e : RE)
  | ext (i : Nat) (e : RE)
  | exp (e : RE)
  | ifs (c : RE) (a b : List RS)
  | loop (k : IK) (srcs : List RE) (t : Tgt) (body : List RS)
  | whl (c : RE) (body : List RS)
  | ret (e : RE)
  | retN
  | brk
  | cnt
  | pass
  | rais
inductive SR where | nx (ρ : Env) | rt (fr : Bool) (d : D) (ρ : Env) | bk (ρ : Env) | ct (ρ : Env)
abbrev EvS := Env → Option SR

def owS (fr : Bool) (d : D) : Sl := if fr then .ow d else .sh d
def parL (C : CallS) : List RE → Env → Option (List (Bool × D) × Env)
  | [], ρ => some ([], ρ)
  | e :: es, ρ => match toVal (evE C e ρ) with
    | none => none
    | some (fr, d, ρ1) => match parL C es ρ1 with
      | none => none
      | some (r, ρ2) => some ((fr, d) :: r, ρ2)
def parS : List Nat → List (Bool × D) → Env → Option Env
  | [], [], ρ => some ρ
  | i :: is, (fr, d) :: r, ρ => match setS ρ i (owS fr d) with
    | some ρ1 => parS is r ρ1
    | none => none
  | _, _, _ => none
def forLoop (t : Tgt) (body : EvS) : List D → Env → Option SR
  | [], ρ => some (.nx ρ)
  | d :: ds, ρ => match bindT t d ρ with
    | none => none
    | some ρ1 => match body ρ1 with
      | none => none
      | some (.nx ρ2) => forLoop t body ds ρ2
      | some (.ct ρ2) => forLoop t body ds ρ2
      | some (.bk ρ2) => some (.nx ρ2)
      | some (.rt fr d ρ2) => some (.rt fr d ρ2)
def whileLoop (c : Env → Option (Bool × Env)) (body : EvS) : Nat → Env → Option SR
  | 0, _ => none
  | n + 1, ρ => match c ρ with
    | none => none
    | some (false, ρ1) => some (.nx ρ1)
    | some (true, ρ1) => match body ρ1 with
      | none => none
      | some (.nx ρ2) => whileLoop c body n ρ2
      | some (.ct ρ2) => whileLoop c body n ρ2
      | some (.bk ρ2) => some (.nx ρ2)
      | some (.rt fr d ρ2) => some (.rt fr d ρ2)
/-- no loop has more turns -/
def WF : Nat := 1000000000000
def unlockR (ρ0 : Env) (os : List OV) : SR → SR
  | .nx ρ => .nx (unlockE ρ0 ρ os)
  | .bk ρ => .bk (unlockE ρ0 ρ os)
  | .ct ρ => .ct (unlockE ρ0 ρ os)
  | .rt fr d ρ => .rt fr d (unlockE ρ0 ρ os)
/-- a store to a place of an owned list or dict -/
def storeD : D → D → D → Option D
  | .lst l, .int i, x => match ixN l.length i with
    | some j => some (.lst (l.set j x))
    | none => none
  | .dct ks vs, k, x => if keyOk ks k ∧ ks.length < 16777216 then some (.dct (dput ks vs k x).1 (dput ks vs k x).2) else none
  | _, _, _ => none

mutual
def evS (C : CallS) : RS → EvS
  | .asg i e, ρ => match toVal (evE C e ρ) with
    | none => none
    | some (fr, d, ρ1) => match setS ρ1 i (owS fr d) with
      | some ρ2 => some (.nx ρ2)
      | none => none
  | .asgT t e, ρ => match toVal (evE C e ρ) with
    | none => none
    | some (_, d, ρ1) => match bindT t d ρ1 with
      | some ρ2 => some (.nx ρ2)
      | none => none
  | .par is es, ρ => match parL C es ρ with
    | none => none
    | some (r, ρ1) => match parS is r ρ1 with
      | some ρ2 => some (.nx ρ2)
      | none => none
  | .setix o ix e, ρ => match toVal (evE C e ρ) with
    | none => none
    | some (_, d, ρ1) => match getS ρ1 o with
      | none => none
      | some _ => match toVal (evE C ix ρ1) with
        | none => none
        | some (_, k, ρ2) => match getS ρ2 o with
          | none => none
          | some x => match storeD x k d with
            | none => none
            | some y => match putS ρ2 o y with
              | some ρ3 => some (.nx ρ3)
              | none => none
  | .aug i op e, ρ => match getS ρ i with
    | some (.int a) => match toVal (evE C e ρ) with
      | some (_, .int b, ρ1) => match binD op (.int a) (.int b) with
        | some z => match setS ρ1 i (.sh z) with
          | some ρ2 => some (.nx ρ2)
          | none => none
        | none => none
      | _ => none
    | _ => none
  | .app i e, ρ => match getS ρ i with
    | some (.lst _) => match toVal (evE C e ρ) with
      | none => none
      | some (_, d, ρ1) => match getS ρ1 i with
        | some (.lst l) => if l.length < 16777216 then
            match putS ρ1 i (.lst (l ++ [d])) with
            | some ρ2 => some (.nx ρ2)
            | none => none
          else none
        | _ => none
    | _ => none
  | .ext i e, ρ => match getS ρ i with
    | some (.lst _) => match toVal (evE C e ρ) with
      | some (true, .lst x, ρ1) => match getS ρ1 i with
        | some (.lst l) => if l.length + x.length ≤ 16777216 then
            match putS ρ1 i (.lst (l ++ x)) with
            | some ρ2 => some (.nx ρ2)
            | none => none
          else none
        | _ => none
      | _ => none
    | _ => none
  | .exp e, ρ => match evE C e ρ with
    | some (_, ρ1) => some (.nx ρ1)
    | none => none
  | .ifs c a b, ρ => match toBl (evE C c ρ) with
    | none => none
    | some (true, ρ1) => evSs C a ρ1
    | some (false, ρ1) => evSs C b ρ1
  | .loop k srcs t body, ρ => match evL C srcs ρ with
    | none => none
    | some (os, ρ1) => match rds ρ1 os with
      | none => none
      | some ds => match itD k ds with
        | none => none
        | some items => match forLoop t (evSs C body) items (lockE ρ1 os) with
          | none => none
          | some r => some (unlockR ρ1 os r)
  | .whl c body, ρ => whileLoop (fun ρ' => toBl (evE C c ρ')) (evSs C body) WF ρ
  | .ret e, ρ => match toVal (evE C e ρ) with
    | none => none
    | some (fr, d, ρ1) => some (.rt fr d ρ1)
  | .retN, ρ => some (.rt false .non ρ)
  | .brk, ρ => some (.bk ρ)
  | .cnt, ρ => some (.ct ρ)
  | .pass, ρ => some (.nx ρ)
  | .rais, _ => none
def evSs (C : CallS) : List RS → EvS
  | [], ρ => some (.nx ρ)
  | s :: ss, ρ => match evS C s ρ with
    | some (.nx ρ1) => evSs C ss ρ1
    | r => r
end

/-! ### defs -/
structure Fn where
  io : List Bool
  ns : Nat
  body : List RS
def initE : List Bool → List D → List Sl
  | true :: fs, d :: ds => .io d :: initE fs ds
  | false :: fs, d :: ds => .sh d :: initE fs ds
  | _, _ => []
def fullE (fn : Fn) (ds : List D) : Env := initE fn.io ds ++ List.replicate (fn.ns - ds.length) .no
def outsE : List Bool → Env → Option (List D)
  | true :: fs, .io d :: ρ => match outsE fs ρ with
    | some ds => some (d :: ds)
    | none => none
  | false :: fs, _ :: ρ => outsE fs ρ
  | [], _ => some []
  | _, _ => none
def finF (fn : Fn) : Option SR → Option (Bool × D × List D)
  | some (.nx ρ) => match outsE fn.io ρ with
    | some os => some (false, .non, os)
    | none => none
  | some (.rt fr d ρ) => match outsE fn.io ρ with
    | some os => some (fr, d, os)
    | none => none
  | _ => none
def callF (tab : Nat → Option Fn) : Nat → CallS
  | 0, _, _ => none
  | n + 1, f, ds => match tab f with
    | none => none
    | some fn => if ds.length = fn.io.length then finF fn (evSs (callF tab n) fn.body (fullE fn ds)) else none
end Ev

/-! Ev, part B: what stands for what. -/
namespace Ev
open PySem PySem.Spec PyProof.Rows L2

abbrev St := L2.St
/-- a dict, by its object -/
def dO (a : Addr) (o : Obj) : HO := .ext fun h => h.get? a = some o

mutual
def toKey : D → NestedKey
  | .non => .none
  | .bl b => .num (if b = true then 1 else 0)
  | .int i => .num i
  | .str s => .text s
  | .tup l => .tup (toKeys l)
  | _ => .none
def toKeys : List D → List NestedKey
  | [] => []
  | d :: ds => toKey d :: toKeys ds
end

/-- the entries of a dict -/
structure EntR (w : World) (es : List DictEntry) (ks : List D) (xs ys : List V) : Prop where
  l1 : ks.length = es.length
  l2 : xs.length = es.length
  l3 : ys.length = es.length
  at_ : ∀ (i : Nat) (en : DictEntry), es[i]? = some en → ∃ k x y, ks[i]? = some k ∧ xs[i]? = some x ∧ ys[i]? = some y ∧ en.hash = (toKey k).hash w ∧ RelV x en.key ∧ RelV y en.val
/-- a dict's object at a -/
def DctO (w : World) (H : Hp) (a : Addr) (ks : List D) (xs ys : List V) : Prop :=
  ∃ (o : Obj) (es : Array DictEntry) (ep : Nat), H a = some (dO a o) ∧ (a == sysModules) = false ∧ o.ExactDict ∧ o.data = .dict es ep ∧ ks.length ≤ 16777216 ∧
    (ks.all tupKey = true ∨ ks.all scalKey = true) ∧ (ks.map toKey).Nodup ∧ EntR w es.toList ks xs ys

mutual
/-- v stands for the data, and reaches nothing of O -/
def Rep (w : World) (O : Addr → Prop) (H : Hp) : D → V → Prop
  | .non, v => v = .non
  | .bl b, v => v = .bl b
  | .int i, v => v = .int i
  | .str s, v => v = .str s
  | .tup l, v => ∃ a xs, v = .ref a ∧ ¬ O a ∧ Rd H a (.tup xs) ∧ Reps w O H l xs
  | .lst l, v => ∃ a xs, v = .ref a ∧ ¬ O a ∧ Rd H a (.lst xs) ∧ Reps w O H l xs
  | .dct ks vs, v => ∃ a xs ys, v = .ref a ∧ ¬ O a ∧ DctO w H a ks xs ys ∧ Reps w O H ks xs ∧ Reps w O H vs ys
def Reps (w : World) (O : Addr → Prop) (H : Hp) : List D → List V → Prop
  | [], xs => xs = []
  | d :: ds, xs => ∃ x r, xs = x :: r ∧ Rep w O H d x ∧ Reps w O H ds r
end
/-- the same, the object itself may be of O -/
def RepU (w : World) (O : Addr → Prop) (H : Hp) : D → V → Prop
  | .lst l, v => ∃ a xs, v = .ref a ∧ Rd H a (.lst xs) ∧ Reps w O H l xs
  | .dct ks vs, v => ∃ a xs ys, v = .ref a ∧ DctO w H a ks xs ys ∧ Reps w O H ks xs ∧ Reps w O H vs ys
  | d, v => Rep w O H d v
/-- an owned object at a -/
def RepT (w : World) (O : Addr → Prop) (H : Hp) : D → Addr → Prop
  | .lst l, a => ∃ xs, H a = some (.lst xs) ∧ Reps w O H l xs
  | .dct ks vs, a => ∃ xs ys, DctO w H a ks xs ys ∧ Reps w O H ks xs ∧ Reps w O H vs ys
  | _, _ => False

section
variable {w : World} {O O' : Addr → Prop} {H H' : Hp}
theorem rdKeep {a : Addr} {u : HO} (h : Rd H a u) (k : ∀ o, H a = some o → H' a = some o) : Rd H' a u := by
  rcases h with h | ⟨o, h⟩
  · exact .inl (k _ h)
  · exact .inr ⟨o, k _ h⟩
theorem rdSome {a : Addr} {u : HO} (h : Rd H a u) : ∃ o, H a = some o := by
  rcases h with h | ⟨o, h⟩
  · exact ⟨_, h⟩
  · exact ⟨_, h⟩
theorem DctO.keep {a : Addr} {ks : List D} {xs ys : List V} (h : DctO w H a ks xs ys) (k : ∀ o, H a = some o → H' a = some o) : DctO w H' a ks xs ys := by
  obtain ⟨o, es, ep, e, r⟩ := h
  exact ⟨o, es, ep, k _ e, r⟩
theorem DctO.there {a : Addr} {ks : List D} {xs ys : List V} (h : DctO w H a ks xs ys) : ∃ o, H a = some o := by
  obtain ⟨o, es, ep, e, r⟩ := h
  exact ⟨_, e⟩
mutual
theorem Rep.mono (hO : ∀ a, O' a → O a) (k : ∀ a o, H a = some o → ¬ O a → H' a = some o) : ∀ {d : D} {v : V}, Rep w O H d v → Rep w O' H' d v
  | .non, _, h => by simpa [Rep] using h
  | .bl _, _, h => by simpa [Rep] using h
  | .int _, _, h => by simpa [Rep] using h
  | .str _, _, h => by simpa [Rep] using h
  | .tup l, _, h => by
    unfold Rep at h ⊢
    obtain ⟨a, xs, e, n, r, q⟩ := h
    exact ⟨a, xs, e, fun z => n (hO a z), rdKeep r (fun o z => k a o z n), Reps.mono hO k q⟩
  | .lst l, _, h => by
    unfold Rep at h ⊢
    obtain ⟨a, xs, e, n, r, q⟩ := h
    exact ⟨a, xs, e, fun z => n (hO a z), rdKeep r (fun o z => k a o z n), Reps.mono hO k q⟩
  | .dct ks vs, _, h => by
    unfold Rep at h ⊢
    obtain ⟨a, xs, ys, e, n, r, q1, q2⟩ := h
    exact ⟨a, xs, ys, e, fun z => n (hO a z), r.keep (fun o z => k a o z n), Reps.mono hO k q1, Reps.mono hO k q2⟩
theorem Reps.mono (hO : ∀ a, O' a → O a) (k : ∀ a o, H a = some o → ¬ O a → H' a = some o) : ∀ {ds : List D} {vs : List V}, Reps w O H ds vs → Reps w O' H' ds vs
  | [], _, h => by simpa [Reps] using h
  | d :: ds, _, h => by
    unfold Reps at h ⊢
    obtain ⟨x, r, e, h1, h2⟩ := h
    exact ⟨x, r, e, Rep.mono hO k h1, Reps.mono hO k h2⟩
end
/-! what is reached is tracked: so an untracked address may join O -/
mutual
theorem Rep.more {p : Addr} (hp : H p = none) : ∀ {d : D} {v : V}, Rep w O H d v → Rep w (fun a => O a ∨ a = p) H d v
  | .non, _, h => by simpa [Rep] using h
  | .bl _, _, h => by simpa [Rep] using h
  | .int _, _, h => by simpa [Rep] using h
  | .str _, _, h => by simpa [Rep] using h
  | .tup l, _, h => by
    unfold Rep at h ⊢
    obtain ⟨a, xs, e, n, r, q⟩ := h
    refine ⟨a, xs, e, fun z => z.elim n fun z => ?_, r, Reps.more hp q⟩
    obtain ⟨o, ho⟩ := rdSome r
    rw [z, hp] at ho; cases ho
  | .lst l, _, h => by
    unfold Rep at h ⊢
    obtain ⟨a, xs, e, n, r, q⟩ := h
    refine ⟨a, xs, e, fun z => z.elim n fun z => ?_, r, Reps.more hp q⟩
    obtain ⟨o, ho⟩ := rdSome r
    rw [z, hp] at ho; cases ho
  | .dct ks vs, _, h => by
    unfold Rep at h ⊢
    obtain ⟨a, xs, ys, e, n, r, q1, q2⟩ := h
    refine ⟨a, xs, ys, e, fun z => z.elim n fun z => ?_, r, Reps.more hp q1, Reps.more hp q2⟩
    obtain ⟨o, ho⟩ := r.there
    rw [z, hp] at ho; cases ho
theorem Reps.more {p : Addr} (hp : H p = none) : ∀ {ds : List D} {vs : List V}, Reps w O H ds vs → Reps w (fun a => O a ∨ a = p) H ds vs
  | [], _, h => by simpa [Reps] using h
  | d :: ds, _, h => by
    unfold Reps at h ⊢
    obtain ⟨x, r, e, h1, h2⟩ := h
    exact ⟨x, r, e, Rep.more hp h1, Reps.more hp h2⟩
end
theorem Rep.u {d : D} {v : V} (h : Rep w O H d v) : RepU w O H d v := by
  cases d with
  | lst l => unfold Rep at h; obtain ⟨a, xs, e, _, r, q⟩ := h; exact ⟨a, xs, e, r, q⟩
  | dct ks vs => unfold Rep at h; obtain ⟨a, xs, ys, e, _, r⟩ := h; exact ⟨a, xs, ys, e, r⟩
  | _ => exact h
theorem RepT.u {d : D} {a : Addr} (h : RepT w O H d a) : RepU w O H d (.ref a) := by
  cases d with
  | lst l => obtain ⟨xs, e, q⟩ := h; exact ⟨a, xs, rfl, .inl e, q⟩
  | dct ks vs => obtain ⟨xs, ys, r⟩ := h; exact ⟨a, xs, ys, rfl, r⟩
  | _ => exact h.elim
theorem RepT.there {d : D} {a : Addr} (h : RepT w O H d a) : ∃ o, H a = some o := by
  cases d with
  | lst l => obtain ⟨xs, e, q⟩ := h; exact ⟨_, e⟩
  | dct ks vs => obtain ⟨xs, ys, r, _⟩ := h; exact r.there
  | _ => exact h.elim
theorem RepT.rep {d : D} {a : Addr} (h : RepT w O H d a) (n : ¬ O a) : Rep w O H d (.ref a) := by
  cases d with
  | lst l => obtain ⟨xs, e, q⟩ := h; unfold Rep; exact ⟨a, xs, rfl, n, .inl e, q⟩
  | dct ks vs => obtain ⟨xs, ys, r⟩ := h; unfold Rep; exact ⟨a, xs, ys, rfl, n, r⟩
  | _ => exact h.elim
theorem RepT.mono {d : D} {a : Addr} (h : RepT w O H d a) (hO : ∀ a, O' a → O a) (k : ∀ a o, H a = some o → ¬ O a → H' a = some o) (ka : ∀ o, H a = some o → H' a = some o) : RepT w O' H' d a := by
  cases d with
  | lst l => obtain ⟨xs, e, q⟩ := h; exact ⟨xs, ka _ e, q.mono hO k⟩
  | dct ks vs => obtain ⟨xs, ys, r, q1, q2⟩ := h; exact ⟨xs, ys, r.keep ka, q1.mono hO k, q2.mono hO k⟩
  | _ => exact h.elim
theorem RepT.more {d : D} {a p : Addr} (hp : H p = none) (h : RepT w O H d a) : RepT w (fun a => O a ∨ a = p) H d a := by
  cases d with
  | lst l => obtain ⟨xs, e, q⟩ := h; exact ⟨xs, e, q.more hp⟩
  | dct ks vs => obtain ⟨xs, ys, r, q1, q2⟩ := h; exact ⟨xs, ys, r, q1.more hp, q2.more hp⟩
  | _ => exact h.elim
theorem RepT.isCol {d : D} {a : Addr} (h : RepT w O H d a) : isCol d = true := by
  cases d <;> first | rfl | exact h.elim
theorem Reps.length : ∀ {ds : List D} {xs : List V}, Reps w O H ds xs → xs.length = ds.length
  | [], _, h => by simp [Reps] at h; simp [h]
  | d :: ds, _, h => by
    unfold Reps at h
    obtain ⟨x, r, e, _, h2⟩ := h
    subst e
    simp [Reps.length h2]
theorem Reps.nil : Reps w O H [] [] := by simp [Reps]
theorem Reps.cons {d : D} {ds : List D} {x : V} {xs : List V} (h : Rep w O H d x) (t : Reps w O H ds xs) : Reps w O H (d :: ds) (x :: xs) := by
  unfold Reps; exact ⟨x, xs, rfl, h, t⟩
theorem Reps.append : ∀ {ds es : List D} {xs ys : List V}, Reps w O H ds xs → Reps w O H es ys → Reps w O H (ds ++ es) (xs ++ ys)
  | [], _, _, _, h, t => by simp [Reps] at h; simpa [h] using t
  | d :: ds, _, _, _, h, t => by
    unfold Reps at h
    obtain ⟨x, r, e, h1, h2⟩ := h
    subst e
    exact Reps.cons h1 (Reps.append h2 t)
theorem Reps.get : ∀ {ds : List D} {xs : List V} {i : Nat} {d : D}, Reps w O H ds xs → ds[i]? = some d → ∃ x, xs[i]? = some x ∧ Rep w O H d x
  | [], _, _, _, _, e => by simp at e
  | c :: ds, _, 0, d, h, e => by
    unfold Reps at h
    obtain ⟨x, r, e', h1, h2⟩ := h
    subst e'
    simp at e; subst e
    exact ⟨x, rfl, h1⟩
  | c :: ds, _, i + 1, d, h, e => by
    unfold Reps at h
    obtain ⟨x, r, e', h1, h2⟩ := h
    subst e'
    obtain ⟨y, h3, h4⟩ := Reps.get (i := i) h2 (by simpa using e)
    exact ⟨y, by simpa using h3, h4⟩
theorem Reps.take : ∀ {ds : List D} {xs : List V} (n : Nat), Reps w O H ds xs → Reps w O H (ds.take n) (xs.take n)
  | _, _, 0, _ => by simp [Reps]
  | [], _, n + 1, h => by simp [Reps] at h; simp [h, Reps]
  | d :: ds, _, n + 1, h => by
    unfold Reps at h
    obtain ⟨x, r, e, h1, h2⟩ := h
    subst e
    exact Reps.cons h1 (Reps.take n h2)
theorem Reps.drop : ∀ {ds : List D} {xs : List V} (n : Nat), Reps w O H ds xs → Reps w O H (ds.drop n) (xs.drop n)
  | _, _, 0, h => by simpa using h
  | [], _, n + 1, h => by simp [Reps] at h; simp [h, Reps]
  | d :: ds, _, n + 1, h => by
    unfold Reps at h
    obtain ⟨x, r, e, h1, h2⟩ := h
    subst e
    exact Reps.drop n h2
theorem Reps.set : ∀ {ds : List D} {xs : List V} (i : Nat) {d : D} {x : V}, Reps w O H ds xs → Rep w O H d x → Reps w O H (ds.set i d) (xs.set i x)
  | [], _, _, _, _, h, _ => by simp [Reps] at h; simp [h, Reps]
  | c :: ds, _, 0, d, x, h, q => by
    unfold Reps at h
    obtain ⟨y, r, e, h1, h2⟩ := h
    subst e
    exact Reps.cons q h2
  | c :: ds, _, i + 1, d, x, h, q => by
    unfold Reps at h
    obtain ⟨y, r, e, h1, h2⟩ := h
    subst e
    exact Reps.cons h1 (Reps.set i h2 q)
end

/-! ### slots -/
/-- the addresses that slots own; that they own and may change -/
def OwnA (ρ : Env) (σ : St) (a : Addr) : Prop := ∃ (i : Nat) (s : Sl), ρ[i]? = some s ∧ isOwn s = true ∧ σ[i]? = some (some (V.ref a))
def MutA (ρ : Env) (σ : St) (a : Addr) : Prop := ∃ (i : Nat) (s : Sl), ρ[i]? = some s ∧ isMut s = true ∧ σ[i]? = some (some (V.ref a))
def Ow (Z : Addr → Prop) (ρ : Env) (σ : St) (a : Addr) : Prop := Z a ∨ OwnA ρ σ a
theorem MutA.own {ρ : Env} {σ : St} {a : Addr} (h : MutA ρ σ a) : OwnA ρ σ a := by
  obtain ⟨i, s, h1, h2, h3⟩ := h
  refine ⟨i, s, h1, ?_, h3⟩
  cases s <;> first | rfl | (simp [isMut] at h2)
def SlotOk (w : World) (O : Addr → Prop) (H : Hp) (x : Option (Option V)) : Sl → Prop
  | .no => True
  | .sh d => ∃ v, x = some (some v) ∧ Rep w O H d v
  | .ow d => ∃ a : Addr, x = some (some (V.ref a)) ∧ RepT w O H d a
  | .io d => ∃ a : Addr, x = some (some (V.ref a)) ∧ RepT w O H d a
  | .lk d => ∃ a : Addr, x = some (some (V.ref a)) ∧ RepT w O H d a
structure Match (w : World) (Z : Addr → Prop) (ρ : Env) (σ : St) (H : Hp) : Prop where
  len : ρ.length = σ.length
  zt : ∀ a, Z a → H a ≠ none
  slot : ∀ (i : Nat) (s : Sl), ρ[i]? = some s → SlotOk w (Ow Z ρ σ) H σ[i]? s
  ap : ∀ (i j : Nat) (s t : Sl) (a : Addr), ρ[i]? = some s → ρ[j]? = some t → isOwn s = true → isOwn t = true → σ[i]? = some (some (V.ref a)) → σ[j]? = some (some (V.ref a)) → i = j
  zo : ∀ a, OwnA ρ σ a → ¬ Z a
/-- how a slot may turn while an expression is evaluated -/
def Tr : Sl → Sl → Prop
  | .no, t => t = .no
  | .sh d, t => t = .sh d
  | .ow _, t => (∃ d, t = .ow d) ∨ (∃ d, t = .sh d) ∨ t = .no
  | .io _, t => ∃ d, t = .io d
  | .lk d, t => t = .lk d
theorem Tr.refl (s : Sl) : Tr s s := by
  cases s <;> simp [Tr]
theorem Tr.trans {s t u : Sl} (h : Tr s t) (g : Tr t u) : Tr s u := by
  cases s with
  | no => cases h; exact g
  | sh d => cases h; exact g
  | lk d => cases h; exact g
  | io d => obtain ⟨d', rfl⟩ := h; exact g
  | ow d =>
    rcases h with ⟨d', rfl⟩ | ⟨d', rfl⟩ | rfl
    · exact g
    · cases g; exact .inr (.inl ⟨_, rfl⟩)
    · cases g; exact .inr (.inr rfl)
theorem Tr.own {s t : Sl} (h : Tr s t) (g : isOwn t = true) : isOwn s = true := by
  cases s with
  | no => cases h; exact g
  | sh d => cases h; exact g
  | _ => rfl
theorem Tr.mut {s t : Sl} (h : Tr s t) (g : isMut t = true) : isMut s = true := by
  cases s with
  | no => cases h; exact g
  | sh d => cases h; exact g
  | lk d => cases h; exact g
  | _ => rfl
structure TrE (ρ ρ' : Env) : Prop where
  len : ρ'.length = ρ.length
  tr : ∀ (i : Nat) (s : Sl), ρ[i]? = some s → ∃ t, ρ'[i]? = some t ∧ Tr s t
theorem TrE.refl (ρ : Env) : TrE ρ ρ := ⟨rfl, fun _ s h => ⟨s, h, Tr.refl s⟩⟩
theorem TrE.trans {ρ ρ1 ρ2 : Env} (h : TrE ρ ρ1) (g : TrE ρ1 ρ2) : TrE ρ ρ2 := ⟨g.len.trans h.len, fun i s e => by
  obtain ⟨t, e1, t1⟩ := h.tr i s e
  obtain ⟨u, e2, t2⟩ := g.tr i t e1
  exact ⟨u, e2, t1.trans t2⟩⟩
theorem TrE.back {ρ ρ' : Env} (h : TrE ρ ρ') {i : Nat} {t : Sl} (e : ρ'[i]? = some t) : ∃ s, ρ[i]? = some s ∧ Tr s t := by
  have hi : i < ρ.length := by rw [← h.len]; exact (List.getElem?_eq_some_iff.mp e).1
  obtain ⟨t', e', tr⟩ := h.tr i ρ[i] (by simp [hi])
  rw [e] at e'; cases e'
  exact ⟨_, by simp [hi], tr⟩
theorem TrE.own {ρ ρ' : Env} {σ : St} (h : TrE ρ ρ') {a : Addr} (g : OwnA ρ' σ a) : OwnA ρ σ a := by
  obtain ⟨i, t, e, o, v⟩ := g
  obtain ⟨s, e', tr⟩ := h.back e
  exact ⟨i, s, e', tr.own o, v⟩
theorem TrE.mut {ρ ρ' : Env} {σ : St} (h : TrE ρ ρ') {a : Addr} (g : MutA ρ' σ a) : MutA ρ σ a := by
  obtain ⟨i, t, e, o, v⟩ := g
  obtain ⟨s, e', tr⟩ := h.back e
  exact ⟨i, s, e', tr.mut o, v⟩
theorem TrE.set {ρ : Env} {i : Nat} {s t : Sl} (e : ρ[i]? = some s) (h : Tr s t) : TrE ρ (ρ.set i t) := by
  refine ⟨by simp, fun j u ej => ?_⟩
  by_cases hj : i = j
  · subst hj
    rw [e] at ej; cases ej
    exact ⟨t, List.getElem?_set_self (List.getElem?_eq_some_iff.mp e).1, h⟩
  · exact ⟨u, by rw [List.getElem?_set_ne hj]; exact ej, Tr.refl u⟩
/-- what is the heap's change while an expression is evaluated -/
structure Stp (ρ : Env) (σ : St) (H H' : Hp) : Prop where
  keep : ∀ a u, H a = some u → ¬ MutA ρ σ a → H' a = some u
  trk : ∀ a, H a ≠ none → H' a ≠ none
theorem Stp.refl {ρ : Env} {σ : St} {H : Hp} : Stp ρ σ H H := ⟨fun _ _ h _ => h, fun _ h => h⟩
theorem Stp.trans {ρ ρ1 : Env} {σ : St} {H H1 H2 : Hp} (t : TrE ρ ρ1) (h : Stp ρ σ H H1) (g : Stp ρ1 σ H1 H2) : Stp ρ σ H H2 :=
  ⟨fun a u e n => g.keep a u (h.keep a u e n) fun z => n (t.mut z), fun a e => g.trk a (h.trk a e)⟩
theorem Stp.new {ρ : Env} {σ : St} {H : Hp} {p : Addr} {o : HO} (hp : H p = none) : Stp ρ σ H (upd H p o) := by
  refine ⟨fun a u e _ => ?_, fun a e => ?_⟩
  · rw [upd_ne (ne_of_none e hp)]; exact e
  · by_cases h : a = p
    · subst h; rw [upd_same]; simp
    · rw [upd_ne h]; exact e

section
variable {w : World} {Z Z' : Addr → Prop} {ρ ρ1 ρ' : Env} {σ : St} {H H1 H' : Hp}
theorem SlotOk.mono {O O' : Addr → Prop} {x : Option (Option V)} {s : Sl} (h : SlotOk w O H x s) (hO : ∀ a, O' a → O a) (k : ∀ a o, H a = some o → ¬ O a → H' a = some o)
    (ko : isOwn s = true → ∀ a o, x = some (some (V.ref a)) → H a = some o → H' a = some o) : SlotOk w O' H' x s := by
  cases s with
  | no => trivial
  | sh d => obtain ⟨v, e, r⟩ := h; exact ⟨v, e, r.mono hO k⟩
  | ow d => obtain ⟨a, e, r⟩ := h; exact ⟨a, e, r.mono hO k fun o => ko rfl a o e⟩
  | io d => obtain ⟨a, e, r⟩ := h; exact ⟨a, e, r.mono hO k fun o => ko rfl a o e⟩
  | lk d => obtain ⟨a, e, r⟩ := h; exact ⟨a, e, r.mono hO k fun o => ko rfl a o e⟩
theorem SlotOk.at_ {O : Addr → Prop} {x : Option (Option V)} {s : Sl} (h : SlotOk w O H x s) (ho : isOwn s = true) : ∃ a d, x = some (some (V.ref a)) ∧ s.get = some d ∧ RepT w O H d a := by
  cases s with
  | no => cases ho
  | sh d => cases ho
  | ow d => obtain ⟨a, e, r⟩ := h; exact ⟨a, d, e, rfl, r⟩
  | io d => obtain ⟨a, e, r⟩ := h; exact ⟨a, d, e, rfl, r⟩
  | lk d => obtain ⟨a, e, r⟩ := h; exact ⟨a, d, e, rfl, r⟩
theorem Match.own_there (m : Match w Z ρ σ H) {a : Addr} (h : OwnA ρ σ a) : H a ≠ none := by
  obtain ⟨i, s, e, o, v⟩ := h
  obtain ⟨b, d, e2, _, r⟩ := (m.slot i s e).at_ o
  rw [v] at e2
  cases e2
  obtain ⟨u, hu⟩ := r.there
  rw [hu]; simp
theorem Match.ow_there (m : Match w Z ρ σ H) {a : Addr} (h : Ow Z ρ σ a) : H a ≠ none := h.elim (m.zt a) m.own_there
theorem Match.mono (m : Match w Z ρ σ H) (h : ∀ a, Z' a → Z a) : Match w Z' ρ σ H :=
  ⟨m.len, fun a z => m.zt a (h a z), fun i s e => (m.slot i s e).mono (fun a z => z.elim (fun z => .inl (h a z)) .inr) (fun _ _ e _ => e) (fun _ _ _ _ e => e), m.ap, fun a z q => m.zo a z (h a q)⟩
/-- a new object -/
theorem Match.new (m : Match w Z ρ σ H) {p : Addr} {o : HO} (hp : H p = none) : Match w (fun a => Z a ∨ a = p) ρ σ (upd H p o) := by
  have hk : ∀ a u, H a = some u → upd H p o a = some u := fun a u e => by rw [upd_ne (ne_of_none e hp)]; exact e
  refine ⟨m.len, fun a z => ?_, fun i s e => ?_, m.ap, fun a z q => ?_⟩
  · by_cases h : a = p
    · subst h; rw [upd_same]; simp
    · rw [upd_ne h]; exact z.elim (m.zt a) fun q => absurd q h
  · have h1 := m.slot i s e
    have h2 : SlotOk w (fun a => Ow Z ρ σ a ∨ a = p) H σ[i]? s := by
      cases s with
      | no => trivial
      | sh d => obtain ⟨v, e, r⟩ := h1; exact ⟨v, e, r.more hp⟩
      | ow d => obtain ⟨a, e, r⟩ := h1; exact ⟨a, e, r.more hp⟩
      | io d => obtain ⟨a, e, r⟩ := h1; exact ⟨a, e, r.more hp⟩
      | lk d => obtain ⟨a, e, r⟩ := h1; exact ⟨a, e, r.more hp⟩
    refine h2.mono (fun a z => ?_) (fun a u e _ => hk a u e) (fun _ a u _ e => hk a u e)
    rcases z with (z | z) | z
    · exact .inl (.inl z)
    · exact .inr z
    · exact .inl (.inr z)
  · rcases q with q | q
    · exact m.zo a z q
    · subst q; exact m.own_there z hp
theorem Match.new' (m : Match w Z ρ σ H) {p : Addr} {o : HO} (hp : H p = none) : Match w Z ρ σ (upd H p o) := (m.new hp).mono fun _ => .inl

/-! ### operands -/
def OpdOk (w : World) (O : Addr → Prop) (H : Hp) (σ : St) (v : V) : OV → Prop
  | .val _ d => Rep w O H d v
  | .plc i => σ[i]? = some (some v)
/-- what comes of an expression -/
def ResOk (w : World) (O : Addr → Prop) (ρ : Env) (σ : St) (H H' : Hp) (v : V) : OV → Prop
  | .val false d => Rep w O H' d v
  | .val true d => ∃ a, v = .ref a ∧ ¬ O a ∧ (H a = none ∨ MutA ρ σ a) ∧ RepT w (fun b => O b ∨ b = a) H' d a
  | .plc i => σ[i]? = some (some v)
def Zf (Z : Addr → Prop) (v : V) : OV → Addr → Prop
  | .val true _ => fun b => Z b ∨ v = .ref b
  | _ => Z
structure PostE (w : World) (Z : Addr → Prop) (ρ : Env) (σ : St) (H : Hp) (o : OV) (ρ' : Env) (v : V) (H' : Hp) : Prop where
  m : Match w (Zf Z v o) ρ' σ H'
  tr : TrE ρ ρ'
  st : Stp ρ σ H H'
  res : ResOk w (Ow Z ρ' σ) ρ σ H H' v o
theorem Zf_le {v : V} {o : OV} {a : Addr} (h : Z a) : Zf Z v o a := by
  cases o with
  | plc i => exact h
  | val fr d => cases fr with
    | false => exact h
    | true => exact .inl h
theorem PostE.m0 {o : OV} {v : V} (p : PostE w Z ρ σ H o ρ' v H') : Match w Z ρ' σ H' := p.m.mono fun _ => Zf_le
theorem PostE.opd {o : OV} {v : V} (p : PostE w Z ρ σ H o ρ' v H') : OpdOk w (Ow Z ρ' σ) H' σ v o := by
  have r := p.res
  cases o with
  | plc i => exact r
  | val fr d => cases fr with
    | false => exact r
    | true =>
      obtain ⟨a, e, n, _, r⟩ := r
      subst e
      exact (r.mono (fun _ => .inl) (fun _ _ e _ => e) fun _ e => e).rep n
/-- an operand stays what it is while others are evaluated -/
theorem OpdOk.stay {o : OV} {v : V} (h : OpdOk w (Ow Z ρ σ) H σ v o) (t : TrE ρ ρ') (st : Stp ρ σ H H') : OpdOk w (Ow Z ρ' σ) H' σ v o := by
  cases o with
  | plc i => exact h
  | val fr d =>
    have h : Rep w (Ow Z ρ σ) H d v := h
    exact h.mono (fun a z => z.elim .inl fun z => .inr (t.own z)) fun a u e n => st.keep a u e fun z => n (.inr z.own)
theorem Match.get (m : Match w Z ρ σ H) {i : Nat} {d : D} {v : V} (h : getS ρ i = some d) (e : σ[i]? = some (some v)) : RepU w (Ow Z ρ σ) H d v := by
  unfold getS at h
  split at h
  · rename_i s hs
    have k := m.slot i s hs
    cases s with
    | no => cases h
    | sh d' =>
      obtain ⟨u, e', r⟩ := k
      rw [e] at e'; cases e'; cases h
      exact r.u
    | ow d' => obtain ⟨u, e', r⟩ := k; rw [e] at e'; cases e'; cases h; exact r.u
    | io d' => obtain ⟨u, e', r⟩ := k; rw [e] at e'; cases e'; cases h; exact r.u
    | lk d' => obtain ⟨u, e', r⟩ := k; rw [e] at e'; cases e'; cases h; exact r.u
  · cases h
theorem Match.there (m : Match w Z ρ σ H) {i : Nat} {d : D} (h : getS ρ i = some d) : ∃ v, σ[i]? = some (some v) := by
  unfold getS at h
  split at h
  · rename_i s hs
    have k := m.slot i s hs
    cases s with
    | no => cases h
    | sh d' => obtain ⟨u, e', r⟩ := k; exact ⟨_, e'⟩
    | ow d' => obtain ⟨u, e', r⟩ := k; exact ⟨_, e'⟩
    | io d' => obtain ⟨u, e', r⟩ := k; exact ⟨_, e'⟩
    | lk d' => obtain ⟨u, e', r⟩ := k; exact ⟨_, e'⟩
  · cases h
theorem OpdOk.rd {o : OV} {v : V} {d : D} (h : OpdOk w (Ow Z ρ σ) H σ v o) (m : Match w Z ρ σ H) (e : rd ρ o = some d) : RepU w (Ow Z ρ σ) H d v := by
  cases o with
  | plc i => exact m.get e h
  | val fr d' =>
    have e : some d' = some d := e
    cases e
    exact Rep.u h

/-! ### ends of expressions -/
theorem PostE.same {d : D} {v : V} (m : Match w Z ρ' σ H') (t : TrE ρ ρ') (st : Stp ρ σ H H') (r : Rep w (Ow Z ρ' σ) H' d v) : PostE w Z ρ σ H (.val false d) ρ' v H' := ⟨m, t, st, r⟩
theorem PostE.tup {l : List D} {xs : List V} {p : Addr} (m : Match w Z ρ' σ H1) (t : TrE ρ ρ') (st : Stp ρ σ H H1) (hp : H1 p = none) (r : Reps w (Ow Z ρ' σ) H1 l xs) : PostE w Z ρ σ H (.val false (.tup l)) ρ' (.ref p) (upd H1 p (.tup xs)) := by
  refine ⟨m.new' hp, t, st.trans t (Stp.new hp), ?_⟩
  unfold ResOk Rep
  exact ⟨p, xs, rfl, fun z => m.ow_there z hp, .inl upd_same, r.mono (fun _ z => z) fun a u e _ => by rw [upd_ne (ne_of_none e hp)]; exact e⟩
theorem Stp.none_back {a : Addr} (st : Stp ρ σ H H') (h : H' a = none) : H a = none := by
  cases q : H a with
  | none => rfl
  | some u => exact absurd h (st.trk a (by rw [q]; simp))
theorem PostE.fresh {d : D} {p : Addr} {u : HO} (m : Match w Z ρ' σ H1) (t : TrE ρ ρ') (st : Stp ρ σ H H1) (hp : H1 p = none) (r : RepT w (fun b => Ow Z ρ' σ b ∨ b = p) (upd H1 p u) d p) : PostE w Z ρ σ H (.val true d) ρ' (.ref p) (upd H1 p u) := by
  refine ⟨(m.new hp).mono fun a z => ?_, t, st.trans t (Stp.new hp), p, rfl, fun z => m.ow_there z hp, .inl (st.none_back hp), r⟩
  rcases z with z | z
  · exact .inl z
  · cases z; exact .inr rfl
theorem PostE.lst {l : List D} {xs : List V} {p : Addr} (m : Match w Z ρ' σ H1) (t : TrE ρ ρ') (st : Stp ρ σ H H1) (hp : H1 p = none) (r : Reps w (Ow Z ρ' σ) H1 l xs) : PostE w Z ρ σ H (.val true (.lst l)) ρ' (.ref p) (upd H1 p (.lst xs)) :=
  .fresh m t st hp ⟨xs, upd_same, (r.more hp).mono (fun _ z => z) fun a u e _ => by rw [upd_ne (ne_of_none e hp)]; exact e⟩

/-- the contents of an owned slot are changed -/
theorem Match.put {i : Nat} {s t : Sl} {a : Addr} {d : D} {u : HO} (m : Match w Z ρ σ H) (e : ρ[i]? = some s) (hs : isMut s = true) (ea : σ[i]? = some (some (V.ref a))) (hk : ∀ d', s = .ow d' → t = .ow d) (hk2 : ∀ d', s = .io d' → t = .io d)
    (r : RepT w (Ow Z ρ σ) (upd H a u) d a) : Match w Z (ρ.set i t) σ (upd H a u) ∧ TrE ρ (ρ.set i t) ∧ Stp ρ σ H (upd H a u) := by
  have hO : OwnA ρ σ a := ⟨i, s, e, by cases s <;> first | rfl | (simp [isMut] at hs), ea⟩
  have hM : MutA ρ σ a := ⟨i, s, e, hs, ea⟩
  have hso : isOwn s = true := by cases s <;> first | rfl | (simp [isMut] at hs)
  have ht : isOwn t = true ∧ Tr s t := by
    cases s with
    | ow d' => rw [hk d' rfl]; exact ⟨rfl, .inl ⟨_, rfl⟩⟩
    | io d' => rw [hk2 d' rfl]; exact ⟨rfl, _, rfl⟩
    | _ => simp [isMut] at hs
  have tr : TrE ρ (ρ.set i t) := TrE.set e ht.2
  have keep : ∀ b o, H b = some o → b ≠ a → upd H a u b = some o := fun b o q n => by rw [upd_ne n]; exact q
  have own' : ∀ b, OwnA (ρ.set i t) σ b → OwnA ρ σ b := fun b => tr.own
  have il : i < ρ.length := (List.getElem?_eq_some_iff.mp e).1
  refine ⟨⟨by rw [List.length_set]; exact m.len, fun b z => ?_, fun j sj ej => ?_, fun j k sj sk b ej ek oj ok vj vk => ?_, fun b z => m.zo b (own' b z)⟩, tr, fun b o q n => keep b o q fun z => n (z ▸ hM), fun b q => ?_⟩
  · by_cases h : b = a
    · subst h; rw [upd_same]; simp
    · rw [upd_ne h]; exact m.zt b z
  · by_cases hj : i = j
    · subst hj
      rw [List.getElem?_set_self il] at ej
      cases ej
      have r' : RepT w (Ow Z (ρ.set i t) σ) (upd H a u) d a := r.mono (fun b z => z.elim .inl fun z => .inr (own' b z)) (fun _ _ e _ => e) fun _ e => e
      cases s with
      | ow d' => obtain rfl := hk d' rfl; exact ⟨a, ea, r'⟩
      | io d' => obtain rfl := hk2 d' rfl; exact ⟨a, ea, r'⟩
      | _ => simp [isMut] at hs
    · rw [List.getElem?_set_ne hj] at ej
      refine (m.slot j sj ej).mono (fun b z => z.elim .inl fun z => .inr (own' b z)) (fun b o q n => keep b o q fun z => n (.inr (z ▸ hO))) fun oj b o vb q => keep b o q ?_
      intro z
      subst z
      exact hj (m.ap i j s sj b e ej hso oj ea vb)
  · have back : ∀ (j : Nat) (sj : Sl), (ρ.set i t)[j]? = some sj → isOwn sj = true → ∃ s', ρ[j]? = some s' ∧ isOwn s' = true := fun j sj ej oj => by
      by_cases hj : i = j
      · subst hj; exact ⟨s, e, hso⟩
      · rw [List.getElem?_set_ne hj] at ej; exact ⟨sj, ej, oj⟩
    obtain ⟨s1, e1, o1⟩ := back j sj ej oj
    obtain ⟨s2, e2, o2⟩ := back k sk ek ok
    exact m.ap j k s1 s2 b e1 e2 o1 o2 vj vk
  · by_cases h : b = a
    · subst h; rw [upd_same]; simp
    · rw [upd_ne h]; exact q
end

/-! ### readings -/
def tE (w : World) (C : CallS) (r : RE) : TE := fun σ H Q => ∃ Z ρ o ρ', Match w Z ρ σ H ∧ evE C r ρ = some (o, ρ') ∧ ∀ v H', PostE w Z ρ σ H o ρ' v H' → Q v H'
theorem peImp {X : Cx} {e : Expr} {t t' : TE} (h : PE X e t) (i : ∀ σ H Q, t' σ H Q → t σ H Q) : PE X e t' := ⟨fun pins s σ H Q I q => h.run pins s σ H Q I (i σ H Q q)⟩
theorem ptImp {X : Cx} {e : Expr} {t t' : TT} (h : PT X e t) (i : ∀ σ H Q, t' σ H Q → t σ H Q) : PT X e t' := ⟨fun pins s σ H Q I q => h.run pins s σ H Q I (i σ H Q q)⟩
theorem paImp {X : Cx} {e : List Expr} {t t' : TA} (h : PA X e t) (i : ∀ σ H Q, t' σ H Q → t σ H Q) : PA X e t' := ⟨fun p pins s σ H Q I q => h.run p pins s σ H Q I (i σ H Q q)⟩
theorem psImp {X : Cx} {e : Stmt} {t t' : TS} (h : PS X e t) (i : ∀ D σ H, t' D σ H → t D σ H) : PS X e t' := ⟨fun pins s σ H D I q => h.run pins s σ H D I (i D σ H q)⟩
theorem pssImp {X : Cx} {e : List Stmt} {t t' : TS} (h : PSs X e t) (i : ∀ D σ H, t' D σ H → t D σ H) : PSs X e t' := ⟨fun pins s σ H D I q => h.run pins s σ H D I (i D σ H q)⟩
end Ev

/-! Ev, part C: operators. -/
namespace Ev
open PySem PySem.Spec PyProof.Rows L2

theorem sizeL : (sizeLine : Nat) = 16777216 := sizeLine_eq
/-- a value that has come: as it was, or a new object (fr: a list or a dict of our own) -/
def New (w : World) (O : Addr → Prop) (H : Hp) (fr : Bool) (z : D) (v : V) (H' : Hp) : Prop :=
  (fr = false ∧ H' = H ∧ Rep w O H z v) ∨
    ∃ p, H p = none ∧ v = .ref p ∧ ((∃ l xs, fr = false ∧ z = .tup l ∧ H' = upd H p (.tup xs) ∧ Reps w O H l xs) ∨ ∃ u, fr = true ∧ H' = upd H p u ∧ RepT w (fun b => O b ∨ b = p) H' z p)
/-- an operator on values keeps g -/
structure OpD (X : Cx) (f : Value → Value → Sem Value) (g : D → D → Option D) : Prop where
  ex : ∃ r : R2, OpR X f r ∧ ∀ (O : Addr → Prop) (H : Hp) (x y z : D) (vx vy : V) (Q : VK), RepU X.w O H x vx → RepU X.w O H y vy → g x y = some z → (∀ v H', New X.w O H (isCol z) z v H' → Q v H') → r vx vy H Q
theorem New.post {w : World} {Z : Addr → Prop} {ρ ρ' : Env} {σ : St} {H H1 H' : Hp} {fr : Bool} {z : D} {v : V} (m : Match w Z ρ' σ H1) (t : TrE ρ ρ') (st : Stp ρ σ H H1) (n : New w (Ow Z ρ' σ) H1 fr z v H') : PostE w Z ρ σ H (.val fr z) ρ' v H' := by
  rcases n with ⟨c, e, r⟩ | ⟨p, hp, e, ⟨l, xs, c, e1, e2, r⟩ | ⟨u, c, e2, r⟩⟩
  · subst c e; exact .same m t st r
  · subst c e e1 e2; exact .tup m t st hp r
  · subst c e e2; exact .fresh m t st hp r
theorem New.sc {w : World} {O : Addr → Prop} {H : Hp} {fr : Bool} {z : D} {v : V} (c : fr = false) (r : Rep w O H z v) : New w O H fr z v H := .inl ⟨c, rfl, r⟩
theorem New.tupl {w : World} {O : Addr → Prop} {H : Hp} {p : Addr} {l : List D} {xs : List V} (hp : H p = none) (r : Reps w O H l xs) : New w O H false (.tup l) (.ref p) (upd H p (.tup xs)) := .inr ⟨p, hp, rfl, .inl ⟨l, xs, rfl, rfl, rfl, r⟩⟩
theorem New.list {w : World} {O : Addr → Prop} {H : Hp} {p : Addr} {l : List D} {xs : List V} (hp : H p = none) (r : Reps w O H l xs) : New w O H true (.lst l) (.ref p) (upd H p (.lst xs)) :=
  .inr ⟨p, hp, rfl, .inr ⟨_, rfl, rfl, xs, upd_same, (r.more hp).mono (fun _ z => z) fun a u e _ => by rw [upd_ne (ne_of_none e hp)]; exact e⟩⟩
section
variable {X : Cx} {σ : St} {H : Hp} {s : Shared} {pins : List (Addr × Obj)}
theorem rdList (I : Inv X pins σ H s) {l : Addr} {xs : List V} (hH : Rd H l (.lst xs)) : xs.length ≤ sizeLine ∧ ∃ (its : List Value) (n : Nat), Vals xs its ∧ xs.length = its.length ∧ s.heap.get? l = some { cls := .type "list", data := .seq its.toArray n } := by
  obtain ⟨z, its, n, r, e⟩ := hH.ok I.hok
  exact ⟨z, its, _, r, Vals.length r, e⟩
/-! ### + on lists, times on lists -/
def rCatR : R2 := fun x y H Q => ∃ l b xs zs, x = .ref l ∧ y = .ref b ∧ Rd H l (.lst xs) ∧ Rd H b (.lst zs) ∧ xs.length + zs.length ≤ sizeLine ∧ ∀ p, H p = none → Q (.ref p) (upd H p (.lst (xs ++ zs)))
theorem op_catR : OpR X (binaryOp .Add) rCatR := fun pins s σ H x y v u Q I rx ry ⟨l, b, xs, zs, ex, ey, hl, hb, hz, q⟩ => by
  subst ex ey
  obtain rfl : v = .ref l := rx
  obtain rfl : u = .ref b := ry
  obtain ⟨-, as, n, va, la, oa⟩ := rdList I hl
  obtain ⟨-, bs, m, vb, lb, ob⟩ := rdList I hb
  have room : as.toArray.size + bs.toArray.size ≤ sizeLine := by simpa [← la, ← lb] using hz
  have made := I.lnew (t' := s.toks) (va.append vb) (by simpa using hz)
  rw [← List.append_toArray] at made
  exact PySem.P.add_list oa ob ⟨.ref _, _, made, rfl, q _ I.fresh⟩ room
def rRepR : R2 := fun x y H Q => ∃ l k xs, x = .ref l ∧ y = .int k ∧ Rd H l (.lst xs) ∧ -(2 ^ 63) ≤ k ∧ k < 2 ^ 63 ∧ xs.length * k.toNat ≤ sizeLine ∧ ∀ p, H p = none → Q (.ref p) (upd H p (.lst (List.replicate k.toNat xs).flatten))
/-- so many times the items: the array that the model makes -/
theorem valsRep {xs : List V} {as : List Value} (h : Vals xs as) : ∀ k : Nat, Vals (List.replicate k xs).flatten (List.replicate k as).flatten
  | 0 => .nil
  | k + 1 => h.append (valsRep h k)
theorem lenRep {α : Type} (xs : List α) (k : Nat) : (List.replicate k xs).flatten.length = xs.length * k := by
  rw [List.length_flatten, List.map_replicate, List.sum_replicate_nat, Nat.mul_comm]
theorem op_repR : OpR X (binaryOp .Mult) rRepR := fun pins s σ H x y v u Q I rx ry ⟨l, k, xs, ex, ey, hl, lo, hi, hz, q⟩ => by
  subst ex ey
  obtain rfl : v = .ref l := rx
  obtain ⟨t, rfl⟩ := ry
  obtain ⟨-, as, n, va, la, oa⟩ := rdList I hl
  have ty : s.TypeIs (.ref l) "list" := ⟨_, oa, rfl⟩
  have tyk : ∀ s' : Shared, s'.TypeIs (.int k t) "int" := fun s' => typeIs_int s' k t
  have made := I.lnew (t' := s.toks) (valsRep va k.toNat) (by rw [lenRep]; exact hz)
  rw [show (List.replicate k.toNat as).flatten.toArray = _ from (listMul_foldl_if as.toArray k.toNat).symm] at made
  rw [la] at hz
  rw [sizeL] at hz
  have mul := AutoListH.list___mul___list_int_3 l as.toArray n k t (by simp [Builtin.List.listFitsIndex]; omega) (by simp; omega) (by simp [Builtin.List.listTooLong, sizeL]; omega)
  have go : wpAny (model X.prog X.w) X.A (call (.builtin "list.__mul__") [.ref l, .int k t]) (EP X pins σ Q) X.xe s :=
    call_meets PySem.F.slot_list_mul ty PySem.F.entry_list_mul (PySem.F.args_list_mul_2 _ _) mul ⟨oa, .ref _, _, made, rfl, q _ I.fresh⟩
  exact wpAny_binaryOp_repeat_ref (by decide) ty tyk noFill_list_mul PySem.F.fills_int_mul PySem.F.slot_int_rmul repeat_list PySem.F.slot_int_index.lookup
    (call_meets PySem.F.slot_int_rmul (tyk s) PySem.F.entry_int_rmul (PySem.F.args_int_rmul_2 _ _) (int___rmul___int_list k t l as.toArray n) ⟨oa, rfl, ty, go⟩)
end
theorem Reps.rep {w : World} {O : Addr → Prop} {H : Hp} {l : List D} {xs : List V} (h : Reps w O H l xs) : ∀ k : Nat, Reps w O H (List.replicate k l).flatten (List.replicate k xs).flatten
  | 0 => by simp [Reps]
  | k + 1 => by
    exact h.append (Reps.rep h k)
section
variable {X : Cx} {w : World} {O : Addr → Prop} {H : Hp}
theorem repU_int {i : Int} {v : V} (h : RepU w O H (.int i) v) : v = .int i := by simpa [RepU, Rep] using h
theorem repU_bl {i : Bool} {v : V} (h : RepU w O H (.bl i) v) : v = .bl i := by simpa [RepU, Rep] using h
theorem repU_str {i : Str} {v : V} (h : RepU w O H (.str i) v) : v = .str i := by simpa [RepU, Rep] using h
theorem repU_non {v : V} (h : RepU w O H .non v) : v = .non := by simpa [RepU, Rep] using h
theorem repU_tup {l : List D} {v : V} (h : RepU w O H (.tup l) v) : ∃ a xs, v = .ref a ∧ ¬ O a ∧ Rd H a (.tup xs) ∧ Reps w O H l xs := by
  have h : Rep w O H (.tup l) v := h
  unfold Rep at h; exact h
theorem repU_lst {l : List D} {v : V} (h : RepU w O H (.lst l) v) : ∃ a xs, v = .ref a ∧ Rd H a (.lst xs) ∧ Reps w O H l xs := h
theorem rep_int {i : Int} : Rep w O H (.int i) (.int i) := by simp [Rep]
theorem rep_bl {i : Bool} : Rep w O H (.bl i) (.bl i) := by simp [Rep]
theorem rep_str {i : Str} : Rep w O H (.str i) (.str i) := by simp [Rep]
theorem rep_non : Rep w O H .non .non := by simp [Rep]
theorem rep_tup {l : List D} {a : Addr} {xs : List V} (n : ¬ O a) (r : Rd H a (.tup xs)) (q : Reps w O H l xs) : Rep w O H (.tup l) (.ref a) := by unfold Rep; exact ⟨a, xs, rfl, n, r, q⟩

theorem op_addD : OpD X (binaryOp .Add) addD := by
  refine ⟨_, op_add.or (op_add_str.or (op_catR.or op_catA)), fun O H x y z vx vy Q hx hy e k => ?_⟩
  unfold addD at e
  split at e <;> try (cases e; done)
  · cases e
    cases repU_int hx; cases repU_int hy
    exact .inl ⟨_, _, rfl, rfl, k _ _ (.sc rfl rep_int)⟩
  · split at e
    · cases e
      cases repU_str hx; cases repU_str hy
      exact .inr (.inl ⟨_, _, rfl, rfl, by rw [sizeL]; assumption, k _ _ (.sc rfl rep_str)⟩)
    · cases e
  · split at e
    · cases e
      obtain ⟨a, xs, rfl, ra, qa⟩ := repU_lst hx
      obtain ⟨b, ys, rfl, rb, qb⟩ := repU_lst hy
      exact .inr (.inr (.inl ⟨a, b, xs, ys, rfl, rfl, ra, rb, by rw [sizeL, qa.length, qb.length]; assumption, fun p hp => k _ _ (.list hp (qa.append qb))⟩))
    · cases e
  · split at e
    · rename_i l m hc
      cases e
      obtain ⟨a, xs, rfl, na, ra, qa⟩ := repU_tup hx
      obtain ⟨b, ys, rfl, nb, rb, qb⟩ := repU_tup hy
      have empty : ∀ {d : List D} {vs : List V}, Reps X.w O H d vs → vs = [] → d = [] := fun q z => List.eq_nil_of_length_eq_zero (by rw [← q.length, z]; rfl)
      refine .inr (.inr (.inr ⟨a, b, xs, ys, rfl, rfl, .inl ra, .inl rb, by rw [sizeL, qa.length, qb.length]; exact hc, fun z => ?_, fun _ z => ?_, fun _ _ p hp => k _ _ (.tupl hp (qa.append qb))⟩))
      · rw [empty qa z, List.nil_append] at k
        exact k _ _ (.sc rfl (rep_tup nb rb qb))
      · rw [empty qb z, List.append_nil] at k
        exact k _ _ (.sc rfl (rep_tup na ra qa))
    · cases e
theorem op_subD : OpD X (binaryOp .Sub) subD := by
  refine ⟨_, op_sub, fun O H x y z vx vy Q hx hy e k => ?_⟩
  unfold subD at e
  split at e <;> try (cases e; done)
  cases e
  cases repU_int hx; cases repU_int hy
  exact ⟨_, _, rfl, rfl, k _ _ (.sc rfl rep_int)⟩
theorem op_mulD : OpD X (binaryOp .Mult) mulD := by
  refine ⟨_, op_mul.or (op_repR.or op_repT), fun O H x y z vx vy Q hx hy e k => ?_⟩
  unfold mulD at e
  split at e <;> try (cases e; done)
  · split at e
    · rename_i hc
      cases e
      cases repU_int hx; cases repU_int hy
      refine .inl ⟨_, _, rfl, rfl, ?_, k _ _ (.sc rfl rep_int)⟩
      rw [mulOk, Bool.or_eq_true, decide_eq_true_eq, decide_eq_true_eq] at hc
      exact hc.imp (fun h => by omega) fun h => by omega
    · cases e
  · split at e
    · rename_i hc
      cases e
      obtain ⟨a, xs, rfl, ra, qa⟩ := repU_lst hx
      cases repU_int hy
      exact .inr (.inl ⟨a, _, xs, rfl, rfl, ra, by omega, by omega, by rw [sizeL, qa.length]; exact hc.1, fun p hp => k _ _ (.list hp (qa.rep _))⟩)
    · cases e
  · split at e
    · rename_i hc
      cases e
      obtain ⟨a, xs, rfl, na, ra, qa⟩ := repU_tup hx
      cases repU_int hy
      rw [← qa.length] at hc
      exact .inr (.inr ⟨a, _, xs, rfl, rfl, .inl ra, List.ne_nil_of_length_pos hc.1, hc.2.2.1, hc.2.2.2, hc.2.1, fun p hp => k _ _ (.tupl hp (qa.rep _))⟩)
    · cases e
theorem op_fdivD : OpD X (binaryOp .FloorDiv) fdivD := by
  refine ⟨_, op_fdivN, fun O H x y z vx vy Q hx hy e k => ?_⟩
  unfold fdivD at e
  split at e <;> try (cases e; done)
  split at e
  · rename_i hc
    cases e
    cases repU_int hx; cases repU_int hy
    exact ⟨_, _, rfl, rfl, hc, k _ _ (.sc rfl rep_int)⟩
  · cases e
theorem op_modD : OpD X (binaryOp .Mod) modD := by
  refine ⟨_, op_modN, fun O H x y z vx vy Q hx hy e k => ?_⟩
  unfold modD at e
  split at e <;> try (cases e; done)
  split at e
  · rename_i hc
    cases e
    cases repU_int hx; cases repU_int hy
    exact ⟨_, _, rfl, rfl, hc, k _ _ (.sc rfl rep_int)⟩
  · cases e
theorem op_powD : OpD X (binaryOp .Pow) powD := by
  refine ⟨_, op_pow, fun O H x y z vx vy Q hx hy e k => ?_⟩
  unfold powD at e
  split at e <;> try (cases e; done)
  split at e
  · rename_i hc
    cases e
    cases repU_int hx; cases repU_int hy
    exact ⟨_, _, rfl, rfl, hc, k _ _ (.sc rfl rep_int)⟩
  · cases e
end
end Ev

/-! Ev, part D: data as the library's data; comparisons. -/
namespace Ev
open PySem PySem.Spec PyProof.Rows L2

mutual
def toP : D → PyData
  | .non => .none
  | .bl b => .bool b
  | .int i => .int i
  | .str s => .str s
  | .tup l => .tuple (toPs l)
  | .lst l => .list (toPs l)
  | .dct _ _ => .dict []
def toPs : List D → List PyData
  | [] => []
  | d :: ds => toP d :: toPs ds
end
theorem toPs_map : ∀ l : List D, toPs l = l.map toP
  | [] => by simp [toPs]
  | d :: ds => by simp [toPs, toPs_map ds]
mutual
theorem eqD_toP : ∀ a b : D, PyData.eqv (toP a) (toP b) = eqD a b
  | .non, b => by cases b <;> simp [toP, eqD, PyData.eqv]
  | .bl x, b => by cases b <;> simp [toP, eqD, PyData.eqv]
  | .int x, b => by cases b <;> simp [toP, eqD, PyData.eqv]
  | .str x, b => by cases b <;> simp [toP, eqD, PyData.eqv]
  | .tup l, b => by
    cases b <;> simp only [toP, eqD, PyData.eqv]
    exact eqDs_toP l _
  | .lst l, b => by
    cases b <;> simp only [toP, eqD, PyData.eqv]
    exact eqDs_toP l _
  | .dct _ _, b => by cases b <;> simp [toP, eqD, PyData.eqv]
theorem eqDs_toP : ∀ a b : List D, PyData.eqvAll (toPs a) (toPs b) = eqDs a b
  | [], b => by cases b <;> simp [toPs, eqDs, PyData.eqvAll]
  | x :: xs, b => by
    cases b with
    | nil => simp [toPs, eqDs, PyData.eqvAll]
    | cons y ys =>
      simp only [toPs, eqDs, PyData.eqvAll]
      rw [eqD_toP x y, eqDs_toP xs ys]
end
mutual
theorem lay_toP : ∀ a : D, flatD a = true → (toP a).canLay0 = true
  | .non, _ => by simp [toP, PyData.canLay0]
  | .bl x, _ => by simp [toP, PyData.canLay0]
  | .int x, _ => by simp [toP, PyData.canLay0]
  | .str x, h => by
    unfold flatD at h
    simp only [toP, PyData.canLay0]
    exact h
  | .tup l, h => by unfold flatD at h; simp only [toP, PyData.canLay0]; exact lays_toP l h
  | .lst l, h => by unfold flatD at h; simp only [toP, PyData.canLay0]; exact lays_toP l h
  | .dct _ _, h => by simp [flatD] at h
theorem lays_toP : ∀ a : List D, flatDs a = true → PyData.canLayAll0 (toPs a) = true
  | [], _ => by simp [toPs, PyData.canLayAll0]
  | x :: xs, h => by
    simp only [flatDs, Bool.and_eq_true] at h
    simp only [toPs, PyData.canLayAll0, lay_toP x h.1, lays_toP xs h.2, Bool.and_self]
end
mutual
theorem dep_toP : ∀ a : D, (toP a).depth = depD a
  | .non => by simp [toP, PyData.depth, depD]
  | .bl x => by simp [toP, PyData.depth, depD]
  | .int x => by simp [toP, PyData.depth, depD]
  | .str x => by simp [toP, PyData.depth, depD]
  | .tup l => by simp only [toP, PyData.depth, depD]; rw [deps_toP l]
  | .lst l => by simp only [toP, PyData.depth, depD]; rw [deps_toP l]
  | .dct _ _ => by simp [toP, PyData.depth, PyData.depthKv, depD]
theorem deps_toP : ∀ a : List D, PyData.depthAll (toPs a) = depDs a
  | [] => by simp [toPs, PyData.depthAll, depDs]
  | x :: xs => by simp only [toPs, PyData.depthAll, depDs, dep_toP x, deps_toP xs]
end
theorem shaped_toP {d : D} (h : okD d = true) : SeqAt.shaped (toP d) = true := by
  simp only [okD, Bool.and_eq_true, decide_eq_true_eq] at h
  unfold SeqAt.shaped
  rw [lay_toP d h.1, dep_toP d]
  simpa using h.2
mutual
theorem alike_toP : ∀ a b : D, alikeD a b = true → PySem.W.alike (toP a) (toP b) = true
  | .non, b, h => by cases b <;> simp [alikeD, toP, PySem.W.alike] at h ⊢
  | .bl _, b, h => by cases b <;> simp [alikeD, toP, PySem.W.alike] at h ⊢
  | .int _, b, h => by cases b <;> simp [alikeD, toP, PySem.W.alike] at h ⊢
  | .str _, b, h => by cases b <;> simp [alikeD, toP, PySem.W.alike] at h ⊢
  | .tup l, b, h => by
    cases b <;> simp only [alikeD] at h <;> first | cases h; done | skip
    simp only [toP, PySem.W.alike]
    exact alikes_toP l _ h
  | .lst l, b, h => by
    cases b <;> simp only [alikeD] at h <;> first | cases h; done | skip
    simp only [toP, PySem.W.alike]
    exact alikes_toP l _ h
  | .dct _ _, b, h => by cases b <;> simp [alikeD] at h
theorem alikes_toP : ∀ a b : List D, alikeDs a b = true → PySem.W.alikeAll (toPs a) (toPs b) = true
  | [], b, _ => by cases b <;> simp [toPs, PySem.W.alikeAll]
  | x :: xs, [], _ => by simp [toPs, PySem.W.alikeAll]
  | x :: xs, y :: ys, h => by
    simp only [alikeDs, Bool.and_eq_true] at h
    simp only [toPs, PySem.W.alikeAll, alike_toP x y h.1, alikes_toP xs ys h.2, Bool.and_self]
end
def ltP (xs ys : List PyData) : Bool := PyProof.Rows.lexLt itemOrd (PySem.W.keyToksAll xs) (PySem.W.keyToksAll ys)
mutual
theorem lt_toP : ∀ a b : D, alikeD a b = true → PySem.W.dataLt (toP a) (toP b) = ltD a b
  | .non, b, h => by
    cases b <;> simp [alikeD] at h
    simp only [toP, ltD]
    rfl
  | .bl x, b, h => by
    cases b <;> simp [alikeD] at h
    rename_i y
    simp only [toP, ltD, PySem.W.dataLt_bool]
    cases x <;> cases y <;> decide
  | .int x, b, h => by
    cases b <;> simp [alikeD] at h
    simp only [toP, ltD, PySem.W.dataLt_int]
  | .str x, b, h => by
    cases b <;> simp [alikeD] at h
    simp only [toP, ltD, PySem.W.dataLt_str]
  | .tup l, b, h => by
    cases b <;> simp only [alikeD] at h <;> first | cases h; done | skip
    simp only [toP, ltD, PySem.W.dataLt_tuple]
    exact lts_toP l _ h
  | .lst l, b, h => by
    cases b <;> simp only [alikeD] at h <;> first | cases h; done | skip
    simp only [toP, ltD, PySem.W.dataLt_list]
    exact lts_toP l _ h
  | .dct _ _, b, h => by cases b <;> simp [alikeD] at h
theorem lts_toP : ∀ a b : List D, alikeDs a b = true → ltP (toPs a) (toPs b) = ltDs a b
  | [], [], _ => by simp only [toPs, ltDs]; rfl
  | [], y :: ys, _ => by simp only [toPs, ltDs]; rfl
  | x :: xs, [], _ => by simp only [toPs, ltDs]; rfl
  | x :: xs, y :: ys, h => by
    simp only [alikeDs, Bool.and_eq_true] at h
    simp only [toPs, ltDs, ltP]
    rw [PySem.W.dataLt_cons (alike_toP x y h.1), eqD_toP]
    split
    · exact lts_toP xs ys h.2
    · exact lt_toP x y h.1
end

/-! ### reading -/
mutual
theorem repDp (K : PySem.W.Frag) {w : World} {O : Addr → Prop} {H : Hp} : ∀ {d : D} {v : V}, flatD d = true → Rep w O H d v → Dp K H v (toP d)
  | .non, v, _, h => by simp [Rep] at h; subst h; simp only [toP]; exact .non
  | .bl _, v, _, h => by simp [Rep] at h; subst h; simp only [toP]; exact .bl _
  | .int _, v, _, h => by simp [Rep] at h; subst h; simp only [toP]; exact .int _
  | .str _, v, _, h => by simp [Rep] at h; subst h; simp only [toP]; exact .str _
  | .tup l, v, f, h => by
    unfold flatD at f
    unfold Rep at h
    obtain ⟨a, xs, rfl, n, r, q⟩ := h
    simp only [toP]
    exact .tup (.inl r) (repsDp K f q)
  | .lst l, v, f, h => by
    unfold flatD at f
    unfold Rep at h
    obtain ⟨a, xs, rfl, n, r, q⟩ := h
    simp only [toP]
    exact .lst (.inl r) (repsDp K f q)
  | .dct _ _, v, f, h => by simp [flatD] at f
theorem repsDp (K : PySem.W.Frag) {w : World} {O : Addr → Prop} {H : Hp} : ∀ {ds : List D} {vs : List V}, flatDs ds = true → Reps w O H ds vs → DpAll K H vs (toPs ds)
  | [], v, _, h => by simp [Reps] at h; subst h; simp only [toPs]; exact .nil
  | d :: ds, v, f, h => by
    simp only [flatDs, Bool.and_eq_true] at f
    unfold Reps at h
    obtain ⟨x, r, rfl, h1, h2⟩ := h
    simp only [toPs]
    exact .cons (repDp K f.1 h1) (repsDp K f.2 h2)
end
theorem repUDp (K : PySem.W.Frag) {w : World} {O : Addr → Prop} {H : Hp} {d : D} {v : V} (f : flatD d = true) (h : RepU w O H d v) : Dp K H v (toP d) := by
  cases d with
  | lst l =>
    obtain ⟨a, xs, rfl, r, q⟩ := h
    unfold flatD at f
    simp only [toP]
    exact .lst (.inl r) (repsDp K f q)
  | dct _ _ => simp [flatD] at f
  | _ => exact repDp (w := w) (O := O) K f h

/-! ### comparisons -/
structure CmpD (X : Cx) (op : CmpOp) (g : D → D → Option Bool) : Prop where
  ex : ∃ r : R2, OpR X (compareOp op) r ∧ ∀ (O : Addr → Prop) (H : Hp) (x y : D) (z : Bool) (vx vy : V) (Q : VK), RepU X.w O H x vx → RepU X.w O H y vy → g x y = some z → Q (.bl z) H → r vx vy H Q
section
variable {X : Cx}
theorem op_eqO (hu : X.A.units + 64 < cLine) : CmpD X .Eq eqO := by
  refine ⟨_, op_eqD hu, fun O H x y z vx vy Q hx hy e k => ?_⟩
  unfold eqO at e
  split at e
  · rename_i hc
    cases e
    simp only [Bool.and_eq_true] at hc
    have f1 : flatD x = true := by have := hc.1; simp only [okD, Bool.and_eq_true] at this; exact this.1
    have f2 : flatD y = true := by have := hc.2; simp only [okD, Bool.and_eq_true] at this; exact this.1
    exact ⟨toP x, toP y, repUDp _ f1 hx, repUDp _ f2 hy, shaped_toP hc.1, shaped_toP hc.2, by rw [eqD_toP]; exact k⟩
  · cases e
theorem op_neO (hu : X.A.units + 64 < cLine) : CmpD X .NotEq neO := by
  refine ⟨_, op_neD hu, fun O H x y z vx vy Q hx hy e k => ?_⟩
  unfold neO at e
  split at e
  · rename_i hc
    cases e
    simp only [Bool.and_eq_true] at hc
    have f1 : flatD x = true := by have := hc.1; simp only [okD, Bool.and_eq_true] at this; exact this.1
    have f2 : flatD y = true := by have := hc.2; simp only [okD, Bool.and_eq_true] at this; exact this.1
    exact ⟨toP x, toP y, repUDp _ f1 hx, repUDp _ f2 hy, shaped_toP hc.1, shaped_toP hc.2, by rw [eqD_toP]; exact k⟩
  · cases e
/-- two data that can be compared by order -/
def rOrd (K : PySem.W.Frag) (f : D → D → Bool) : R2 := fun vx vy H Q => ∃ x y, ordOk x y = true ∧ Dp K H vx (toP x) ∧ Dp K H vy (toP y) ∧ Q (.bl (f x y)) H
theorem ord_facts {x y : D} (h : ordOk x y = true) : alikeD x y = true ∧ flatD x = true ∧ flatD y = true ∧ toP x ≠ .none ∧ (toP x).depth ≤ 60 := by
  simp only [ordOk, Bool.and_eq_true, decide_eq_true_eq] at h
  obtain ⟨⟨⟨⟨h1, h2⟩, h3⟩, h4⟩, h5⟩ := h
  refine ⟨h1, h2, h3, ?_, by rw [dep_toP]; exact h5⟩
  cases x <;> simp [isNon, toP] at h4 ⊢
theorem ord_room {A : Around} {a b : PyData} (h : a.depth ≤ 60) (hu : A.units + 64 < cLine) : A.units + min a.depth b.depth < cLine := by
  have := Nat.min_le_left a.depth b.depth
  omega
mutual
theorem alike_symm : ∀ a b : D, alikeD a b = true → alikeD b a = true
  | .non, b, h => by cases b <;> simp [alikeD] at h ⊢
  | .bl _, b, h => by cases b <;> simp [alikeD] at h ⊢
  | .int _, b, h => by cases b <;> simp [alikeD] at h ⊢
  | .str _, b, h => by cases b <;> simp [alikeD] at h ⊢
  | .tup l, b, h => by
    cases b <;> simp only [alikeD] at h <;> first | cases h; done | skip
    simp only [alikeD]
    exact alikes_symm l _ h
  | .lst l, b, h => by
    cases b <;> simp only [alikeD] at h <;> first | cases h; done | skip
    simp only [alikeD]
    exact alikes_symm l _ h
  | .dct _ _, b, h => by cases b <;> simp [alikeD] at h
theorem alikes_symm : ∀ a b : List D, alikeDs a b = true → alikeDs b a = true
  | [], b, _ => by cases b <;> simp [alikeDs]
  | x :: xs, [], _ => by simp [alikeDs]
  | x :: xs, y :: ys, h => by
    simp only [alikeDs, Bool.and_eq_true] at h ⊢
    exact ⟨alike_symm x y h.1, alikes_symm xs ys h.2⟩
end
theorem ord_lt (hu : X.A.units + 64 < cLine) : OpR X (compareOp .Lt) (rOrd X.K ltD) := by
  intro pins s σ H vx vy v u Q I rx ry h
  obtain ⟨x, y, ho, hx, hy, q⟩ := h
  obtain ⟨h1, h2, h3, h4, h5⟩ := ord_facts ho
  obtain ⟨as, r1⟩ := Dp.reads I _ vx v hx rx
  obtain ⟨bs, r2⟩ := Dp.reads I _ vy u hy ry
  exact PySem.W.lt_data r1 r2 (alike_toP x y h1) h4 (ord_room h5 hu) ⟨.bl _, H, I, rfl, by rw [lt_toP x y h1]; exact q⟩
theorem ord_gt (hu : X.A.units + 64 < cLine) : OpR X (compareOp .Gt) (rOrd X.K fun a b => ltD b a) := by
  intro pins s σ H vx vy v u Q I rx ry h
  obtain ⟨x, y, ho, hx, hy, q⟩ := h
  obtain ⟨h1, h2, h3, h4, h5⟩ := ord_facts ho
  obtain ⟨as, r1⟩ := Dp.reads I _ vx v hx rx
  obtain ⟨bs, r2⟩ := Dp.reads I _ vy u hy ry
  exact PySem.W.gt_data r1 r2 (alike_toP x y h1) h4 (ord_room h5 hu) ⟨.bl _, H, I, rfl, by rw [lt_toP y x (alike_symm x y h1)]; exact q⟩
theorem ord_le (hu : X.A.units + 64 < cLine) : OpR X (compareOp .LtE) (rOrd X.K fun a b => !ltD b a) := by
  intro pins s σ H vx vy v u Q I rx ry h
  obtain ⟨x, y, ho, hx, hy, q⟩ := h
  obtain ⟨h1, h2, h3, h4, h5⟩ := ord_facts ho
  obtain ⟨as, r1⟩ := Dp.reads I _ vx v hx rx
  obtain ⟨bs, r2⟩ := Dp.reads I _ vy u hy ry
  exact PySem.W.le_data r1 r2 (alike_toP x y h1) h4 (ord_room h5 hu) ⟨.bl _, H, I, rfl, by rw [lt_toP y x (alike_symm x y h1)]; exact q⟩
theorem ord_ge (hu : X.A.units + 64 < cLine) : OpR X (compareOp .GtE) (rOrd X.K fun a b => !ltD a b) := by
  intro pins s σ H vx vy v u Q I rx ry h
  obtain ⟨x, y, ho, hx, hy, q⟩ := h
  obtain ⟨h1, h2, h3, h4, h5⟩ := ord_facts ho
  obtain ⟨as, r1⟩ := Dp.reads I _ vx v hx rx
  obtain ⟨bs, r2⟩ := Dp.reads I _ vy u hy ry
  exact PySem.W.ge_data r1 r2 (alike_toP x y h1) h4 (ord_room h5 hu) ⟨.bl _, H, I, rfl, by rw [lt_toP x y h1]; exact q⟩
theorem ordD {op : CmpOp} {f : D → D → Bool} {g : D → D → Option Bool} (h : OpR X (compareOp op) (rOrd X.K f)) (hg : ∀ a b, g a b = if ordOk a b then some (f a b) else none) : CmpD X op g := by
  refine ⟨_, h, fun O H x y z vx vy Q hx hy e k => ?_⟩
  rw [hg] at e
  split at e
  · rename_i hc
    cases e
    obtain ⟨h1, h2, h3, h4, h5⟩ := ord_facts hc
    exact ⟨x, y, hc, repUDp _ h2 hx, repUDp _ h3 hy, k⟩
  · cases e
theorem op_ltO (hu : X.A.units + 64 < cLine) : CmpD X .Lt ltO := ordD (ord_lt hu) fun _ _ => rfl
theorem op_gtO (hu : X.A.units + 64 < cLine) : CmpD X .Gt gtO := ordD (ord_gt hu) fun _ _ => rfl
theorem op_leO (hu : X.A.units + 64 < cLine) : CmpD X .LtE leO := ordD (ord_le hu) fun _ _ => rfl
theorem op_geO (hu : X.A.units + 64 < cLine) : CmpD X .GtE geO := ordD (ord_ge hu) fun _ _ => rfl
theorem isNon_rep {w : World} {O : Addr → Prop} {H : Hp} {x : D} {v : V} (h : RepU w O H x v) : isNon x = decide (v = .non) := by
  cases x with
  | non => cases repU_non h; rfl
  | bl b => cases repU_bl h; rfl
  | int i => cases repU_int h; rfl
  | str i => cases repU_str h; rfl
  | tup l => obtain ⟨a, xs, rfl, _⟩ := repU_tup h; rfl
  | lst l => obtain ⟨a, xs, rfl, _⟩ := repU_lst h; rfl
  | dct ks vs => obtain ⟨a, xs, ys, rfl, _⟩ := h; rfl
theorem op_isO : CmpD X .Is isO := by
  refine ⟨_, op_isN.or op_is_bl, fun O H x y z vx vy Q hx hy e k => ?_⟩
  unfold isO at e
  split at e
  · cases e
    cases repU_non hy
    exact .inl ⟨rfl, by rw [← isNon_rep hx]; exact k⟩
  · cases e
    cases repU_bl hx; cases repU_bl hy
    refine .inr ⟨_, _, rfl, rfl, ?_⟩
    rw [← Bool.beq_eq_decide_eq]; exact k
  · cases e
theorem op_isnotO : CmpD X .IsNot isnotO := by
  refine ⟨_, op_notN, fun O H x y z vx vy Q hx hy e k => ?_⟩
  unfold isnotO at e
  split at e
  · cases e
    cases repU_non hy
    exact ⟨rfl, by rw [← isNon_rep hx]; exact k⟩
  · cases e
end
end Ev

/-! Ev, part E: dicts; items of lists. -/
namespace Ev
open PySem PySem.Spec PyProof.Rows L2

/-! ### keys -/
mutual
theorem key_eq : ∀ a b : D, keyD a = true → keyD b = true → (eqD a b = true ↔ toKey a = toKey b)
  | .non, b, _, hb => by cases b <;> simp [eqD, toKey, keyD] at hb ⊢
  | .bl x, b, _, hb => by
    cases b <;> simp [eqD, toKey, keyD] at hb ⊢
    rename_i y
    cases x <;> cases y <;> simp
  | .int x, b, _, hb => by cases b <;> simp [eqD, toKey, keyD] at hb ⊢
  | .str x, b, _, hb => by cases b <;> simp [eqD, toKey, keyD] at hb ⊢
  | .tup l, b, ha, hb => by
    cases b with
    | tup m =>
      unfold keyD at ha hb
      simp only [eqD, toKey, NestedKey.tup.injEq]
      exact keys_eq l m ha hb
    | _ => simp [eqD, toKey]
  | .lst l, b, ha, hb => by simp [keyD] at ha
  | .dct _ _, b, ha, hb => by simp [keyD] at ha
theorem keys_eq : ∀ a b : List D, keyDs a = true → keyDs b = true → (eqDs a b = true ↔ toKeys a = toKeys b)
  | [], b, _, _ => by cases b <;> simp [eqDs, toKeys]
  | x :: xs, [], _, _ => by simp [eqDs, toKeys]
  | x :: xs, y :: ys, ha, hb => by
    simp only [keyDs, Bool.and_eq_true] at ha hb
    simp only [eqDs, toKeys, Bool.and_eq_true, key_eq x y ha.1 hb.1, keys_eq xs ys ha.2 hb.2, List.cons.injEq]
end
theorem tupKey_key {d : D} (h : tupKey d = true) : keyD d = true := by
  cases d <;> simp [tupKey] at h
  unfold keyD; exact h.1
theorem scalKey_key {d : D} (h : scalKey d = true) : keyD d = true := by
  cases d <;> simp [scalKey] at h <;> simp [keyD]
/-- a scalar key for the library's kind of ints and texts -/
def keyS : D → Key
  | .int i => .inl i
  | .str s => .inr s
  | _ => .inl 0
theorem keyS_eq {a b : D} (ha : scalKey a = true) (hb : scalKey b = true) : (toKey a = toKey b ↔ keyS a = keyS b) := by
  cases a <;> simp [scalKey] at ha <;> cases b <;> simp [scalKey] at hb <;> simp [toKey, keyS]
theorem keyS_hash {P : Program} {w : World} {a : D} (ha : scalKey a = true) : (toKey a).hash w = (mixKind P w).hash (keyS a) := by
  cases a <;> simp [scalKey] at ha <;> simp [toKey, keyS, NestedKey.hash] <;> rfl
theorem depDs_keys : ∀ l : List D, keyDs l = true → NestedKey.depthAll (toKeys l) = depDs l := by
  intro l
  exact (go l)
where
  goD : ∀ d : D, keyD d = true → (toKey d).depth = depD d
    | .non, _ => by simp [toKey, NestedKey.depth, depD]
    | .bl _, _ => by simp [toKey, NestedKey.depth, depD]
    | .int _, _ => by simp [toKey, NestedKey.depth, depD]
    | .str _, _ => by simp [toKey, NestedKey.depth, depD]
    | .tup l, h => by
      unfold keyD at h
      simp only [toKey, NestedKey.depth, depD]
      rw [go l h]
    | .lst l, h => by simp [keyD] at h
    | .dct _ _, h => by simp [keyD] at h
  go : ∀ l : List D, keyDs l = true → NestedKey.depthAll (toKeys l) = depDs l
    | [], _ => by simp [toKeys, NestedKey.depthAll, depDs]
    | x :: xs, h => by
      simp only [keyDs, Bool.and_eq_true] at h
      simp only [toKeys, NestedKey.depthAll, depDs]
      rw [goD x h.1, go xs h.2]
section
variable {X : Cx} {pins : List (Addr × Obj)} {σ : St} {H : Hp} {s : Shared} {O : Addr → Prop}
mutual
theorem rep_key (I : Inv X pins σ H s) {w : World} : ∀ (d : D) (v : V) (u : Value), keyD d = true → Rep w O H d v → RelV v u → NestedIs s.heap (toKey d) u
  | .non, v, u, _, h, r => by simp [Rep] at h; subst h; cases r; simp only [toKey]; exact .none
  | .bl b, v, u, _, h, r => by simp [Rep] at h; subst h; cases r; simp only [toKey]; exact .bool rfl
  | .int i, v, u, _, h, r => by simp [Rep] at h; subst h; obtain ⟨t, rfl⟩ := r; simp only [toKey]; exact .int i t
  | .str x, v, u, _, h, r => by simp [Rep] at h; subst h; obtain ⟨t, rfl⟩ := r; simp only [toKey]; exact .text x t
  | .tup l, v, u, k, h, r => by
    unfold keyD at k
    unfold Rep at h
    obtain ⟨a, xs, rfl, n, rd, q⟩ := h
    cases r
    obtain ⟨its, rv, ⟨o, ho, hc, m, hd⟩, hz⟩ := I.tuple (.inl rd : SqT X.K H a xs)
    simp only [toKey]
    exact .tup ho hc hd (by simpa using reps_key I l xs its k q rv)
  | .lst l, v, u, k, h, r => by simp [keyD] at k
  | .dct _ _, v, u, k, h, r => by simp [keyD] at k
theorem reps_key (I : Inv X pins σ H s) {w : World} : ∀ (ds : List D) (vs : List V) (us : List Value), keyDs ds = true → Reps w O H ds vs → Vals vs us → NestedAll s.heap (toKeys ds) us
  | [], vs, us, _, h, r => by simp [Reps] at h; subst h; cases r; simp only [toKeys]; exact .nil
  | d :: ds, vs, us, k, h, r => by
    simp only [keyDs, Bool.and_eq_true] at k
    unfold Reps at h
    obtain ⟨x, t, rfl, h1, h2⟩ := h
    cases r with
    | cons r1 r2 =>
      simp only [toKeys]
      exact .cons (rep_key I d x _ k.1 h1 r1) (reps_key I ds t _ k.2 h2 r2)
end
theorem rep_tupKey (I : Inv X pins σ H s) {w : World} {d : D} {v : V} {u : Value} (k : tupKey d = true) (h : Rep w O H d v) (r : RelV v u) : ∃ a, u = .ref a ∧ (nestedKind X.prog X.w).is s.heap (toKey d) a := by
  have q := rep_key I d v u (tupKey_key k) h r
  cases d <;> simp [tupKey] at k
  rename_i l
  unfold Rep at h
  obtain ⟨a, xs, rfl, _⟩ := h
  cases r
  refine ⟨a, rfl, q, ?_⟩
  simp only [toKey, NestedKey.depth]
  rw [depDs_keys l k.1]
  omega
end

/-! ### the place of a key -/
section
variable {κ : Type} [DecidableEq κ]
theorem atKey_fkey (f : D → κ) : ∀ (zs : List (κ × Addr × Value)) (ks : List D) (k : D), zs.map (·.1) = ks.map f → (∀ k' ∈ ks, eqD k' k = true ↔ f k' = f k) →
    atKey zs (f k) = match fkey ks k with | some j => zs[j]?.map (·.2) | none => none
  | [], [], k, _, _ => rfl
  | [], _ :: _, k, h, _ => by simp at h
  | _ :: _, [], k, h, _ => by simp at h
  | z :: zs, k' :: ks, k, h, e => by
    simp only [List.map_cons, List.cons.injEq] at h
    have ih := atKey_fkey f zs ks k h.2 fun x hx => e x (List.mem_cons_of_mem _ hx)
    have e0 := e k' List.mem_cons_self
    unfold atKey at ih ⊢
    unfold fkey
    by_cases q : eqD k' k = true
    · rw [if_pos q, List.find?_cons_of_pos (by simp [h.1, e0.mp q])]
      rfl
    · rw [if_neg q, List.find?_cons_of_neg (by simp only [h.1, decide_eq_true_eq]; exact fun w => q (e0.mpr w)), ih]
      cases fkey ks k <;> simp
theorem storedH_fkey (f : D → κ) (b : Addr) (u : Value) : ∀ (zs : List (κ × Addr × Value)) (ks : List D) (k : D), zs.map (·.1) = ks.map f → (∀ k' ∈ ks, eqD k' k = true ↔ f k' = f k) → (zs.map (·.1)).Nodup →
    storedH zs (f k) b u = match fkey ks k with | some j => zs.modify j (fun z => (z.1, z.2.1, u)) | none => zs ++ [(f k, b, u)] := by
  have none_of : ∀ (zs : List (κ × Addr × Value)) (k : κ), (∀ z ∈ zs, z.1 ≠ k) → zs.map (putAt k u) = zs := fun zs k h => by
    rw [List.map_congr_left (g := id) fun z hz => ?_]
    · simp
    · unfold putAt; rw [if_neg (h z hz)]; rfl
  have main : ∀ (zs : List (κ × Addr × Value)) (ks : List D) (k : D), zs.map (·.1) = ks.map f → (∀ k' ∈ ks, eqD k' k = true ↔ f k' = f k) → (zs.map (·.1)).Nodup →
      ∀ j, fkey ks k = some j → zs.map (putAt (f k) u) = zs.modify j (fun z => (z.1, z.2.1, u)) := by
    intro zs
    induction zs with
    | nil => intro ks k h e n j hj; cases ks with
      | nil => simp [fkey] at hj
      | cons _ _ => simp at h
    | cons z zs ih =>
      intro ks k h e n j hj
      cases ks with
      | nil => simp at h
      | cons k' ks =>
        simp only [List.map_cons, List.cons.injEq] at h
        have e0 := e k' List.mem_cons_self
        unfold fkey at hj
        simp only [List.map_cons, List.nodup_cons] at n
        by_cases q : eqD k' k = true
        · rw [if_pos q] at hj
          cases hj
          have hz : z.1 = f k := by rw [h.1]; exact e0.mp q
          rw [List.map_cons, none_of zs (f k) fun y hy w => n.1 (by rw [hz, ← w]; exact List.mem_map_of_mem hy)]
          unfold putAt
          rw [if_pos hz]
          simp
        · rw [if_neg q] at hj
          have hz : ¬ z.1 = f k := by rw [h.1]; exact fun w => q (e0.mpr w)
          cases hf : fkey ks k with
          | none => rw [hf] at hj; cases hj
          | some i =>
            rw [hf] at hj
            cases hj
            rw [List.map_cons, ih ks k h.2 (fun x hx => e x (List.mem_cons_of_mem _ hx)) n.2 i hf]
            unfold putAt
            rw [if_neg hz]
            simp
  intro zs ks k h e n
  have ak := atKey_fkey f zs ks k h e
  unfold storedH
  rw [ak]
  cases hf : fkey ks k with
  | none => simp
  | some j =>
    have hj : (zs[j]?.map (·.2)).isSome = true := by
      have : j < ks.length := by
        clear ak h e n
        induction ks generalizing j with
        | nil => simp [fkey] at hf
        | cons k' ks ih =>
          unfold fkey at hf
          split at hf
          · cases hf; simp
          · cases hg : fkey ks k with
            | none => rw [hg] at hf; cases hf
            | some i => rw [hg] at hf; cases hf; have := ih i hg; simp; omega
      have hl : zs.length = ks.length := by have := congrArg List.length h; simpa using this
      simp [hl, this]
    simp only [hj, if_true]
    exact main zs ks k h e n j hf
theorem valueAt_fkey (f : D → κ) : ∀ (zs : List (κ × Value)) (ks : List D) (k : D), zs.map (·.1) = ks.map f → (∀ k' ∈ ks, eqD k' k = true ↔ f k' = f k) →
    valueAt zs (f k) = match fkey ks k with | some j => zs[j]?.map (·.2) | none => none
  | [], [], k, _, _ => rfl
  | [], _ :: _, k, h, _ => by simp at h
  | _ :: _, [], k, h, _ => by simp at h
  | z :: zs, k' :: ks, k, h, e => by
    simp only [List.map_cons, List.cons.injEq] at h
    have ih := valueAt_fkey f zs ks k h.2 fun x hx => e x (List.mem_cons_of_mem _ hx)
    have e0 := e k' List.mem_cons_self
    unfold valueAt at ih ⊢
    unfold fkey
    by_cases q : eqD k' k = true
    · rw [if_pos q, List.find?_cons_of_pos (by simp [h.1, e0.mp q])]
      rfl
    · rw [if_neg q, List.find?_cons_of_neg (by simp only [h.1, decide_eq_true_eq]; exact fun w => q (e0.mpr w)), ih]
      cases fkey ks k <;> simp
theorem stored_fkey (f : D → κ) (u : Value) (zs : List (κ × Value)) (ks : List D) (k : D) (h : zs.map (·.1) = ks.map f) (e : ∀ k' ∈ ks, eqD k' k = true ↔ f k' = f k) (n : (zs.map (·.1)).Nodup) :
    stored zs (f k) u = match fkey ks k with | some j => zs.modify j (fun z => (z.1, u)) | none => zs ++ [(f k, u)] := by
  have m1 : ∀ l : List (κ × Value), pairsH (l.map fun z => (z.1, (0 : Addr), z.2)) = l := fun l => by
    unfold pairsH
    rw [List.map_map]
    exact (List.map_congr_left fun z _ => rfl).trans (List.map_id l)
  have m2 : (zs.map fun z => (z.1, (0 : Addr), z.2)).map (·.1) = zs.map (·.1) := by
    rw [List.map_map]
    exact List.map_congr_left fun z _ => rfl
  have e1 : stored zs (f k) u = pairsH (storedH (zs.map fun z => (z.1, (0 : Addr), z.2)) (f k) 0 u) := by
    rw [pairsH_storedH, m1]
  rw [e1, storedH_fkey f 0 u (zs.map fun z => (z.1, (0 : Addr), z.2)) ks k (m2.trans h) e (by rw [m2]; exact n)]
  cases fkey ks k with
  | none =>
    simp only
    have : pairsH ((zs.map fun z => (z.1, (0 : Addr), z.2)) ++ [(f k, 0, u)]) = pairsH (zs.map fun z => (z.1, (0 : Addr), z.2)) ++ [(f k, u)] := by
      unfold pairsH; rw [List.map_append]; rfl
    rw [this, m1]
  | some j =>
    simp only [pairsH]
    apply List.ext_getElem?
    intro i
    simp only [List.getElem?_map, List.getElem?_modify]
    by_cases q : j = i
    · subst q
      cases zs[j]? <;> simp
    · simp only [q, if_false]
      cases zs[i]? <;> simp
end
theorem fkey_lt : ∀ {ks : List D} {k : D} {j : Nat}, fkey ks k = some j → j < ks.length
  | [], _, _, h => by simp [fkey] at h
  | k' :: ks, k, j, h => by
    unfold fkey at h
    split at h
    · cases h; simp
    · cases hg : fkey ks k with
      | none => rw [hg] at h; cases h
      | some i => rw [hg] at h; cases h; have := fkey_lt hg; simp; omega

/-! ### a dict that stands -/
section
variable {X : Cx} {pins : List (Addr × Obj)} {σ : St} {H : Hp} {s : Shared} {O : Addr → Prop} {a : Addr} {ks vs : List D} {xs ys : List V}
theorem dct_obj (I : Inv X pins σ H s) {o : Obj} (h : H a = some (dO a o)) : s.heap.get? a = some o := (I.hok a _ h).1
def addrOf : Value → Addr
  | .ref b => b
  | _ => 0
theorem relV_ref {x : V} {b : Addr} (h : RelV x (.ref b)) : x = .ref b := by
  cases x with
  | ref c => cases h; rfl
  | non => cases h
  | bl _ => cases h
  | int _ => obtain ⟨t, q⟩ := h; cases q
  | str _ => obtain ⟨t, q⟩ := h; cases q
  | byt _ => obtain ⟨t, q⟩ := h; cases q
  | flt _ => obtain ⟨t, q⟩ := h; cases q
  | ty _ => cases h
/-- the entries as the library wants them: keys that are tuples -/
theorem dct_tup (I : Inv X pins σ H s) (h : DctO X.w H a ks xs ys) (r : Reps X.w O H ks xs) (hk : ks.all tupKey = true) :
    (a == sysModules) = false ∧ ks.length ≤ 16777216 ∧ (ks.map toKey).Nodup ∧ ∃ zs : List (NestedKey × Addr × Value), s.heap.DictOfH (nestedKind X.prog X.w) a zs ∧ zs.map (·.1) = ks.map toKey ∧ ∀ (i : Nat) (z : NestedKey × Addr × Value), zs[i]? = some z → ∃ y, xs[i]? = some (V.ref z.2.1) ∧ ys[i]? = some y ∧ RelV y z.2.2 := by
  obtain ⟨o, es, ep, hH, hs, hx, hd, hz, _, nd, E⟩ := h
  refine ⟨hs, hz, nd, ?_⟩
  -- each entry's key is an address
  have ad : ∀ (i : Nat) (en : DictEntry), es.toList[i]? = some en → ∃ b k, en.key = .ref b ∧ ks[i]? = some k ∧ xs[i]? = some (V.ref b) ∧ en.hash = (toKey k).hash X.w ∧ (nestedKind X.prog X.w).is s.heap (toKey k) b ∧ ∃ y, ys[i]? = some y ∧ RelV y en.val := by
    intro i en he
    obtain ⟨k, x, y, h1, h2, h3, h4, h5, h6⟩ := E.at_ i en he
    obtain ⟨x', h2', rk⟩ := r.get h1
    rw [h2] at h2'; cases h2'
    have tk : tupKey k = true := List.all_eq_true.mp hk k (List.mem_of_getElem? h1)
    obtain ⟨b, hb, is⟩ := rep_tupKey I tk rk h5
    rw [hb] at h5
    cases relV_ref h5
    exact ⟨b, k, hb, h1, h2, h4, is, y, h3, h6⟩
  have zat : ∀ (i : Nat) (en : DictEntry) (k : D), es.toList[i]? = some en → ks[i]? = some k → ((es.toList.zip ks).map fun p => (toKey p.2, addrOf p.1.key, p.1.val))[i]? = some (toKey k, addrOf en.key, en.val) := fun i en k h1 h2 => by
    rw [List.getElem?_map, List.getElem?_zip_eq_some (z := (en, k)) |>.mpr ⟨h1, h2⟩]; rfl
  have zback : ∀ (i : Nat) (z : NestedKey × Addr × Value), ((es.toList.zip ks).map fun p => (toKey p.2, addrOf p.1.key, p.1.val))[i]? = some z → ∃ en k, es.toList[i]? = some en ∧ ks[i]? = some k ∧ z = (toKey k, addrOf en.key, en.val) := fun i z h => by
    rw [List.getElem?_map] at h
    cases q : (es.toList.zip ks)[i]? with
    | none => rw [q] at h; cases h
    | some p =>
      rw [q] at h
      obtain ⟨h1, h2⟩ := List.getElem?_zip_eq_some.mp q
      cases h
      exact ⟨p.1, p.2, h1, h2, rfl⟩
  refine ⟨(es.toList.zip ks).map fun p => (toKey p.2, addrOf p.1.key, p.1.val), ⟨o, es, ep, dct_obj I hH, hx, hd, ?_, fun z hz => ?_, ?_⟩, ?_, fun i z hz => ?_⟩
  · apply List.ext_getElem?
    intro i
    rw [List.getElem?_map]
    cases he : es.toList[i]? with
    | none =>
      have : ((es.toList.zip ks).map fun p => (toKey p.2, addrOf p.1.key, p.1.val))[i]? = none := by
        rw [List.getElem?_eq_none_iff] at he ⊢
        simp only [List.length_map, List.length_zip]; omega
      rw [this]; rfl
    | some en =>
      obtain ⟨b, k, h1, h2, h3, h4, _⟩ := ad i en he
      rw [zat i en k he h2]
      simp only [Option.map_some, entryOfKey, Option.some.injEq, h1, addrOf]
      cases en
      simp only at h1 h4
      rw [h1, h4]
      rfl
  · obtain ⟨i, hi⟩ := List.getElem?_of_mem hz
    obtain ⟨en, k, h1, h2, rfl⟩ := zback i z hi
    obtain ⟨b, k', g1, g2, g3, g4, g5, _⟩ := ad i en h1
    rw [h2] at g2; cases g2
    simp only [g1, addrOf]
    exact g5
  · rw [List.map_map]
    have : (es.toList.zip ks).map ((fun z : NestedKey × Addr × Value => z.1) ∘ fun p => (toKey p.2, addrOf p.1.key, p.1.val)) = ks.map toKey := by
      have e1 : ((fun z : NestedKey × Addr × Value => z.1) ∘ fun p : DictEntry × D => (toKey p.2, addrOf p.1.key, p.1.val)) = toKey ∘ Prod.snd := rfl
      rw [e1, ← List.map_map, List.map_snd_zip]
      rw [E.l1]; exact Nat.le_refl _
    rw [this]
    exact nd
  · rw [List.map_map]
    have e1 : ((fun z : NestedKey × Addr × Value => z.1) ∘ fun p : DictEntry × D => (toKey p.2, addrOf p.1.key, p.1.val)) = toKey ∘ Prod.snd := rfl
    rw [e1, ← List.map_map, List.map_snd_zip]
    rw [E.l1]; exact Nat.le_refl _
  · obtain ⟨en, k, h1, h2, rfl⟩ := zback i z hz
    obtain ⟨b, k', g1, g2, g3, g4, g5, y, g6, g7⟩ := ad i en h1
    simp only [g1, addrOf]
    exact ⟨y, g3, g6, g7⟩
/-- the same, keys that are ints and texts -/
theorem dct_scal (I : Inv X pins σ H s) (h : DctO X.w H a ks xs ys) (r : Reps X.w O H ks xs) (hk : ks.all scalKey = true) :
    (a == sysModules) = false ∧ ks.length ≤ 16777216 ∧ (ks.map keyS).Nodup ∧ ∃ zs : List (Key × Value), s.heap.DictOf (mixKind X.prog X.w) a zs ∧ zs.map (·.1) = ks.map keyS ∧ ∀ (i : Nat) (z : Key × Value), zs[i]? = some z → ∃ y, ys[i]? = some y ∧ RelV y z.2 := by
  obtain ⟨o, es, ep, hH, hs, hx, hd, hz, _, nd, E⟩ := h
  have hnd : (ks.map keyS).Nodup := by
    rw [List.nodup_iff_pairwise_ne, List.pairwise_map] at nd ⊢
    refine nd.imp_of_mem fun {x y} hx hy ne w => ne ?_
    exact (keyS_eq (List.all_eq_true.mp hk x hx) (List.all_eq_true.mp hk y hy)).mpr w
  refine ⟨hs, hz, hnd, ?_⟩
  have ad : ∀ (i : Nat) (en : DictEntry), es.toList[i]? = some en → ∃ k, ks[i]? = some k ∧ (mixKind X.prog X.w).is (keyS k) en.key = true ∧ en.hash = (mixKind X.prog X.w).hash (keyS k) ∧ ∃ y, ys[i]? = some y ∧ RelV y en.val := by
    intro i en he
    obtain ⟨k, x, y, h1, h2, h3, h4, h5, h6⟩ := E.at_ i en he
    obtain ⟨x', h2', rk⟩ := r.get h1
    rw [h2] at h2'; cases h2'
    have tk : scalKey k = true := List.all_eq_true.mp hk k (List.mem_of_getElem? h1)
    refine ⟨k, h1, ?_, by rw [h4, keyS_hash (P := X.prog) tk], y, h3, h6⟩
    cases k <;> simp [scalKey] at tk
    · simp [Rep] at rk; subst rk
      obtain ⟨t, q⟩ := h5
      rw [q]; exact mixKind_int _ _ _ t
    · simp [Rep] at rk; subst rk
      obtain ⟨t, q⟩ := h5
      rw [q]; exact mixKind_str _ _ _ t
  have zback : ∀ (i : Nat) (z : Key × Value), ((es.toList.zip ks).map fun p => (keyS p.2, p.1.val))[i]? = some z → ∃ en k, es.toList[i]? = some en ∧ ks[i]? = some k ∧ z = (keyS k, en.val) := fun i z h => by
    rw [List.getElem?_map] at h
    cases q : (es.toList.zip ks)[i]? with
    | none => rw [q] at h; cases h
    | some p =>
      rw [q] at h
      obtain ⟨h1, h2⟩ := List.getElem?_zip_eq_some.mp q
      cases h
      exact ⟨p.1, p.2, h1, h2, rfl⟩
  have hm : ((es.toList.zip ks).map fun p => (keyS p.2, p.1.val)).map (·.1) = ks.map keyS := by
    rw [List.map_map]
    have e1 : ((fun z : Key × Value => z.1) ∘ fun p : DictEntry × D => (keyS p.2, p.1.val)) = keyS ∘ Prod.snd := rfl
    rw [e1, ← List.map_map, List.map_snd_zip]
    rw [E.l1]; exact Nat.le_refl _
  refine ⟨(es.toList.zip ks).map fun p => (keyS p.2, p.1.val), ⟨o, es, ep, dct_obj I hH, hx, hd, fun en hen => ?_, ?_, by rw [hm]; exact hnd⟩, hm, fun i z hz => ?_⟩
  · obtain ⟨i, hi⟩ := List.getElem?_of_mem (Array.mem_toList_iff.mpr hen)
    obtain ⟨k, _, h2, h3, _⟩ := ad i en hi
    exact ⟨_, h2, h3⟩
  · have go : ∀ (l : List DictEntry) (m : List D), l.length = m.length → (∀ (i : Nat) (en : DictEntry) (k : D), l[i]? = some en → m[i]? = some k → (mixKind X.prog X.w).is (keyS k) en.key = true) → Pairs (mixKind X.prog X.w) l ((l.zip m).map fun p => (keyS p.2, p.1.val)) := by
      intro l
      induction l with
      | nil => intro m _ _; exact .nil
      | cons en l ih =>
        intro m hl hh
        cases m with
        | nil => simp at hl
        | cons k m => exact .cons (hh 0 en k rfl rfl) rfl (ih m (by simpa using hl) fun i en' k' h1 h2 => hh (i + 1) en' k' (by simpa using h1) (by simpa using h2))
    refine go _ _ E.l1.symm fun i en k h1 h2 => ?_
    obtain ⟨k', g1, g2, _⟩ := ad i en h1
    rw [h2] at g1; cases g1
    exact g2
  · obtain ⟨en, k, h1, h2, rfl⟩ := zback i z hz
    obtain ⟨k', g1, g2, g3, y, g4, g5⟩ := ad i en h1
    exact ⟨y, g4, g5⟩
end
end Ev

/-! Ev, part F: operations on dicts, in. -/
namespace Ev
open PySem PySem.Spec PyProof.Rows L2

/-- what a dict at a holds at the key -/
def DLook (w : World) (H : Hp) (a : Addr) (vk : V) (r : Option V) : Prop :=
  ∃ (O : Addr → Prop) (k : D) (ks : List D) (xs ys : List V), DctO w H a ks xs ys ∧ Reps w O H ks xs ∧ Rep w O H k vk ∧ keyOk ks k = true ∧ r = (match fkey ks k with | some j => ys[j]? | none => none)
theorem keyOk_cases {ks : List D} {k : D} (h : keyOk ks k = true) : (ks.all tupKey = true ∧ tupKey k = true) ∨ (ks.all scalKey = true ∧ scalKey k = true) := by
  unfold keyOk at h
  rw [Bool.or_eq_true, Bool.and_eq_true, Bool.and_eq_true] at h
  rcases h with h | h
  · exact .inl ⟨h.2, h.1⟩
  · exact .inr ⟨h.2, h.1⟩
theorem tup_iff {ks : List D} {k : D} (h1 : ks.all tupKey = true) (h2 : tupKey k = true) : ∀ k' ∈ ks, eqD k' k = true ↔ toKey k' = toKey k := fun k' hk =>
  key_eq k' k (tupKey_key (List.all_eq_true.mp h1 k' hk)) (tupKey_key h2)
theorem scal_iff {ks : List D} {k : D} (h1 : ks.all scalKey = true) (h2 : scalKey k = true) : ∀ k' ∈ ks, eqD k' k = true ↔ keyS k' = keyS k := fun k' hk =>
  (key_eq k' k (scalKey_key (List.all_eq_true.mp h1 k' hk)) (scalKey_key h2)).trans (keyS_eq (List.all_eq_true.mp h1 k' hk) h2)
section
variable {X : Cx} {pins : List (Addr × Obj)} {σ : St} {H : Hp} {s : Shared} {a : Addr} {vk : V} {u : Value} {A : Around} {E : Value → Shared → Prop}
theorem scal_is {O : Addr → Prop} {k : D} (h2 : scalKey k = true) (rk : Rep X.w O H k vk) (ru : RelV vk u) : (mixKind X.prog X.w).is (keyS k) u = true := by
  cases k <;> simp [scalKey] at h2
  · simp [Rep] at rk; subst rk
    obtain ⟨t, q⟩ := ru
    rw [q]; exact mixKind_int _ _ _ t
  · simp [Rep] at rk; subst rk
    obtain ⟨t, q⟩ := ru
    rw [q]; exact mixKind_str _ _ _ t
/-- the library's two kinds of dicts, and what is looked up -/
theorem look_cases (I : Inv X pins σ H s) {r : Option V} (h : DLook X.w H a vk r) (ru : RelV vk u) :
    (a == sysModules) = false ∧ ((∃ (k : NestedKey) (b : Addr) (zs : List (NestedKey × Addr × Value)), u = .ref b ∧ (nestedKind X.prog X.w).is s.heap k b ∧ s.heap.DictOfH (nestedKind X.prog X.w) a zs ∧ RelO r ((atKey zs k).map (·.2))) ∨
      ∃ (k : Key) (zs : List (Key × Value)), (mixKind X.prog X.w).is k u = true ∧ s.heap.DictOf (mixKind X.prog X.w) a zs ∧ RelO r (valueAt zs k)) := by
  obtain ⟨O, k, ks, xs, ys, hd, hr, rk, ok, e⟩ := h
  rcases keyOk_cases ok with ⟨h1, h2⟩ | ⟨h1, h2⟩
  · obtain ⟨g1, g2, g3, zs, g4, g5, g6⟩ := dct_tup I hd hr h1
    refine ⟨g1, .inl ?_⟩
    obtain ⟨b, hb, is⟩ := rep_tupKey I h2 rk ru
    refine ⟨toKey k, b, zs, hb, is, g4, ?_⟩
    rw [atKey_fkey toKey zs ks k g5 (tup_iff h1 h2), e]
    cases hf : fkey ks k with
    | none => exact True.intro
    | some j =>
      have hl : zs.length = ks.length := by have := congrArg List.length g5; simpa using this
      have hj := fkey_lt hf
      have hz : zs[j]? = some zs[j] := by simp [hl, hj]
      obtain ⟨y, _, hy, ry⟩ := g6 j _ hz
      simp only [hz, hy]
      exact ry
  · obtain ⟨g1, g2, g3, zs, g4, g5, g6⟩ := dct_scal I hd hr h1
    refine ⟨g1, .inr ?_⟩
    refine ⟨keyS k, zs, scal_is h2 rk ru, g4, ?_⟩
    rw [valueAt_fkey keyS zs ks k g5 (scal_iff h1 h2), e]
    cases hf : fkey ks k with
    | none => exact True.intro
    | some j =>
      have hl : zs.length = ks.length := by have := congrArg List.length g5; simpa using this
      have hj := fkey_lt hf
      have hz : zs[j]? = some zs[j] := by simp [hl, hj]
      obtain ⟨y, hy, ry⟩ := g6 j _ hz
      simp only [hz, hy]
      exact ry
theorem nest_room (hu : A.units + 200 < cLine) : (nestedKind X.prog X.w).room A.in1 := by
  show A.units + 1 + 8 < cLine
  omega
theorem dl_getItem {v : V} {Q : Value → Shared → Prop} (hu : A.units + 200 < cLine) (I : Inv X pins σ H s) (g : DLook X.w H a vk (some v)) (ru : RelV vk u) (h : ∀ w' s', Inv X pins σ H s' → RelV v w' → Q w' s') : wpAny (model X.prog X.w) A (getItem (.ref a) u) Q E s := by
  rcases look_cases I g ru with ⟨h1, ⟨k, b, zs, hb, is, hm, r⟩ | ⟨k, zs, is, hm, r⟩⟩
  · subst hb
    obtain ⟨w', hw, rw'⟩ := RelO.some_of r; obtain ⟨p, hp, hp2⟩ := Option.map_eq_some_iff.mp hw
    refine wpAny_getItem_heap (nest_room hu) is hm hp ?_
    rw [hp2]
    exact h w' _ (I.tok _) rw'
  · obtain ⟨w', hw, rw'⟩ := RelO.some_of r
    exact wpAny_getItem_of is hm.mapOf hw (h w' _ (I.tok _) rw')
theorem dl_in {o : Option V} {Q : Value → Shared → Prop} (hu : A.units + 200 < cLine) (I : Inv X pins σ H s) (g : DLook X.w H a vk o) (ru : RelV vk u) (h : ∀ s', Inv X pins σ H s' → Q (.bool o.isSome) s') : wpAny (model X.prog X.w) A (compareOp .In u (.ref a)) Q E s := by
  rcases look_cases I g ru with ⟨h1, ⟨k, b, zs, hb, is, hm, r⟩ | ⟨k, zs, is, hm, r⟩⟩
  · subst hb
    refine wpAny_in_heap (nest_room hu) is h1 hm ?_
    have q := r.isSome_eq
    rw [Option.isSome_map] at q
    rw [← q]
    exact h _ (I.tok _)
  · refine wpAny_in_of is h1 hm.mapOf ?_
    rw [← r.isSome_eq]
    exact h _ (I.tok _)
theorem dl_notIn {o : Option V} {Q : Value → Shared → Prop} (hu : A.units + 200 < cLine) (I : Inv X pins σ H s) (g : DLook X.w H a vk o) (ru : RelV vk u) (h : ∀ s', Inv X pins σ H s' → Q (.bool (!o.isSome)) s') : wpAny (model X.prog X.w) A (compareOp .NotIn u (.ref a)) Q E s := by
  rcases look_cases I g ru with ⟨h1, ⟨k, b, zs, hb, is, hm, r⟩ | ⟨k, zs, is, hm, r⟩⟩
  · subst hb
    refine wpAny_notIn_heap (nest_room hu) is h1 hm ?_
    have q := r.isSome_eq
    rw [Option.isSome_map] at q
    rw [← q]
    exact h _ (I.tok _)
  · refine wpAny_notIn_of is h1 hm.mapOf ?_
    rw [← r.isSome_eq]
    exact h _ (I.tok _)
theorem dl_get1 {o : Option V} {Q : Value → Shared → Prop} (hu : A.units + 200 < cLine) (I : Inv X pins σ H s) (g : DLook X.w H a vk o) (ru : RelV vk u) (h : ∀ w' s', Inv X pins σ H s' → RelV (o.getD .non) w' → Q w' s') : wpAny (model X.prog X.w) A (call (.builtin "dict.get") [.ref a, u]) Q E s := by
  rcases look_cases I g ru with ⟨h1, ⟨k, b, zs, hb, is, hm, r⟩ | ⟨k, zs, is, hm, r⟩⟩
  · subst hb
    refine call_meetsIn PySem.F.slot_dict_get hm.typeIs PySem.F.entry_dict_get (PySem.F.args_dict_get_2 _ _) (meetsH_dict_get (nestedKind X.prog X.w) a b h1) ⟨nest_room hu, k, zs, is, hm, h _ _ (I.tok _) ?_⟩
    exact r.getD rfl
  · refine call_meetsIn PySem.F.slot_dict_get hm.typeIs PySem.F.entry_dict_get (PySem.F.args_dict_get_2 _ _) (meets_dict_get (mixKind X.prog X.w) a is h1) ⟨_, hm.mapOf, h _ _ (I.tok _) ?_⟩
    exact r.getD rfl
theorem dl_get2 {o : Option V} {d : V} {r' : Value} {Q : Value → Shared → Prop} (hu : A.units + 200 < cLine) (I : Inv X pins σ H s) (g : DLook X.w H a vk o) (ru : RelV vk u) (rd : RelV d r') (h : ∀ w' s', Inv X pins σ H s' → RelV (o.getD d) w' → Q w' s') :
    wpAny (model X.prog X.w) A (call (.builtin "dict.get") [.ref a, u, r']) Q E s := by
  rcases look_cases I g ru with ⟨h1, ⟨k, b, zs, hb, is, hm, r⟩ | ⟨k, zs, is, hm, r⟩⟩
  · subst hb
    refine call_meetsIn PySem.F.slot_dict_get hm.typeIs PySem.F.entry_dict_get (PySem.F.args_dict_get_3 _ _ _) (meetsH_dict_get_default (nestedKind X.prog X.w) a b h1 r') ⟨nest_room hu, k, zs, is, hm, h _ _ (I.tok _) ?_⟩
    exact r.getD rd
  · refine call_meetsIn PySem.F.slot_dict_get hm.typeIs PySem.F.entry_dict_get (PySem.F.args_dict_get_3 _ _ _) (meets_dict_get_default (mixKind X.prog X.w) a is h1 r') ⟨_, hm.mapOf, h _ _ (I.tok _) ?_⟩
    exact r.getD rd
/-- the object is of the class dict -/
theorem dct_there (I : Inv X pins σ H s) {ks : List D} {xs ys : List V} (h : DctO X.w H a ks xs ys) : ∃ o, s.heap.get? a = some o ∧ o.ExactDict := by
  obtain ⟨o, es, ep, hH, hs, hx, _⟩ := h
  exact ⟨o, dct_obj I hH, hx⟩
/-- the lists of values behind a store -/
def dputV (ks : List D) (k : D) (l : List V) (v : V) : List V := match fkey ks k with
  | some j => l.set j v
  | none => l ++ [v]
def dputK (ks : List D) (k : D) (l : List V) (v : V) : List V := match fkey ks k with
  | some _ => l
  | none => l ++ [v]
theorem mut_dO {o : Obj} : Mut (some (dO a o)) := True.intro
theorem ext_ok {P : Program} {w : World} {H' : Hp} {h : Heap} {o : Obj} (e : h.get? a = some o) : ObjOk P w H' h a (dO a o) :=
  ⟨e, ⟨o, e⟩, fun h1 h2 q k => k o q⟩
theorem fkey_none : ∀ {ks : List D} {k : D}, fkey ks k = none → ∀ k' ∈ ks, ¬ eqD k' k = true
  | [], _, _, k', h => nomatch h
  | c :: ks, k, h, k', hk => by
    unfold fkey at h
    split at h
    · cases h
    · rename_i hc
      cases hg : fkey ks k with
      | some i => rw [hg] at h; cases h
      | none =>
        rcases List.mem_cons.mp hk with rfl | hk
        · exact hc
        · exact fkey_none hg k' hk
/-- a[k] = v -/
theorem dl_setItem {ks : List D} {k : D} {xs ys : List V} {O : Addr → Prop} {v : V} {r : Value} {Q : Unit → Shared → Prop} (hu : A.units + 200 < cLine) (I : Inv X pins σ H s) (hd : DctO X.w H a ks xs ys) (hr : Reps X.w O H ks xs) (rk : Rep X.w O H k vk)
    (ok : keyOk ks k = true) (hl : ks.length < 16777216) (ru : RelV vk u) (rv : RelV v r)
    (h : ∀ o s', Inv X pins σ (upd H a (dO a o)) s' → DctO X.w (upd H a (dO a o)) a (match fkey ks k with | some _ => ks | none => ks ++ [k]) (dputK ks k xs vk) (dputV ks k ys v) → Q () s') : wpAny (model X.prog X.w) A (setItem (.ref a) u r) Q E s := by
  obtain ⟨o0, es0, ep0, hH0, hsm, hx0, hd0, hz0, hkk, nd0, E0⟩ := id hd
  have key : ∀ (h' : Heap) (t' : Nat) (o : Obj) (es : Array DictEntry) (ep : Nat), h'.get? a = some o → o.ExactDict → o.data = .dict es ep → Heap.SameBut a s.heap h' →
      EntR X.w es.toList (match fkey ks k with | some _ => ks | none => ks ++ [k]) (dputK ks k xs vk) (dputV ks k ys v) → Q () { s with heap := h', toks := t' } := by
    intro h' t' o es ep e1 e2 e3 e4 e5
    refine h o _ (I.write (x := a) (e := a) (by rw [hH0]; exact True.intro) (.inl rfl) (fun b q hb z => (e4.2 b hb).trans z) ⟨_, e1⟩ (ext_ok e1)) ⟨o, es, ep, upd_same, hsm, e2, e3, ?_, ?_, ?_, e5⟩
    · cases hf : fkey ks k with
      | some j => simp only; exact hz0
      | none => simp only [List.length_append, List.length_cons, List.length_nil]; omega
    · cases hf : fkey ks k with
      | some j => simp only; exact hkk
      | none =>
        simp only [List.all_append, List.all_cons, List.all_nil, Bool.and_true, Bool.and_eq_true]
        rcases keyOk_cases ok with ⟨h1, h2⟩ | ⟨h1, h2⟩
        · exact .inl ⟨h1, h2⟩
        · exact .inr ⟨h1, h2⟩
    · cases hf : fkey ks k with
      | some j => simp only; exact nd0
      | none =>
        simp only [List.map_append, List.map_cons, List.map_nil]
        rw [List.nodup_append]
        refine ⟨nd0, by simp, fun x hx y hy w => ?_⟩
        simp only [List.mem_singleton] at hy
        subst hy
        obtain ⟨k', hk', e⟩ := List.mem_map.mp hx
        refine fkey_none hf k' hk' ?_
        have kd : keyD k' = true ∧ keyD k = true := by
          rcases keyOk_cases ok with ⟨h1, h2⟩ | ⟨h1, h2⟩
          · exact ⟨tupKey_key (List.all_eq_true.mp h1 k' hk'), tupKey_key h2⟩
          · exact ⟨scalKey_key (List.all_eq_true.mp h1 k' hk'), scalKey_key h2⟩
        exact (key_eq k' k kd.1 kd.2).mpr (e.trans w)
  have hxl : xs.length = ks.length := hr.length
  have hyl : ys.length = ks.length := by rw [E0.l3, E0.l1]
  -- the new entries, from the old ones
  have ent : ∀ es : List DictEntry, (∀ j, fkey ks k = some j → es.length = ks.length ∧ ∀ (i : Nat) (en : DictEntry), es[i]? = some en → ∃ en0, es0.toList[i]? = some en0 ∧ en.hash = en0.hash ∧ en.key = en0.key ∧ (i ≠ j → en.val = en0.val) ∧ (i = j → en.val = r)) →
      (fkey ks k = none → ∃ en, es = es0.toList ++ [en] ∧ en.hash = (toKey k).hash X.w ∧ en.key = u ∧ en.val = r) →
      EntR X.w es (match fkey ks k with | some _ => ks | none => ks ++ [k]) (dputK ks k xs vk) (dputV ks k ys v) := by
    intro es g1 g2
    unfold dputK dputV
    cases hf : fkey ks k with
    | some j =>
      obtain ⟨q1, q2⟩ := g1 j hf
      refine ⟨by simp only; omega, by simp only; omega, by simp only [List.length_set]; omega, fun i en he => ?_⟩
      obtain ⟨en0, p1, p2, p3, p4, p5⟩ := q2 i en he
      obtain ⟨k', x', y', m1, m2, m3, m4, m5, m6⟩ := E0.at_ i en0 p1
      simp only
      by_cases hij : i = j
      · subst hij
        refine ⟨k', x', v, m1, m2, List.getElem?_set_self (by have := fkey_lt hf; omega), by rw [p2]; exact m4, by rw [p3]; exact m5, by rw [p5 rfl]; exact rv⟩
      · exact ⟨k', x', y', m1, m2, by rw [List.getElem?_set_ne (Ne.symm hij)]; exact m3, by rw [p2]; exact m4, by rw [p3]; exact m5, by rw [p4 hij]; exact m6⟩
    | none =>
      obtain ⟨en, rfl, q2, q3, q4⟩ := g2 hf
      have l1 := E0.l1
      refine ⟨by simp only [List.length_append, List.length_cons, List.length_nil]; omega, by simp only [List.length_append, List.length_cons, List.length_nil]; omega, by simp only [List.length_append, List.length_cons, List.length_nil]; omega, fun i en' he => ?_⟩
      simp only
      by_cases hi : i < es0.toList.length
      · rw [List.getElem?_append_left hi] at he
        obtain ⟨k', x', y', m1, m2, m3, m4⟩ := E0.at_ i en' he
        exact ⟨k', x', y', by rw [List.getElem?_append_left (by omega)]; exact m1, by rw [List.getElem?_append_left (by omega)]; exact m2, by rw [List.getElem?_append_left (by omega)]; exact m3, m4⟩
      · rw [List.getElem?_append_right (by omega)] at he
        have hi0 : i - es0.toList.length = 0 := by
          cases q : i - es0.toList.length with
          | zero => rfl
          | succ n => rw [q] at he; simp at he
        rw [hi0] at he
        simp at he
        subst he
        have hi2 : i = es0.toList.length := by omega
        subst hi2
        refine ⟨k, vk, v, ?_, ?_, ?_, q2, by rw [q3]; exact ru, by rw [q4]; exact rv⟩
        · rw [← l1]; simp
        · rw [← l1, ← hxl]; simp
        · rw [← l1, ← hyl]; simp
  rcases keyOk_cases ok with ⟨h1, h2⟩ | ⟨h1, h2⟩
  · obtain ⟨g1, g2, g3, zs, g4, g5, g6⟩ := dct_tup I hd hr h1
    obtain ⟨b, hb, is⟩ := rep_tupKey I h2 rk ru
    subst hb
    have hzl : zs.length = ks.length := by have := congrArg List.length g5; simpa using this
    refine wpAny_setItem_heap (hsz := by rw [hzl, sizeL]; exact g2) (nest_room hu) is g4 fun h' dd hs => ?_
    obtain ⟨o, es, ep, e1, e2, e3, e4, _, _⟩ := dd
    refine key h' _ o es ep e1 e2 e3 hs ?_
    rw [e4, storedH_fkey toKey b r zs ks k g5 (tup_iff h1 h2) (by rw [g5]; exact g3)]
    obtain ⟨o', es', ep', f1, f2, f3, f4, _, _⟩ := g4
    have ho : o' = o0 := by rw [dct_obj I hH0] at f1; cases f1; rfl
    subst ho
    rw [hd0] at f3
    injection f3 with f3 _
    subst f3
    refine ent _ (fun j hf => ?_) fun hf => ?_
    · rw [hf]
      simp only
      refine ⟨by simp [hzl], fun i en he => ?_⟩
      rw [List.getElem?_map, List.getElem?_modify] at he
      cases hz : zs[i]? with
      | none => rw [hz] at he; simp at he
      | some z =>
        rw [hz] at he
        refine ⟨entryOfKey (nestedKind X.prog X.w) z, by rw [f4, List.getElem?_map, hz]; rfl, ?_⟩
        by_cases hij : j = i
        · subst hij
          simp at he
          subst he
          exact ⟨rfl, rfl, fun q => absurd rfl q, fun _ => rfl⟩
        · simp [hij] at he
          subst he
          exact ⟨rfl, rfl, fun _ => rfl, fun q => absurd q.symm hij⟩
    · rw [hf]
      simp only [List.map_append, List.map_cons, List.map_nil]
      exact ⟨_, by rw [f4], rfl, rfl, rfl⟩
  · obtain ⟨g1, g2, g3, zs, g4, g5, g6⟩ := dct_scal I hd hr h1
    have is := scal_is (X := X) h2 rk ru
    have hzl : zs.length = ks.length := by have := congrArg List.length g5; simpa using this
    refine wpAny_setItem_pairs (hsz := by rw [hzl, sizeL]; exact g2) is g4 fun h' dd hs => ?_
    obtain ⟨o, es, ep, e1, e2, e3, e4, e5, _⟩ := dd
    refine key h' _ o es ep e1 e2 e3 hs ?_
    rw [stored_fkey keyS r zs ks k g5 (scal_iff h1 h2) (by rw [g5]; exact g3)] at e5
    -- what the entries are, by place
    have pat : ∀ (l : List DictEntry) (m : List (Key × Value)), Pairs (mixKind X.prog X.w) l m → l.length = m.length ∧ ∀ (i : Nat) (en : DictEntry), l[i]? = some en → ∃ z, m[i]? = some z ∧ (mixKind X.prog X.w).is z.1 en.key = true ∧ en.val = z.2 := by
      intro l m p
      induction p with
      | nil => exact ⟨rfl, fun i en h => by simp at h⟩
      | cons q1 q2 t ih =>
        refine ⟨by simp [ih.1], fun i en h => ?_⟩
        cases i with
        | zero => simp at h; subst h; exact ⟨_, rfl, q1, q2⟩
        | succ i => exact ih.2 i en (by simpa using h)
    obtain ⟨pl, pa⟩ := pat _ _ e5
    -- an entry of the key κ' = keyS k'
    have one : ∀ (en : DictEntry) (k' : D) (x' : V), en ∈ es.toList → scalKey k' = true → Rep X.w O H k' x' → (mixKind X.prog X.w).is (keyS k') en.key = true → en.hash = (toKey k').hash X.w ∧ RelV x' en.key := by
      intro en k' x' hen sk rx he
      obtain ⟨κ, q1, q2⟩ := e4 en (Array.mem_toList_iff.mp hen)
      have := (mixKind X.prog X.w).inj _ _ _ q1 he
      subst this
      refine ⟨by rw [q2, keyS_hash (P := X.prog) sk], ?_⟩
      have kr := relV_key (k := keyS k') (u := en.key) he
      cases k' <;> simp [scalKey] at sk
      · simp [Rep] at rx; subst rx; exact kr
      · simp [Rep] at rx; subst rx; exact kr
    unfold dputK dputV
    cases hf : fkey ks k with
    | some j =>
      rw [hf] at pl pa
      simp only [List.length_modify] at pl pa
      refine ⟨by simp only; omega, by simp only; omega, by simp only [List.length_set]; omega, fun i en he => ?_⟩
      obtain ⟨z, p1, p2, p3⟩ := pa i en he
      have hi : i < ks.length := by
        have := (List.getElem?_eq_some_iff.mp he).1
        omega
      have hz : zs[i]? = some zs[i] := by simp [hzl, hi]
      obtain ⟨y, hy, ry⟩ := g6 i _ hz
      have hk : ks[i]? = some ks[i] := by simp [hi]
      obtain ⟨x', hx', rx'⟩ := hr.get hk
      have hz1 : zs[i].1 = keyS ks[i] := by
        have := congrArg (fun l => l[i]?) g5
        simp only [List.getElem?_map, hz, hk, Option.map_some, Option.some.injEq] at this
        exact this
      have sk : scalKey ks[i] = true := List.all_eq_true.mp h1 _ (List.getElem_mem hi)
      rw [List.getElem?_modify, hz] at p1
      by_cases hij : j = i
      · subst hij
        simp at p1
        subst p1
        simp only at p2 p3
        rw [hz1] at p2
        obtain ⟨q1, q2⟩ := one en _ x' (List.mem_of_getElem? he) sk rx' p2
        exact ⟨_, x', v, hk, hx', List.getElem?_set_self (by omega), q1, q2, by rw [p3]; exact rv⟩
      · simp [hij] at p1
        subst p1
        rw [hz1] at p2
        obtain ⟨q1, q2⟩ := one en _ x' (List.mem_of_getElem? he) sk rx' p2
        exact ⟨_, x', y, hk, hx', by rw [List.getElem?_set_ne hij]; exact hy, q1, q2, by rw [p3]; exact ry⟩
    | none =>
      rw [hf] at pl pa
      simp only [List.length_append, List.length_cons, List.length_nil] at pl pa
      refine ⟨by simp only [List.length_append, List.length_cons, List.length_nil]; omega, by simp only [List.length_append, List.length_cons, List.length_nil]; omega, by simp only [List.length_append, List.length_cons, List.length_nil]; omega, fun i en he => ?_⟩
      obtain ⟨z, p1, p2, p3⟩ := pa i en he
      simp only
      by_cases hi : i < ks.length
      · have hz : zs[i]? = some zs[i] := by simp [hzl, hi]
        obtain ⟨y, hy, ry⟩ := g6 i _ hz
        have hk : ks[i]? = some ks[i] := by simp [hi]
        obtain ⟨x', hx', rx'⟩ := hr.get hk
        have hz1 : zs[i].1 = keyS ks[i] := by
          have := congrArg (fun l => l[i]?) g5
          simp only [List.getElem?_map, hz, hk, Option.map_some, Option.some.injEq] at this
          exact this
        have sk : scalKey ks[i] = true := List.all_eq_true.mp h1 _ (List.getElem_mem hi)
        rw [List.getElem?_append_left (by omega), hz] at p1
        cases p1
        rw [hz1] at p2
        obtain ⟨q1, q2⟩ := one en _ x' (List.mem_of_getElem? he) sk rx' p2
        exact ⟨_, x', y, by rw [List.getElem?_append_left hi]; exact hk, by rw [List.getElem?_append_left (by omega)]; exact hx', by rw [List.getElem?_append_left (by omega)]; exact hy, q1, q2, by rw [p3]; exact ry⟩
      · have hi2 : i = ks.length := by
          have := (List.getElem?_eq_some_iff.mp he).1
          omega
        subst hi2
        rw [List.getElem?_append_right (by omega), hzl] at p1
        simp at p1
        subst p1
        simp only at p2 p3
        obtain ⟨q1, q2⟩ := one en k vk (List.mem_of_getElem? he) h2 rk p2
        refine ⟨k, vk, v, by simp, ?_, ?_, q1, q2, by rw [p3]; exact rv⟩
        · rw [← hxl]; simp
        · rw [← hyl]; simp
end

/-! ### in a list or a tuple -/
mutual
theorem reads_uniq {h : Heap} : ∀ (d d' : PyData) (v : Value) (as as' : List Addr), Reads h v d as → Reads h v d' as' → d.canLay0 = true → d'.canLay0 = true → d = d'
  | .none, d', v, _, _, a, b, _, _ => by cases a; cases b; rfl
  | .bool _, d', v, _, _, a, b, _, _ => by cases a; cases b; rfl
  | .int _, d', v, _, _, a, b, _, _ => by cases a; cases b; rfl
  | .str _, d', v, _, _, a, b, _, _ => by cases a; cases b; rfl
  | .list xs, d', v, _, _, a, b, c, c' => by
    cases a with
    | list ho hc hd hr =>
      cases b with
      | list ho' hc' hd' hr' =>
        rw [ho] at ho'; cases ho'
        rw [hd] at hd'; injection hd' with e1 _; subst e1
        simp only [PyData.canLay0] at c c'
        rw [readsAll_uniq xs _ _ _ _ hr hr' c c']
      | tuple ho' hc' hd' hr' => rw [ho] at ho'; cases ho'; rw [hc] at hc'; injection hc' with q; exact absurd q (by decide)
      | dict ho' hc' hd' _ _ => rw [ho] at ho'; cases ho'; rw [hc] at hc'; injection hc' with q; exact absurd q (by decide)
  | .tuple xs, d', v, _, _, a, b, c, c' => by
    cases a with
    | tuple ho hc hd hr =>
      cases b with
      | tuple ho' hc' hd' hr' =>
        rw [ho] at ho'; cases ho'
        rw [hd] at hd'; injection hd' with e1 _; subst e1
        simp only [PyData.canLay0] at c c'
        rw [readsAll_uniq xs _ _ _ _ hr hr' c c']
      | list ho' hc' hd' hr' => rw [ho] at ho'; cases ho'; rw [hc] at hc'; injection hc' with q; exact absurd q (by decide)
      | dict ho' hc' hd' _ _ => rw [ho] at ho'; cases ho'; rw [hc] at hc'; injection hc' with q; exact absurd q (by decide)
  | .dict _, d', v, _, _, a, b, c, _ => by simp [PyData.canLay0] at c
theorem readsAll_uniq {h : Heap} : ∀ (xs ys : List PyData) (vs : List Value) (as as' : List Addr), ReadsAll h vs xs as → ReadsAll h vs ys as' → PyData.canLayAll0 xs = true → PyData.canLayAll0 ys = true → xs = ys
  | [], ys, vs, _, _, a, b, _, _ => by cases a; cases b; rfl
  | x :: xs, ys, vs, _, _, a, b, c, c' => by
    cases a with
    | cons h1 h2 =>
      cases b with
      | cons g1 g2 =>
        simp only [PyData.canLayAll0, Bool.and_eq_true] at c c'
        rw [reads_uniq x _ _ _ _ h1 g1 c.1 c'.1, readsAll_uniq xs _ _ _ _ h2 g2 c.2 c'.2]
end
theorem okD_flat {d : D} (h : okD d = true) : flatD d = true ∧ depD d ≤ 64 := by
  simpa [okD] using h
section
variable {X : Cx} {pins : List (Addr × Obj)} {σ : St} {H : Hp} {s : Shared} {O : Addr → Prop}
open Classical in
/-- does the value equal the datum -/
noncomputable def eqTo (h : Heap) (d : D) (u : Value) : Bool := if ∃ y as, okD y = true ∧ Reads h u (toP y) as ∧ eqD y d = true then true else false
theorem eqTo_of {h : Heap} {d y : D} {u : Value} {as : List Addr} (hy : okD y = true) (r : Reads h u (toP y) as) : eqTo h d u = eqD y d := by
  unfold eqTo
  by_cases q : eqD y d = true
  · rw [if_pos ⟨y, as, hy, r, q⟩, q]
  · rw [if_neg]
    · simpa using q
    · rintro ⟨z, bs, hz, r', e⟩
      have := reads_uniq _ _ _ _ _ r r' (lay_toP y (okD_flat hy).1) (lay_toP z (okD_flat hz).1)
      rw [← eqD_toP, this, eqD_toP] at q
      exact q e
theorem any_eqTo {x : D} : ∀ {l : List D} {vs : List V} {us : List Value}, (I : Inv X pins σ H s) → Reps X.w O H l vs → Vals vs us → l.all okD = true → us.any (eqTo s.heap x) = inD x l
  | [], vs, us, _, h, r, _ => by simp [Reps] at h; subst h; cases r; simp [inD]
  | y :: l, vs, us, I, h, r, k => by
    unfold Reps at h
    obtain ⟨v, t, rfl, h1, h2⟩ := h
    cases r with
    | cons r1 r2 =>
      simp only [List.all_cons, Bool.and_eq_true] at k
      obtain ⟨as, rd⟩ := Dp.reads I _ v _ (repDp X.K (okD_flat k.1).1 h1) r1
      simp only [List.any_cons, inD]
      rw [eqTo_of k.1 rd, any_eqTo I h2 r2 k.2]
theorem mem_eqTo {x : D} {vx : V} {ux : Value} (hu : X.A.units + 200 < cLine) (I : Inv X pins σ H s) (kx : okD x = true) (hx : RepU X.w O H x vx) (rx : RelV vx ux) : ∀ {l : List D} {vs : List V} {us : List Value}, Reps X.w O H l vs → Vals vs us → l.all okD = true →
    ∀ u ∈ us, SeqAt.EqAt X.A.in1 s u ux (eqTo s.heap x u)
  | [], vs, us, h, r, _, u, hu' => by simp [Reps] at h; subst h; cases r; cases hu'
  | y :: l, vs, us, h, r, k, u, hu' => by
    unfold Reps at h
    obtain ⟨v, t, rfl, h1, h2⟩ := h
    cases r with
    | cons r1 r2 =>
      simp only [List.all_cons, Bool.and_eq_true] at k
      rcases List.mem_cons.mp hu' with rfl | hu'
      · obtain ⟨as, rd⟩ := Dp.reads I _ v _ (repDp X.K (okD_flat k.1).1 h1) r1
        obtain ⟨bs, rdx⟩ := Dp.reads I _ vx _ (repUDp X.K (okD_flat kx).1 hx) rx
        rw [eqTo_of k.1 rd, ← eqD_toP]
        refine PySem.SeqAt.eqAt_reads _ _ _ s _ _ as bs rd rdx (lay_toP y (okD_flat k.1).1) (lay_toP x (okD_flat kx).1) ?_
        have h3 := (okD_flat k.1).2
        rw [dep_toP, dep_toP]
        have : min (depD y) (depD x) ≤ depD y := Nat.min_le_left _ _
        show X.A.units + 1 + _ < cLine
        omega
      · exact mem_eqTo hu I kx hx rx h2 r2 k.2 u hu'
/-- x in y -/
def rInD (w : World) (neg : Bool) : R2 := fun vx vy H Q => ∃ (O : Addr → Prop) (x y : D) (b : Bool), RepU w O H x vx ∧ RepU w O H y vy ∧ inO x y = some b ∧ Q (.bl (if neg then !b else b)) H
theorem keyOk_rep {w : World} {ks : List D} {x : D} {vx : V} (h : keyOk ks x = true) (r : RepU w O H x vx) : Rep w O H x vx := by
  rcases keyOk_cases h with ⟨_, h⟩ | ⟨_, h⟩
  · cases x <;> simp [tupKey] at h; exact r
  · cases x <;> simp [scalKey] at h <;> exact r
theorem inD_rule (hu : X.A.units + 200 < cLine) : OpR X (compareOp .In) (rInD X.w false) := by
  intro pins s σ H vx vy v u Q I rx ry h
  obtain ⟨O, x, y, b, hx, hy, e, q⟩ := h
  unfold inO at e
  split at e
  · rename_i l
    split at e
    · rename_i hc
      cases e
      simp only [Bool.and_eq_true] at hc
      obtain ⟨a, xs, rfl, ra, qa⟩ := repU_lst hy
      cases ry
      obtain ⟨its, r, pl, hz⟩ := I.list (.inl ra : SqL X.K H a xs)
      refine SeqAt.in_listAt (eqTo s.heap x) pl.isList (fun w hw => mem_eqTo hu I hc.1 hx rx qa r hc.2 w (by simpa using hw)) ⟨.bl _, H, I, rfl, ?_⟩
      rw [show its.toArray.any (eqTo s.heap x) = its.any (eqTo s.heap x) by simp, any_eqTo I qa r hc.2]
      exact q
    · cases e
  · rename_i l
    split at e
    · rename_i hc
      cases e
      simp only [Bool.and_eq_true] at hc
      obtain ⟨a, xs, rfl, _, ra, qa⟩ := repU_tup hy
      cases ry
      obtain ⟨its, r, pl, hz⟩ := I.tuple (.inl ra : SqT X.K H a xs)
      refine SeqAt.in_tupleAt (eqTo s.heap x) pl (fun w hw => mem_eqTo hu I hc.1 hx rx qa r hc.2 w (by simpa using hw)) ⟨.bl _, H, I, rfl, ?_⟩
      rw [show its.toArray.any (eqTo s.heap x) = its.any (eqTo s.heap x) by simp, any_eqTo I qa r hc.2]
      exact q
    · cases e
  · rename_i ks vs
    split at e
    · rename_i hc
      cases e
      obtain ⟨a, xs, ys, rfl, hd, h1, h2⟩ := hy
      cases ry
      have hl := h2.length
      obtain ⟨o, es, ep, hH, hsm, hx0, hd0, hz0, hkk, nd0, E0⟩ := id hd
      refine dl_in hu I ⟨O, x, ks, xs, ys, hd, h1, keyOk_rep hc hx, hc, rfl⟩ rx fun s' I' => ⟨.bl _, H, I', rfl, ?_⟩
      have e1 : (dget ks vs x).isSome = (match fkey ks x with | some j => ys[j]? | none => none).isSome := by
        unfold dget
        cases hf : fkey ks x with
        | none => rfl
        | some j =>
          have := fkey_lt hf
          have l1 := E0.l1
          have l3 := E0.l3
          simp only
          rw [List.getElem?_eq_getElem (by omega : j < vs.length), List.getElem?_eq_getElem (by omega : j < ys.length)]
          rfl
      rw [← e1]
      exact q
    · cases e
  · cases e
theorem notinD_rule (hu : X.A.units + 200 < cLine) : OpR X (compareOp .NotIn) (rInD X.w true) := by
  intro pins s σ H vx vy v u Q I rx ry h
  obtain ⟨O, x, y, b, hx, hy, e, q⟩ := h
  unfold inO at e
  split at e
  · rename_i l
    split at e
    · rename_i hc
      cases e
      simp only [Bool.and_eq_true] at hc
      obtain ⟨a, xs, rfl, ra, qa⟩ := repU_lst hy
      cases ry
      obtain ⟨its, r, pl, hz⟩ := I.list (.inl ra : SqL X.K H a xs)
      refine SeqAt.notIn_listAt (eqTo s.heap x) pl.isList (fun w hw => mem_eqTo hu I hc.1 hx rx qa r hc.2 w (by simpa using hw)) ⟨.bl _, H, I, rfl, ?_⟩
      rw [show its.toArray.any (eqTo s.heap x) = its.any (eqTo s.heap x) by simp, any_eqTo I qa r hc.2]
      exact q
    · cases e
  · rename_i l
    split at e
    · rename_i hc
      cases e
      simp only [Bool.and_eq_true] at hc
      obtain ⟨a, xs, rfl, _, ra, qa⟩ := repU_tup hy
      cases ry
      obtain ⟨its, r, pl, hz⟩ := I.tuple (.inl ra : SqT X.K H a xs)
      refine SeqAt.notIn_tupleAt (eqTo s.heap x) pl (fun w hw => mem_eqTo hu I hc.1 hx rx qa r hc.2 w (by simpa using hw)) ⟨.bl _, H, I, rfl, ?_⟩
      rw [show its.toArray.any (eqTo s.heap x) = its.any (eqTo s.heap x) by simp, any_eqTo I qa r hc.2]
      exact q
    · cases e
  · rename_i ks vs
    split at e
    · rename_i hc
      cases e
      obtain ⟨a, xs, ys, rfl, hd, h1, h2⟩ := hy
      cases ry
      have hl := h2.length
      obtain ⟨o, es, ep, hH, hsm, hx0, hd0, hz0, hkk, nd0, E0⟩ := id hd
      refine dl_notIn hu I ⟨O, x, ks, xs, ys, hd, h1, keyOk_rep hc hx, hc, rfl⟩ rx fun s' I' => ⟨.bl _, H, I', rfl, ?_⟩
      have e1 : (dget ks vs x).isSome = (match fkey ks x with | some j => ys[j]? | none => none).isSome := by
        unfold dget
        cases hf : fkey ks x with
        | none => rfl
        | some j =>
          have := fkey_lt hf
          have l1 := E0.l1
          have l3 := E0.l3
          simp only
          rw [List.getElem?_eq_getElem (by omega : j < vs.length), List.getElem?_eq_getElem (by omega : j < ys.length)]
          rfl
      rw [← e1]
      exact q
    · cases e
  · cases e
theorem op_inO (hu : X.A.units + 200 < cLine) : CmpD X .In inO :=
  ⟨_, inD_rule hu, fun O H x y z vx vy Q hx hy e k => ⟨O, x, y, z, hx, hy, e, k⟩⟩
theorem op_notinO (hu : X.A.units + 200 < cLine) : CmpD X .NotIn notinO := by
  refine ⟨_, notinD_rule hu, fun O H x y z vx vy Q hx hy e k => ?_⟩
  unfold notinO at e
  cases q : inO x y with
  | none => rw [q] at e; cases e
  | some b => rw [q] at e; cases e; exact ⟨O, x, y, b, hx, hy, q, k⟩
end
end Ev

/-! Ev, part G: the built-ins. -/
namespace Ev
open PySem PySem.Spec PyProof.Rows L2

def RepUs (w : World) (O : Addr → Prop) (H : Hp) : List D → List V → Prop
  | [], xs => xs = []
  | d :: ds, xs => ∃ x r, xs = x :: r ∧ RepU w O H d x ∧ RepUs w O H ds r
theorem repUs1 {w : World} {O : Addr → Prop} {H : Hp} {d : D} {vs : List V} (h : RepUs w O H [d] vs) : ∃ x, vs = [x] ∧ RepU w O H d x := by
  obtain ⟨x, r, rfl, h1, h2⟩ := h
  exact ⟨x, by rw [show r = [] from h2], h1⟩
theorem repUs2 {w : World} {O : Addr → Prop} {H : Hp} {d e : D} {vs : List V} (h : RepUs w O H [d, e] vs) : ∃ x y, vs = [x, y] ∧ RepU w O H d x ∧ RepU w O H e y := by
  obtain ⟨x, r, rfl, h1, h2⟩ := h
  obtain ⟨y, rfl, h3⟩ := repUs1 h2
  exact ⟨x, y, rfl, h1, h3⟩
/-- a call of a built-in keeps g -/
structure BiOk (X : Cx) (f : Value) (g : List D → Option (Bool × D)) : Prop where
  ex : ∃ r : List V → Hp → VK → Prop, CallR X f r ∧ ∀ (O : Addr → Prop) (H : Hp) (ds : List D) (vs : List V) (fr : Bool) (z : D) (Q : VK), RepUs X.w O H ds vs → g ds = some (fr, z) → (∀ v H', New X.w O H fr z v H' → Q v H') → r vs H Q

/-! ### sorting -/
section
variable {α : Type} {le : D → D → Bool}
theorem insBy_mem (lt : D → D → Bool) (x : D) : ∀ (l : List D) (y : D), y ∈ insBy lt x l ↔ y = x ∨ y ∈ l
  | [], y => by simp [insBy]
  | z :: l, y => by
    unfold insBy
    split
    · simp only [List.mem_cons, insBy_mem lt x l y]
      constructor
      · rintro (h | h | h)
        · exact .inr (.inl h)
        · exact .inl h
        · exact .inr (.inr h)
      · rintro (h | h | h)
        · exact .inr (.inl h)
        · exact .inl h
        · exact .inr (.inr h)
    · simp [List.mem_cons]
theorem sortBy_mem (lt : D → D → Bool) : ∀ (l : List D) (y : D), y ∈ sortBy lt l ↔ y ∈ l
  | [], y => by simp [sortBy]
  | x :: l, y => by unfold sortBy; rw [insBy_mem, sortBy_mem lt l y]; simp
theorem insBy_length (lt : D → D → Bool) (x : D) : ∀ l : List D, (insBy lt x l).length = l.length + 1
  | [] => rfl
  | z :: l => by unfold insBy; split <;> simp [insBy_length lt x l]
theorem sortBy_length (lt : D → D → Bool) : ∀ l : List D, (sortBy lt l).length = l.length
  | [] => rfl
  | x :: l => by unfold sortBy; rw [insBy_length, sortBy_length lt l]; rfl
theorem insBy_congr {f g : D → D → Bool} (x : D) : ∀ l : List D, (∀ y ∈ l, f y x = g y x) → insBy f x l = insBy g x l
  | [], _ => rfl
  | z :: l, h => by
    unfold insBy
    rw [h z List.mem_cons_self, insBy_congr x l fun y hy => h y (List.mem_cons_of_mem _ hy)]
theorem sortBy_congr {f g : D → D → Bool} : ∀ l : List D, (∀ x ∈ l, ∀ y ∈ l, f x y = g x y) → sortBy f l = sortBy g l
  | [], _ => rfl
  | x :: l, h => by
    unfold sortBy
    rw [sortBy_congr l fun a ha b hb => h a (List.mem_cons_of_mem _ ha) b (List.mem_cons_of_mem _ hb)]
    exact insBy_congr x _ fun y hy => h y (List.mem_cons_of_mem _ ((sortBy_mem g l y).mp hy)) x List.mem_cons_self
theorem insBy_pair (T : PySem.W.TotalLe le) (x : D) : ∀ l : List D, l.Pairwise (fun a b => le a b = true) → (insBy (fun a b => !le b a) x l).Pairwise (fun a b => le a b = true)
  | [], _ => by simp [insBy]
  | z :: l, h => by
    unfold insBy
    rw [List.pairwise_cons] at h
    split
    · rename_i hc
      rw [List.pairwise_cons]
      refine ⟨fun y hy => ?_, insBy_pair T x l h.2⟩
      rcases (insBy_mem _ x l y).mp hy with rfl | hy
      · have hc : le y z = false := by simpa using hc
        rcases T.total z y with q | q
        · exact q
        · rw [q] at hc; cases hc
      · exact h.1 y hy
    · rename_i hc
      have hc : le x z = true := by simpa using hc
      rw [List.pairwise_cons]
      refine ⟨fun y hy => ?_, by rw [List.pairwise_cons]; exact h⟩
      rcases List.mem_cons.mp hy with rfl | hy
      · exact hc
      · exact T.trans x z y hc (h.1 y hy)
theorem insBy_filter (T : PySem.W.TotalLe le) (x c : D) : ∀ l : List D, (insBy (fun a b => !le b a) x l).filter (PySem.W.sameRank le c) = (x :: l).filter (PySem.W.sameRank le c)
  | [] => rfl
  | z :: l => by
    unfold insBy
    split
    · rename_i hc
      have hc : le x z = false := by simpa using hc
      rw [List.filter_cons, insBy_filter T x c l]
      by_cases hx : PySem.W.sameRank le c x = true
      · have hz : PySem.W.sameRank le c z = false := by
          cases q : PySem.W.sameRank le c z with
          | false => rfl
          | true =>
            simp only [PySem.W.sameRank, Bool.and_eq_true] at q hx
            rw [T.trans x c z hx.2 q.1] at hc
            cases hc
        simp [List.filter_cons, hx, hz]
      · simp [List.filter_cons, hx]
    · rfl
theorem sortBy_merge (T : PySem.W.TotalLe le) (l : List D) : sortBy (fun a b => !le b a) l = l.mergeSort le := by
  refine PySem.W.sort_unique T ?_ fun c => ?_
  · induction l with
    | nil => exact List.Pairwise.nil
    | cons x l ih => exact insBy_pair T x _ ih
  · induction l with
    | nil => rfl
    | cons x l ih =>
      unfold sortBy
      rw [insBy_filter T x c, List.filter_cons, List.filter_cons, ih]
end
theorem allAlike_mem : ∀ {l : List D}, allAlike l = true → ∀ x ∈ l, ∀ y ∈ l, alikeD x y = true := by
  intro l
  induction l with
  | nil => intro _ x hx; exact nomatch hx
  | cons z l ih =>
    intro h x hx y hy
    simp only [allAlike, Bool.and_eq_true, List.all_eq_true] at h
    rcases List.mem_cons.mp hx with ex | hx <;> rcases List.mem_cons.mp hy with ey | hy
    · rw [ex, ey]; exact h.1.1
    · rw [ex]; exact (h.1.2 y hy).1
    · rw [ey]; exact (h.1.2 x hx).2
    · exact ih h.2 x hx y hy
theorem sortD_merge {l : List D} (h : allAlike l = true) : sortBy ltD l = l.mergeSort (PySem.W.dataLe false toP) := by
  have T : PySem.W.TotalLe (PySem.W.dataLe false toP) := PySem.W.sortLe_total _ false _
  rw [← sortBy_merge T l]
  refine sortBy_congr l fun x hx y hy => ?_
  have e : PySem.W.dataLe false toP y x = !PySem.W.dataLt (toP x) (toP y) := rfl
  rw [e, Bool.not_not]
  exact (lt_toP x y (allAlike_mem h x hx y hy)).symm

section
variable {X : Cx}
theorem intsD_eq : ∀ {l : List D} {ns : List Int}, intsD l = some ns → l = ns.map D.int
  | [], ns, h => by simp [intsD] at h; subst h; rfl
  | d :: l, ns, h => by
    cases d <;> simp only [intsD] at h <;> first | cases h; done | skip
    rename_i i
    cases q : intsD l with
    | none => rw [q] at h; cases h
    | some m => rw [q] at h; cases h; rw [intsD_eq q]; rfl
theorem blsD_eq : ∀ {l : List D} {ns : List Bool}, blsD l = some ns → l = ns.map D.bl
  | [], ns, h => by simp [blsD] at h; subst h; rfl
  | d :: l, ns, h => by
    cases d <;> simp only [blsD] at h <;> first | cases h; done | skip
    rename_i i
    cases q : blsD l with
    | none => rw [q] at h; cases h
    | some m => rw [q] at h; cases h; rw [blsD_eq q]; rfl
theorem reps_ints {w : World} {O : Addr → Prop} {H : Hp} : ∀ {ns : List Int} {xs : List V}, Reps w O H (ns.map D.int) xs → xs = ns.map V.int
  | [], xs, h => by simpa [Reps] using h
  | n :: ns, xs, h => by
    rw [List.map_cons] at h
    unfold Reps at h
    obtain ⟨x, r, rfl, h1, h2⟩ := h
    simp [Rep] at h1
    subst h1
    rw [reps_ints h2]; rfl
theorem reps_bls {w : World} {O : Addr → Prop} {H : Hp} : ∀ {ns : List Bool} {xs : List V}, Reps w O H (ns.map D.bl) xs → xs = ns.map V.bl
  | [], xs, h => by simpa [Reps] using h
  | n :: ns, xs, h => by
    rw [List.map_cons] at h
    unfold Reps at h
    obtain ⟨x, r, rfl, h1, h2⟩ := h
    simp [Rep] at h1
    subst h1
    rw [reps_bls h2]; rfl
theorem bi_len : BiOk X (.builtin "len") lenB := by
  have dl : CallR X (.builtin "len") (fun xs H Q => ∃ (O : Addr → Prop) (a : Addr) (ks : List D) (x' ys : List V), xs = [.ref a] ∧ DctO X.w H a ks x' ys ∧ Reps X.w O H ks x' ∧ Q (.int ks.length) H) := fun pins s σ H vs us Q I r h => by
    obtain ⟨O, a, ks, x', ys, rfl, hd, hr, q⟩ := h
    obtain ⟨u, rfl, ru⟩ := Vals.one r
    cases ru
    obtain ⟨o, es, ep, hH, hs, hx, hd', hz, hk, _, E⟩ := id hd
    rcases hk with hk | hk
    · obtain ⟨g1, g2, g3, zs, g4, g5, g6⟩ := dct_tup I hd hr hk
      have hzl : zs.length = ks.length := by have := congrArg List.length g5; simpa using this
      refine call_len_dictH g1 g4 (by omega) ?_
      rw [hzl]
      exact ⟨.int _, H, I.tok _, ⟨_, rfl⟩, q⟩
    · obtain ⟨g1, g2, g3, zs, g4, g5, g6⟩ := dct_scal I hd hr hk
      have hzl : zs.length = ks.length := by have := congrArg List.length g5; simpa using this
      refine call_len_dict g1 g4 (by omega) ?_
      rw [hzl]
      exact ⟨.int _, H, I.tok _, ⟨_, rfl⟩, q⟩
  refine ⟨_, call_len_seq.or dl, fun O H ds vs fr z Q hr e k => ?_⟩
  unfold lenB at e
  split at e
  · cases e
    obtain ⟨x, rfl, h⟩ := repUs1 hr
    obtain ⟨a, xs, rfl, ra, qa⟩ := repU_lst h
    exact .inl ⟨a, xs, rfl, .inl (.inl ra), k _ _ (.sc rfl (by rw [qa.length]; exact rep_int))⟩
  · cases e
    obtain ⟨x, rfl, h⟩ := repUs1 hr
    obtain ⟨a, xs, rfl, _, ra, qa⟩ := repU_tup h
    exact .inl ⟨a, xs, rfl, .inr (.inl ra), k _ _ (.sc rfl (by rw [qa.length]; exact rep_int))⟩
  · cases e
    obtain ⟨x, rfl, h⟩ := repUs1 hr
    obtain ⟨a, x', ys, rfl, hd, h1, _⟩ := h
    exact .inr ⟨O, a, _, x', ys, rfl, hd, h1, k _ _ (.sc rfl rep_int)⟩
  · cases e
theorem bi_tuple : BiOk X (.type "tuple") tupleB := by
  refine ⟨_, call_tuple_of, fun O H ds vs fr z Q hr e k => ?_⟩
  unfold tupleB at e
  split at e
  · cases e
    obtain ⟨x, rfl, h⟩ := repUs1 hr
    obtain ⟨a, xs, rfl, ra, qa⟩ := repU_lst h
    exact ⟨a, xs, rfl, .inl ⟨.inl ra, fun l hl => k _ _ (.tupl hl qa)⟩⟩
  · cases e
    obtain ⟨x, rfl, h⟩ := repUs1 hr
    obtain ⟨a, xs, rfl, n, ra, qa⟩ := repU_tup h
    exact ⟨a, xs, rfl, .inr ⟨.inl ra, k _ _ (.sc rfl (rep_tup n ra qa))⟩⟩
  · cases e
/-- list of a dict: its keys -/
theorem list_dct (hc : X.calm = true) : CallR X (.type "list") (fun xs H Q => ∃ (a : Addr) (ks : List D) (x' ys : List V), xs = [.ref a] ∧ DctO X.w H a ks x' ys ∧ ∀ p, H p = none → Q (.ref p) (upd H p (.lst x'))) := fun pins s σ H vs us Q I r h => by
  obtain ⟨a, ks, x', ys, rfl, hd, q⟩ := h
  obtain ⟨u, rfl, ru⟩ := Vals.one r
  cases ru
  obtain ⟨o, es, ep, hH, hs, hx, hd', hz, hk, _, E⟩ := id hd
  have l0 : es.toList.length = es.size := Array.length_toList
  have l1 : ks.length = es.size := E.l1.trans l0
  have l2 : x'.length = es.size := E.l2.trans l0
  refine PySem.W.kdl_call (kdl_raw hs hx hd') (I.ok.hd hc) (dct_obj I hH) (by rw [sizeL]; omega) fun h' tk acc' c' kp e it => ?_
  have rv : Vals x' acc'.toList := by
    refine L2.vals_of_at (by have h0 : acc'.toList.length = acc'.size := Array.length_toList; rw [h0, it.1]; exact l2) fun j x u hx' hu' => ?_
    obtain ⟨en, hen, hv⟩ := it.2 j u (by rw [← Array.getElem?_toList]; exact hu')
    obtain ⟨k, x2, y, h1, h2, h3, h4, h5, h6⟩ := E.at_ j en (by rw [Array.getElem?_toList]; exact hen)
    rw [hx'] at h2; cases h2
    rw [hv]; exact h5
  exact ⟨.ref s.heap.objs.size, _, I.laid (t' := tk) (o := .lst x') kp (Nat.le_refl _) ⟨by rw [sizeL]; omega, acc'.toList, c', rv, by rw [Array.toArray_toList]; exact e⟩, rfl, q _ (I.hok.fresh (Nat.le_refl _))⟩
theorem bi_list (hc : X.calm = true) : BiOk X (.type "list") listB := by
  refine ⟨_, call_list_of.or (list_dct hc), fun O H ds vs fr z Q hr e k => ?_⟩
  unfold listB at e
  split at e
  · cases e
    obtain ⟨x, rfl, h⟩ := repUs1 hr
    obtain ⟨a, xs, rfl, ra, qa⟩ := repU_lst h
    exact .inl ⟨a, xs, rfl, .inl (.inl ra), fun l hl => k _ _ (.list hl qa)⟩
  · cases e
    obtain ⟨x, rfl, h⟩ := repUs1 hr
    obtain ⟨a, xs, rfl, n, ra, qa⟩ := repU_tup h
    exact .inl ⟨a, xs, rfl, .inr (.inl ra), fun l hl => k _ _ (.list hl qa)⟩
  · cases e
    obtain ⟨x, rfl, h⟩ := repUs1 hr
    obtain ⟨a, x', ys, rfl, hd, h1, _⟩ := h
    exact .inr ⟨a, _, x', ys, rfl, hd, fun l hl => k _ _ (.list hl h1)⟩
  · cases e
/-! sum, min, max of a tuple of whole numbers -/
theorem sum_tup (hc : X.calm = true) : CallR X (.builtin "sum") (fun vs H Q => ∃ (a : Addr) (ns : List Int), vs = [.ref a] ∧ SqT X.K H a (ns.map V.int) ∧ Q (.int ns.sum) H) := fun pins s σ H vs us Q I r ⟨a, ns, ev, hs, q⟩ => by
  subst ev
  obtain ⟨u, rfl, ru⟩ := Vals.one r
  obtain rfl : u = .ref a := ru
  obtain ⟨its, rv, ⟨o, ho, hcl, n, hd⟩, -⟩ := I.tuple hs
  obtain ⟨xs, e⟩ := rv.ints.allInts.items
  have nums := rv.ints.numsOf
  rw [show its = (intItems xs).toList by rw [← e], nums_intItems] at nums
  rw [e] at hd
  refine PySem.W.ktm_sumG (I.ok.hd hc) ⟨o, ho, hcl, n, hd⟩ fun h' tk t' keep => ⟨.int _, H, I.kept keep, ⟨t', ?_⟩, q⟩
  rw [preSum_eq, List.take_of_length_le (by simp), nums]
theorem ints_read {h : Heap} : ∀ {ns : List Int} {its : List Value}, Vals (ns.map V.int) its → ReadsAll h its (ns.map .int) []
  | [], _, .nil => .nil
  | n :: ns, _, .cons ⟨t, e⟩ r => by subst e; exact PyProof.Rows.readsAll_cons_val (.int n t) (ints_read r)
theorem ints_alike (ns : List Int) : PySem.W.AlikeAll (ns.map PyData.int) := by
  constructor
  · intro d hd e he
    obtain ⟨x, -, rfl⟩ := List.mem_map.mp hd
    obtain ⟨y, -, rfl⟩ := List.mem_map.mp he
    simp [PySem.W.alike]
  · intro d hd
    obtain ⟨x, -, rfl⟩ := List.mem_map.mp hd
    simp
theorem ints_flat : ∀ ns : List Int, PyData.depthAll (ns.map PyData.int) = 0
  | [] => rfl
  | n :: ns => by simp [PyData.depthAll, PyData.depth, ints_flat ns]
theorem min_tup (hc : X.calm = true) (hu : X.A.units + 200 < cLine) : CallR X (.builtin "min") (fun vs H Q => ∃ (a : Addr) (n : Int) (ns : List Int), vs = [.ref a] ∧ SqT X.K H a ((n :: ns).map V.int) ∧ Q (.int (ns.foldl min n)) H) := fun pins s σ H vs us Q I r ⟨a, n, ns, ev, hs, q⟩ => by
  subst ev
  obtain ⟨u, rfl, ru⟩ := Vals.one r
  obtain rfl : u = .ref a := ru
  obtain ⟨its, rv, ⟨o, ho, hcl, m, hd⟩, -⟩ := I.tuple hs
  refine PySem.W.min_tuple_data (I.ok.hd hc) ⟨o, ho, hcl, m, hd⟩ (ints_read (h := s.heap) rv) (ints_alike (n :: ns)) (by have e := ints_flat (n :: ns); rw [List.map_cons] at e; rw [e]; omega) fun i v h' tk bs _ rd keep => ?_
  rw [PySem.W.minD_ints] at rd
  obtain ⟨t, rfl, -⟩ := reads_int_inv rd
  exact ⟨.int _, H, I.kept keep, ⟨t, rfl⟩, q⟩
theorem max_tup (hc : X.calm = true) (hu : X.A.units + 200 < cLine) : CallR X (.builtin "max") (fun vs H Q => ∃ (a : Addr) (n : Int) (ns : List Int), vs = [.ref a] ∧ SqT X.K H a ((n :: ns).map V.int) ∧ Q (.int (ns.foldl max n)) H) := fun pins s σ H vs us Q I r ⟨a, n, ns, ev, hs, q⟩ => by
  subst ev
  obtain ⟨u, rfl, ru⟩ := Vals.one r
  obtain rfl : u = .ref a := ru
  obtain ⟨its, rv, ⟨o, ho, hcl, m, hd⟩, -⟩ := I.tuple hs
  refine PySem.W.max_tuple_data (I.ok.hd hc) ⟨o, ho, hcl, m, hd⟩ (ints_read (h := s.heap) rv) (ints_alike (n :: ns)) (by have e := ints_flat (n :: ns); rw [List.map_cons] at e; rw [e]; omega) fun i v h' tk bs _ rd keep => ?_
  rw [PySem.W.maxD_ints] at rd
  obtain ⟨t, rfl, -⟩ := reads_int_inv rd
  exact ⟨.int _, H, I.kept keep, ⟨t, rfl⟩, q⟩
theorem bi_sum (hc : X.calm = true) : BiOk X (.builtin "sum") sumB := by
  refine ⟨_, (cr_sum hc).or (sum_tup hc), fun O H ds vs fr z Q hr e k => ?_⟩
  unfold sumB at e
  split at e
  · split at e
    · rename_i ns hn
      cases e
      obtain ⟨x, rfl, h⟩ := repUs1 hr
      obtain ⟨a, xs, rfl, ra, qa⟩ := repU_lst h
      rw [intsD_eq hn] at qa
      rw [reps_ints qa] at ra
      exact .inl ⟨a, ns, rfl, .inl ra, k _ _ (.sc rfl rep_int)⟩
    · cases e
  · split at e
    · rename_i ns hn
      cases e
      obtain ⟨x, rfl, h⟩ := repUs1 hr
      obtain ⟨a, xs, rfl, n, ra, qa⟩ := repU_tup h
      rw [intsD_eq hn] at qa
      rw [reps_ints qa] at ra
      exact .inr ⟨a, ns, rfl, .inl ra, k _ _ (.sc rfl rep_int)⟩
    · cases e
  · cases e
theorem bi_any (hc : X.calm = true) : BiOk X (.builtin "any") anyB := by
  refine ⟨_, cr_any hc, fun O H ds vs fr z Q hr e k => ?_⟩
  unfold anyB at e
  split at e
  · split at e
    · rename_i ns hn
      cases e
      obtain ⟨x, rfl, h⟩ := repUs1 hr
      obtain ⟨a, xs, rfl, ra, qa⟩ := repU_lst h
      rw [blsD_eq hn] at qa
      rw [reps_bls qa] at ra
      exact ⟨a, ns, rfl, .inl ra, k _ _ (.sc rfl rep_bl)⟩
    · cases e
  · cases e
theorem bi_all (hc : X.calm = true) : BiOk X (.builtin "all") allB := by
  refine ⟨_, cr_all hc, fun O H ds vs fr z Q hr e k => ?_⟩
  unfold allB at e
  split at e
  · split at e
    · rename_i ns hn
      cases e
      obtain ⟨x, rfl, h⟩ := repUs1 hr
      obtain ⟨a, xs, rfl, ra, qa⟩ := repU_lst h
      rw [blsD_eq hn] at qa
      rw [reps_bls qa] at ra
      exact ⟨a, ns, rfl, .inl ra, k _ _ (.sc rfl rep_bl)⟩
    · cases e
  · cases e
theorem foldl_min_eq : ∀ (l : List Int) (n m : Int), (m = n ∨ m ∈ l) → (m ≤ n ∧ ∀ y ∈ l, m ≤ y) → l.foldl min n = m
  | [], n, m, h, _ => by
    rcases h with h | h
    · exact h.symm
    · cases h
  | x :: l, n, m, h, ⟨h1, h2⟩ => by
    rw [List.foldl_cons]
    refine foldl_min_eq l (min n x) m ?_ ⟨by have := h2 x List.mem_cons_self; omega, fun y hy => h2 y (List.mem_cons_of_mem _ hy)⟩
    have := h2 x List.mem_cons_self
    rcases h with h | h
    · left; omega
    · rcases List.mem_cons.mp h with h | h
      · left; omega
      · right; exact h
theorem foldl_max_eq : ∀ (l : List Int) (n m : Int), (m = n ∨ m ∈ l) → (n ≤ m ∧ ∀ y ∈ l, y ≤ m) → l.foldl max n = m
  | [], n, m, h, _ => by
    rcases h with h | h
    · exact h.symm
    · cases h
  | x :: l, n, m, h, ⟨h1, h2⟩ => by
    rw [List.foldl_cons]
    refine foldl_max_eq l (max n x) m ?_ ⟨by have := h2 x List.mem_cons_self; omega, fun y hy => h2 y (List.mem_cons_of_mem _ hy)⟩
    have := h2 x List.mem_cons_self
    rcases h with h | h
    · left; omega
    · rcases List.mem_cons.mp h with h | h
      · left; omega
      · right; exact h
theorem bi_min (hc : X.calm = true) (hu : X.A.units + 200 < cLine) : BiOk X (.builtin "min") minB := by
  refine ⟨_, (cr_min hc).or ((min_tup hc hu).or (call_min2 hc)), fun O H ds vs fr z Q hr e k => ?_⟩
  unfold minB at e
  split at e
  · split at e
    · rename_i n ns hn
      cases e
      obtain ⟨x, rfl, h⟩ := repUs1 hr
      obtain ⟨a, xs, rfl, ra, qa⟩ := repU_lst h
      rw [intsD_eq hn] at qa
      rw [reps_ints qa] at ra
      refine .inl ⟨a, n :: ns, rfl, .inl ra, by simp, fun m hm hle => k _ _ (.sc rfl ?_)⟩
      rw [foldl_min_eq ns n m (List.mem_cons.mp hm) ⟨hle n List.mem_cons_self, fun y hy => hle y (List.mem_cons_of_mem _ hy)⟩]
      exact rep_int
    · cases e
  · split at e
    · rename_i n ns hn
      cases e
      obtain ⟨x, rfl, h⟩ := repUs1 hr
      obtain ⟨a, xs, rfl, _, ra, qa⟩ := repU_tup h
      rw [intsD_eq hn] at qa
      rw [reps_ints qa] at ra
      exact .inr (.inl ⟨a, n, ns, rfl, .inl ra, k _ _ (.sc rfl rep_int)⟩)
    · cases e
  · cases e
    obtain ⟨x, y, rfl, h1, h2⟩ := repUs2 hr
    cases repU_int h1; cases repU_int h2
    exact .inr (.inr ⟨_, _, rfl, k _ _ (.sc rfl rep_int)⟩)
  · cases e
theorem bi_max (hc : X.calm = true) (hu : X.A.units + 200 < cLine) : BiOk X (.builtin "max") maxB := by
  refine ⟨_, (cr_max hc).or ((max_tup hc hu).or (call_max2 hc)), fun O H ds vs fr z Q hr e k => ?_⟩
  unfold maxB at e
  split at e
  · split at e
    · rename_i n ns hn
      cases e
      obtain ⟨x, rfl, h⟩ := repUs1 hr
      obtain ⟨a, xs, rfl, ra, qa⟩ := repU_lst h
      rw [intsD_eq hn] at qa
      rw [reps_ints qa] at ra
      refine .inl ⟨a, n :: ns, rfl, .inl ra, by simp, fun m hm hle => k _ _ (.sc rfl ?_)⟩
      rw [foldl_max_eq ns n m (List.mem_cons.mp hm) ⟨hle n List.mem_cons_self, fun y hy => hle y (List.mem_cons_of_mem _ hy)⟩]
      exact rep_int
    · cases e
  · split at e
    · rename_i n ns hn
      cases e
      obtain ⟨x, rfl, h⟩ := repUs1 hr
      obtain ⟨a, xs, rfl, _, ra, qa⟩ := repU_tup h
      rw [intsD_eq hn] at qa
      rw [reps_ints qa] at ra
      exact .inr (.inl ⟨a, n, ns, rfl, .inl ra, k _ _ (.sc rfl rep_int)⟩)
    · cases e
  · cases e
    obtain ⟨x, y, rfl, h1, h2⟩ := repUs2 hr
    cases repU_int h1; cases repU_int h2
    exact .inr (.inr ⟨_, _, rfl, k _ _ (.sc rfl rep_int)⟩)
  · cases e
theorem bi_abs : BiOk X (.builtin "abs") absB := by
  refine ⟨_, call_abs, fun O H ds vs fr z Q hr e k => ?_⟩
  unfold absB at e
  split at e
  · cases e
    obtain ⟨x, rfl, h⟩ := repUs1 hr
    cases repU_int h
    exact ⟨_, rfl, k _ _ (.sc rfl rep_int)⟩
  · cases e
theorem bi_int : BiOk X (.type "int") intB := by
  refine ⟨_, call_int1, fun O H ds vs fr z Q hr e k => ?_⟩
  unfold intB at e
  split at e
  · cases e
    obtain ⟨x, rfl, h⟩ := repUs1 hr
    cases repU_int h
    exact .inl ⟨_, rfl, k _ _ (.sc rfl rep_int)⟩
  · cases e
/-! sorted of a list: each item carries the value that it is and what it stands for -/
def StandsU (w : World) (O : Addr → Prop) (H : Hp) (u : Value) (d : D) : Prop := ∃ x : V, RelV x u ∧ Rep w O H d x
theorem each_stands {w : World} {O : Addr → Prop} {H : Hp} : ∀ {ds : List D} {xs : List V} {us : List Value}, Reps w O H ds xs → Vals xs us → PySem.W.EachIs (StandsU w O H) us ds
  | [], xs, us, r, v => by
    obtain rfl : xs = [] := r
    cases v
    exact .nil
  | d :: ds, xs, us, r, v => by
    obtain ⟨x, ys, rfl, r1, r2⟩ := r
    cases v with
    | cons v1 v2 => exact .cons ⟨x, v1, r1⟩ (each_stands r2 v2)
theorem stands_each {w : World} {O : Addr → Prop} {H : Hp} : ∀ {ds : List D} {us : List Value}, PySem.W.EachIs (StandsU w O H) us ds → ∃ xs, Reps w O H ds xs ∧ Vals xs us
  | _, _, .nil => ⟨[], .nil, .nil⟩
  | _, _, .cons ⟨x, v1, r1⟩ e => by
    obtain ⟨xs, r2, v2⟩ := stands_each e
    exact ⟨x :: xs, .cons r1 r2, .cons v1 v2⟩
theorem each_here {R S : Value → D → Prop} {us : List Value} {ds : List D} (e : PySem.W.EachIs R us ds) (h : ∀ u d, d ∈ ds → R u d → S u d) : PySem.W.EachIs S us ds :=
  .of_zip e.length fun p hp => h _ _ (List.of_mem_zip hp).2 (e.zip p hp)
theorem sortable_toP {l : List D} (h : l.all neTup = true ∨ l.all noTup = true) : PySem.W.Sortable (l.map toP) := by
  rcases h with h | h
  · refine .inl fun d hd => ?_
    obtain ⟨x, hx, rfl⟩ := List.mem_map.mp hd
    have := List.all_eq_true.mp h x hx
    cases x with
    | tup t => cases t with
      | nil => cases this
      | cons y r => exact ⟨toP y, toPs r, by simp [toP, toPs]⟩
    | _ => cases this
  · refine .inr fun d hd => ?_
    obtain ⟨x, hx, rfl⟩ := List.mem_map.mp hd
    have := List.all_eq_true.mp h x hx
    cases x <;> first | (cases this; done) | exact ⟨by simp [toP], by simp [toP]⟩
theorem canSort_facts {l : List D} (h : canSort l = true) : allAlike l = true ∧ (l.all neTup = true ∨ l.all noTup = true) ∧ (∀ d ∈ l, okD d = true) ∧ l.length ≤ 16777216 := by
  simpa [canSort, and_assoc] using h
def rSorted (w : World) : List V → Hp → VK → Prop := fun vs H Q => ∃ (O : Addr → Prop) (a : Addr) (l : List D) (xs : List V), vs = [.ref a] ∧ canSort l = true ∧ Rd H a (.lst xs) ∧ Reps w O H l xs ∧
  ∀ p ys, H p = none → Reps w O H (sortBy ltD l) ys → Q (.ref p) (upd H p (.lst ys))
theorem sorted_lst (hu : X.A.units + 200 < cLine) : CallR X (.builtin "sorted") (rSorted X.w) := fun pins s σ H vs us Q I rv ⟨O, a, l, xs, ev, hc, hr, hq, q⟩ => by
  subst ev
  obtain ⟨u, rfl, ru⟩ := Vals.one rv
  obtain rfl : u = .ref a := ru
  obtain ⟨al, so, ok, sz⟩ := canSort_facts hc
  obtain ⟨-, is, n, vi, -, oi⟩ := rdList I hr
  have items := each_stands hq vi
  have read : PySem.W.EachIs (fun v d => ∃ as, Reads s.heap v (toP d) as) is l := each_here items fun v d hd ⟨x, rx, px⟩ =>
    Dp.reads I _ x v (repDp X.K (by have := ok d hd; simp only [okD, Bool.and_eq_true] at this; exact this.1) px) rx
  have alike : PySem.W.AllAlike (l.map toP) := by
    intro d hd e he
    obtain ⟨x, hx, rfl⟩ := List.mem_map.mp hd
    obtain ⟨y, hy, rfl⟩ := List.mem_map.mp he
    exact alike_toP x y (allAlike_mem al x hx y hy)
  have shallow : ∀ d ∈ l, X.A.units + 2 + (toP d).depth < cLine := fun d hd => by
    have := ok d hd
    simp only [okD, Bool.and_eq_true, decide_eq_true_eq] at this
    rw [dep_toP]
    exact Nat.lt_of_le_of_lt (by have := this.2; omega) hu
  refine PySem.W.sorted_data ⟨_, oi, rfl, _, rfl⟩ items read alike (sortable_toP so) (by rw [sizeL]; exact sz) shallow fun out lo eo => ?_
  rw [← sortD_merge al] at eo
  obtain ⟨ys, ry, vy⟩ := stands_each eo
  obtain ⟨e, he⟩ := sortedAll_at s.heap is out.toArray
  have new : H (s.heap.objs.size + 1) = none := I.hok.fresh (Nat.le_succ _)
  have laid := I.laid (t' := s.toks) (o := .lst ys) (fun _ _ => sortedAll_old) (Nat.le_succ _) ⟨by rw [ry.length, sortBy_length, sizeL]; exact sz, out, e, vy, he⟩
  exact ⟨.ref _, _, laid, rfl, q _ ys new ry⟩
/-- sorted of a dict: its keys -/
def rSortedD (w : World) : List V → Hp → VK → Prop := fun vs H Q => ∃ (O : Addr → Prop) (a : Addr) (ks : List D) (xs ys : List V), vs = [.ref a] ∧ canSort ks = true ∧ DctO w H a ks xs ys ∧ Reps w O H ks xs ∧
  ∀ p zs, H p = none → Reps w O H (sortBy ltD ks) zs → Q (.ref p) (upd H p (.lst zs))
theorem sorted_dct (hc : X.calm = true) (hu : X.A.units + 200 < cLine) : CallR X (.builtin "sorted") (rSortedD X.w) := fun pins s σ H vs us Q I rv ⟨O, a, ks, xs, ys, ev, cs, hd, hq, q⟩ => by
  subst ev
  obtain ⟨u, rfl, ru⟩ := Vals.one rv
  obtain rfl : u = .ref a := ru
  obtain ⟨al, so, ok, sz⟩ := canSort_facts cs
  obtain ⟨o, es, ep, hH, hs, hx, hd', hz, hk, _, E⟩ := id hd
  have l0 : es.toList.length = es.size := Array.length_toList
  have l1 : ks.length = es.size := E.l1.trans l0
  have l2 : xs.length = es.size := E.l2.trans l0
  have alike : PySem.W.AllAlike (ks.map toP) := by
    intro d hd e he
    obtain ⟨x, hx, rfl⟩ := List.mem_map.mp hd
    obtain ⟨y, hy, rfl⟩ := List.mem_map.mp he
    exact alike_toP x y (allAlike_mem al x hx y hy)
  have shallow : ∀ d ∈ ks, X.A.units + 2 + (toP d).depth < cLine := fun d hd => by
    have := ok d hd
    simp only [okD, Bool.and_eq_true, decide_eq_true_eq] at this
    rw [dep_toP]
    exact Nat.lt_of_le_of_lt (by have := this.2; omega) hu
  have size : es.size ≤ sizeLine := by rw [sizeL]; omega
  refine PySem.Calls.call_function_entry kind_sorted plain_sorted entry_sorted (args_sorted1 _) ?_
  unfold Builtin.«sorted»
  refine wpAny_bind (wpAny_pure (wpAny_bind (PySem.W.kdu_collect (A := X.A.in1) (kdl_raw hs hx hd') (I.ok.hd hc) (dct_obj I hH) size fun h' tk acc kp it => wpAny_bind (wpAny_newList ?_ ?_))))
  · have kn : ∀ b u, s.heap.get? b = some u → (h'.push { cls := .type "list", data := .seq acc.toList.toArray }).get? b = some u := fun b u e => Heap.get?_push_of_some _ (kp b u e)
    have hn : H h'.objs.size = none := (I.hok.kept kp).fresh (Nat.le_refl _)
    have rv : Vals xs acc.toList := by
      refine L2.vals_of_at (by have h0 : acc.toList.length = acc.size := Array.length_toList; rw [h0, it.1]; exact l2) fun j x u hx' hu' => ?_
      obtain ⟨en, hen, hv⟩ := it.2 j u (by rw [← Array.getElem?_toList]; exact hu')
      obtain ⟨k, x2, y, h1, h2, h3, h4, h5, h6⟩ := E.at_ j en (by rw [Array.getElem?_toList]; exact hen)
      rw [hx'] at h2; cases h2
      rw [hv]; exact h5
    have items := each_stands hq rv
    have read : PySem.W.EachIs (fun v d => ∃ as, Reads (h'.push { cls := .type "list", data := .seq acc.toList.toArray }) v (toP d) as ∧ h'.objs.size ∉ as) acc.toList ks := each_here items fun v d hd ⟨x, rx, px⟩ => by
      obtain ⟨as, r⟩ := Dp.reads I _ x v (repDp X.K (by have := ok d hd; simp only [okD, Bool.and_eq_true] at this; exact this.1) px) rx
      refine ⟨as, PyProof.Rows.Reads.keeps kn r, fun m => ?_⟩
      obtain ⟨o', e⟩ := PyProof.On.reads_mem_get r _ m
      exact absurd (Heap.lt_size (kp _ _ e)) (Nat.lt_irrefl _)
    have here : (h'.push { cls := .type "list", data := .seq acc.toList.toArray }).get? h'.objs.size = some (PyProof.Rows.seqObj "list" acc.toList.toArray 0) := Heap.get?_push_size _ rfl
    have keep : ∀ out b u, s.heap.get? b = some u → (PyProof.Rows.sortedHeap (h'.push { cls := .type "list", data := .seq acc.toList.toArray }) h'.objs.size acc.toList out).get? b = some u := fun out b u e =>
      (PyProof.Rows.sortedHeap_old (fun z => Nat.lt_irrefl _ (z ▸ Heap.lt_size (kp b u e))) (Heap.lt_size (kn b u e))).trans (kn b u e)
    have gone : s.heap.get? h'.objs.size = none := by
      cases z : s.heap.get? h'.objs.size with
      | none => rfl
      | some u => exact absurd (Heap.lt_size (kp _ _ z)) (Nat.lt_irrefl _)
    refine wpAny_bind (wpAny_holding (wpAny_mono (Q := fun _ s' => EP X pins σ Q (.ref h'.objs.size) s') (PySem.W.list_sort_data here items read alike (sortable_toP so) (by rw [sizeL]; exact sz) (fun d hd => ?_) fun out lo eo => ?_) (fun _ s' z => wpAny_pure ⟨_, rfl, z⟩) fun _ _ e => e))
    · exact Nat.lt_of_le_of_lt (by show X.A.in1.units + 1 + _ ≤ _; exact Nat.le_of_eq (by show X.A.units + 1 + 1 + _ = _; omega)) (shallow d hd)
    · rw [← sortD_merge al] at eo
      obtain ⟨zs, ry, vy⟩ := stands_each eo
      obtain ⟨e, he⟩ := PyProof.Rows.sortedHeap_at (vs := acc.toList) (out := out.toArray) here
      exact ⟨.ref _, _, I.laidN (t' := tk) (o := .lst zs) (keep _) gone hn ⟨by rw [ry.length, sortBy_length, sizeL]; exact sz, out, e, vy, he⟩, rfl, q _ zs hn ry⟩
  · rw [Array.length_toList, it.1]
    exact size
theorem bi_sorted (hc : X.calm = true) (hu : X.A.units + 200 < cLine) : BiOk X (.builtin "sorted") sortedB := by
  refine ⟨_, (sorted_lst hu).or (sorted_dct hc hu), fun O H ds vs fr z Q hr e k => ?_⟩
  unfold sortedB at e
  split at e
  · split at e
    · rename_i l hc
      cases e
      obtain ⟨x, rfl, h⟩ := repUs1 hr
      obtain ⟨a, xs, rfl, ra, qa⟩ := repU_lst h
      exact .inl ⟨O, a, _, xs, rfl, hc, ra, qa, fun p ys hp h1 => k _ _ (.list hp h1)⟩
    · cases e
  · split at e
    · rename_i ks vs hc
      cases e
      obtain ⟨x, rfl, h⟩ := repUs1 hr
      obtain ⟨a, x', ys, rfl, hd, h1, _⟩ := h
      exact .inr ⟨O, a, _, x', ys, rfl, hc, hd, h1, fun p zs hp h2 => k _ _ (.list hp h2)⟩
    · cases e
  · cases e
end
end Ev

/-! Ev, part H: one lemma a construct. -/
namespace Ev
open PySem PySem.Spec PyProof.Rows L2

section
variable {X : Cx} {C : CallS}
/-! ### tests -/
def tT (w : World) (C : CallS) (r : RE) : TT := fun σ H Q => ∃ Z ρ b ρ', Match w Z ρ σ H ∧ toBl (evE C r ρ) = some (b, ρ') ∧ ∀ H', Match w Z ρ' σ H' → TrE ρ ρ' → Stp ρ σ H H' → Q b H'
theorem toBl_eq {r : Option (OV × Env)} {b : Bool} {ρ : Env} (h : toBl r = some (b, ρ)) : ∃ fr, r = some (.val fr (.bl b), ρ) := by
  unfold toBl at h
  split at h
  · cases h; exact ⟨_, rfl⟩
  · cases h
theorem toVal_eq {r : Option (OV × Env)} {fr : Bool} {d : D} {ρ : Env} (h : toVal r = some (fr, d, ρ)) : r = some (.val fr d, ρ) := by
  unfold toVal at h
  split at h
  · cases h; rfl
  · cases h
theorem toInt_eq {r : Option (OV × Env)} {o : Option Int} {ρ : Env} (h : toInt r = some (o, ρ)) : ∃ fr i, o = some i ∧ r = some (.val fr (.int i), ρ) := by
  unfold toInt at h
  split at h
  · cases h; exact ⟨_, _, rfl, rfl⟩
  · cases h
/-- a value that is a bool, as a test -/
theorem tE_bl {w : World} {Z : Addr → Prop} {ρ ρ' : Env} {σ : St} {H H' : Hp} {fr : Bool} {d : D} {v : V} (hd : isCol d = false) (p : PostE w Z ρ σ H (.val fr d) ρ' v H') : fr = false ∧ Rep w (Ow Z ρ' σ) H' d v := by
  cases fr with
  | false => exact ⟨rfl, p.res⟩
  | true =>
    obtain ⟨a, e, _, _, r⟩ := p.res
    have := r.isCol
    rw [hd] at this; cases this
theorem s_test {e : Expr} {r : RE} (h : PE X e (tE X.w C r)) (he : ∀ whole, isTrue e X.env whole = (do let v ← whole; standAt e.pos; holding [v] (truthy v))) : PT X e (tT X.w C r) := by
  refine ptImp (pt_val h he) fun σ H Q ⟨Z, ρ, b, ρ', m, ev, k⟩ => ?_
  obtain ⟨fr, ev⟩ := toBl_eq ev
  refine ⟨Z, ρ, _, ρ', m, ev, fun v H' p => ?_⟩
  obtain ⟨rfl, q⟩ := tE_bl rfl p
  simp [Rep] at q
  exact ⟨b, q, k H' p.m0 p.tr p.st⟩

/-! ### two operands -/
theorem two {w : World} {Z : Addr → Prop} {ρ ρ1 ρ2 : Env} {σ : St} {H : Hp} {ra rb : RE} {oa ob : OV} {r : R2} {Q : VK} (m : Match w Z ρ σ H) (ea : evE C ra ρ = some (oa, ρ1)) (eb : evE C rb ρ1 = some (ob, ρ2))
    (k : ∀ vx vy H2, Match w Z ρ2 σ H2 → TrE ρ ρ2 → Stp ρ σ H H2 → OpdOk w (Ow Z ρ2 σ) H2 σ vx oa → OpdOk w (Ow Z ρ2 σ) H2 σ vy ob → r vx vy H2 Q) : tOp r (tE w C ra) (tE w C rb) σ H Q := by
  refine ⟨Z, ρ, oa, ρ1, m, ea, fun vx H1 p1 => ⟨Z, ρ1, ob, ρ2, p1.m0, eb, fun vy H2 p2 => ?_⟩⟩
  exact k vx vy H2 p2.m0 (p1.tr.trans p2.tr) (p1.st.trans p1.tr p2.st) (p1.opd.stay p2.tr p2.st) p2.opd

/-! ### constants and names -/
theorem s_non {j : Nat} {pos : Pos} : PE X (.Constant .none j pos) (tE X.w C (.cst .non)) :=
  peImp pe_non fun σ H Q ⟨Z, ρ, o, ρ', m, ev, k⟩ => by
    have e : evE C (.cst .non) ρ = some (.val false .non, ρ) := rfl
    rw [e] at ev; cases ev
    exact k _ _ (.same m (.refl ρ) .refl rep_non)
theorem s_bl {b : Bool} {j : Nat} {pos : Pos} : PE X (.Constant (.bool b) j pos) (tE X.w C (.cst (.bl b))) :=
  peImp pe_bl fun σ H Q ⟨Z, ρ, o, ρ', m, ev, k⟩ => by
    have e : evE C (.cst (.bl b)) ρ = some (.val false (.bl b), ρ) := rfl
    rw [e] at ev; cases ev
    exact k _ _ (.same m (.refl ρ) .refl rep_bl)
theorem s_int {i : Int} {j : Nat} {pos : Pos} : PE X (.Constant (.int i) j pos) (tE X.w C (.cst (.int i))) :=
  peImp pe_int fun σ H Q ⟨Z, ρ, o, ρ', m, ev, k⟩ => by
    have e : evE C (.cst (.int i)) ρ = some (.val false (.int i), ρ) := rfl
    rw [e] at ev; cases ev
    exact k _ _ (.same m (.refl ρ) .refl rep_int)
theorem s_str {x : Str} {j : Nat} {pos : Pos} : PE X (.Constant (.str x) j pos) (tE X.w C (.cst (.str x))) :=
  peImp pe_str fun σ H Q ⟨Z, ρ, o, ρ', m, ev, k⟩ => by
    simp only [evE] at ev
    split at ev
    · cases ev
      exact k _ _ (.same m (.refl ρ) .refl rep_str)
    · cases ev
theorem s_glob {x : Str} {i : Int} {u : Value} {pos : Pos} (hg : Gl X x) (hm : X.mg x = some u) (r : RelV (.int i) u) (hd : (x == ("__debug__" : Str)) = false) : PE X (.Name x pos) (tE X.w C (.cst (.int i))) :=
  peImp (pe_glob hg hm r hd) fun σ H Q ⟨Z, ρ, o, ρ', m, ev, k⟩ => by
    have e : evE C (.cst (.int i)) ρ = some (.val false (.int i), ρ) := rfl
    rw [e] at ev; cases ev
    exact k _ _ (.same m (.refl ρ) .refl rep_int)
theorem s_plc {i : Nat} {x : Str} {pos : Pos} (hN : X.N[i]? = some x) (hv : Vis X.env.scope x) (hd : (x == ("__debug__" : Str)) = false) (hcd : (x == ("__classdict__" : Str)) = false) : PE X (.Name x pos) (tE X.w C (.plc i)) :=
  peImp (pe_var hN hv hd hcd) fun σ H Q ⟨Z, ρ, o, ρ', m, ev, k⟩ => by
    simp only [evE] at ev
    split at ev
    · rename_i d hg
      cases ev
      obtain ⟨v, hv⟩ := m.there hg
      exact ⟨v, hv, k v H ⟨m, .refl ρ, .refl, hv⟩⟩
    · cases ev
theorem own_of {ρ : Env} {σ : St} {i : Nat} {s : Sl} {a : Addr} (e : ρ[i]? = some s) (h : isOwn s = true) (ea : σ[i]? = some (some (V.ref a))) : OwnA ρ σ a := ⟨i, s, e, h, ea⟩
/-- an owned slot is given up -/
theorem Match.give {w : World} {Z : Addr → Prop} {ρ : Env} {σ : St} {H : Hp} {i : Nat} {d : D} (m : Match w Z ρ σ H) (e : ρ[i]? = some (.ow d)) :
    ∃ a, σ[i]? = some (some (V.ref a)) ∧ RepT w (Ow Z ρ σ) H d a ∧ MutA ρ σ a ∧ (∀ t, isOwn t = false → ¬ Ow Z (ρ.set i t) σ a ∧ ∀ b, Ow Z ρ σ b → Ow Z (ρ.set i t) σ b ∨ b = a) := by
  obtain ⟨a, ea, r⟩ := m.slot i _ e
  refine ⟨a, ea, r, ⟨i, _, e, rfl, ea⟩, fun t ht => ⟨fun z => ?_, fun b z => ?_⟩⟩
  · rcases z with z | ⟨j, s, ej, oj, vj⟩
    · exact m.zo a ⟨i, _, e, rfl, ea⟩ z
    · by_cases hj : i = j
      · subst hj
        rw [List.getElem?_set_self (List.getElem?_eq_some_iff.mp e).1] at ej
        cases ej; rw [ht] at oj; cases oj
      · rw [List.getElem?_set_ne hj] at ej
        exact hj (m.ap i j _ s a e ej rfl oj ea vj)
  · rcases z with z | ⟨j, s, ej, oj, vj⟩
    · exact .inl (.inl z)
    · by_cases hj : i = j
      · subst hj
        rw [ea] at vj; cases vj
        exact .inr rfl
      · exact .inl (.inr ⟨j, s, by rw [List.getElem?_set_ne hj]; exact ej, oj, vj⟩)
theorem Match.shrink {w : World} {Z Z' : Addr → Prop} {ρ ρ' : Env} {σ : St} {H : Hp} (m : Match w Z ρ σ H) (t : TrE ρ ρ') (hz : ∀ a, Z' a → H a ≠ none) (hO : ∀ a, Ow Z' ρ' σ a → Ow Z ρ σ a) (hzo : ∀ a, OwnA ρ' σ a → ¬ Z' a)
    (hs : ∀ (i : Nat) (s u : Sl), ρ[i]? = some s → ρ'[i]? = some u → u = s ∨ SlotOk w (Ow Z' ρ' σ) H σ[i]? u) : Match w Z' ρ' σ H := by
  refine ⟨t.len.trans m.len, hz, fun i u eu => ?_, fun i j s u a es eu os ou vs vu => ?_, hzo⟩
  · obtain ⟨s, es, _⟩ := t.back eu
    rcases hs i s u es eu with rfl | h
    · exact (m.slot i _ es).mono hO (fun _ _ e _ => e) fun _ _ _ _ e => e
    · exact h
  · obtain ⟨s', es', ts⟩ := t.back es
    obtain ⟨u', eu', tu⟩ := t.back eu
    exact m.ap i j s' u' a es' eu' (ts.own os) (tu.own ou) vs vu
theorem s_var {i : Nat} {x : Str} {pos : Pos} (hN : X.N[i]? = some x) (hv : Vis X.env.scope x) (hd : (x == ("__debug__" : Str)) = false) (hcd : (x == ("__classdict__" : Str)) = false) : PE X (.Name x pos) (tE X.w C (.var i)) :=
  peImp (pe_var hN hv hd hcd) fun σ H Q ⟨Z, ρ, o, ρ', m, ev, k⟩ => by
    simp only [evE] at ev
    split at ev
    · rename_i d hs
      cases ev
      obtain ⟨v, ev, r⟩ := m.slot i _ hs
      exact ⟨v, ev, k v H (.same m (.refl ρ) .refl r)⟩
    · rename_i d hs
      cases ev
      obtain ⟨a, ea, r, hM, hO⟩ := m.give hs
      have t : TrE ρ (ρ.set i (.sh d)) := TrE.set hs (.inr (.inl ⟨d, rfl⟩))
      obtain ⟨n, _⟩ := hO (.sh d) rfl
      have rr : Rep X.w (Ow Z (ρ.set i (.sh d)) σ) H d (.ref a) := (r.mono (fun b z => z.elim .inl fun z => .inr (t.own z)) (fun _ _ e _ => e) fun _ e => e).rep n
      have m' : Match X.w Z (ρ.set i (.sh d)) σ H := by
        refine m.shrink t m.zt (fun b z => z.elim .inl fun z => .inr (t.own z)) (fun b z => m.zo b (t.own z)) fun j s u es eu => ?_
        by_cases hj : i = j
        · subst hj
          rw [List.getElem?_set_self (List.getElem?_eq_some_iff.mp hs).1] at eu
          cases eu
          exact .inr ⟨_, ea, rr⟩
        · rw [List.getElem?_set_ne hj] at eu
          rw [es] at eu; cases eu; exact .inl rfl
      exact ⟨_, ea, k _ H (.same m' t .refl rr)⟩
    · cases ev
theorem s_mov {i : Nat} {x : Str} {pos : Pos} (hN : X.N[i]? = some x) (hv : Vis X.env.scope x) (hd : (x == ("__debug__" : Str)) = false) (hcd : (x == ("__classdict__" : Str)) = false) : PE X (.Name x pos) (tE X.w C (.mov i)) :=
  peImp (pe_var hN hv hd hcd) fun σ H Q ⟨Z, ρ, o, ρ', m, ev, k⟩ => by
    simp only [evE] at ev
    split at ev
    · rename_i d hs
      cases ev
      obtain ⟨v, ev, r⟩ := m.slot i _ hs
      exact ⟨v, ev, k v H (.same m (.refl ρ) .refl r)⟩
    · rename_i d hs
      cases ev
      obtain ⟨a, ea, r, hM, hO⟩ := m.give hs
      have t : TrE ρ (ρ.set i .no) := TrE.set hs (.inr (.inr rfl))
      obtain ⟨n, hb⟩ := hO .no rfl
      have hback : ∀ b, Ow (Zf Z (.ref a) (.val true d)) (ρ.set i .no) σ b → Ow Z ρ σ b := fun b z => by
        rcases z with (z | z) | z
        · exact .inl z
        · cases z; exact .inr hM.own
        · exact .inr (t.own z)
      have m' : Match X.w (Zf Z (.ref a) (.val true d)) (ρ.set i .no) σ H := by
        refine m.shrink t (fun b z => ?_) hback (fun b z q => ?_) fun j s u es eu => ?_
        · rcases z with z | z
          · exact m.zt b z
          · cases z; exact m.own_there hM.own
        · rcases q with q | q
          · exact m.zo b (t.own z) q
          · cases q; exact n (.inr z)
        · by_cases hj : i = j
          · subst hj
            rw [List.getElem?_set_self (List.getElem?_eq_some_iff.mp hs).1] at eu
            cases eu
            exact .inr trivial
          · rw [List.getElem?_set_ne hj] at eu
            rw [es] at eu; cases eu; exact .inl rfl
      refine ⟨_, ea, k _ H ⟨m', t, .refl, a, rfl, n, .inr hM, r.mono (fun b z => ?_) (fun _ _ e _ => e) fun _ e => e⟩⟩
      rcases z with z | z
      · exact z.elim .inl fun z => .inr (t.own z)
      · subst z; exact .inr hM.own
    · cases ev

/-! ### operators -/
theorem s_bin {a b : Expr} {ra rb : RE} {o : Operator} {op : BOp} {pos : Pos} (ho : OpD X (binaryOp o) (binD op)) (ha : PE X a (tE X.w C ra)) (hb : PE X b (tE X.w C rb)) : PE X (.BinOp a o b pos) (tE X.w C (.bin op ra rb)) := by
  obtain ⟨r, hr, hk⟩ := ho.ex
  refine peImp (pe_op hr ha hb) fun σ H Q ⟨Z, ρ, o, ρ', m, ev, k⟩ => ?_
  simp only [evE] at ev
  split at ev
  · cases ev
  · rename_i oa ρ1 e1
    split at ev
    · cases ev
    · rename_i ob ρ2 e2
      split at ev
      · rename_i x y q1 q2
        split at ev
        · rename_i z e3
          cases ev
          refine two m e1 e2 fun vx vy H2 m2 t st p1 p2 => ?_
          exact hk _ H2 x y z vx vy Q (p1.rd m2 q1) (p2.rd m2 q2) e3 fun v H' n => k v H' (n.post m2 t st)
        · cases ev
      · cases ev
theorem s_neg {a : Expr} {ra : RE} {pos : Pos} (ha : PE X a (tE X.w C ra)) : PE X (.UnaryOp .USub a pos) (tE X.w C (.neg ra)) := by
  refine peImp (pe_un un_neg ha) fun σ H Q ⟨Z, ρ, o, ρ', m, ev, k⟩ => ?_
  simp only [evE] at ev
  split at ev
  · rename_i fr i ρ1 e1
    cases ev
    refine ⟨Z, ρ, _, _, m, e1, fun v H' p => ?_⟩
    obtain ⟨rfl, q⟩ := tE_bl rfl p
    simp [Rep] at q
    exact ⟨i, q, k _ H' (.same p.m0 p.tr p.st rep_int)⟩
  · cases ev
theorem s_not {a : Expr} {ra : RE} {pos : Pos} (ha : PE X a (tE X.w C ra)) : PE X (.UnaryOp .Not a pos) (tE X.w C (.not ra)) := by
  refine peImp (pe_not ha) fun σ H Q ⟨Z, ρ, o, ρ', m, ev, k⟩ => ?_
  simp only [evE] at ev
  split at ev
  · rename_i b ρ1 e1
    cases ev
    obtain ⟨fr, e1⟩ := toBl_eq e1
    refine ⟨Z, ρ, _, _, m, e1, fun v H' p => ?_⟩
    obtain ⟨rfl, q⟩ := tE_bl rfl p
    simp [Rep] at q
    exact ⟨b, q, k _ H' (.same p.m0 p.tr p.st rep_bl)⟩
  · cases ev
theorem s_notT {a : Expr} {ra : RE} {pos : Pos} (ha : PT X a (tT X.w C ra)) : PT X (.UnaryOp .Not a pos) (tT X.w C (.not ra)) := by
  refine ptImp (pt_not ha) fun σ H Q ⟨Z, ρ, b, ρ', m, ev, k⟩ => ?_
  obtain ⟨fr, ev⟩ := toBl_eq ev
  simp only [evE] at ev
  split at ev
  · rename_i b' ρ1 e1
    cases ev
    exact ⟨Z, ρ, b', ρ', m, e1, k⟩
  · cases ev
theorem cmp_core {a b : Expr} {ra rb : RE} {c : CmpOp} {op : COp} {r : R2} {σ : St} {H : Hp} {Z : Addr → Prop} {ρ ρ' : Env} {o : OV} {Q : VK}
    (hk : ∀ (O : Addr → Prop) (H : Hp) (x y : D) (z : Bool) (vx vy : V) (Q : VK), RepU X.w O H x vx → RepU X.w O H y vy → cmpD op x y = some z → Q (.bl z) H → r vx vy H Q)
    (m : Match X.w Z ρ σ H) (ev : evE C (.cmp op ra rb) ρ = some (o, ρ')) (k : ∀ (b : Bool) H', o = .val false (.bl b) → Match X.w Z ρ' σ H' → TrE ρ ρ' → Stp ρ σ H H' → Q (.bl b) H') : tOp r (tE X.w C ra) (tE X.w C rb) σ H Q := by
  simp only [evE] at ev
  split at ev
  · cases ev
  · rename_i oa ρ1 e1
    split at ev
    · cases ev
    · rename_i ob ρ2 e2
      split at ev
      · rename_i x y q1 q2
        split at ev
        · rename_i z e3
          cases ev
          refine two m e1 e2 fun vx vy H2 m2 t st p1 p2 => ?_
          exact hk _ H2 x y z vx vy Q (p1.rd m2 q1) (p2.rd m2 q2) e3 (k z H2 rfl m2 t st)
        · cases ev
      · cases ev
theorem s_cmp {a b : Expr} {ra rb : RE} {c : CmpOp} {op : COp} {pos : Pos} (ho : CmpD X c (cmpD op)) (hm : behindInMarks c b = false) (ha : PE X a (tE X.w C ra)) (hb : PE X b (tE X.w C rb)) : PE X (.Compare a [c] [b] pos) (tE X.w C (.cmp op ra rb)) := by
  obtain ⟨r, hr, hk⟩ := ho.ex
  refine peImp (pe_cmpR hr ha hb hm) fun σ H Q ⟨Z, ρ, o, ρ', m, ev, k⟩ => ?_
  exact cmp_core (c := c) (a := a) (b := b) hk m ev fun z H' e m' t st => k _ _ (by subst e; exact .same m' t st rep_bl)
theorem s_cmpT {a b : Expr} {ra rb : RE} {c : CmpOp} {op : COp} {pos : Pos} (ho : CmpD X c (cmpD op)) (hm : behindInMarks c b = false) (ha : PE X a (tE X.w C ra)) (hb : PE X b (tE X.w C rb)) : PT X (.Compare a [c] [b] pos) (tT X.w C (.cmp op ra rb)) := by
  obtain ⟨r, hr, hk⟩ := ho.ex
  refine ptImp (pt_cmpR hr ha hb hm) fun σ H Q ⟨Z, ρ, b', ρ', m, ev, k⟩ => ?_
  obtain ⟨fr, ev⟩ := toBl_eq ev
  exact cmp_core (c := c) (a := a) (b := b) hk m ev fun z H' e m' t st => ⟨z, rfl, by cases e; exact k H' m' t st⟩
theorem chn_core {ra rb rc : RE} {op op' : COp} {r r' : R2} {σ : St} {H : Hp} {Z : Addr → Prop} {ρ ρ' : Env} {o : OV} {Q : VK}
    (hk : ∀ (O : Addr → Prop) (H : Hp) (x y : D) (z : Bool) (vx vy : V) (Q : VK), RepU X.w O H x vx → RepU X.w O H y vy → cmpD op x y = some z → Q (.bl z) H → r vx vy H Q)
    (hk' : ∀ (O : Addr → Prop) (H : Hp) (x y : D) (z : Bool) (vx vy : V) (Q : VK), RepU X.w O H x vx → RepU X.w O H y vy → cmpD op' x y = some z → Q (.bl z) H → r' vx vy H Q)
    (m : Match X.w Z ρ σ H) (ev : evE C (.chn op op' ra rb rc) ρ = some (o, ρ')) (k : ∀ (b : Bool) H', o = .val false (.bl b) → Match X.w Z ρ' σ H' → TrE ρ ρ' → Stp ρ σ H H' → Q (.bl b) H') : tChain r r' (tE X.w C ra) (tE X.w C rb) (tE X.w C rc) σ H Q := by
  simp only [evE] at ev
  split at ev
  · cases ev
  · rename_i oa ρ1 e1
    split at ev
    · cases ev
    · rename_i ob ρ2 e2
      split at ev
      · rename_i x y q1 q2
        refine ⟨Z, ρ, oa, ρ1, m, e1, fun vx H1 pa => ⟨Z, ρ1, ob, ρ2, pa.m0, e2, fun vy H2 pb => ?_⟩⟩
        have m2 := pb.m0
        have t : TrE ρ ρ2 := pa.tr.trans pb.tr
        have st : Stp ρ σ H H2 := pa.st.trans pa.tr pb.st
        have p1 := pa.opd.stay pb.tr pb.st
        have p2 := pb.opd
        split at ev
        · cases ev
        · rename_i e3
          cases ev
          exact hk _ H2 x y false vx vy _ (p1.rd m2 q1) (p2.rd m2 q2) e3 ⟨false, rfl, by simpa using k false H2 rfl m2 t st⟩
        · rename_i e3
          refine hk _ H2 x y true vx vy _ (p1.rd m2 q1) (p2.rd m2 q2) e3 ⟨true, rfl, ?_⟩
          split at ev
          · cases ev
          · rename_i oc ρ3 e4
            split at ev
            · rename_i y' z' q3 q4
              split at ev
              · rename_i z e5
                cases ev
                rw [if_pos rfl]
                refine ⟨Z, ρ2, oc, _, m2, e4, fun vz H3 p3 => ?_⟩
                exact hk' _ H3 y' z' z vy vz _ ((p2.stay p3.tr p3.st).rd p3.m0 q3) (p3.opd.rd p3.m0 q4) e5 (k z H3 rfl p3.m0 (t.trans p3.tr) (st.trans t p3.st))
              · cases ev
            · cases ev
      · cases ev
theorem s_chn {a b c : Expr} {ra rb rc : RE} {o1 o2 : CmpOp} {op op' : COp} {pos : Pos} (h1 : CmpD X o1 (cmpD op)) (h2 : CmpD X o2 (cmpD op')) (hm : lastMarks [o1, o2] [b, c] = false) (ha : PE X a (tE X.w C ra)) (hb : PE X b (tE X.w C rb)) (hc : PE X c (tE X.w C rc)) :
    PE X (.Compare a [o1, o2] [b, c] pos) (tE X.w C (.chn op op' ra rb rc)) := by
  obtain ⟨r, hr, hk⟩ := h1.ex
  obtain ⟨r', hr', hk'⟩ := h2.ex
  refine peImp (pe_chain hr hr' ha hb hc hm) fun σ H Q ⟨Z, ρ, o, ρ', m, ev, k⟩ => ?_
  exact chn_core hk hk' m ev fun z H' e m' t st => k _ _ (by subst e; exact .same m' t st rep_bl)
theorem s_chnT {a b c : Expr} {ra rb rc : RE} {o1 o2 : CmpOp} {op op' : COp} {pos : Pos} (h1 : CmpD X o1 (cmpD op)) (h2 : CmpD X o2 (cmpD op')) (hm : lastMarks [o1, o2] [b, c] = false) (ha : PE X a (tE X.w C ra)) (hb : PE X b (tE X.w C rb)) (hc : PE X c (tE X.w C rc)) :
    PT X (.Compare a [o1, o2] [b, c] pos) (tT X.w C (.chn op op' ra rb rc)) := by
  obtain ⟨r, hr, hk⟩ := h1.ex
  obtain ⟨r', hr', hk'⟩ := h2.ex
  refine ptImp (pt_chain hr hr' ha hb hc hm) fun σ H Q ⟨Z, ρ, b', ρ', m, ev, k⟩ => ?_
  obtain ⟨fr, ev⟩ := toBl_eq ev
  exact chn_core hk hk' m ev fun z H' e m' t st => ⟨z, rfl, by cases e; exact k H' m' t st⟩
theorem tE_test {w : World} {Z : Addr → Prop} {ρ ρ' : Env} {σ : St} {H H' : Hp} {fr b : Bool} {v : V} (p : PostE w Z ρ σ H (.val fr (.bl b)) ρ' v H') : fr = false ∧ v = .bl b := by
  obtain ⟨h, q⟩ := tE_bl rfl p
  exact ⟨h, by simpa [Rep] using q⟩
theorem PostE.after {w : World} {Z : Addr → Prop} {ρ ρ1 ρ' : Env} {σ : St} {H H1 H' : Hp} {o : OV} {v : V} (t : TrE ρ ρ1) (st : Stp ρ σ H H1) (p : PostE w Z ρ1 σ H1 o ρ' v H') : PostE w Z ρ σ H o ρ' v H' := by
  refine ⟨p.m, t.trans p.tr, st.trans t p.st, ?_⟩
  have r := p.res
  cases o with
  | plc i => exact r
  | val fr d =>
    cases fr with
    | false => exact r
    | true =>
      obtain ⟨a, e, n, q, r⟩ := r
      refine ⟨a, e, n, ?_, r⟩
      rcases q with q | q
      · exact .inl (st.none_back q)
      · exact .inr (t.mut q)
theorem s_and {a b : Expr} {rest : List Expr} {ra rb : RE} {pos : Pos} (ha : PE X a (tE X.w C ra)) (hb : PE X (.BoolOp .And (b :: rest) pos) (tE X.w C rb)) : PE X (.BoolOp .And (a :: b :: rest) pos) (tE X.w C (.and ra rb)) := by
  refine peImp (pe_and ha hb) fun σ H Q ⟨Z, ρ, o, ρ', m, ev, k⟩ => ?_
  simp only [evE] at ev
  split at ev
  · cases ev
  · rename_i ρ1 e1
    obtain ⟨fr, e1⟩ := toBl_eq e1
    refine ⟨Z, ρ, _, ρ1, m, e1, fun v H1 p => ?_⟩
    obtain ⟨rfl, rfl⟩ := tE_test p
    refine ⟨true, rfl, ?_⟩
    rw [if_pos rfl]
    exact ⟨Z, ρ1, o, ρ', p.m0, ev, fun v' H' p' => k v' H' (p'.after p.tr p.st)⟩
  · rename_i ρ1 e1
    cases ev
    obtain ⟨fr, e1⟩ := toBl_eq e1
    refine ⟨Z, ρ, _, _, m, e1, fun v H1 p => ?_⟩
    obtain ⟨rfl, rfl⟩ := tE_test p
    refine ⟨false, rfl, ?_⟩
    rw [if_neg Bool.false_ne_true]
    exact k _ _ (.same p.m0 p.tr p.st rep_bl)
theorem s_or {a b : Expr} {rest : List Expr} {ra rb : RE} {pos : Pos} (ha : PE X a (tE X.w C ra)) (hb : PE X (.BoolOp .Or (b :: rest) pos) (tE X.w C rb)) : PE X (.BoolOp .Or (a :: b :: rest) pos) (tE X.w C (.or ra rb)) := by
  refine peImp (pe_or ha hb) fun σ H Q ⟨Z, ρ, o, ρ', m, ev, k⟩ => ?_
  simp only [evE] at ev
  split at ev
  · cases ev
  · rename_i ρ1 e1
    cases ev
    obtain ⟨fr, e1⟩ := toBl_eq e1
    refine ⟨Z, ρ, _, _, m, e1, fun v H1 p => ?_⟩
    obtain ⟨rfl, rfl⟩ := tE_test p
    refine ⟨true, rfl, ?_⟩
    rw [if_pos rfl]
    exact k _ _ (.same p.m0 p.tr p.st rep_bl)
  · rename_i ρ1 e1
    obtain ⟨fr, e1⟩ := toBl_eq e1
    refine ⟨Z, ρ, _, ρ1, m, e1, fun v H1 p => ?_⟩
    obtain ⟨rfl, rfl⟩ := tE_test p
    refine ⟨false, rfl, ?_⟩
    rw [if_neg Bool.false_ne_true]
    exact ⟨Z, ρ1, o, ρ', p.m0, ev, fun v' H' p' => k v' H' (p'.after p.tr p.st)⟩
theorem pwImp {X : Cx} {e : Expr} {t t' : TT} (h : PW X e t) (i : ∀ σ H Q, t' σ H Q → t σ H Q) : PW X e t' := ⟨fun wh pins s σ H Q I q => h.run wh pins s σ H Q I (i σ H Q q)⟩
theorem toBl_some {fr b : Bool} {ρ : Env} : toBl (some (.val fr (.bl b), ρ)) = some (b, ρ) := rfl
theorem s_andT {a b : Expr} {rest : List Expr} {ra rb : RE} {pos : Pos} (ha : PT X a (tT X.w C ra)) (hb : PW X (.BoolOp .And (b :: rest) pos) (tT X.w C rb)) : PW X (.BoolOp .And (a :: b :: rest) pos) (tT X.w C (.and ra rb)) := by
  refine pwImp (pw_and ha hb) fun σ H Q ⟨Z, ρ, b', ρ', m, ev, k⟩ => ?_
  simp only [evE] at ev
  cases q : toBl (evE C ra ρ) with
  | none => rw [q] at ev; cases ev
  | some p =>
    obtain ⟨c, ρ1⟩ := p
    rw [q] at ev
    refine ⟨Z, ρ, c, ρ1, m, q, fun H1 m1 t st => ?_⟩
    cases c with
    | true =>
      rw [if_pos rfl]
      exact ⟨Z, ρ1, b', ρ', m1, ev, fun H' m' t' st' => k H' m' (t.trans t') (st.trans t st')⟩
    | false =>
      rw [if_neg Bool.false_ne_true]
      simp only [toBl, Option.some.injEq, Prod.mk.injEq] at ev
      obtain ⟨rfl, rfl⟩ := ev
      exact k H1 m1 t st
theorem s_orT {a b : Expr} {rest : List Expr} {ra rb : RE} {pos : Pos} (ha : PT X a (tT X.w C ra)) (hb : PW X (.BoolOp .Or (b :: rest) pos) (tT X.w C rb)) : PW X (.BoolOp .Or (a :: b :: rest) pos) (tT X.w C (.or ra rb)) := by
  refine pwImp (pw_or ha hb) fun σ H Q ⟨Z, ρ, b', ρ', m, ev, k⟩ => ?_
  simp only [evE] at ev
  cases q : toBl (evE C ra ρ) with
  | none => rw [q] at ev; cases ev
  | some p =>
    obtain ⟨c, ρ1⟩ := p
    rw [q] at ev
    refine ⟨Z, ρ, c, ρ1, m, q, fun H1 m1 t st => ?_⟩
    cases c with
    | true =>
      rw [if_pos rfl]
      simp only [toBl, Option.some.injEq, Prod.mk.injEq] at ev
      obtain ⟨rfl, rfl⟩ := ev
      exact k H1 m1 t st
    | false =>
      rw [if_neg Bool.false_ne_true]
      exact ⟨Z, ρ1, b', ρ', m1, ev, fun H' m' t' st' => k H' m' (t.trans t') (st.trans t st')⟩
theorem s_ife {c a b : Expr} {rc ra rb : RE} {pos : Pos} (hc : PT X c (tT X.w C rc)) (ha : PE X a (tE X.w C ra)) (hb : PE X b (tE X.w C rb)) : PE X (.IfExp c a b pos) (tE X.w C (.ife rc ra rb)) := by
  refine peImp (pe_ifExp hc ha hb) fun σ H Q ⟨Z, ρ, o, ρ', m, ev, k⟩ => ?_
  simp only [evE] at ev
  cases q : toBl (evE C rc ρ) with
  | none => rw [q] at ev; cases ev
  | some p =>
    obtain ⟨c, ρ1⟩ := p
    rw [q] at ev
    refine ⟨Z, ρ, c, ρ1, m, q, fun H1 m1 t st => ?_⟩
    cases c with
    | true =>
      rw [if_pos rfl]
      exact ⟨Z, ρ1, o, ρ', m1, ev, fun v H' p => k v H' (p.after t st)⟩
    | false =>
      rw [if_neg Bool.false_ne_true]
      exact ⟨Z, ρ1, o, ρ', m1, ev, fun v H' p => k v H' (p.after t st)⟩

/-! ### displays -/
def tD (w : World) (C : CallS) (st : List Bool) (rs : List RE) : TA := fun σ H Q => ∃ Z ρ ds ρ', Match w Z ρ σ H ∧ evD C st rs ρ = some (ds, ρ') ∧ ∀ vs H', Match w Z ρ' σ H' → TrE ρ ρ' → Stp ρ σ H H' → Reps w (Ow Z ρ' σ) H' ds vs → Q vs H'
theorem s_dnil : PA X [] (tD X.w C [] []) := by
  refine paImp pa_nil fun σ H Q ⟨Z, ρ, ds, ρ', m, ev, k⟩ => ?_
  simp only [evD, Option.some.injEq, Prod.mk.injEq] at ev
  obtain ⟨rfl, rfl⟩ := ev
  exact k [] H m (.refl ρ) .refl .nil
theorem Reps.stay {w : World} {Z : Addr → Prop} {ρ ρ' : Env} {σ : St} {H H' : Hp} {ds : List D} {vs : List V} (h : Reps w (Ow Z ρ σ) H ds vs) (t : TrE ρ ρ') (st : Stp ρ σ H H') : Reps w (Ow Z ρ' σ) H' ds vs :=
  h.mono (fun a z => z.elim .inl fun z => .inr (t.own z)) fun a u e n => st.keep a u e fun z => n (.inr z.own)
theorem Rep.stay {w : World} {Z : Addr → Prop} {ρ ρ' : Env} {σ : St} {H H' : Hp} {d : D} {v : V} (h : Rep w (Ow Z ρ σ) H d v) (t : TrE ρ ρ') (st : Stp ρ σ H H') : Rep w (Ow Z ρ' σ) H' d v :=
  h.mono (fun a z => z.elim .inl fun z => .inr (t.own z)) fun a u e n => st.keep a u e fun z => n (.inr z.own)
theorem s_dcons {e : Expr} {es : List Expr} {r : RE} {st : List Bool} {rs : List RE} (he : PE X e (tE X.w C r)) (hr : PA X es (tD X.w C st rs)) (hs : starEach (e :: es) X.env = (false, eval e X.env) :: starEach es X.env) : PA X (e :: es) (tD X.w C (false :: st) (r :: rs)) := by
  refine paImp (pa_cons he hr hs) fun σ H Q ⟨Z, ρ, ds, ρ', m, ev, k⟩ => ?_
  simp only [evD] at ev
  split at ev
  · cases ev
  · rename_i fr d ρ1 e1
    split at ev
    · cases ev
    · rename_i ds' ρ2 e2
      cases ev
      have e1 := toVal_eq e1
      refine ⟨Z, ρ, _, ρ1, m, e1, fun v H1 p => ⟨Z, ρ1, ds', ρ', p.m0, e2, fun vs H' m' t' st' q => ?_⟩⟩
      exact k _ _ m' (p.tr.trans t') (p.st.trans p.tr st') (.cons (Rep.stay (ρ := ρ1) p.opd t' st') q)
theorem s_dstar {e : Expr} {es : List Expr} {r : RE} {st : List Bool} {rs : List RE} {p : Pos} (he : PE X e (tE X.w C r)) (hr : PA X es (tD X.w C st rs)) : PA X (.Starred e p :: es) (tD X.w C (true :: st) (r :: rs)) := by
  refine paImp (StX.pa_star he hr) fun σ H Q ⟨Z, ρ, ds, ρ', m, ev, k⟩ => ?_
  simp only [evD] at ev
  split at ev
  · cases ev
  · rename_i o ρ1 e1
    split at ev
    · rename_i l e2
      split at ev
      · cases ev
      · rename_i ds' ρ2 e3
        cases ev
        refine ⟨Z, ρ, o, ρ1, m, e1, fun v H1 p => ?_⟩
        obtain ⟨a, xs, rfl, ra, qa⟩ := repU_lst (p.opd.rd p.m0 e2)
        refine ⟨a, xs, rfl, .inr (.inl ra), Z, ρ1, ds', ρ', p.m0, e3, fun vs H' m' t' st' q => ?_⟩
        exact k _ _ m' (p.tr.trans t') (p.st.trans p.tr st') ((qa.stay t' st').append q)
    · rename_i l e2
      split at ev
      · cases ev
      · rename_i ds' ρ2 e3
        cases ev
        refine ⟨Z, ρ, o, ρ1, m, e1, fun v H1 p => ?_⟩
        obtain ⟨a, xs, rfl, _, ra, qa⟩ := repU_tup (p.opd.rd p.m0 e2)
        refine ⟨a, xs, rfl, .inl (.inl ra), Z, ρ1, ds', ρ', p.m0, e3, fun vs H' m' t' st' q => ?_⟩
        exact k _ _ m' (p.tr.trans t') (p.st.trans p.tr st') ((qa.stay t' st').append q)
    · cases ev
theorem s_tup {es : List Expr} {st : List Bool} {rs : List RE} {k0 : Nat} {pos : Pos} (h : PA X es (tD X.w C st rs)) : PE X (.Tuple es k0 pos) (tE X.w C (.tup st rs)) := by
  refine peImp (pe_tup h) fun σ H Q ⟨Z, ρ, o, ρ', m, ev, k⟩ => ?_
  simp only [evE] at ev
  split at ev
  · rename_i ds ρ1 e1
    split at ev
    · rename_i hl
      cases ev
      refine ⟨Z, ρ, ds, ρ', m, e1, fun vs H' m' t st q => ⟨by rw [q.length, sizeL]; exact hl, fun p hp => k _ _ (.tup m' t st hp q)⟩⟩
    · cases ev
  · cases ev
theorem s_lst {es : List Expr} {st : List Bool} {rs : List RE} {pos : Pos} (h : PA X es (tD X.w C st rs)) : PE X (.List es pos) (tE X.w C (.lst st rs)) := by
  refine peImp (pe_lst h) fun σ H Q ⟨Z, ρ, o, ρ', m, ev, k⟩ => ?_
  simp only [evE] at ev
  split at ev
  · rename_i ds ρ1 e1
    split at ev
    · rename_i hl
      cases ev
      refine ⟨Z, ρ, ds, ρ', m, e1, fun vs H' m' t st q => ⟨by rw [q.length, sizeL]; exact hl, fun p hp => k _ _ (.lst m' t st hp q)⟩⟩
    · cases ev
  · cases ev
end
end Ev

/-! Ev, part I: subscripts, operands, built-ins' calls, methods. -/
namespace Ev
open PySem PySem.Spec PyProof.Rows L2

/-! ### rows of operands -/
def freshA : List OV → List V → List Addr
  | .val true _ :: os, .ref a :: vs => a :: freshA os vs
  | _ :: os, _ :: vs => freshA os vs
  | _, _ => []
def OpsOk (w : World) (O : Addr → Prop) (H : Hp) (σ : St) : List OV → List V → Prop
  | [], vs => vs = []
  | .val true d :: os, vs => ∃ a r, vs = V.ref a :: r ∧ RepT w O H d a ∧ OpsOk w O H σ os r
  | .val false d :: os, vs => ∃ v r, vs = v :: r ∧ Rep w O H d v ∧ OpsOk w O H σ os r
  | .plc i :: os, vs => ∃ v r, vs = v :: r ∧ σ[i]? = some (some v) ∧ OpsOk w O H σ os r
structure PostL (w : World) (Z : Addr → Prop) (ρ : Env) (σ : St) (H : Hp) (os : List OV) (ρ' : Env) (vs : List V) (H' : Hp) : Prop where
  m : Match w (fun a => Z a ∨ a ∈ freshA os vs) ρ' σ H'
  tr : TrE ρ ρ'
  st : Stp ρ σ H H'
  nd : (freshA os vs).Nodup
  nw : ∀ a ∈ freshA os vs, H a = none ∨ MutA ρ σ a
  ops : OpsOk w (Ow (fun a => Z a ∨ a ∈ freshA os vs) ρ' σ) H' σ os vs
def tL (w : World) (C : CallS) (rs : List RE) : TA := fun σ H Q => ∃ Z ρ os ρ', Match w Z ρ σ H ∧ evL C rs ρ = some (os, ρ') ∧ ∀ vs H', PostL w Z ρ σ H os ρ' vs H' → Q vs H'
section
variable {w : World} {O O' P : Addr → Prop} {H H' : Hp} {σ : St}
mutual
theorem Rep.moreP (hp : ∀ a, P a → H a = none ∨ O a) : ∀ {d : D} {v : V}, Rep w O H d v → Rep w (fun a => O a ∨ P a) H d v
  | .non, _, h => by simpa [Rep] using h
  | .bl _, _, h => by simpa [Rep] using h
  | .int _, _, h => by simpa [Rep] using h
  | .str _, _, h => by simpa [Rep] using h
  | .tup l, _, h => by
    unfold Rep at h ⊢
    obtain ⟨a, xs, e, n, r, q⟩ := h
    refine ⟨a, xs, e, fun z => z.elim n fun z => (hp a z).elim (fun z => ?_) n, r, Reps.moreP hp q⟩
    obtain ⟨o, ho⟩ := rdSome r
    rw [z] at ho; cases ho
  | .lst l, _, h => by
    unfold Rep at h ⊢
    obtain ⟨a, xs, e, n, r, q⟩ := h
    refine ⟨a, xs, e, fun z => z.elim n fun z => (hp a z).elim (fun z => ?_) n, r, Reps.moreP hp q⟩
    obtain ⟨o, ho⟩ := rdSome r
    rw [z] at ho; cases ho
  | .dct ks vs, _, h => by
    unfold Rep at h ⊢
    obtain ⟨a, xs, ys, e, n, r, q1, q2⟩ := h
    refine ⟨a, xs, ys, e, fun z => z.elim n fun z => (hp a z).elim (fun z => ?_) n, r, Reps.moreP hp q1, Reps.moreP hp q2⟩
    obtain ⟨o, ho⟩ := r.there
    rw [z] at ho; cases ho
theorem Reps.moreP (hp : ∀ a, P a → H a = none ∨ O a) : ∀ {ds : List D} {vs : List V}, Reps w O H ds vs → Reps w (fun a => O a ∨ P a) H ds vs
  | [], _, h => by simpa [Reps] using h
  | d :: ds, _, h => by
    unfold Reps at h ⊢
    obtain ⟨x, r, e, h1, h2⟩ := h
    exact ⟨x, r, e, Rep.moreP hp h1, Reps.moreP hp h2⟩
end
theorem RepT.moreP (hp : ∀ a, P a → H a = none ∨ O a) {d : D} {a : Addr} (h : RepT w O H d a) : RepT w (fun a => O a ∨ P a) H d a := by
  cases d with
  | lst l => obtain ⟨xs, e, q⟩ := h; exact ⟨xs, e, q.moreP hp⟩
  | dct ks vs => obtain ⟨xs, ys, r, q1, q2⟩ := h; exact ⟨xs, ys, r, q1.moreP hp, q2.moreP hp⟩
  | _ => exact h.elim
theorem OpsOk.len : ∀ {os : List OV} {vs : List V}, OpsOk w O H σ os vs → vs.length = os.length
  | [], vs, h => by rw [show vs = [] from h]; rfl
  | .val true d :: os, vs, h => by obtain ⟨a, r, rfl, _, t⟩ := h; simp [OpsOk.len t]
  | .val false d :: os, vs, h => by obtain ⟨a, r, rfl, _, t⟩ := h; simp [OpsOk.len t]
  | .plc i :: os, vs, h => by obtain ⟨a, r, rfl, _, t⟩ := h; simp [OpsOk.len t]
theorem OpsOk.us {Z : Addr → Prop} {ρ : Env} (m : Match w Z ρ σ H) : ∀ {os : List OV} {vs : List V} {ds : List D}, OpsOk w (Ow Z ρ σ) H σ os vs → rds ρ os = some ds → RepUs w (Ow Z ρ σ) H ds vs
  | [], vs, ds, h, e => by
    simp only [rds, Option.some.injEq] at e
    subst e
    exact h
  | o :: os, vs, ds, h, e => by
    simp only [rds] at e
    split at e
    · rename_i d ds' e1 e2
      cases e
      cases o with
      | plc i =>
        obtain ⟨v, r, rfl, h1, h2⟩ := h
        exact ⟨v, r, rfl, m.get e1 h1, OpsOk.us m h2 e2⟩
      | val fr d' =>
        have e1 : some d' = some d := e1
        cases e1
        cases fr with
        | true =>
          obtain ⟨a, r, rfl, h1, h2⟩ := h
          exact ⟨_, r, rfl, h1.u, OpsOk.us m h2 e2⟩
        | false =>
          obtain ⟨v, r, rfl, h1, h2⟩ := h
          exact ⟨v, r, rfl, h1.u, OpsOk.us m h2 e2⟩
    · cases e
end
section
variable {X : Cx} {C : CallS}
theorem s_lnil : PA X [] (tL X.w C []) := by
  refine paImp pa_nil fun σ H Q ⟨Z, ρ, os, ρ', m, ev, k⟩ => ?_
  simp only [evL, Option.some.injEq, Prod.mk.injEq] at ev
  obtain ⟨rfl, rfl⟩ := ev
  exact k [] H ⟨m.mono fun a z => z.elim id fun z => (nomatch z), .refl ρ, .refl, List.nodup_nil, fun a z => (nomatch z), rfl⟩
theorem Match.cong {w : World} {Z Z' : Addr → Prop} {ρ : Env} {σ : St} {H : Hp} (m : Match w Z ρ σ H) (h : ∀ a, Z' a ↔ Z a) : Match w Z' ρ σ H := m.mono fun a z => (h a).mp z
theorem PostL.cons {w : World} {Z : Addr → Prop} {ρ ρ1 ρ2 : Env} {σ : St} {H H1 H2 : Hp} {o : OV} {os : List OV} {v : V} {vs : List V} (p : PostE w Z ρ σ H o ρ1 v H1) (q : PostL w (Zf Z v o) ρ1 σ H1 os ρ2 vs H2) : PostL w Z ρ σ H (o :: os) ρ2 (v :: vs) H2 := by
  have hO : ∀ b, b ∈ freshA os vs → H1 b = none ∨ Ow (Zf Z v o) ρ1 σ b := fun b z => (q.nw b z).imp_right fun z => .inr z.own
  have key : ∀ b, Ow (fun a => Zf Z v o a ∨ a ∈ freshA os vs) ρ2 σ b → Ow (Zf Z v o) ρ1 σ b ∨ b ∈ freshA os vs := fun b z => by
    rcases z with (z | z) | z
    · exact .inl (.inl z)
    · exact .inr z
    · exact .inl (.inr (q.tr.own z))
  have nwt : ∀ b ∈ freshA os vs, H b = none ∨ MutA ρ σ b := fun b z => by
    rcases q.nw b z with z | z
    · exact .inl (p.st.none_back z)
    · exact .inr (p.tr.mut z)
  have res := p.res
  cases o with
  | plc i => exact ⟨q.m, p.tr.trans q.tr, p.st.trans p.tr q.st, q.nd, nwt, ⟨v, vs, rfl, res, q.ops⟩⟩
  | val fr d =>
    cases fr with
    | false =>
      have res : Rep w (Ow Z ρ1 σ) H1 d v := res
      refine ⟨q.m, p.tr.trans q.tr, p.st.trans p.tr q.st, q.nd, nwt, ⟨v, vs, rfl, ?_, q.ops⟩⟩
      exact (res.moreP hO).mono key fun a u e n => q.st.keep a u e fun z => n (.inl (.inr z.own))
    | true =>
      obtain ⟨a, rfl, n, nw, r⟩ := res
      have hz : ∀ b, (Z b ∨ b ∈ freshA (.val true d :: os) (.ref a :: vs)) ↔ (Zf Z (.ref a) (.val true d) b ∨ b ∈ freshA os vs) := fun b => by
        show (Z b ∨ b ∈ a :: freshA os vs) ↔ ((Z b ∨ V.ref a = .ref b) ∨ b ∈ freshA os vs)
        simp only [List.mem_cons, V.ref.injEq]
        constructor
        · rintro (h | h | h)
          · exact .inl (.inl h)
          · exact .inl (.inr h.symm)
          · exact .inr h
        · rintro ((h | h) | h)
          · exact .inl h
          · exact .inr (.inl h.symm)
          · exact .inr (.inr h)
      have hzo : ∀ b, Ow (fun b => Z b ∨ b ∈ freshA (.val true d :: os) (.ref a :: vs)) ρ2 σ b ↔ Ow (fun b => Zf Z (.ref a) (.val true d) b ∨ b ∈ freshA os vs) ρ2 σ b := fun b => by
        exact or_congr_left (hz b)
      have nM : ¬ MutA ρ1 σ a := fun z => n (.inr z.own)
      refine ⟨q.m.cong hz, p.tr.trans q.tr, p.st.trans p.tr q.st, ?_, fun b z => ?_, ⟨a, vs, rfl, ?_, ?_⟩⟩
      · show (a :: freshA os vs).Nodup
        refine List.nodup_cons.mpr ⟨fun z => ?_, q.nd⟩
        rcases q.nw a z with z | z
        · obtain ⟨u, hu⟩ := r.there
          rw [hu] at z; cases z
        · exact nM z
      · have z : b ∈ a :: freshA os vs := z
        rcases List.mem_cons.mp z with rfl | z
        · exact nw
        · exact nwt b z
      · have r' : RepT w (Ow (Zf Z (.ref a) (.val true d)) ρ1 σ) H1 d a := r.mono (fun b z => by
          rcases z with (z | z) | z
          · exact .inl (.inl z)
          · cases z; exact .inr rfl
          · exact .inl (.inr z)) (fun _ _ e _ => e) fun _ e => e
        refine (r'.moreP hO).mono (fun b z => key b ((hzo b).mp z)) (fun b u e nn => q.st.keep b u e fun z => nn (.inl (.inr z.own))) fun u e => q.st.keep a u e nM
      · have mo : ∀ {os : List OV} {vs : List V}, OpsOk w (Ow (fun b => Zf Z (.ref a) (.val true d) b ∨ b ∈ freshA os vs) ρ2 σ) H2 σ os vs → True := fun _ => trivial
        have go : ∀ (O O' : Addr → Prop), (∀ b, O' b → O b) → ∀ {os : List OV} {vs : List V}, OpsOk w O H2 σ os vs → OpsOk w O' H2 σ os vs := by
          intro O O' h os
          induction os with
          | nil => intro vs x; exact x
          | cons o os ih =>
            intro vs x
            cases o with
            | plc i => obtain ⟨v, r, e, h1, h2⟩ := x; exact ⟨v, r, e, h1, ih h2⟩
            | val fr d =>
              cases fr with
              | true => obtain ⟨v, r, e, h1, h2⟩ := x; exact ⟨v, r, e, h1.mono h (fun _ _ e _ => e) fun _ e => e, ih h2⟩
              | false => obtain ⟨v, r, e, h1, h2⟩ := x; exact ⟨v, r, e, h1.mono h fun _ _ e _ => e, ih h2⟩
        exact go _ _ (fun b z => (hzo b).mp z) q.ops
theorem s_lcons {e : Expr} {es : List Expr} {r : RE} {rs : List RE} (he : PE X e (tE X.w C r)) (hr : PA X es (tL X.w C rs)) (hs : starEach (e :: es) X.env = (false, eval e X.env) :: starEach es X.env) : PA X (e :: es) (tL X.w C (r :: rs)) := by
  refine paImp (pa_cons he hr hs) fun σ H Q ⟨Z, ρ, os, ρ', m, ev, k⟩ => ?_
  simp only [evL] at ev
  split at ev
  · cases ev
  · rename_i o ρ1 e1
    split at ev
    · cases ev
    · rename_i os' ρ2 e2
      cases ev
      exact ⟨Z, ρ, o, ρ1, m, e1, fun v H1 p => ⟨Zf Z v o, ρ1, os', _, p.m, e2, fun vs H2 q => k _ _ (PostL.cons p q)⟩⟩
theorem PostL.m0 {w : World} {Z : Addr → Prop} {ρ ρ' : Env} {σ : St} {H H' : Hp} {os : List OV} {vs : List V} (p : PostL w Z ρ σ H os ρ' vs H') : Match w Z ρ' σ H' := p.m.mono fun _ => .inl
theorem PostL.us {w : World} {Z : Addr → Prop} {ρ ρ' : Env} {σ : St} {H H' : Hp} {os : List OV} {vs : List V} {ds : List D} (p : PostL w Z ρ σ H os ρ' vs H') (e : rds ρ' os = some ds) : RepUs w (Ow (fun a => Z a ∨ a ∈ freshA os vs) ρ' σ) H' ds vs := p.ops.us p.m e
theorem New.le {w : World} {O O' : Addr → Prop} {H H' : Hp} {fr : Bool} {z : D} {v : V} (n : New w O H fr z v H') (h : ∀ a, O' a → O a) : New w O' H fr z v H' := by
  rcases n with ⟨c, e, r⟩ | ⟨p, hp, e, ⟨l, xs, c, e1, e2, r⟩ | ⟨u, c, e2, r⟩⟩
  · exact .inl ⟨c, e, r.mono h fun _ _ e _ => e⟩
  · exact .inr ⟨p, hp, e, .inl ⟨l, xs, c, e1, e2, r.mono h fun _ _ e _ => e⟩⟩
  · exact .inr ⟨p, hp, e, .inr ⟨u, c, e2, r.mono (fun a z => z.imp_left (h a)) (fun _ _ e _ => e) fun _ e => e⟩⟩
theorem Ow_le {Z : Addr → Prop} {P : Addr → Prop} {ρ : Env} {σ : St} {a : Addr} (h : Ow Z ρ σ a) : Ow (fun a => Z a ∨ P a) ρ σ a := h.imp_left .inl
/-- a built-in's call by values -/
theorem bi_core {f : Value} {b : BI} {rs : List RE} {r : List V → Hp → VK → Prop} {σ : St} {H : Hp} {Q : VK} {Z : Addr → Prop} {ρ ρ' : Env} {o : OV}
    (hk : ∀ (O : Addr → Prop) (H : Hp) (ds : List D) (vs : List V) (fr : Bool) (z : D) (Q : VK), RepUs X.w O H ds vs → biD b ds = some (fr, z) → (∀ v H', New X.w O H fr z v H' → Q v H') → r vs H Q)
    (m : Match X.w Z ρ σ H) (ev : evE C (.bi b rs) ρ = some (o, ρ')) (k : ∀ v H', PostE X.w Z ρ σ H o ρ' v H' → Q v H') : tCB r (tL X.w C rs) σ H Q := by
  simp only [evE] at ev
  split at ev
  · cases ev
  · rename_i os ρ1 e1
    split at ev
    · cases ev
    · rename_i ds e2
      split at ev
      · cases ev
      · rename_i fr d e3
        cases ev
        refine ⟨Z, ρ, os, _, m, e1, fun vs H1 p => ?_⟩
        exact hk _ H1 ds vs fr d Q (p.us e2) e3 fun v H' n => k v H' ((n.le fun _ => Ow_le).post p.m0 p.tr p.st)
theorem s_biB {x : Str} {id : String} {p pos : Pos} {e : Expr} {es : List Expr} {b : BI} {rs : List RE} (hb : BiOk X (.builtin id) (biD b)) (hg : Gl X x) (hm : X.mg x = none) (hv : bootBuiltins x = some (.builtin id)) (ha : PA X (e :: es) (tL X.w C rs)) (hn : x ≠ "__name__") (hdb : (x == ("__debug__" : Str)) = false)
    (he : starEach (e :: es) X.env = (false, eval e X.env) :: starEach es X.env) (hpl : (backTo pos (starEach es X.env)).any (·.1) = false) : PE X (.Call (.Name x p) (e :: es) [] pos) (tE X.w C (.bi b rs)) := by
  obtain ⟨r, hr, hk⟩ := hb.ex
  exact peImp (pe_callB hr hg hm hv ha hn hdb he hpl) fun σ H Q ⟨Z, ρ, o, ρ', m, ev, k⟩ => bi_core (f := .builtin id) hk m ev k
theorem s_biT {x : Str} {T : String} {p pos : Pos} {e : Expr} {es : List Expr} {b : BI} {rs : List RE} (hb : BiOk X (.type T) (biD b)) (hg : Gl X x) (hm : X.mg x = none) (hv : bootBuiltins x = some (.type T)) (ha : PA X (e :: es) (tL X.w C rs)) (hn : x ≠ "__name__") (hdb : (x == ("__debug__" : Str)) = false)
    (he : starEach (e :: es) X.env = (false, eval e X.env) :: starEach es X.env) (hpl : (backTo pos (starEach es X.env)).any (·.1) = false) : PE X (.Call (.Name x p) (e :: es) [] pos) (tE X.w C (.bi b rs)) := by
  obtain ⟨r, hr, hk⟩ := hb.ex
  exact peImp (pe_callTy hr hg hm hv ha hn hdb he hpl) fun σ H Q ⟨Z, ρ, o, ρ', m, ev, k⟩ => bi_core (f := .type T) hk m ev k

/-! ### subscripts -/
theorem atI_ixN {α : Type} {l : List α} {i : Int} {j : Nat} {x : α} (h1 : ixN l.length i = some j) (h2 : l[j]? = some x) : L2.atI l i = some x := by
  unfold L2.atI
  have e : L2.ixN l.length i = some j := h1
  rw [e]
  exact h2
def rIxD (w : World) : R2 := fun x y H Q => ∃ a v, x = .ref a ∧ DLook w H a y (some v) ∧ Q v H
theorem dl_obj {pins : List (Addr × Obj)} {σ : St} {H : Hp} {s : Shared} {a : Addr} {y : V} {r : Option V} (I : Inv X pins σ H s) (h : DLook X.w H a y r) : ∃ o, s.heap.get? a = some o ∧ o.ExactDict := by
  obtain ⟨O, k, ks, xs, ys, hd, _⟩ := h
  exact dct_there I hd
theorem ix_dct (hu : X.A.units + 200 < cLine) : IxR X (rIxD X.w) := fun value slice pins s σ H x y v u Q I rx ry h hs => by
  obtain ⟨a, z, rfl, hl, q⟩ := h
  cases rx
  obtain ⟨o, ho, hx⟩ := dl_obj I hl
  exact tail_any ⟨o, ho, hx.1⟩ PySem.F.slot_dict_getitem.lookup (dl_getItem hu I hl ry fun w' s' I' rw' => ⟨z, H, I', rw', q⟩) hs
theorem s_ix {a i : Expr} {ra ri : RE} {pos : Pos} (hu : X.A.units + 200 < cLine) (ha : PE X a (tE X.w C ra)) (hi : PE X i (tE X.w C ri)) (hs : PlainIx i) : PE X (.Subscript a i pos) (tE X.w C (.ix ra ri)) := by
  refine peImp (pe_ix (ix_list.or (ix_tup.or (ix_dct hu))) ha hi hs) fun σ H Q ⟨Z, ρ, o, ρ', m, ev, k⟩ => ?_
  simp only [evE] at ev
  split at ev
  · cases ev
  · rename_i oa ρ1 e1
    split at ev
    · cases ev
    · rename_i oi ρ2 e2
      split at ev
      · rename_i x y q1 q2
        split at ev
        · rename_i z e3
          cases ev
          refine two m e1 e2 fun vx vy H2 m2 t st p1 p2 => ?_
          have hx := p1.rd m2 q1
          have hy := p2.rd m2 q2
          unfold ixD at e3
          split at e3
          · rename_i l i
            split at e3
            · rename_i j hj
              obtain ⟨b, xs, rfl, rb, qb⟩ := repU_lst hx
              cases repU_int hy
              obtain ⟨v, hv, rv⟩ := qb.get e3
              exact .inl ⟨b, xs, i, v, rfl, rfl, .inl rb, atI_ixN (by rw [qb.length]; exact hj) hv, k _ _ (.same m2 t st rv)⟩
            · cases e3
          · rename_i l i
            split at e3
            · rename_i j hj
              obtain ⟨b, xs, rfl, _, rb, qb⟩ := repU_tup hx
              cases repU_int hy
              obtain ⟨v, hv, rv⟩ := qb.get e3
              exact .inr (.inl ⟨b, xs, i, v, rfl, rfl, .inl rb, atI_ixN (by rw [qb.length]; exact hj) hv, k _ _ (.same m2 t st rv)⟩)
            · cases e3
          · rename_i ks vs
            split at e3
            · rename_i hc
              obtain ⟨b, xs, ys, rfl, hd, h1, h2⟩ := hx
              unfold dget at e3
              split at e3
              · rename_i j hf
                obtain ⟨v, hv, rv⟩ := h2.get e3
                exact .inr (.inr ⟨b, v, rfl, ⟨_, y, ks, xs, ys, hd, h1, keyOk_rep hc hy, hc, by rw [hf]; exact hv.symm⟩, k _ _ (.same m2 t st rv)⟩)
              · cases e3
            · cases e3
          · cases e3
        · cases ev
      · cases ev

/-! ### slices -/
theorem cutIx_eq (n d : Nat) (o : Option Int) : cutIx n d o = HT.sIx n d o := by
  cases o <;> rfl
/-- a part of a slice: left out, or an int -/
def tO (w : World) (C : CallS) (r : RE) : TO := fun σ H Q => ∃ Z ρ o ρ', Match w Z ρ σ H ∧ (if isNop r then some (none, ρ) else toInt (evE C r ρ)) = some (o, ρ') ∧ ∀ H', Match w Z ρ' σ H' → TrE ρ ρ' → Stp ρ σ H H' → Q o H'
theorem poImp {e : Option Expr} {t t' : TO} (h : PO X e t) (i : ∀ σ H Q, t' σ H Q → t σ H Q) : PO X e t' := ⟨fun pins s σ H Q I q => h.run pins s σ H Q I (i σ H Q q)⟩
theorem s_onone : PO X none (tO X.w C .nop) := by
  refine poImp po_none fun σ H Q ⟨Z, ρ, o, ρ', m, ev, k⟩ => ?_
  simp only [isNop, if_true, Option.some.injEq, Prod.mk.injEq] at ev
  obtain ⟨rfl, rfl⟩ := ev
  exact k H m (.refl ρ) .refl
theorem s_osome {e : Expr} {r : RE} (h : PE X e (tE X.w C r)) (hr : isNop r = false) : PO X (some e) (tO X.w C r) := by
  refine poImp (po_some h) fun σ H Q ⟨Z, ρ, o, ρ', m, ev, k⟩ => ?_
  rw [hr, if_neg Bool.false_ne_true] at ev
  obtain ⟨fr, i, rfl, ev'⟩ := toInt_eq ev
  refine ⟨Z, ρ, _, ρ', m, ev', fun v H' p => ?_⟩
  obtain ⟨rfl, q⟩ := tE_bl rfl p
  simp [Rep] at q
  exact ⟨i, q, k H' p.m0 p.tr p.st⟩
theorem Reps.cut {w : World} {O : Addr → Prop} {H : Hp} {l : List D} {xs : List V} (h : Reps w O H l xs) (lo hi : Option Int) : Reps w O H (cutD l lo hi) (cutV xs lo hi) := by
  unfold cutD cutV
  rw [cutIx_eq, cutIx_eq, h.length]
  exact (h.drop _).take _
theorem cut_whole {l : List D} {lo hi : Option Int} (h : cutIx l.length 0 lo = 0 ∧ cutIx l.length l.length hi = l.length) : cutD l lo hi = l := by
  unfold cutD
  rw [h.1, h.2, List.drop_zero, Nat.sub_zero, List.take_length]
theorem s_slc {a : Expr} {lo hi : Option Expr} {ra rl rh : RE} {p2 pos : Pos} (ha : PE X a (tE X.w C ra)) (hl : PO X lo (tO X.w C rl)) (hh : PO X hi (tO X.w C rh)) : PE X (.Subscript a (.Slice lo hi none p2) pos) (tE X.w C (.slc ra rl rh)) := by
  refine peImp (pe_slice (sl_list.or sl_tupA) ha hl hh) fun σ H Q ⟨Z, ρ, o, ρ', m, ev, k⟩ => ?_
  simp only [evE] at ev
  split at ev
  · cases ev
  · rename_i oa ρ1 e1
    split at ev
    · cases ev
    · rename_i l ρ2 e2
      split at ev
      · cases ev
      · rename_i h ρ3 e3
        split at ev
        · rename_i x q1
          split at ev
          · rename_i fr z e4
            cases ev
            refine ⟨Z, ρ, oa, ρ1, m, e1, fun vx H1 pa => ⟨Z, ρ1, l, ρ2, pa.m0, e2, fun H2 m2 t2 st2 => ⟨Z, ρ2, h, _, m2, e3, fun H3 m3 t3 st3 => ?_⟩⟩⟩
            have t : TrE ρ _ := pa.tr.trans (t2.trans t3)
            have st : Stp ρ σ H H3 := pa.st.trans pa.tr (st2.trans t2 st3)
            have hx := ((pa.opd.stay t2 st2).stay t3 st3).rd m3 q1
            unfold slcD at e4
            split at e4
            · cases e4
              obtain ⟨b, xs, rfl, rb, qb⟩ := repU_lst hx
              exact .inl ⟨b, xs, rfl, .inl rb, fun p hp => k _ _ (.lst m3 t st hp (qb.cut l h))⟩
            · cases e4
              obtain ⟨b, xs, rfl, nb, rb, qb⟩ := repU_tup hx
              refine .inr ⟨b, xs, rfl, .inl rb, fun whole => ?_, fun _ p hp => k _ _ (.tup m3 t st hp (qb.cut l h))⟩
              have all : cutD _ l h = _ := cut_whole (by rw [← qb.length]; rw [← cutIx_eq, ← cutIx_eq] at whole; exact whole)
              rw [all] at k
              exact k _ _ (.same m3 t st (rep_tup nb rb qb))
            · cases e4
          · cases ev
        · cases ev

/-! ### methods -/
/-- of the type T, and not with a dict of its own -/
def TyS (X : Cx) (T : String) (x : V) (H : Hp) : Prop := ∀ (pins : List (Addr × Obj)) (σ : St) (s : Shared) (v : Value), Inv X pins σ H s → RelV x v → s.TypeIs v T ∧ ∀ a, v = .ref a → ∃ ob, s.heap.get? a = some ob ∧ ob.dict = none
theorem tys_lst {H : Hp} {a : Addr} {xs : List V} (h : Rd H a (.lst xs)) : TyS X "list" (.ref a) H := fun pins σ s v I r => tyV_is I r (show tyV X.K "list" (.ref a) H from .inl ⟨rfl, xs, .inl h⟩)
theorem tys_dct {H : Hp} {a : Addr} {ks : List D} {xs ys : List V} (h : DctO X.w H a ks xs ys) : TyS X "dict" (.ref a) H := fun pins σ s v I r => by
  cases r
  obtain ⟨o, ho, hx⟩ := dct_there I h
  refine ⟨⟨o, ho, hx.1⟩, fun b e => ?_⟩
  cases e
  exact ⟨o, ho, hx.2.1⟩
/-- an own list is a list for the library's rules of methods -/
theorem own_ty {H : Hp} {a : Addr} {xs : List V} (h : Rd H a (.lst xs)) : tyV X.K "list" (.ref a) H := .inl ⟨rfl, xs, .inl h⟩
end
/-! arguments without stars -/
def notStar : Expr → Bool
  | .Starred _ _ => false
  | _ => true
section
variable {env : PySem.Env} {pos : Pos}
theorem star_of {e : Expr} {es : List Expr} (h : notStar e = true) : starEach (e :: es) env = (false, eval e env) :: starEach es env := by
  cases e <;> first | rfl | cases h
theorem star_rows : ∀ {es : List Expr}, es.all notStar = true → ∀ x ∈ backTo pos (starEach es env), x.1 = false
  | [], _, x, hx => (nomatch hx)
  | e :: es, h, x, hx => by
    obtain ⟨h1, h2⟩ := Bool.and_eq_true_iff.mp (List.all_cons ▸ h)
    rw [star_of h1] at hx
    cases hx with
    | head => rfl
    | tail _ hx => exact star_rows h2 x hx
theorem stars_any {es : List Expr} (h : es.all notStar = true) : (backTo pos (starEach es env)).any (·.1) = false :=
  List.any_eq_false.mpr fun x hx => by rw [star_rows h x hx]; exact Bool.false_ne_true
theorem stars_all {es : List Expr} (h : es.all notStar = true) : (backTo pos (starEach es env)).all (fun x => !x.1) = true :=
  List.all_eq_true.mpr fun x hx => by rw [star_rows h x hx]; rfl
end
/-! a method with operands in a row -/
theorem meth_rows {M : Model} {A : Around} {E : Value → Shared → Prop} {s : Shared} {pos : Pos} {id : String} {v : Value} {rows : List (Bool × Sem Value)} {Q : Value → Shared → Prop} (hr : ∀ x ∈ rows, x.1 = false) (hn : rows ≠ [])
    (h : wpAny M A (spliced rows) (fun us s1 => wpAny M A (call (.builtin id) (v :: us)) Q E s1) E s) : wpAny M A (callWith pos (.builtin id) [v] rows []) Q E s := by
  match rows, hn with
  | (b, x) :: rest, _ =>
    obtain rfl : b = false := hr (b, x) List.mem_cons_self
    exact Calls.callWith_builtin (List.any_eq_false.mpr fun y hy => by rw [hr y hy]; exact Bool.false_ne_true) (Calls.evalArgs_plain h)
end Ev

/-! Ev, part J: get, pop, displays of dicts, calls of defs. -/
namespace Ev
open PySem PySem.Spec PyProof.Rows L2

section
variable {X : Cx} {C : CallS}
/-! ### d.get -/
def rGetD (w : World) : V → List V → Hp → VK → Prop := fun x vs H Q => ∃ a y, x = .ref a ∧ ((∃ o, vs = [y] ∧ DLook w H a y o ∧ Q (o.getD .non) H) ∨ ∃ o z, vs = [y, z] ∧ DLook w H a y o ∧ Q (o.getD z) H)
theorem mt_getD (hu : X.A.units + 200 < cLine) : MtR X "dict.get" (rGetD X.w) := fun pins s σ H x xs v us Q I rx rs h => by
  obtain ⟨a, y, rfl, ⟨o, rfl, g, q⟩ | ⟨o, z, rfl, g, q⟩⟩ := h
  · cases rx
    obtain ⟨u, rfl, ru⟩ := rs.one
    exact dl_get1 hu I g ru fun w' s' I' rw' => ⟨_, H, I', rw', q⟩
  · cases rx
    obtain ⟨u, u2, rfl, ru, ru2⟩ := rs.two
    exact dl_get2 hu I g ru ru2 fun w' s' I' rw' => ⟨_, H, I', rw', q⟩
theorem PostL.free {w : World} {Z : Addr → Prop} {ρ ρ' : Env} {σ : St} {H H' : Hp} {os : List OV} {vs : List V} (m : Match w Z ρ σ H) (p : PostL w Z ρ σ H os ρ' vs H') : ∀ a ∈ freshA os vs, ¬ Ow Z ρ' σ a := fun a ha z => by
  rcases z with z | z
  · rcases p.nw a ha with q | q
    · exact m.zt a z q
    · exact m.zo a q.own z
  · exact p.m.zo a z (.inr ha)
theorem OpsOk.reps {w : World} {O O' : Addr → Prop} {ρ : Env} {σ : St} {H : Hp} (hO : ∀ a, O' a → O a) : ∀ {os : List OV} {vs : List V} {ds : List D}, OpsOk w O H σ os vs → (∀ a ∈ freshA os vs, ¬ O' a) → os.all isVal = true → rds ρ os = some ds → Reps w O' H ds vs
  | [], vs, ds, h, _, _, e => by
    simp only [rds, Option.some.injEq] at e
    subst e
    rw [show vs = [] from h]
    exact .nil
  | o :: os, vs, ds, h, n, k, e => by
    simp only [rds] at e
    simp only [List.all_cons, Bool.and_eq_true] at k
    split at e
    · rename_i d ds' e1 e2
      cases e
      cases o with
      | plc i => simp [isVal] at k
      | val fr d' =>
        have e1 : some d' = some d := e1
        cases e1
        cases fr with
        | true =>
          obtain ⟨a, r, rfl, h1, h2⟩ := h
          exact .cons ((h1.mono hO (fun _ _ e _ => e) fun _ e => e).rep (n a List.mem_cons_self)) (OpsOk.reps hO h2 (fun b hb => n b (List.mem_cons_of_mem _ hb)) k.2 e2)
        | false =>
          obtain ⟨v, r, rfl, h1, h2⟩ := h
          refine .cons (h1.mono hO fun _ _ e _ => e) (OpsOk.reps hO h2 (fun b hb => n b ?_) k.2 e2)
          exact hb
    · cases e
/-- the reading of a method of T's with operands in a row -/
theorem pe_mth {T id : String} {name : Str} {rr : V → List V → Hp → VK → Prop} {o : Expr} {es : List Expr} {to : TE} {ta : TA} {apos cpos : Pos} (pl : PlainAttrs T) (sl : Slot T name id) (ty : typeOf (.builtin id) = pure (.type "method_descriptor")) (hm : MtR X id rr)
    (ho : PE X o to) (ha : PA X es ta) (hb : attributeBase o name X.env (eval o X.env) = eval o X.env) (hs : es.all notStar = true) (hn : es ≠ []) (hl : es.length < 30) (line : (apos.endLine == cpos.line) = true) :
    PE X (.Call (.Attribute o name apos) es [] cpos) (fun σ H Q => to σ H fun x H1 => TyS X T x H1 ∧ ta σ H1 fun xs H2 => rr x xs H2 Q) := by
  have rows : backTo cpos (starEach es X.env) ≠ [] := by
    cases es with
    | nil => exact absurd rfl hn
    | cons e r => rw [star_of (List.all_eq_true.mp hs e List.mem_cons_self)]; exact List.cons_ne_nil _ _
  constructor
  intro pins s σ H Q I h
  apply wpAny_Call_method hb (by rw [stars_all hs]; simp [keywordEach, backToKw, hl]) line pl sl ty
  apply thn (ho.run pins s σ H _ I h)
  rintro v s1 ⟨x, H1, I1, rx, known, h1⟩
  obtain ⟨k1, k2⟩ := known pins σ s1 v I1 rx
  exact ⟨k1, k2, meth_rows (star_rows hs) rows (thn (ha.run cpos pins s1 σ H1 _ I1 h1) fun us s2 ⟨xs, H2, I2, rs, h2⟩ => hm pins s2 σ H2 x xs v us Q I2 rx rs h2)⟩
theorem s_get {o : Expr} {es : List Expr} {ro : RE} {rs : List RE} {apos cpos : Pos} (hu : X.A.units + 200 < cLine) (ho : PE X o (tE X.w C ro)) (ha : PA X es (tL X.w C rs))
    (hb : attributeBase o "get" X.env (eval o X.env) = eval o X.env) (hs : es.all notStar = true) (hn : es ≠ []) (hl : es.length < 30) (hline : (apos.endLine == cpos.line) = true) :
    PE X (.Call (.Attribute o "get" apos) es [] cpos) (tE X.w C (.mth .get ro rs)) := by
  refine peImp (pe_mth PySem.F.plainAttrs_dict PySem.F.slot_dict_get PySem.F.type_dict_get (mt_getD hu) ho ha hb hs hn hl hline) fun σ H Q ⟨Z, ρ, o, ρ', m, ev, k⟩ => ?_
  simp only [evE] at ev
  split at ev
  · cases ev
  · rename_i oo ρ1 e1
    split at ev
    · cases ev
    · rename_i x0 e0
      split at ev
      · rename_i ht
        split at ev
        · cases ev
        · rename_i os ρ2 e2
          split at ev
          · rename_i hv
            split at ev
            · rename_i x ds q1 q2
              split at ev
              · rename_i d e3
                cases ev
                refine ⟨Z, ρ, oo, ρ1, m, e1, fun vo H1 p1 => ?_⟩
                have h0 := p1.opd.rd p1.m0 e0
                refine ⟨?_, Z, ρ1, os, _, p1.m0, e2, fun vs H2 p2 => ?_⟩
                · cases x0 <;> simp [mtTy] at ht
                  obtain ⟨a, xs, ys, rfl, hd, _⟩ := h0
                  exact tys_dct hd
                · have hx := (p1.opd.stay p2.tr p2.st).rd p2.m0 q1
                  have hds := p2.ops.reps (ρ := ρ') (O' := Ow Z ρ' σ) (fun _ => Ow_le) (p2.free p1.m0) hv q2
                  have fin : ∀ v, Rep X.w (Ow Z ρ' σ) H2 d v → Q v H2 := fun v r => k v H2 (.same p2.m0 (p1.tr.trans p2.tr) (p1.st.trans p1.tr p2.st) r)
                  have look : ∀ (ks vs' : List D) (k0 : D) (ys : List V), Reps X.w (Ow Z ρ' σ) H2 vs' ys → ∀ (dflt : D) (vd : V), Rep X.w (Ow Z ρ' σ) H2 dflt vd → ys.length = ks.length → Rep X.w (Ow Z ρ' σ) H2 ((dget ks vs' k0).getD dflt) ((match fkey ks k0 with | some j => ys[j]? | none => none).getD vd) := by
                    intro ks vs' k0 ys h2 dflt vd hd hl
                    unfold dget
                    cases hf : fkey ks k0 with
                    | none => exact hd
                    | some j =>
                      have := fkey_lt hf
                      have hl2 := h2.length
                      have hj : vs'[j]? = some (vs'[j]'(by omega)) := List.getElem?_eq_getElem _
                      obtain ⟨v, hv, rv⟩ := h2.get hj
                      simp only [hj, hv, Option.getD_some]
                      exact rv
                  simp only [mtD] at e3
                  unfold getM at e3
                  split at e3
                  · rename_i ks vs' k0 dflt
                    split at e3
                    · rename_i hc
                      cases e3
                      obtain ⟨a, xs, ys, rfl, hd, h1, h2⟩ := hx
                      unfold Reps at hds
                      obtain ⟨vy, r, rfl, hy, hds⟩ := hds
                      unfold Reps at hds
                      obtain ⟨vz, r', rfl, hz, hds⟩ := hds
                      simp [Reps] at hds
                      subst hds
                      have hl : ys.length = ks.length := by obtain ⟨o', es', ep', _, _, _, _, _, _, _, E⟩ := hd; rw [E.l3, E.l1]
                      exact ⟨a, vy, rfl, .inr ⟨_, vz, rfl, ⟨_, k0, ks, xs, ys, hd, h1, hy, hc, rfl⟩, fin _ (look ks vs' k0 ys h2 dflt vz hz hl)⟩⟩
                    · cases e3
                  · rename_i ks vs' k0
                    split at e3
                    · rename_i hc
                      cases e3
                      obtain ⟨a, xs, ys, rfl, hd, h1, h2⟩ := hx
                      unfold Reps at hds
                      obtain ⟨vy, r, rfl, hy, hds⟩ := hds
                      simp [Reps] at hds
                      subst hds
                      have hl : ys.length = ks.length := by obtain ⟨o', es', ep', _, _, _, _, _, _, _, E⟩ := hd; rw [E.l3, E.l1]
                      exact ⟨a, vy, rfl, .inl ⟨_, rfl, ⟨_, k0, ks, xs, ys, hd, h1, hy, hc, rfl⟩, fin _ (look ks vs' k0 ys h2 .non .non rep_non hl)⟩⟩
                    · cases e3
                  · cases e3
              · cases ev
            · cases ev
          · cases ev
      · cases ev

/-! ### x.pop() -/
theorem getS_slot {ρ : Env} {i : Nat} {d : D} {ρ' : Env} {d' : D} (h : getS ρ i = some d) (h2 : putS ρ i d' = some ρ') : ∃ s t, ρ[i]? = some s ∧ isMut s = true ∧ s.get = some d ∧ ρ' = ρ.set i t ∧ (∀ e, s = .ow e → t = .ow d') ∧ (∀ e, s = .io e → t = .io d') := by
  unfold putS at h2
  unfold getS at h
  split at h2
  · rename_i e hs
    rw [hs] at h
    cases h2
    exact ⟨_, _, hs, rfl, h, rfl, fun e q => rfl, fun e q => (nomatch q)⟩
  · rename_i e hs
    rw [hs] at h
    cases h2
    exact ⟨_, _, hs, rfl, h, rfl, fun e q => (nomatch q), fun e q => rfl⟩
  · cases h2
theorem Match.mutAt {w : World} {Z : Addr → Prop} {ρ : Env} {σ : St} {H : Hp} (m : Match w Z ρ σ H) {i : Nat} {s : Sl} {d : D} (e : ρ[i]? = some s) (hs : isMut s = true) (hg : s.get = some d) : ∃ a, σ[i]? = some (some (V.ref a)) ∧ RepT w (Ow Z ρ σ) H d a := by
  have k := m.slot i s e
  cases s with
  | ow d' => obtain ⟨a, ea, r⟩ := k; cases hg; exact ⟨a, ea, r⟩
  | io d' => obtain ⟨a, ea, r⟩ := k; cases hg; exact ⟨a, ea, r⟩
  | _ => simp [isMut] at hs
theorem Reps.dropLast {w : World} {O : Addr → Prop} {H : Hp} {l : List D} {xs : List V} (h : Reps w O H l xs) : Reps w O H l.dropLast xs.dropLast := by
  rw [List.dropLast_eq_take, List.dropLast_eq_take, h.length]
  exact h.take _
theorem s_pop {i : Nat} {x : Str} {pos apos cpos : Pos} (hN : X.N[i]? = some x) (hv : Vis X.env.scope x) (hd : (x == ("__debug__" : Str)) = false) (hcd : (x == ("__classdict__" : Str)) = false)
    (hbase : attributeBase (.Name x pos) "pop" X.env (eval (.Name x pos) X.env) = eval (.Name x pos) X.env) (hline : (apos.endLine == cpos.line) = true) :
    PE X (.Call (.Attribute (.Name x pos) "pop" apos) [] [] cpos) (tE X.w C (.pop i)) := by
  refine peImp (pe_bm0 PySem.F.plainAttrs_list PySem.F.slot_list_pop PySem.F.type_list_pop mt_pop (pe_var hN hv hd hcd) hbase hline) fun σ H Q ⟨Z, ρ, o, ρ', m, ev, k⟩ => ?_
  simp only [evE] at ev
  split at ev
  · rename_i l hg
    split at ev
    · rename_i y hl
      split at ev
      · rename_i ρ2 hp
        cases ev
        obtain ⟨s, t, es, ms, gs, rfl, t1, t2⟩ := getS_slot hg hp
        obtain ⟨a, ea, xs, hH, qa⟩ := m.mutAt es ms gs
        refine ⟨_, ea, own_ty (.inl hH), ?_⟩
        have hl' : l[l.length - 1]? = some y := by rw [← List.getLast?_eq_getElem?]; exact hl
        obtain ⟨v, hv', rv⟩ := qa.get hl'
        have hO : OwnA ρ σ a := ⟨i, s, es, by cases s <;> first | rfl | (simp [isMut] at ms), ea⟩
        have keepO : ∀ b u, H b = some u → ¬ Ow Z ρ σ b → upd H a (.lst xs.dropLast) b = some u := fun b u e n => by
          rw [upd_ne (show b ≠ a from fun z => n (.inr (by rw [z]; exact hO)))]; exact e
        have rt : RepT X.w (Ow Z ρ σ) (upd H a (.lst xs.dropLast)) (.lst l.dropLast) a := ⟨_, upd_same, qa.dropLast.mono (fun _ z => z) keepO⟩
        obtain ⟨m', tr, st⟩ := m.put es ms ea t1 t2 rt
        refine ⟨a, xs, v, rfl, rfl, hH, by rw [qa.length]; exact hv', k v _ (.same m' tr st ?_)⟩
        exact rv.mono (fun b z => z.elim .inl fun z => .inr (tr.own z)) keepO
      · cases ev
    · cases ev
  · cases ev

/-! ### displays of dicts -/
theorem dct_empty {w : World} {H : Hp} {p : Addr} (hs : (p == sysModules) = false) : DctO w (upd H p (dO p { cls := .type "dict", data := .dict #[] })) p [] [] [] :=
  ⟨_, #[], 0, upd_same, hs, ⟨rfl, rfl, rfl⟩, rfl, by decide, .inl rfl, List.nodup_nil, rfl, rfl, rfl, fun i en h => by simp at h⟩
theorem s_dct0 {pos : Pos} : PE X (.Dict [] [] pos) (tE X.w C (.dct [] [])) := by
  refine ⟨fun pins s σ H Q I ⟨Z, ρ, o, ρ', m, ev, k⟩ => ?_⟩
  simp only [evE] at ev
  cases ev
  have hb := I.big; have hn := I.hok.fresh (Nat.le_refl s.heap.objs.size)
  have hs : (s.heap.objs.size == sysModules) = false := beq_eq_false_iff_ne.mpr (Ne.symm (Nat.ne_of_lt hb))
  refine wpAny_Dict_empty ⟨.ref s.heap.objs.size, _, I.laid (a := s.heap.objs.size) (o := dO s.heap.objs.size { cls := .type "dict", data := .dict #[] }) (t' := s.toks) (fun _ _ q => Heap.get?_push_of_some _ q) (Nat.le_refl _) (ext_ok (Heap.get?_push_size _ rfl)), rfl, k _ _ ?_⟩
  exact .fresh m (.refl ρ) .refl hn ⟨[], [], dct_empty hs, .nil, .nil⟩
theorem s_dct1 {ke ve : Expr} {rk rv : RE} {pos : Pos} (hu : X.A.units + 200 < cLine) (hk : PE X ke (tE X.w C rk)) (hv : PE X ve (tE X.w C rv)) : PE X (.Dict [some ke] [ve] pos) (tE X.w C (.dct [rk] [rv])) := by
  refine ⟨fun pins s σ H Q I ⟨Z, ρ, o, ρ', m, ev, k⟩ => ?_⟩
  simp only [evE] at ev
  split at ev
  · cases ev
  · rename_i fk dk ρ1 e1
    split at ev
    · cases ev
    · rename_i fv dv ρ2 e2
      split at ev
      · rename_i hkey
        cases ev
        have e1 := toVal_eq e1
        have e2 := toVal_eq e2
        have hb := I.big
        generalize hp : s.heap.objs.size = p at hb
        have hn : H p = none := by rw [← hp]; exact I.hok.fresh (Nat.le_refl s.heap.objs.size)
        have hsm : (p == sysModules) = false := beq_eq_false_iff_ne.mpr (Ne.symm (Nat.ne_of_lt hb))
        have I1 := I.laid (a := p) (o := dO p { cls := .type "dict", data := .dict #[] }) (h' := s.heap.push { cls := .type "dict", data := .dict #[] }) (t' := s.toks) (fun _ _ q => Heap.get?_push_of_some _ q) (by rw [hp]; exact Nat.le_refl _) (ext_ok (by rw [← hp]; exact Heap.get?_push_size _ rfl))
        have m1 := m.new (o := dO p { cls := .type "dict", data := .dict #[] }) hn
        have npO : ∀ r : Env, TrE ρ r → ¬ OwnA r σ p := fun r t z => m.own_there (t.own z) hn
        -- what is done with the two values
        have pps : PPs X pos [some ke] [ve] [(tE X.w C rk, tE X.w C rv)] := pps_cons hk hv pps_nil
        -- the state behind the evaluation
        let G : List (V × V) → Hp → Prop := fun ps H3 => ∃ vk vv, ps = [(vk, vv)] ∧ Match X.w (fun a => Z a ∨ a = p) ρ' σ H3 ∧ TrE ρ ρ' ∧ Stp ρ σ (upd H p (dO p { cls := .type "dict", data := .dict #[] })) H3 ∧ Rep X.w (Ow (fun a => Z a ∨ a = p) ρ' σ) H3 dk vk ∧ Rep X.w (Ow (fun a => Z a ∨ a = p) ρ' σ) H3 dv vv
        have run := pps.run pins _ σ _ G I1 ⟨_, ρ, _, ρ1, m1, e1, fun vk H2 p1 => ⟨_, ρ1, _, ρ', p1.m0, e2, fun vv H3 p2 =>
          ⟨vk, vv, rfl, p2.m0, p1.tr.trans p2.tr, p1.st.trans p1.tr p2.st, Rep.stay (ρ := ρ1) p1.opd p2.tr p2.st, p2.opd⟩⟩⟩
        -- the end: one entry is stored
        have fin : ∀ (s3 : Shared) (H3 : Hp) (vk vv : V) (h' : Heap) (t' : Nat) (o' : Obj) (es : Array DictEntry) (ep : Nat), Inv X pins σ H3 s3 → Match X.w (fun a => Z a ∨ a = p) ρ' σ H3 → TrE ρ ρ' → Stp ρ σ (upd H p (dO p { cls := .type "dict", data := .dict #[] })) H3 →
            Rep X.w (Ow (fun a => Z a ∨ a = p) ρ' σ) H3 dk vk → Rep X.w (Ow (fun a => Z a ∨ a = p) ρ' σ) H3 dv vv → h'.get? p = some o' → o'.ExactDict → o'.data = .dict es ep → Heap.SameBut p s3.heap h' →
            (∃ en, es.toList = [en] ∧ en.hash = (toKey dk).hash X.w ∧ RelV vk en.key ∧ RelV vv en.val) → EP X pins σ Q (.ref p) { s3 with heap := h', toks := t' } := by
          intro s3 H3 vk vv h' t' o' es ep I3 m3 t st r1 r2 g1 g2 g3 g4 ⟨en, q1, q2, q3, q4⟩
          have hH3 : H3 p = some (dO p { cls := .type "dict", data := .dict #[] }) := st.keep p _ upd_same fun z => m.own_there z.own hn
          have I4 : Inv X pins σ (upd H3 p (dO p o')) { s3 with heap := h', toks := t' } := I3.write (x := p) (e := p) (by rw [hH3]; exact True.intro) (.inl rfl) (fun b q hb z => (g4.2 b hb).trans z) ⟨_, g1⟩ (ext_ok g1)
          refine ⟨.ref p, _, I4, rfl, k _ _ ?_⟩
          have kp : ∀ b u, H3 b = some u → b ≠ p → upd H3 p (dO p o') b = some u := fun b u e n => by rw [upd_ne n]; exact e
          have rr : ∀ {d : D} {v : V}, Rep X.w (Ow (fun a => Z a ∨ a = p) ρ' σ) H3 d v → Rep X.w (fun b => Ow Z ρ' σ b ∨ b = p) (upd H3 p (dO p o')) d v := fun {d v} r =>
            r.mono (fun b z => by
              rcases z with (z | z) | z
              · exact .inl (.inl z)
              · exact .inr z
              · exact .inl (.inr z)) fun b u e n => kp b u e fun z => n (.inl (.inr z))
          have stp : Stp ρ σ H (upd H3 p (dO p o')) := ⟨fun a u e n => by
            have na : a ≠ p := ne_of_none e hn
            rw [upd_ne na]
            exact st.keep a u (by rw [upd_ne na]; exact e) n, fun a e => by
            by_cases na : a = p
            · subst na; rw [upd_same]; simp
            · rw [upd_ne na]; exact st.trk a (by rw [upd_ne na]; exact e)⟩
          refine ⟨⟨m3.len, fun a z => ?_, fun i sl e => ?_, m3.ap, fun a z q => ?_⟩, t, stp, p, rfl, ?_, .inl hn, ?_⟩
          · by_cases na : a = p
            · subst na; rw [upd_same]; simp
            · rw [upd_ne na]
              rcases z with z | z
              · exact m3.zt a (.inl z)
              · cases z; exact absurd rfl na
          · refine (m3.slot i sl e).mono (fun a z => ?_) (fun b u e n => kp b u e fun z => n (.inl (.inr z))) fun os a u ea e => kp a u e fun z => ?_
            · rcases z with (z | z) | z
              · exact .inl (.inl z)
              · cases z; exact .inl (.inr rfl)
              · exact .inr z
            · subst z; exact npO ρ' t ⟨i, sl, by assumption, os, ea⟩
          · rcases q with q | q
            · exact m3.zo a z (.inl q)
            · cases q; exact npO ρ' t z
          · rintro (z | z)
            · exact m.zt p z hn
            · exact npO ρ' t z
          · refine ⟨[vk], [vv], ⟨o', es, ep, upd_same, hsm, g2, g3, by simp, ?_, by simp, by simp [q1], by simp [q1], by simp [q1], fun i e he => ?_⟩, .cons (rr r1) .nil, .cons (rr r2) .nil⟩
            · rw [Bool.or_eq_true] at hkey
              simpa using hkey
            · rw [q1] at he
              cases i with
              | zero => simp at he; subst he; exact ⟨dk, vk, vv, rfl, rfl, rfl, q2, q3, q4⟩
              | succ i => simp at he
        rw [Bool.or_eq_true] at hkey
        have hlen : (pairTrees [some ke] [ve] X.env pos).length = 1 := pairTrees_length [some ke] [ve] X.env pos rfl rfl
        have two : ∀ {ps : List (V × V)} {vs : List (Value × Value)} {vk vv : V}, VV ps vs → ps = [(vk, vv)] → ∃ uk uv, vs = [(uk, uv)] ∧ RelV vk uk ∧ RelV vv uv := by
          intro ps vs vk vv h e
          subst e
          cases h with
          | cons h t => cases t; exact ⟨_, _, rfl, h.1, h.2⟩
        rcases hkey with hkey | hkey
        · rw [arm_eval_Dict, zip_pairTrees [some ke] [ve] X.env pos rfl rfl, dictDisplay_pairs _ (by intro he; rw [he] at hlen; cases hlen) (by rw [hlen]; omega)]
          refine wpAny_bind (wpAny_standAt (wpAny_bind (wpAny_subDictH (knd := nestedKind X.prog X.w) (by show X.A.units + 8 < cLine; omega) (by rw [hlen]; omega) ?_)))
          refine thn run fun vs s3 ⟨ps, H3, I3, rel, vk, vv, hps, m3, t, st, r1, r2⟩ => ?_
          subst hps
          obtain ⟨uk, uv, rfl, ruk, ruv⟩ := two rel rfl
          obtain ⟨b, rfl, is⟩ := rep_tupKey I3 hkey r1 ruk
          have hH3 : H3 p = some (dO p { cls := .type "dict", data := .dict #[] }) := st.keep p _ upd_same fun z => m.own_there z.own hn
          refine ⟨[(toKey dk, b, uv)], ⟨rfl, rfl, is, trivial⟩, ⟨_, #[], 0, by rw [hp]; exact dct_obj I3 hH3, ⟨rfl, rfl, rfl⟩, rfl, rfl, fun x hx => (nomatch hx), List.nodup_nil⟩, fun h' tk hm hs => wpAny_pure ?_⟩
          obtain ⟨o', es, ep, g1, g2, g3, g4, _, _⟩ := hm
          rw [hp] at g1 hs ⊢
          have g4 : es.toList = [entryOfKey (nestedKind X.prog X.w) (toKey dk, b, uv)] := g4
          exact fin s3 H3 vk vv h' tk o' es ep I3 m3 t st r1 r2 g1 g2 g3 hs ⟨_, g4, rfl, ruk, ruv⟩
        · refine wpAny_Dict_walk (knd := mixKind X.prog X.w) rfl rfl (by simp) (by simp) ?_
          refine thn run fun vs s3 ⟨ps, H3, I3, rel, vk, vv, hps, m3, t, st, r1, r2⟩ => ?_
          subst hps
          obtain ⟨uk, uv, rfl, ruk, ruv⟩ := two rel rfl
          have is := scal_is (X := X) hkey r1 ruk
          have hH3 : H3 p = some (dO p { cls := .type "dict", data := .dict #[] }) := st.keep p _ upd_same fun z => m.own_there z.own hn
          refine ⟨[(keyS dk, uv)], ⟨is, rfl, trivial⟩, ⟨_, #[], 0, by rw [hp]; exact dct_obj I3 hH3, ⟨rfl, rfl, rfl⟩, rfl, fun x hx => (by simp at hx), .nil, List.nodup_nil⟩, fun h' hm hs => ?_⟩
          obtain ⟨o', es, ep, g1, g2, g3, g4, g5, _⟩ := hm
          rw [hp] at g1 hs ⊢
          have g5 : Pairs (mixKind X.prog X.w) es.toList [(keyS dk, uv)] := g5
          obtain ⟨en, he, k1, k2⟩ : ∃ en, es.toList = [en] ∧ (mixKind X.prog X.w).is (keyS dk) en.key = true ∧ en.val = uv := by
            revert g5
            generalize es.toList = l
            intro g5
            cases g5 with
            | cons a b c => cases c; exact ⟨_, rfl, a, b⟩
          obtain ⟨κ, q1, q2⟩ := g4 en (Array.mem_toList_iff.mp (by rw [he]; exact List.mem_cons_self))
          have := (mixKind X.prog X.w).inj _ _ _ q1 k1
          subst this
          refine fin s3 H3 vk vv h' _ o' es ep I3 m3 t st r1 r2 g1 g2 g3 hs ⟨en, he, by rw [q2, keyS_hash (P := X.prog) hkey], ?_, by rw [k2]; exact ruv⟩
          have kr := relV_key (k := keyS dk) (u := en.key) k1
          cases dk <;> simp [scalKey] at hkey
          · simp [Rep] at r1; subst r1; exact kr
          · simp [Rep] at r1; subst r1; exact kr
      · cases ev
end
end Ev

/-! Ev, part K: calls of defs. -/
namespace Ev
open PySem PySem.Spec PyProof.Rows L2

/-- the env of the parameters behind a call -/
def outE : List Bool → List D → Env
  | true :: fs, d :: ds => .io d :: outE fs ds
  | true :: fs, [] => .no :: outE fs []
  | false :: fs, ds => .no :: outE fs ds
  | [], _ => []
theorem outE_len : ∀ (io : List Bool) (ds : List D), (outE io ds).length = io.length
  | true :: fs, d :: ds => by simp [outE, outE_len fs ds]
  | true :: fs, [] => by simp [outE, outE_len fs []]
  | false :: fs, ds => by simp [outE, outE_len fs ds]
  | [], _ => rfl
theorem initE_len : ∀ (io : List Bool) (ds : List D), ds.length = io.length → (initE io ds).length = io.length
  | true :: fs, d :: ds, h => by simp [initE, initE_len fs ds (by simpa using h)]
  | false :: fs, d :: ds, h => by simp [initE, initE_len fs ds (by simpa using h)]
  | [], [], _ => rfl
  | _ :: _, [], h => by simp at h
  | [], _ :: _, h => by simp at h
theorem initE_at : ∀ {io : List Bool} {ds : List D} {i : Nat} {s : Sl}, (initE io ds)[i]? = some s → ∃ d, ds[i]? = some d ∧ ((io[i]? = some true ∧ s = .io d) ∨ (io[i]? = some false ∧ s = .sh d))
  | true :: fs, d :: ds, 0, s, h => by simp [initE] at h; exact ⟨d, rfl, .inl ⟨rfl, h.symm⟩⟩
  | false :: fs, d :: ds, 0, s, h => by simp [initE] at h; exact ⟨d, rfl, .inr ⟨rfl, h.symm⟩⟩
  | true :: fs, d :: ds, i + 1, s, h => by simpa using initE_at (io := fs) (ds := ds) (i := i) (by simpa [initE] using h)
  | false :: fs, d :: ds, i + 1, s, h => by simpa using initE_at (io := fs) (ds := ds) (i := i) (by simpa [initE] using h)
  | [], [], _, _, h => by simp [initE] at h
  | _ :: _, [], _, _, h => by simp [initE] at h
  | [], _ :: _, _, _, h => by simp [initE] at h
theorem initE_true : ∀ {io : List Bool} {ds : List D} {i : Nat}, ds.length = io.length → io[i]? = some true → ∃ d, (initE io ds)[i]? = some (.io d)
  | true :: fs, d :: ds, 0, _, h => ⟨d, rfl⟩
  | false :: fs, d :: ds, 0, _, h => by simp at h
  | true :: fs, d :: ds, i + 1, l, h => by simpa [initE] using initE_true (io := fs) (ds := ds) (i := i) (by simpa using l) (by simpa using h)
  | false :: fs, d :: ds, i + 1, l, h => by simpa [initE] using initE_true (io := fs) (ds := ds) (i := i) (by simpa using l) (by simpa using h)
  | [], [], _, _, h => by simp at h
  | _ :: _, [], _, l, h => by simp at l
  | [], _ :: _, _, l, h => by simp at l
theorem outE_at : ∀ {io : List Bool} {ds : List D} {i : Nat} {s : Sl}, (outE io ds)[i]? = some s → s = .no ∨ (io[i]? = some true ∧ ∃ d, s = .io d)
  | true :: fs, d :: ds, 0, s, h => by simp [outE] at h; exact .inr ⟨rfl, d, h.symm⟩
  | true :: fs, [], 0, s, h => by simp [outE] at h; exact .inl h.symm
  | false :: fs, ds, 0, s, h => by simp [outE] at h; exact .inl h.symm
  | true :: fs, d :: ds, i + 1, s, h => by simpa using outE_at (io := fs) (ds := ds) (i := i) (by simpa [outE] using h)
  | true :: fs, [], i + 1, s, h => by simpa using outE_at (io := fs) (ds := []) (i := i) (by simpa [outE] using h)
  | false :: fs, ds, i + 1, s, h => by simpa using outE_at (io := fs) (ds := ds) (i := i) (by simpa [outE] using h)
  | [], _, _, _, h => by simp [outE] at h

/-- the end of a def -/
structure PostC (w : World) (Z : Addr → Prop) (io : List Bool) (ds : List D) (vs : List V) (H : Hp) (fr : Bool) (d : D) (outs : List D) (v : V) (H' : Hp) : Prop where
  m : Match w (Zf Z v (.val fr d)) (outE io outs) (vs.map some) H'
  ol : ∀ i : Nat, io[i]? = some true → ∃ d : D, (outE io outs)[i]? = some (Sl.io d)
  st : Stp (initE io ds) (vs.map some) H H'
  res : ResOk w (Ow Z (outE io outs) (vs.map some)) (initE io ds) (vs.map some) H H' v (.val fr d)
/-- the promise of a def -/
def spF (w : World) (C : CallS) (j : Nat) (io : List Bool) : Sp := fun vs H Q _ => ∃ Z ds fr d outs, Match w Z (initE io ds) (vs.map some) H ∧ ds.length = io.length ∧ C j ds = some (fr, d, outs) ∧ ∀ v H', PostC w Z io ds vs H fr d outs v H' → Q v H'

/-! ### rows, by place -/
section
variable {w : World} {O : Addr → Prop} {H : Hp} {σ : St} {ρ : Env}
def OpAt (w : World) (O : Addr → Prop) (H : Hp) (σ : St) (v : V) : OV → Prop
  | .val true d => ∃ a, v = .ref a ∧ RepT w O H d a
  | .val false d => Rep w O H d v
  | .plc j => σ[j]? = some (some v)
theorem OpsOk.at_ : ∀ {os : List OV} {vs : List V} {i : Nat} {o : OV}, OpsOk w O H σ os vs → os[i]? = some o → ∃ v, vs[i]? = some v ∧ OpAt w O H σ v o
  | [], _, i, o, _, h => by simp at h
  | .val true d :: os, vs, 0, o, k, h => by
    obtain ⟨a, r, rfl, q, t⟩ := k
    simp at h; subst h
    exact ⟨_, rfl, a, rfl, q⟩
  | .val false d :: os, vs, 0, o, k, h => by
    obtain ⟨a, r, rfl, q, t⟩ := k
    simp at h; subst h
    exact ⟨_, rfl, q⟩
  | .plc j :: os, vs, 0, o, k, h => by
    obtain ⟨a, r, rfl, q, t⟩ := k
    simp at h; subst h
    exact ⟨_, rfl, q⟩
  | .val true d :: os, vs, i + 1, o, k, h => by
    obtain ⟨a, r, rfl, q, t⟩ := k
    simpa using OpsOk.at_ (i := i) t (by simpa using h)
  | .val false d :: os, vs, i + 1, o, k, h => by
    obtain ⟨a, r, rfl, q, t⟩ := k
    simpa using OpsOk.at_ (i := i) t (by simpa using h)
  | .plc j :: os, vs, i + 1, o, k, h => by
    obtain ⟨a, r, rfl, q, t⟩ := k
    simpa using OpsOk.at_ (i := i) t (by simpa using h)
theorem rds_len : ∀ {os : List OV} {ds : List D}, rds ρ os = some ds → ds.length = os.length
  | [], ds, h => by simp [rds] at h; simp [h]
  | o :: os, ds, h => by
    simp only [rds] at h
    split at h
    · rename_i d ds' e1 e2
      cases h
      simp [rds_len e2]
    · cases h
theorem rds_at : ∀ {os : List OV} {ds : List D} {i : Nat} {o : OV}, rds ρ os = some ds → os[i]? = some o → ∃ d, ds[i]? = some d ∧ rd ρ o = some d
  | [], ds, i, o, _, h => by simp at h
  | o' :: os, ds, i, o, e, h => by
    simp only [rds] at e
    split at e
    · rename_i d ds' e1 e2
      cases e
      cases i with
      | zero => simp at h; subst h; exact ⟨d, rfl, e1⟩
      | succ i => simpa using rds_at (i := i) e2 (by simpa using h)
    · cases e
theorem ioOk_len : ∀ {io : List Bool} {os : List OV}, ioOk ρ io os = true → io.length = os.length
  | [], [], _ => rfl
  | true :: io, .plc j :: os, h => by simp only [ioOk, Bool.and_eq_true] at h; simp [ioOk_len h.2]
  | true :: io, .val fr d :: os, h => by simp only [ioOk, Bool.and_eq_true] at h; simp [ioOk_len h.2]
  | false :: io, .val fr d :: os, h => by simp only [ioOk] at h; simp [ioOk_len h]
  | false :: io, .plc j :: os, h => by simp [ioOk] at h
  | _ :: _, [], h => by simp [ioOk] at h
  | [], _ :: _, h => by simp [ioOk] at h
def IoAt (ρ : Env) : Bool → OV → Prop
  | true, .plc j => mutS ρ j = true
  | true, .val fr _ => fr = true
  | false, .val _ _ => True
  | false, .plc _ => False
theorem ioOk_at : ∀ {io : List Bool} {os : List OV} {i : Nat} {b : Bool}, ioOk ρ io os = true → io[i]? = some b → ∃ o, os[i]? = some o ∧ IoAt ρ b o
  | [], [], i, b, _, h => by simp at h
  | true :: io, .plc j :: os, i, b, k, h => by
    simp only [ioOk, Bool.and_eq_true] at k
    cases i with
    | zero => simp at h; subst h; exact ⟨_, rfl, k.1⟩
    | succ i => simpa using ioOk_at (i := i) k.2 (by simpa using h)
  | true :: io, .val fr d :: os, i, b, k, h => by
    simp only [ioOk, Bool.and_eq_true] at k
    cases i with
    | zero => simp at h; subst h; exact ⟨_, rfl, k.1⟩
    | succ i => simpa using ioOk_at (i := i) k.2 (by simpa using h)
  | false :: io, .val fr d :: os, i, b, k, h => by
    simp only [ioOk] at k
    cases i with
    | zero => simp at h; subst h; exact ⟨_, rfl, trivial⟩
    | succ i => simpa using ioOk_at (i := i) k (by simpa using h)
  | false :: io, .plc j :: os, i, b, k, h => by simp [ioOk] at k
  | _ :: _, [], i, b, k, h => by simp [ioOk] at k
  | [], _ :: _, i, b, k, h => by simp at h
/-- fresh operands, by place -/
theorem freshA_at : ∀ {os : List OV} {vs : List V} {i : Nat} {d : D} {a : Addr}, os[i]? = some (.val true d) → vs[i]? = some (.ref a) → os.length = vs.length → a ∈ freshA os vs
  | [], _, i, d, a, h, _, _ => by simp at h
  | _ :: _, [], i, d, a, h, g, _ => by simp at g
  | o :: os, v :: vs, 0, d, a, h, g, _ => by
    simp at h g; subst h; subst g
    exact List.mem_cons_self
  | o :: os, v :: vs, i + 1, d, a, h, g, l => by
    have := freshA_at (os := os) (vs := vs) (i := i) (by simpa using h) (by simpa using g) (by simpa using l)
    cases o with
    | plc j => exact this
    | val fr d' => cases fr with
      | false => exact this
      | true => cases v with
        | ref b => exact List.mem_cons_of_mem _ this
        | _ => exact this
theorem freshA_inj : ∀ {os : List OV} {vs : List V} {i j : Nat} {d e : D} {a : Addr}, (freshA os vs).Nodup → os.length = vs.length → os[i]? = some (.val true d) → vs[i]? = some (.ref a) → os[j]? = some (.val true e) → vs[j]? = some (.ref a) → i = j
  | [], _, i, _, d, _, a, _, _, h, _, _, _ => by simp at h
  | _ :: _, [], i, _, d, _, a, _, l, h, _, _, _ => by simp at l
  | o :: os, v :: vs, 0, 0, d, e, a, _, _, _, _, _, _ => rfl
  | o :: os, v :: vs, 0, j + 1, d, e, a, n, l, h1, h2, h3, h4 => by
    simp at h1 h2; subst h1; subst h2
    have n : (a :: freshA os vs).Nodup := n
    exact absurd (freshA_at (os := os) (vs := vs) (i := j) (by simpa using h3) (by simpa using h4) (by simpa using l)) (List.nodup_cons.mp n).1
  | o :: os, v :: vs, i + 1, 0, d, e, a, n, l, h1, h2, h3, h4 => by
    simp at h3 h4; subst h3; subst h4
    have n : (a :: freshA os vs).Nodup := n
    exact absurd (freshA_at (os := os) (vs := vs) (i := i) (by simpa using h1) (by simpa using h2) (by simpa using l)) (List.nodup_cons.mp n).1
  | o :: os, v :: vs, i + 1, j + 1, d, e, a, n, l, h1, h2, h3, h4 => by
    have n' : (freshA os vs).Nodup := by
      cases o with
      | plc j => exact n
      | val fr d' => cases fr with
        | false => exact n
        | true => cases v with
          | ref b => exact (List.nodup_cons.mp n).2
          | _ => exact n
    rw [freshA_inj n' (by simpa using l) (i := i) (j := j) (by simpa using h1) (by simpa using h2) (by simpa using h3) (by simpa using h4)]
theorem ioPlaces_at : ∀ {io : List Bool} {os : List OV} {i j : Nat}, io[i]? = some true → os[i]? = some (.plc j) → io.length = os.length → some j ∈ ioPlaces io os
  | [], _, i, j, h, _, _ => by simp at h
  | _ :: _, [], i, j, h, g, l => by simp at g
  | b :: io, o :: os, 0, j, h, g, l => by simp at h g; subst h; subst g; exact List.mem_cons_self
  | b :: io, o :: os, i + 1, j, h, g, l => by
    have := ioPlaces_at (io := io) (os := os) (i := i) (j := j) (by simpa using h) (by simpa using g) (by simpa using l)
    cases b with
    | true => cases o with
      | plc k => exact List.mem_cons_of_mem _ this
      | val _ _ => exact List.mem_cons_of_mem _ this
    | false => exact this
theorem noTwice_inj : ∀ {io : List Bool} {os : List OV} {i j k : Nat}, noTwice (ioPlaces io os) = true → io.length = os.length → io[i]? = some true → os[i]? = some (.plc k) → io[j]? = some true → os[j]? = some (.plc k) → i = j
  | [], _, i, j, k, _, _, h, _, _, _ => by simp at h
  | _ :: _, [], i, j, k, _, _, h, g, _, _ => by simp at g
  | b :: io, o :: os, 0, 0, k, _, _, _, _, _, _ => rfl
  | b :: io, o :: os, 0, j + 1, k, n, l, h1, h2, h3, h4 => by
    simp at h1 h2; subst h1; subst h2
    have n : (!((ioPlaces io os).any fun x => x == some k) && noTwice (ioPlaces io os)) = true := n
    have q := ioPlaces_at (io := io) (os := os) (i := j) (j := k) (by simpa using h3) (by simpa using h4) (by simpa using l)
    simp only [Bool.and_eq_true, Bool.not_eq_true', List.any_eq_false] at n
    exact absurd (n.1 _ q) (by simp)
  | b :: io, o :: os, i + 1, 0, k, n, l, h1, h2, h3, h4 => by
    simp at h3 h4; subst h3; subst h4
    have n : (!((ioPlaces io os).any fun x => x == some k) && noTwice (ioPlaces io os)) = true := n
    have q := ioPlaces_at (io := io) (os := os) (i := i) (j := k) (by simpa using h1) (by simpa using h2) (by simpa using l)
    simp only [Bool.and_eq_true, Bool.not_eq_true', List.any_eq_false] at n
    exact absurd (n.1 _ q) (by simp)
  | b :: io, o :: os, i + 1, j + 1, k, n, l, h1, h2, h3, h4 => by
    have n' : noTwice (ioPlaces io os) = true := by
      cases b with
      | false => exact n
      | true => cases o with
        | plc k' => exact (Bool.and_eq_true _ _ ▸ n : _ ∧ _).2
        | val _ _ => exact n
    rw [noTwice_inj n' (by simpa using l) (i := i) (j := j) (k := k) (by simpa using h1) (by simpa using h2) (by simpa using h3) (by simpa using h4)]
end

/-- the env behind a call, by slots: a slot that was handed over has what the callee left there -/
theorem backIo_spec : ∀ {io : List Bool} {os : List OV} {outs : List D} {ρ ρ' : Env}, backIo (ioPlaces io os) outs ρ = some ρ' → ioOk ρ io os = true → noTwice (ioPlaces io os) = true →
    (∀ j : Nat, (∀ i : Nat, io[i]? = some true → os[i]? ≠ some (OV.plc j)) → ρ'[j]? = ρ[j]?) ∧
    (∀ i j : Nat, io[i]? = some true → os[i]? = some (OV.plc j) → ∃ (d : D) (s t : Sl), (outE io outs)[i]? = some (Sl.io d) ∧ ρ[j]? = some s ∧ isMut s = true ∧ ρ'[j]? = some t ∧ (∀ e, s = Sl.ow e → t = Sl.ow d) ∧ (∀ e, s = Sl.io e → t = Sl.io d)) ∧
    ρ'.length = ρ.length := by
  intro io
  induction io with
  | nil =>
    intro os outs ρ ρ' h k n
    cases os with
    | nil =>
      cases outs with
      | nil => simp [ioPlaces, backIo] at h; subst h; exact ⟨fun _ _ => rfl, fun i j h => by simp at h, rfl⟩
      | cons _ _ => simp [ioPlaces, backIo] at h
    | cons _ _ => simp [ioOk] at k
  | cons b io ih =>
    intro os outs ρ ρ' h k n
    cases os with
    | nil => cases b <;> simp [ioOk] at k
    | cons o os =>
      cases b with
      | false =>
        cases o with
        | plc j => simp [ioOk] at k
        | val fr d =>
          simp only [ioPlaces] at h n
          simp only [ioOk] at k
          obtain ⟨g1, g2, g3⟩ := ih h k n
          refine ⟨fun j q => g1 j fun i hi => by simpa using q (i + 1) (by simpa using hi), fun i j hi ho => ?_, g3⟩
          cases i with
          | zero => simp at hi
          | succ i => simpa [outE] using g2 i j (by simpa using hi) (by simpa using ho)
      | true =>
        cases o with
        | val fr d =>
          simp only [ioPlaces] at h n
          simp only [ioOk, Bool.and_eq_true] at k
          cases outs with
          | nil => simp [backIo] at h
          | cons d0 outs =>
            simp only [backIo] at h
            obtain ⟨g1, g2, g3⟩ := ih h k.2 n
            refine ⟨fun j q => g1 j fun i hi => by simpa using q (i + 1) (by simpa using hi), fun i j hi ho => ?_, g3⟩
            cases i with
            | zero => simp at ho
            | succ i => simpa [outE] using g2 i j (by simpa using hi) (by simpa using ho)
        | plc j0 =>
          simp only [ioPlaces, noTwice, Bool.and_eq_true, Bool.not_eq_true', List.any_eq_false] at h n
          simp only [ioOk, Bool.and_eq_true] at k
          cases outs with
          | nil => simp [backIo] at h
          | cons d0 outs =>
            simp only [backIo] at h
            split at h
            · rename_i ρ1 hp
              -- the slot j0 is put
              obtain ⟨s0, t0, es0, ms0, er, t1, t2⟩ : ∃ s t, ρ[j0]? = some s ∧ isMut s = true ∧ ρ1 = ρ.set j0 t ∧ (∀ e, s = .ow e → t = .ow d0) ∧ (∀ e, s = .io e → t = .io d0) := by
                unfold putS at hp
                split at hp
                · rename_i e he
                  cases hp
                  exact ⟨_, _, he, rfl, rfl, fun e q => rfl, fun e q => (nomatch q)⟩
                · rename_i e he
                  cases hp
                  exact ⟨_, _, he, rfl, rfl, fun e q => (nomatch q), fun e q => rfl⟩
                · cases hp
              subst er
              have nj : ∀ i : Nat, io[i]? = some true → os[i]? ≠ some (OV.plc j0) := fun i hi ho => by
                have q := ioPlaces_at hi ho (ioOk_len k.2)
                exact absurd (n.1 _ q) (by simp)
              have ht0 : isMut t0 = true := by cases s0 <;> simp [isMut] at ms0 <;> simp [t1, t2, isMut]
              have kk : ioOk (ρ.set j0 t0) io os = true := by
                have : ∀ (io : List Bool) (os : List OV), (∀ i : Nat, io[i]? = some true → os[i]? ≠ some (OV.plc j0)) → ioOk ρ io os = true → ioOk (ρ.set j0 t0) io os = true := by
                  intro io
                  induction io with
                  | nil => intro os _ h; cases os <;> simp [ioOk] at h ⊢
                  | cons b io ih2 =>
                    intro os q h
                    cases os with
                    | nil => cases b <;> simp [ioOk] at h
                    | cons o os =>
                      have q' : ∀ i : Nat, io[i]? = some true → os[i]? ≠ some (OV.plc j0) := fun i hi => by simpa using q (i + 1) (by simpa using hi)
                      cases b with
                      | false => cases o with
                        | plc j => simp [ioOk] at h
                        | val _ _ => simp only [ioOk] at h ⊢; exact ih2 os q' h
                      | true => cases o with
                        | val _ _ => simp only [ioOk, Bool.and_eq_true] at h ⊢; exact ⟨h.1, ih2 os q' h.2⟩
                        | plc j =>
                          simp only [ioOk, Bool.and_eq_true] at h ⊢
                          refine ⟨?_, ih2 os q' h.2⟩
                          have nj : j0 ≠ j := fun z => q 0 rfl (by simp [z])
                          unfold mutS at h ⊢
                          rw [List.getElem?_set_ne nj]
                          exact h.1
                exact this io os nj k.2
              obtain ⟨g1, g2, g3⟩ := ih h kk n.2
              refine ⟨fun j q => ?_, fun i j hi ho => ?_, by rw [g3]; simp⟩
              · have nj0 : j0 ≠ j := fun z => q 0 rfl (by simp [z])
                rw [g1 j fun i hi => by simpa using q (i + 1) (by simpa using hi), List.getElem?_set_ne nj0]
              · cases i with
                | zero =>
                  simp at ho; subst ho
                  refine ⟨d0, s0, t0, rfl, es0, ms0, ?_, t1, t2⟩
                  rw [g1 j0 nj, List.getElem?_set_self (List.getElem?_eq_some_iff.mp es0).1]
                | succ i =>
                  have hi : io[i]? = some true := by simpa using hi
                  have ho : os[i]? = some (.plc j) := by simpa using ho
                  obtain ⟨d, s, t, q1, q2, q3⟩ := g2 i j hi ho
                  have nj0 : j0 ≠ j := fun z => nj i hi (by rw [z]; exact ho)
                  rw [List.getElem?_set_ne nj0] at q2
                  exact ⟨d, s, t, by simpa [outE] using q1, q2, q3⟩
            · cases h

/-! ### in and out -/
/-- the addresses that are handed over -/
def IoA (io : List Bool) (vs : List V) (a : Addr) : Prop := ∃ i : Nat, io[i]? = some true ∧ vs[i]? = some (V.ref a)
theorem map_at {vs : List V} {i : Nat} {v : V} (h : vs[i]? = some v) : (vs.map some)[i]? = some (some v) := by simp [h]
theorem map_back {vs : List V} {i : Nat} {v : V} (h : (vs.map some)[i]? = some (some v)) : vs[i]? = some v := by
  rw [List.getElem?_map] at h
  cases q : vs[i]? with
  | none => rw [q] at h; cases h
  | some u => rw [q] at h; simpa using h
theorem own_initE {io : List Bool} {ds : List D} {vs : List V} {a : Addr} (l : ds.length = io.length) : OwnA (initE io ds) (vs.map some) a ↔ IoA io vs a := by
  constructor
  · rintro ⟨i, s, e, o, v⟩
    obtain ⟨d, _, h | h⟩ := initE_at e
    · exact ⟨i, h.1, map_back v⟩
    · rw [h.2] at o; cases o
  · rintro ⟨i, hi, hv⟩
    obtain ⟨d, e⟩ := initE_true l hi
    exact ⟨i, _, e, rfl, map_at hv⟩
theorem mut_initE {io : List Bool} {ds : List D} {vs : List V} {a : Addr} (l : ds.length = io.length) : MutA (initE io ds) (vs.map some) a ↔ IoA io vs a := by
  constructor
  · exact fun h => (own_initE l).mp h.own
  · rintro ⟨i, hi, hv⟩
    obtain ⟨d, e⟩ := initE_true l hi
    exact ⟨i, _, e, rfl, map_at hv⟩
theorem own_outE {io : List Bool} {outs : List D} {vs : List V} {a : Addr} (ol : ∀ i : Nat, io[i]? = some true → ∃ d : D, (outE io outs)[i]? = some (Sl.io d)) : OwnA (outE io outs) (vs.map some) a ↔ IoA io vs a := by
  constructor
  · rintro ⟨i, s, e, o, v⟩
    rcases outE_at e with h | h
    · rw [h] at o; cases o
    · exact ⟨i, h.1, map_back v⟩
  · rintro ⟨i, hi, hv⟩
    obtain ⟨d, e⟩ := ol i hi
    exact ⟨i, _, e, rfl, map_at hv⟩
theorem mutS_at {ρ : Env} {j : Nat} (h : mutS ρ j = true) : ∃ s, ρ[j]? = some s ∧ isMut s = true := by
  unfold mutS at h
  split at h
  · exact ⟨_, by assumption, h⟩
  · cases h
theorem isMut_own {s : Sl} (h : isMut s = true) : isOwn s = true := by cases s <;> first | rfl | (simp [isMut] at h)

section
variable {w : World} {Z : Addr → Prop} {ρ ρ1 ρ2 : Env} {σ : St} {H H1 H' : Hp} {os : List OV} {vs : List V} {io : List Bool} {ds outs : List D} {fr : Bool} {d : D} {v : V}
/-- what is owned, but is not handed over -/
def Zc (Z : Addr → Prop) (ρ1 : Env) (σ : St) (io : List Bool) (vs : List V) (a : Addr) : Prop := Ow Z ρ1 σ a ∧ ¬ IoA io vs a
theorem PostL.ioA (m : Match w Z ρ σ H) (p : PostL w Z ρ σ H os ρ1 vs H1) (k : ioOk ρ1 io os = true) {a : Addr} {i : Nat} (hi : io[i]? = some true) (hv : vs[i]? = some (V.ref a)) :
    (∃ j, os[i]? = some (.plc j) ∧ mutS ρ1 j = true ∧ σ[j]? = some (some (V.ref a))) ∨ (∃ d, os[i]? = some (.val true d) ∧ a ∈ freshA os vs) := by
  obtain ⟨o, ho, q⟩ := ioOk_at k hi
  obtain ⟨u, hu, r⟩ := p.ops.at_ ho
  rw [hv] at hu
  cases hu
  cases o with
  | plc j => exact .inl ⟨j, ho, q, r⟩
  | val fr d =>
    have q : fr = true := q
    subst q
    exact .inr ⟨d, ho, freshA_at ho hv p.ops.len.symm⟩
theorem PostL.ioO (m : Match w Z ρ σ H) (p : PostL w Z ρ σ H os ρ1 vs H1) (k : ioOk ρ1 io os = true) {a : Addr} (h : IoA io vs a) : Ow (fun a => Z a ∨ a ∈ freshA os vs) ρ1 σ a := by
  obtain ⟨i, hi, hv⟩ := h
  rcases p.ioA m k hi hv with ⟨j, h1, h2, h3⟩ | ⟨d, h1, h2⟩
  · obtain ⟨s, hs, ms⟩ := mutS_at h2
    exact .inr ⟨j, s, hs, isMut_own ms, h3⟩
  · exact .inl (.inr h2)
theorem PostL.io_inj (m : Match w Z ρ σ H) (p : PostL w Z ρ σ H os ρ1 vs H1) (k : ioOk ρ1 io os = true) (n : noTwice (ioPlaces io os) = true) {a : Addr} {i j : Nat} (hi : io[i]? = some true) (hj : io[j]? = some true) (vi : vs[i]? = some (V.ref a)) (vj : vs[j]? = some (V.ref a)) : i = j := by
  rcases p.ioA m k hi vi with ⟨x, h1, h2, h3⟩ | ⟨d, h1, h2⟩
  · rcases p.ioA m k hj vj with ⟨y, g1, g2, g3⟩ | ⟨e, g1, g2⟩
    · obtain ⟨s, hs, ms⟩ := mutS_at h2
      obtain ⟨t, ht, mt⟩ := mutS_at g2
      have := p.m.ap x y s t a hs ht (isMut_own ms) (isMut_own mt) h3 g3
      subst this
      exact noTwice_inj n (ioOk_len k) hi h1 hj g1
    · obtain ⟨s, hs, ms⟩ := mutS_at h2
      exact absurd (.inr ⟨x, s, hs, isMut_own ms, h3⟩) (p.free m a g2)
  · rcases p.ioA m k hj vj with ⟨y, g1, g2, g3⟩ | ⟨e, g1, g2⟩
    · obtain ⟨s, hs, ms⟩ := mutS_at g2
      exact absurd (.inr ⟨y, s, hs, isMut_own ms, g3⟩) (p.free m a h2)
    · exact freshA_inj p.nd p.ops.len.symm h1 vi g1 vj
theorem call_in (m : Match w Z ρ σ H) (p : PostL w Z ρ σ H os ρ1 vs H1) (k : ioOk ρ1 io os = true) (n : noTwice (ioPlaces io os) = true) (e : rds ρ1 os = some ds) :
    ds.length = io.length ∧ Match w (Zc Z ρ1 σ io vs) (initE io ds) (vs.map some) H1 := by
  have l1 : ds.length = io.length := by rw [rds_len e, ioOk_len k]
  have l2 : vs.length = ds.length := by rw [p.ops.len, rds_len e]
  have hle : ∀ a, Ow (Zc Z ρ1 σ io vs) (initE io ds) (vs.map some) a → Ow (fun a => Z a ∨ a ∈ freshA os vs) ρ1 σ a := fun a z => by
    rcases z with z | z
    · exact z.1.imp .inl id
    · exact p.ioO m k ((own_initE l1).mp z)
  refine ⟨l1, ⟨by rw [initE_len io ds l1, List.length_map]; omega, fun a z => ?_, fun i s ei => ?_, fun i j s t a ei ej si sj vi vj => ?_, fun a z q => q.2 ((own_initE l1).mp z)⟩⟩
  · exact p.m.ow_there (z.1.imp .inl id)
  · obtain ⟨d, hd, ⟨hi, rfl⟩ | ⟨hi, rfl⟩⟩ := initE_at ei
    · obtain ⟨o, ho, q⟩ := ioOk_at k hi
      obtain ⟨u, hu, r⟩ := p.ops.at_ ho
      obtain ⟨d', hd', rd'⟩ := rds_at e ho
      rw [hd] at hd'; cases hd'
      cases o with
      | plc j =>
        have q : mutS ρ1 j = true := q
        obtain ⟨s, hs, ms⟩ := mutS_at q
        have r : σ[j]? = some (some u) := r
        have rd' : getS ρ1 j = some d := rd'
        have gs : s.get = some d := by unfold getS at rd'; rw [hs] at rd'; exact rd'
        obtain ⟨a, ea, rt⟩ := p.m.mutAt hs ms gs
        rw [r] at ea; cases ea
        exact ⟨a, map_at hu, rt.mono hle (fun _ _ e _ => e) fun _ e => e⟩
      | val fr d' =>
        have q : fr = true := q
        subst q
        obtain ⟨a, rfl, rt⟩ := r
        have rd' : some d' = some d := rd'
        cases rd'
        exact ⟨a, map_at hu, rt.mono hle (fun _ _ e _ => e) fun _ e => e⟩
    · obtain ⟨o, ho, q⟩ := ioOk_at k hi
      obtain ⟨u, hu, r⟩ := p.ops.at_ ho
      obtain ⟨d', hd', rd'⟩ := rds_at e ho
      rw [hd] at hd'; cases hd'
      cases o with
      | plc j => exact False.elim q
      | val fr d' =>
        have rd' : some d' = some d := rd'
        cases rd'
        cases fr with
        | false =>
          have r : Rep w _ H1 d u := r
          exact ⟨u, map_at hu, r.mono hle fun _ _ e _ => e⟩
        | true =>
          obtain ⟨a, rfl, rt⟩ := r
          have fa := freshA_at ho hu p.ops.len.symm
          refine ⟨_, map_at hu, (rt.mono hle (fun _ _ e _ => e) fun _ e => e).rep fun z => ?_⟩
          rcases z with z | z
          · exact p.free m a fa z.1
          · obtain ⟨j, hj, vj⟩ := (own_initE l1).mp z
            rcases p.ioA m k hj vj with ⟨y, g1, g2, g3⟩ | ⟨e, g1, g2⟩
            · obtain ⟨s, hs, ms⟩ := mutS_at g2
              exact p.free m a fa (.inr ⟨y, s, hs, isMut_own ms, g3⟩)
            · have := freshA_inj p.nd p.ops.len.symm ho hu g1 vj
              subst this
              rw [hi] at hj; cases hj
  · obtain ⟨d, hd, ⟨hi, rfl⟩ | ⟨hi, rfl⟩⟩ := initE_at ei
    · obtain ⟨d', hd', ⟨hj, rfl⟩ | ⟨hj, rfl⟩⟩ := initE_at ej
      · exact p.io_inj m k n hi hj (map_back vi) (map_back vj)
      · cases sj
    · cases si
theorem mutS_tr {s t : Sl} {d : D} (ms : isMut s = true) (t1 : ∀ e, s = .ow e → t = .ow d) (t2 : ∀ e, s = .io e → t = .io d) : Tr s t ∧ isMut t = true ∧ t.get = some d := by
  cases s with
  | ow e => rw [t1 e rfl]; exact ⟨.inl ⟨_, rfl⟩, rfl, rfl⟩
  | io e => rw [t2 e rfl]; exact ⟨⟨_, rfl⟩, rfl, rfl⟩
  | _ => simp [isMut] at ms
theorem call_out (m : Match w Z ρ σ H) (p : PostL w Z ρ σ H os ρ1 vs H1) (k : ioOk ρ1 io os = true) (n : noTwice (ioPlaces io os) = true) (e : rds ρ1 os = some ds) (b : backIo (ioPlaces io os) outs ρ1 = some ρ2)
    (c : PostC w (Zc Z ρ1 σ io vs) io ds vs H1 fr d outs v H') : PostE w Z ρ σ H (.val fr d) ρ2 v H' := by
  obtain ⟨l1, mi⟩ := call_in m p k n e
  obtain ⟨b1, b2, b3⟩ := backIo_spec b k n
  -- how the slots turn
  have turn : ∀ (j : Nat) (s : Sl), ρ1[j]? = some s → ∃ t, ρ2[j]? = some t ∧ ((t = s ∧ ∀ i : Nat, io[i]? = some true → os[i]? ≠ some (OV.plc j)) ∨ ∃ (i : Nat) (d : D), io[i]? = some true ∧ os[i]? = some (OV.plc j) ∧ (outE io outs)[i]? = some (.io d) ∧ isMut s = true ∧ (∀ e, s = Sl.ow e → t = Sl.ow d) ∧ (∀ e, s = Sl.io e → t = Sl.io d)) := fun j s es => by
    by_cases h : ∃ i : Nat, io[i]? = some true ∧ os[i]? = some (OV.plc j)
    · obtain ⟨i, hi, ho⟩ := h
      obtain ⟨d, s', t, q1, q2, q3, q4, q5, q6⟩ := b2 i j hi ho
      rw [es] at q2; cases q2
      exact ⟨t, q4, .inr ⟨i, d, hi, ho, q1, q3, q5, q6⟩⟩
    · have h' : ∀ i : Nat, io[i]? = some true → os[i]? ≠ some (OV.plc j) := fun i hi ho => h ⟨i, hi, ho⟩
      exact ⟨s, by rw [b1 j h']; exact es, .inl ⟨rfl, h'⟩⟩
  have tr2 : TrE ρ1 ρ2 := ⟨b3, fun j s es => by
    obtain ⟨t, et, ⟨rfl, _⟩ | ⟨i, d, _, _, _, ms, t1, t2⟩⟩ := turn j s es
    · exact ⟨_, et, Tr.refl _⟩
    · exact ⟨t, et, (mutS_tr ms t1 t2).1⟩⟩
  have own2 : ∀ a, OwnA ρ2 σ a → OwnA ρ1 σ a := fun a => tr2.own
  -- the addresses handed over that are no fresh ones are owned by slots that may change
  have ioM : ∀ a, IoA io vs a → MutA ρ1 σ a ∨ a ∈ freshA os vs := fun a ⟨i, hi, hv⟩ => by
    rcases p.ioA m k hi hv with ⟨j, h1, h2, h3⟩ | ⟨d, h1, h2⟩
    · obtain ⟨s, hs, ms⟩ := mutS_at h2
      exact .inl ⟨j, s, hs, ms, h3⟩
    · exact .inr h2
  have oc : ∀ a, Ow Z ρ2 σ a → Ow (Zc Z ρ1 σ io vs) (outE io outs) (vs.map some) a := fun a z => by
    by_cases h : IoA io vs a
    · exact .inr ((own_outE c.ol).mpr h)
    · exact .inl ⟨z.imp id (own2 a), h⟩
  -- the result's address, if it is fresh
  have resA : ∀ a, fr = true → v = .ref a → H1 a = none ∧ ¬ Ow (Zc Z ρ1 σ io vs) (outE io outs) (vs.map some) a := fun a hf hv => by
    have res := c.res
    subst hf
    obtain ⟨a', e', no, nw, _⟩ := res
    rw [hv] at e'; cases e'
    refine ⟨nw.resolve_right fun z => no (.inr ((own_outE c.ol).mpr ((mut_initE l1).mp z))), no⟩
  have zf : ∀ a, Zf Z v (.val fr d) a → Z a ∨ (fr = true ∧ v = .ref a) := fun a z => by
    cases fr with
    | false => exact .inl z
    | true => exact z.imp id fun z => ⟨rfl, z⟩
  have ocf : ∀ a, Ow (Zf Z v (.val fr d)) ρ2 σ a → Ow (Zf (Zc Z ρ1 σ io vs) v (.val fr d)) (outE io outs) (vs.map some) a := fun a z => by
    rcases z with z | z
    · rcases zf a z with z2 | ⟨hf, z2⟩
      · exact (oc a (.inl z2)).imp Zf_le id
      · subst hf; exact .inl (.inr z2)
    · exact (oc a (.inr z)).imp Zf_le id
  -- what was not owned, nor handed over
  have keep : ∀ a u, H1 a = some u → ¬ IoA io vs a → H' a = some u := fun a u q h => c.st.keep a u q fun z => h ((mut_initE l1).mp z)
  have keepO : ∀ a u, H1 a = some u → ¬ Ow (fun a => Z a ∨ a ∈ freshA os vs) ρ1 σ a → H' a = some u := fun a u q h => keep a u q fun z => h (p.ioO m k z)
  have repO : ∀ {d : D} {u : V}, Rep w (Ow (fun a => Z a ∨ a ∈ freshA os vs) ρ1 σ) H1 d u → Rep w (Ow (Zf Z v (.val fr d)) ρ2 σ) H' d u := fun {d0 u} r => by
    have r2 : Rep w (fun b => Ow (fun a => Z a ∨ a ∈ freshA os vs) ρ1 σ b ∨ (fr = true ∧ v = .ref b)) H1 d0 u := r.moreP fun a z => .inl (resA a z.1 z.2).1
    refine r2.mono (fun a z => ?_) fun a u q h => keepO a u q fun z => h (.inl z)
    rcases z with z | z
    · have : Z a ∨ (fr = true ∧ v = .ref a) := by
        cases fr with
        | false => exact .inl z
        | true => exact z.imp id fun z => ⟨rfl, z⟩
      exact this.elim (fun z => .inl (.inl (.inl z))) .inr
    · exact .inl (.inr (own2 a z))
  refine ⟨⟨by rw [b3]; exact p.m.len, fun a z => ?_, fun j t et => ?_, fun i j s t a ei ej si sj vi vj => ?_, fun a z q => ?_⟩, p.tr.trans tr2, ⟨fun a u q h => ?_, fun a q => c.st.trk a (p.st.trk a q)⟩, ?_⟩
  · exact c.m.ow_there (ocf a (.inl z))
  · have hj : j < ρ1.length := by rw [← b3]; exact (List.getElem?_eq_some_iff.mp et).1
    have es : ρ1[j]? = some ρ1[j] := by simp [hj]
    generalize ρ1[j] = s at es
    obtain ⟨t', et', ⟨rfl, hn⟩ | ⟨i, d1, hi, ho, q1, ms, t1, t2⟩⟩ := turn j s es
    · rw [et] at et'; cases et'
      have k0 := p.m.slot j t es
      -- the slot's own address is not handed over
      have na : isOwn t = true → ∀ a, σ[j]? = some (some (V.ref a)) → ¬ IoA io vs a := fun ot a va ⟨i, hi, hv⟩ => by
        rcases p.ioA m k hi hv with ⟨x, h1, h2, h3⟩ | ⟨d, h1, h2⟩
        · obtain ⟨s', hs, ms⟩ := mutS_at h2
          have := p.m.ap x j s' t a hs es (isMut_own ms) ot h3 va
          subst this
          exact hn i hi h1
        · exact p.free m a h2 (.inr ⟨j, t, es, ot, va⟩)
      have rt : isOwn t = true → ∀ (d0 : D) (a : Addr), σ[j]? = some (some (V.ref a)) → RepT w (Ow (fun a => Z a ∨ a ∈ freshA os vs) ρ1 σ) H1 d0 a → RepT w (Ow (Zf Z v (.val fr d)) ρ2 σ) H' d0 a := fun ot d0 a va r => by
        have r2 : RepT w (fun b => Ow (fun a => Z a ∨ a ∈ freshA os vs) ρ1 σ b ∨ (fr = true ∧ v = .ref b)) H1 d0 a := r.moreP fun a z => .inl (resA a z.1 z.2).1
        refine r2.mono (fun a z => ?_) (fun a u q h => keepO a u q fun z => h (.inl z)) fun u q => keep a u q (na ot a va)
        rcases z with z | z
        · exact (zf a z).elim (fun z => .inl (.inl (.inl z))) .inr
        · exact .inl (.inr (own2 a z))
      cases t with
      | no => trivial
      | sh d0 =>
        obtain ⟨u, hu, r⟩ := k0
        refine ⟨u, hu, ?_⟩
        have r2 : Rep w (fun b => Ow (fun a => Z a ∨ a ∈ freshA os vs) ρ1 σ b ∨ (fr = true ∧ v = .ref b)) H1 d0 u := r.moreP fun a z => .inl (resA a z.1 z.2).1
        refine r2.mono (fun a z => ?_) fun a u q h => keepO a u q fun z => h (.inl z)
        rcases z with z | z
        · exact (zf a z).elim (fun z => .inl (.inl (.inl z))) .inr
        · exact .inl (.inr (own2 a z))
      | ow d0 => obtain ⟨a, ea, r⟩ := k0; exact ⟨a, ea, rt rfl d0 a ea r⟩
      | io d0 => obtain ⟨a, ea, r⟩ := k0; exact ⟨a, ea, rt rfl d0 a ea r⟩
      | lk d0 => obtain ⟨a, ea, r⟩ := k0; exact ⟨a, ea, rt rfl d0 a ea r⟩
    · rw [et] at et'; cases et'
      obtain ⟨a, ea, r⟩ := c.m.slot i _ q1
      obtain ⟨u, hu, ru⟩ := p.ops.at_ ho
      have ru : σ[j]? = some (some u) := ru
      have := map_back ea
      rw [hu] at this; cases this
      have rr : RepT w (Ow (Zf Z v (.val fr d)) ρ2 σ) H' d1 a := r.mono ocf (fun _ _ e _ => e) fun _ e => e
      cases s with
      | ow e0 => rw [t1 e0 rfl]; exact ⟨a, ru, rr⟩
      | io e0 => rw [t2 e0 rfl]; exact ⟨a, ru, rr⟩
      | _ => simp [isMut] at ms
  · obtain ⟨s1, e1, r1⟩ := tr2.back ei
    obtain ⟨s2, e2, r2⟩ := tr2.back ej
    exact p.m.ap i j s1 s2 a e1 e2 (r1.own si) (r2.own sj) vi vj
  · rcases zf a q with q | ⟨hf, hv⟩
    · exact p.m.zo a (own2 a z) (.inl q)
    · exact (resA a hf hv).2 (oc a (.inr z))
  · have h1 := p.st.keep a u q h
    refine keep a u h1 fun z => ?_
    rcases ioM a z with z | z
    · exact h (p.tr.mut z)
    · rcases p.nw a z with z | z
      · rw [q] at z; cases z
      · exact h z
  · have res := c.res
    cases fr with
    | false =>
      have res : Rep w _ H' d v := res
      exact res.mono oc fun _ _ e _ => e
    | true =>
      obtain ⟨a, rfl, no, nw, r⟩ := res
      refine ⟨a, rfl, fun z => no (oc a z), .inl (p.st.none_back (resA a rfl rfl).1), r.mono (fun b z => z.imp (oc b) id) (fun _ _ e _ => e) fun _ e => e⟩
end

section
variable {X : Cx} {C : CallS} {k : Nat} {f : Addr} {fd : FuncData} {ps : List Str} {x : Str} {p pos : Pos} {e : Expr} {es : List Expr} {j : Nat} {io : List Bool} {rs : List RE}
theorem call_imp {σ : St} {H : Hp} {Q : VK} (h : tE X.w C (.call j io rs) σ H Q) : tCall (spF X.w C j io) [] C8.E0 (tL X.w C rs) σ H Q := by
  obtain ⟨Z, ρ, o, ρ', m, ev, k⟩ := h
  simp only [evE] at ev
  split at ev
  · cases ev
  · rename_i os ρ1 e1
    split at ev
    · rename_i hc
      rw [Bool.and_eq_true] at hc
      split at ev
      · cases ev
      · rename_i ds e2
        split at ev
        · cases ev
        · rename_i fr d outs e3
          split at ev
          · cases ev
          · rename_i ρ2 e4
            cases ev
            refine ⟨Z, ρ, os, ρ1, m, e1, fun vs H1 p => ?_⟩
            show spF X.w C j io (vs ++ []) H1 Q C8.E0
            rw [List.append_nil]
            obtain ⟨l1, mi⟩ := call_in m p hc.1 hc.2 e2
            exact ⟨_, ds, fr, d, outs, mi, l1, e3, fun v H' c => k v H' (call_out m p hc.1 hc.2 e2 e4 c)⟩
    · cases ev
theorem s_call (F : FnOk X.prog X.w X.K X.mg X.base C8.CX0 k f fd ps (spF X.w C j io)) (hr : Room k X.A) (hg : Gl X x) (hm : X.mg x = some (.ref f)) (hk : PySem.W.keepIn X.K (.ref f) = true) (hb : Binds X.K fd ps [])
    (ha : PA X (e :: es) (tL X.w C rs)) (hdb : (x == ("__debug__" : Str)) = false) (he : starEach (e :: es) X.env = (false, eval e X.env) :: starEach es X.env) (hpl : (backTo pos (starEach es X.env)).any (·.1) = false) :
    PE X (.Call (.Name x p) (e :: es) [] pos) (tE X.w C (.call j io rs)) :=
  peImp (pe_call F hr hg hm hk hb .nil C8.pass0 ha hdb he hpl) fun σ H Q h => call_imp h
theorem s_call0 (F : FnOk X.prog X.w X.K X.mg X.base C8.CX0 k f fd ps (spF X.w C j io)) (hr : Room k X.A) (hg : Gl X x) (hm : X.mg x = some (.ref f)) (hk : PySem.W.keepIn X.K (.ref f) = true) (hb : Binds X.K fd ps [])
    (hdb : (x == ("__debug__" : Str)) = false) :
    PE X (.Call (.Name x p) [] [] pos) (tE X.w C (.call j io [])) := by
  refine peImp (pe_call0 (E := C8.E0) F hr hg hm hk hb .nil C8.pass0 hdb) fun σ H Q h => ?_
  obtain ⟨Z, ρ, os, ρ', m, ev, k⟩ := call_imp h
  simp only [evL, Option.some.injEq, Prod.mk.injEq] at ev
  obtain ⟨rfl, rfl⟩ := ev
  exact k [] H ⟨m.mono fun a z => z.elim id fun z => (nomatch z), .refl ρ, .refl, List.nodup_nil, fun a z => (nomatch z), rfl⟩
end
end Ev

/-! Ev, part L: steps of statements, targets, what is walked. -/
namespace Ev
open PySem PySem.Spec PyProof.Rows L2

/-! ### the step of a statement -/
structure StS (ρ : Env) (σ : St) (H : Hp) (ρ' : Env) (σ' : St) (H' : Hp) : Prop where
  len : ρ'.length = ρ.length
  kp : ∀ a u, H a = some u → ¬ MutA ρ σ a → H' a = some u
  trk : ∀ a, H a ≠ none → H' a ≠ none
  mu : ∀ a, MutA ρ' σ' a → H a = none ∨ MutA ρ σ a
  ow : ∀ a, OwnA ρ' σ' a → H a = none ∨ OwnA ρ σ a
  io : ∀ (i : Nat) (d : D), ρ[i]? = some (.io d) → (∃ d', ρ'[i]? = some (.io d')) ∧ σ'[i]? = σ[i]?
  lk : ∀ (i : Nat) (d : D), ρ[i]? = some (.lk d) → ρ'[i]? = some (.lk d) ∧ σ'[i]? = σ[i]?
section
variable {w : World} {Z Z' : Addr → Prop} {ρ ρ1 ρ2 ρ' : Env} {σ σ1 σ2 σ' : St} {H H1 H2 H' : Hp}
theorem none_of {f : Addr → Option HO} {g : Addr → Option HO} (h : ∀ a, f a ≠ none → g a ≠ none) {a : Addr} (e : g a = none) : f a = none := by
  cases q : f a with
  | none => rfl
  | some u => exact absurd e (h a (by rw [q]; simp))
theorem StS.refl : StS ρ σ H ρ σ H := ⟨rfl, fun _ _ h _ => h, fun _ h => h, fun _ h => .inr h, fun _ h => .inr h, fun i d h => ⟨⟨d, h⟩, rfl⟩, fun i d h => ⟨h, rfl⟩⟩
theorem StS.trans (a : StS ρ σ H ρ1 σ1 H1) (b : StS ρ1 σ1 H1 ρ2 σ2 H2) : StS ρ σ H ρ2 σ2 H2 := by
  refine ⟨b.len.trans a.len, fun x u e n => ?_, fun x e => b.trk x (a.trk x e), fun x h => ?_, fun x h => ?_, fun i d h => ?_, fun i d h => ?_⟩
  · refine b.kp x u (a.kp x u e n) fun z => ?_
    rcases a.mu x z with z | z
    · rw [e] at z; cases z
    · exact n z
  · rcases b.mu x h with z | z
    · exact .inl (none_of a.trk z)
    · exact a.mu x z
  · rcases b.ow x h with z | z
    · exact .inl (none_of a.trk z)
    · exact a.ow x z
  · obtain ⟨⟨d', h1⟩, h2⟩ := a.io i d h
    obtain ⟨h3, h4⟩ := b.io i d' h1
    exact ⟨h3, h4.trans h2⟩
  · obtain ⟨h1, h2⟩ := a.lk i d h
    obtain ⟨h3, h4⟩ := b.lk i d h1
    exact ⟨h3, h4.trans h2⟩
/-- an expression's step -/
theorem StS.of (t : TrE ρ ρ') (s : Stp ρ σ H H') : StS ρ σ H ρ' σ H' := by
  refine ⟨t.len, s.keep, s.trk, fun a h => .inr (t.mut h), fun a h => .inr (t.own h), fun i d h => ?_, fun i d h => ?_⟩
  · obtain ⟨u, e, d', rfl⟩ := t.tr i _ h
    exact ⟨⟨d', e⟩, rfl⟩
  · obtain ⟨u, e, q⟩ := t.tr i _ h
    cases q
    exact ⟨e, rfl⟩
/-- data that are not owned stay -/
theorem StS.rep (s : StS ρ σ H ρ' σ' H') {d : D} {v : V} (r : Rep w (Ow Z ρ σ) H d v) : Rep w (Ow Z ρ' σ') H' d v := by
  have r2 : Rep w (fun b => Ow Z ρ σ b ∨ OwnA ρ' σ' b) H d v := r.moreP fun a h => (s.ow a h).imp_right .inr
  refine r2.mono (fun a z => z.elim (fun z => .inl (.inl z)) .inr) fun a u e n => s.kp a u e fun z => n (.inl (.inr z.own))
theorem StS.reps (s : StS ρ σ H ρ' σ' H') {d : List D} {v : List V} (r : Reps w (Ow Z ρ σ) H d v) : Reps w (Ow Z ρ' σ') H' d v := by
  have r2 : Reps w (fun b => Ow Z ρ σ b ∨ OwnA ρ' σ' b) H d v := r.moreP fun a h => (s.ow a h).imp_right .inr
  refine r2.mono (fun a z => z.elim (fun z => .inl (.inl z)) .inr) fun a u e n => s.kp a u e fun z => n (.inl (.inr z.own))

/-- a slot is stored to -/
theorem setS_eq {i : Nat} {s : Sl} (h : setS ρ i s = some ρ') : ∃ t, ρ[i]? = some t ∧ isFree t = true ∧ ρ' = ρ.set i s := by
  unfold setS at h
  split at h
  · split at h
    · cases h
      exact ⟨_, by assumption, by assumption, rfl⟩
    · cases h
  · cases h
theorem isFree_mut {t : Sl} (h : isFree t = true) : isOwn t = true → isMut t = true := by cases t <;> simp [isFree, isOwn, isMut] at h ⊢
/-- what is owned behind a store: no more than ahead of it, and the stored thing -/
theorem own_set {i : Nat} {s : Sl} {v : V} {a : Addr} (h : OwnA (ρ.set i s) (σ.set i (some v)) a) : (isOwn s = true ∧ v = .ref a) ∨ ∃ (j : Nat) (t : Sl), j ≠ i ∧ ρ[j]? = some t ∧ isOwn t = true ∧ σ[j]? = some (some (V.ref a)) := by
  obtain ⟨j, t, e, o, va⟩ := h
  by_cases hj : j = i
  · subst hj
    have hl : j < ρ.length := by
      have := (List.getElem?_eq_some_iff.mp e).1
      simpa using this
    rw [List.getElem?_set_self hl] at e
    cases e
    by_cases hs : j < σ.length
    · rw [List.getElem?_set_self hs] at va
      simp at va
      exact .inl ⟨o, va⟩
    · rw [List.getElem?_eq_none (by simpa using hs)] at va
      cases va
  · rw [List.getElem?_set_ne (Ne.symm hj)] at e va
    exact .inr ⟨j, t, hj, e, o, va⟩
theorem mut_set {i : Nat} {s : Sl} {v : V} {a : Addr} (h : MutA (ρ.set i s) (σ.set i (some v)) a) : (isMut s = true ∧ v = .ref a) ∨ ∃ (j : Nat) (t : Sl), j ≠ i ∧ ρ[j]? = some t ∧ isMut t = true ∧ σ[j]? = some (some (V.ref a)) := by
  obtain ⟨j, t, e, o, va⟩ := h
  by_cases hj : j = i
  · subst hj
    have hl : j < ρ.length := by
      have := (List.getElem?_eq_some_iff.mp e).1
      simpa using this
    rw [List.getElem?_set_self hl] at e
    cases e
    by_cases hs : j < σ.length
    · rw [List.getElem?_set_self hs] at va
      simp at va
      exact .inl ⟨o, va⟩
    · rw [List.getElem?_eq_none (by simpa using hs)] at va
      cases va
  · rw [List.getElem?_set_ne (Ne.symm hj)] at e va
    exact .inr ⟨j, t, hj, e, o, va⟩
/-- a store of shared data -/
theorem Match.setSh (m : Match w Z ρ σ H) {i : Nat} {d : D} {v : V} (e : setS ρ i (.sh d) = some ρ') (r : Rep w (Ow Z ρ σ) H d v) : Match w Z ρ' (σ.set i (some v)) H ∧ StS ρ σ H ρ' (σ.set i (some v)) H := by
  obtain ⟨t, et, ft, rfl⟩ := setS_eq e
  have il : i < ρ.length := (List.getElem?_eq_some_iff.mp et).1
  have il2 : i < σ.length := by rw [← m.len]; exact il
  have own' : ∀ a, OwnA (ρ.set i (.sh d)) (σ.set i (some v)) a → OwnA ρ σ a := fun a h => by
    rcases own_set h with ⟨h, _⟩ | ⟨j, t, _, h1, h2, h3⟩
    · cases h
    · exact ⟨j, t, h1, h2, h3⟩
  have mut' : ∀ a, MutA (ρ.set i (.sh d)) (σ.set i (some v)) a → MutA ρ σ a := fun a h => by
    rcases mut_set h with ⟨h, _⟩ | ⟨j, t, _, h1, h2, h3⟩
    · cases h
    · exact ⟨j, t, h1, h2, h3⟩
  refine ⟨⟨by simp [m.len], m.zt, fun j s ej => ?_, fun j k s s' a ej ek oj ok vj vk => ?_, fun a z => m.zo a (own' a z)⟩, ⟨by simp, fun _ _ h _ => h, fun _ h => h, fun a h => .inr (mut' a h), fun a h => .inr (own' a h), fun j d' h => ?_, fun j d' h => ?_⟩⟩
  · by_cases hj : i = j
    · subst hj
      rw [List.getElem?_set_self il] at ej
      cases ej
      rw [List.getElem?_set_self il2]
      exact ⟨v, rfl, r.mono (fun a z => z.imp id (own' a)) fun _ _ e _ => e⟩
    · rw [List.getElem?_set_ne hj] at ej ⊢
      exact (m.slot j s ej).mono (fun a z => z.imp id (own' a)) (fun _ _ e _ => e) fun _ _ _ _ e => e
  · by_cases hj : i = j
    · subst hj
      rw [List.getElem?_set_self il] at ej; cases ej; cases oj
    · by_cases hk : i = k
      · subst hk
        rw [List.getElem?_set_self il] at ek; cases ek; cases ok
      · rw [List.getElem?_set_ne hj] at ej vj
        rw [List.getElem?_set_ne hk] at ek vk
        exact m.ap j k s s' a ej ek oj ok vj vk
  · have hj : i ≠ j := fun z => by subst z; rw [et] at h; cases h; cases ft
    rw [List.getElem?_set_ne hj, List.getElem?_set_ne hj]
    exact ⟨⟨d', h⟩, rfl⟩
  · have hj : i ≠ j := fun z => by subst z; rw [et] at h; cases h; cases ft
    rw [List.getElem?_set_ne hj, List.getElem?_set_ne hj]
    exact ⟨h, rfl⟩
/-- a store of a fresh object -/
theorem Match.setOw {a0 : Addr} {i : Nat} {d d0 : D} (m : Match w (Zf Z (.ref a0) (.val true d0)) ρ σ H) (e : setS ρ i (.ow d) = some ρ') (n : ¬ Ow Z ρ σ a0) (r : RepT w (fun b => Ow Z ρ σ b ∨ b = a0) H d a0) :
    Match w Z ρ' (σ.set i (some (V.ref a0))) H ∧ (∀ a, OwnA ρ' (σ.set i (some (V.ref a0))) a → a = a0 ∨ OwnA ρ σ a) ∧ (∀ a, MutA ρ' (σ.set i (some (V.ref a0))) a → a = a0 ∨ MutA ρ σ a) ∧
      (∀ (j : Nat) (d' : D), ρ[j]? = some (.io d') → ρ'[j]? = some (.io d') ∧ (σ.set i (some (V.ref a0)))[j]? = σ[j]?) ∧ (∀ (j : Nat) (d' : D), ρ[j]? = some (.lk d') → ρ'[j]? = some (.lk d') ∧ (σ.set i (some (V.ref a0)))[j]? = σ[j]?) ∧ ρ'.length = ρ.length := by
  obtain ⟨t, et, ft, rfl⟩ := setS_eq e
  have il : i < ρ.length := (List.getElem?_eq_some_iff.mp et).1
  have il2 : i < σ.length := by rw [← m.len]; exact il
  have own' : ∀ a, OwnA (ρ.set i (.ow d)) (σ.set i (some (V.ref a0))) a → a = a0 ∨ OwnA ρ σ a := fun a h => by
    rcases own_set h with ⟨_, h⟩ | ⟨j, t, _, h1, h2, h3⟩
    · cases h; exact .inl rfl
    · exact .inr ⟨j, t, h1, h2, h3⟩
  have mut' : ∀ a, MutA (ρ.set i (.ow d)) (σ.set i (some (V.ref a0))) a → a = a0 ∨ MutA ρ σ a := fun a h => by
    rcases mut_set h with ⟨_, h⟩ | ⟨j, t, _, h1, h2, h3⟩
    · cases h; exact .inl rfl
    · exact .inr ⟨j, t, h1, h2, h3⟩
  have le : ∀ a, Ow Z (ρ.set i (.ow d)) (σ.set i (some (V.ref a0))) a → Ow (Zf Z (.ref a0) (.val true d0)) ρ σ a := fun a z => by
    rcases z with z | z
    · exact .inl (.inl z)
    · rcases own' a z with rfl | z
      · exact .inl (.inr rfl)
      · exact .inr z
  refine ⟨⟨by simp [m.len], fun a z => m.zt a (.inl z), fun j s ej => ?_, fun j k s s' a ej ek oj ok vj vk => ?_, fun a z q => ?_⟩, own', mut', fun j d' h => ?_, fun j d' h => ?_, by simp⟩
  · by_cases hj : i = j
    · subst hj
      rw [List.getElem?_set_self il] at ej
      cases ej
      rw [List.getElem?_set_self il2]
      refine ⟨a0, rfl, r.mono (fun a z => ?_) (fun _ _ e _ => e) fun _ e => e⟩
      rcases z with z | z
      · exact .inl (.inl z)
      · rcases own' a z with rfl | z
        · exact .inr rfl
        · exact .inl (.inr z)
    · rw [List.getElem?_set_ne hj] at ej ⊢
      exact (m.slot j s ej).mono le (fun _ _ e _ => e) fun _ _ _ _ e => e
  · have other : ∀ (j : Nat) (s : Sl), j ≠ i → (ρ.set i (.ow d))[j]? = some s → isOwn s = true → (σ.set i (some (V.ref a0)))[j]? = some (some (V.ref a)) → a ≠ a0 := fun j s hj ej oj vj q => by
      rw [List.getElem?_set_ne (Ne.symm hj)] at ej vj
      rw [q] at vj
      exact n (.inr ⟨j, s, ej, oj, vj⟩)
    have self : (σ.set i (some (V.ref a0)))[i]? = some (some (V.ref a)) → a = a0 := fun q => by
      rw [List.getElem?_set_self il2] at q
      simpa using q.symm
    by_cases hj : i = j
    · by_cases hk : i = k
      · omega
      · subst hj
        exact absurd (self vj) (other k s' (Ne.symm hk) ek ok vk)
    · by_cases hk : i = k
      · subst hk
        exact absurd (self vk) (other j s (Ne.symm hj) ej oj vj)
      · rw [List.getElem?_set_ne hj] at ej vj
        rw [List.getElem?_set_ne hk] at ek vk
        exact m.ap j k s s' a ej ek oj ok vj vk
  · rcases own' a z with rfl | z
    · exact n (.inl q)
    · exact m.zo a z (.inl q)
  · have hj : i ≠ j := fun z => by subst z; rw [et] at h; cases h; cases ft
    rw [List.getElem?_set_ne hj, List.getElem?_set_ne hj]
    exact ⟨h, rfl⟩
  · have hj : i ≠ j := fun z => by subst z; rw [et] at h; cases h; cases ft
    rw [List.getElem?_set_ne hj, List.getElem?_set_ne hj]
    exact ⟨h, rfl⟩
/-- name = expression -/
theorem PostE.asg {i : Nat} {fr : Bool} {d : D} {v : V} (p : PostE w Z ρ σ H (.val fr d) ρ1 v H1) (e : setS ρ1 i (owS fr d) = some ρ2) : Match w Z ρ2 (σ.set i (some v)) H1 ∧ StS ρ σ H ρ2 (σ.set i (some v)) H1 := by
  cases fr with
  | false =>
    have r : Rep w (Ow Z ρ1 σ) H1 d v := p.res
    obtain ⟨m2, s2⟩ := p.m0.setSh e r
    exact ⟨m2, (StS.of p.tr p.st).trans s2⟩
  | true =>
    obtain ⟨a0, rfl, n, nw, r⟩ := p.res
    obtain ⟨m2, o2, u2, io2, lk2, l2⟩ := p.m.setOw e n r
    refine ⟨m2, ⟨l2.trans p.tr.len, p.st.keep, p.st.trk, fun a h => ?_, fun a h => ?_, fun j d' h => ?_, fun j d' h => ?_⟩⟩
    · rcases u2 a h with rfl | h
      · exact nw
      · exact .inr (p.tr.mut h)
    · rcases o2 a h with rfl | h
      · exact nw.imp_right MutA.own
      · exact .inr (p.tr.own h)
    · obtain ⟨u, e, d2, rfl⟩ := p.tr.tr j _ h
      exact ⟨⟨d2, (io2 j d2 e).1⟩, (io2 j d2 e).2⟩
    · obtain ⟨u, e, q⟩ := p.tr.tr j _ h
      cases q
      exact lk2 j d' e
end

/-! ### targets -/
mutual
def tgS : Tgt → List Nat
  | .nm i => [i]
  | .tp ts => tgsS ts
def tgsS : List Tgt → List Nat
  | [] => []
  | t :: ts => tgS t ++ tgsS ts
end
def tG (w : World) (t : Tgt) : TG := fun v σ H Q => ∃ Z ρ d ρ', Match w Z ρ σ H ∧ Rep w (Ow Z ρ σ) H d v ∧ bindT t d ρ = some ρ' ∧
  ∀ σ', Match w Z ρ' σ' H → StS ρ σ H ρ' σ' H → σ'.length = σ.length → (∀ i, i ∉ tgS t → σ'[i]? = σ[i]?) → (∀ i, i ∉ tgS t → ρ'[i]? = ρ[i]?) → Q σ' H
def tGs (w : World) (t : List Tgt) : TGs := fun v σ H Q => ∃ Z ρ d ρ', Match w Z ρ σ H ∧ Reps w (Ow Z ρ σ) H d v ∧ bindTs t d ρ = some ρ' ∧
  ∀ σ', Match w Z ρ' σ' H → StS ρ σ H ρ' σ' H → σ'.length = σ.length → (∀ i, i ∉ tgsS t → σ'[i]? = σ[i]?) → (∀ i, i ∉ tgsS t → ρ'[i]? = ρ[i]?) → Q σ' H
theorem pgImp {X : Cx} {e : Expr} {t t' : TG} (h : PG X e t) (i : ∀ v σ H Q, t' v σ H Q → t v σ H Q) : PG X e t' := ⟨fun pins s σ H v u Q I r q => h.run pins s σ H v u Q I r (i v σ H Q q)⟩
theorem pgsImp {X : Cx} {e : List Expr} {t t' : TGs} (h : PGs X e t) (i : ∀ v σ H Q, t' v σ H Q → t v σ H Q) : PGs X e t' := ⟨fun pins s σ H v u Q I r q => h.run pins s σ H v u Q I r (i v σ H Q q)⟩
section
variable {X : Cx}
theorem g_nm {i : Nat} {x : Str} {pos : Pos} (hN : X.N.Nodup) (hi : X.N[i]? = some x) (hx : Loc X.env.scope x) (hf : X.fn x = true ∨ X.env.scope.names.lookup x = some .local) : PG X (.Name x pos) (tG X.w (.nm i)) := by
  refine pgImp (pg_name hN hi hx hf) fun v σ H Q ⟨Z, ρ, d, ρ', m, r, e, k⟩ => ?_
  unfold bindT at e
  obtain ⟨m2, s2⟩ := m.setSh e r
  obtain ⟨t, et, ft, rfl⟩ := setS_eq e
  refine k _ m2 s2 (by simp) (fun j hj => ?_) fun j hj => ?_
  · exact List.getElem?_set_ne fun z => hj (by simp [tgS, z])
  · exact List.getElem?_set_ne fun z => hj (by simp [tgS, z])
theorem g_nil : PGs X [] (tGs X.w []) := by
  refine pgsImp pgs_nil fun v σ H Q ⟨Z, ρ, d, ρ', m, r, e, k⟩ => ?_
  cases d with
  | nil =>
    simp only [bindTs, Option.some.injEq] at e
    subst e
    exact ⟨by simpa [Reps] using r, k σ m .refl rfl (fun _ _ => rfl) fun _ _ => rfl⟩
  | cons _ _ => simp [bindTs] at e
theorem g_cons {e : Expr} {es : List Expr} {t : Tgt} {ts : List Tgt} (h1 : PG X e (tG X.w t)) (h2 : PGs X es (tGs X.w ts)) (hs : (assignEach (e :: es) X.env).map (·.2) = assign e X.env :: (assignEach es X.env).map (·.2)) : PGs X (e :: es) (tGs X.w (t :: ts)) := by
  refine pgsImp (pgs_cons h1 h2 hs) fun v σ H Q ⟨Z, ρ, d, ρ', m, r, e, k⟩ => ?_
  cases d with
  | nil => simp [bindTs] at e
  | cons d ds =>
    unfold Reps at r
    obtain ⟨v, vr, rfl, r1, r2⟩ := r
    simp only [bindTs] at e
    split at e
    · rename_i ρ1 e1
      refine ⟨v, vr, rfl, Z, ρ, d, ρ1, m, r1, e1, fun σ1 m1 s1 l1 k1 j1 => ⟨Z, ρ1, ds, ρ', m1, s1.reps r2, e, fun σ2 m2 s2 l2 k2 j2 => ?_⟩⟩
      refine k σ2 m2 (s1.trans s2) (l2.trans l1) (fun i hi => ?_) fun i hi => ?_
      · simp only [tgsS, List.mem_append, not_or] at hi
        rw [k2 i hi.2, k1 i hi.1]
      · simp only [tgsS, List.mem_append, not_or] at hi
        rw [j2 i hi.2, j1 i hi.1]
    · cases e
theorem g_tup {es : List Expr} {k : Nat} {ts : List Tgt} {pos : Pos} (hc : X.calm = true) (h : PGs X es (tGs X.w ts)) (hl : ts.length = (assignEach es X.env).length) (hst : (assignEach es X.env).findIdx? (·.1) = none) : PG X (.Tuple es k pos) (tG X.w (.tp ts)) := by
  refine pgImp (pg_tup hc h rfl hst) fun v σ H Q ⟨Z, ρ, d, ρ', m, r, e, k⟩ => ?_
  unfold bindT at e
  cases d with
  | tup ds =>
    simp only at e
    unfold Rep at r
    obtain ⟨a, xs, rfl, _, rd, rs⟩ := r
    refine ⟨a, xs, rfl, .inl rd, ?_, Z, ρ, ds, ρ', m, rs, e, k⟩
    have : ∀ (ts : List Tgt) (ds : List D) (ρ ρ' : Env), bindTs ts ds ρ = some ρ' → ds.length = ts.length := by
      intro ts
      induction ts with
      | nil => intro ds ρ ρ' h; cases ds <;> simp [bindTs] at h ⊢
      | cons t ts ih =>
        intro ds ρ ρ' h
        cases ds with
        | nil => simp [bindTs] at h
        | cons d ds =>
          simp only [bindTs] at h
          split at h
          · simp [ih _ _ _ h]
          · cases h
    rw [rs.length, this ts ds ρ ρ' e, hl]
  | _ => simp at e
end
end Ev

/-! Ev, part M: iterators of the KE layer as turns of the hand layer. -/
namespace Ev
open PySem PySem.Spec PyProof.Rows L2

/-- one of two readings serves, by what the state says -/
theorem pi_either {X : Cx} {tg e : Expr} {t t1 t2 : TI} (h1 : PI X tg e t1) (h2 : PI X tg e t2) (i : ∀ σ H R, t σ H R → t1 σ H R ∨ t2 σ H R) : PI X tg e t :=
  ⟨fun pins s σ H R I q => (i σ H R q).elim (h1.run pins s σ H R I) (h2.run pins s σ H R I)⟩

/-- n turns while G stands; Y tells what comes at a turn -/
def ItW (n : Nat) (G : Hp → Prop) (Y : Nat → Hp → V → Hp → Prop) : It := ⟨fun i H => i < n ∧ G H, Y, fun i H => i = n ∧ G H⟩
theorem walk_w {n : Nat} {G : Hp → Prop} {Y : Nat → Hp → V → Hp → Prop} : Walk (ItW n G Y) n G Y :=
  ⟨fun _ _ hi g => ⟨hi, g⟩, fun _ g => ⟨rfl, g⟩, fun _ _ _ _ _ _ y => y⟩

section
variable {P : Program} {w : World} {K : PySem.W.Frag} {tg : Expr} {it : Addr} {fp wr : List Addr} {n : Nat} {G : Hp → Prop}
/-- what a next hands over to the hand layer -/
def Comes (P : Program) (w : World) (K : PySem.W.Frag) (fp wr : List Addr) (n : Nat) (G : Hp → Prop) (Yh : Nat → Heap → Value → Heap → Prop) (Y : Nat → Hp → V → Hp → Prop) : Prop :=
  ∀ (X : Cx), X.prog = P → X.w = w → X.K = K → ∀ (pins : List (Addr × Obj)) (σ : St) (H : Hp) (s : Shared) (i : Nat) (v : Value) (h' : Heap) (tk : Nat), Inv X pins σ H s → (∀ b ∈ fp, FpOk X pins H b) → (∀ b ∈ fp, b < s.heap.objs.size) → G H → i < n →
    Yh i s.heap v h' → (∀ b o, b ∉ wr → s.heap.get? b = some o → h'.get? b = some o) → ∃ x H', Inv X pins σ H' { s with heap := h', toks := tk } ∧ RelV x v ∧ Y i H x H' ∧ ∀ b ∈ fp, H' b = none
/-- an iterator of KE's whose state is its own cells' and a source that the invariant shows -/
theorem turn_w {Y : Nat → Hp → V → Hp → Prop} {Yh : Nat → Heap → Value → Heap → Prop} {src : Heap → Prop} {tn : Nat → Heap → Prop} (mem : it ∈ fp) (sub : ∀ b ∈ wr, b ∈ fp)
    (own : ∀ i h, tn i h → ∀ b ∈ fp, ∃ o, h.get? b = some o ∧ ∀ v, o.data ≠ .cell v) (frame : ∀ i h h', tn i h → (∀ b ∈ fp, ∀ o, h.get? b = some o → h'.get? b = some o) → tn i h')
    (self : ∀ (A : Around) (i : Nat) (s : Shared) (Q E : Value → Shared → Prop), tn i s.heap → Q (.ref it) s → wpAny (model P w) A (pyIter (.ref it)) Q E s)
    (see : ∀ (X : Cx), X.prog = P → X.w = w → X.K = K → ∀ (pins : List (Addr × Obj)) (σ : St) (H : Hp) (s : Shared), Inv X pins σ H s → G H → src s.heap)
    (goes : ∀ (A : Around) (h : Heap), A.handled = none → src h → ∃ fp' S, GoesN P w A tg it fp' wr n Yh S ∧ (∀ i, tn i h → S i h) ∧ ∀ i h', S i h' → tn i h') (come : Comes P w K fp wr n G Yh Y) : Turn P w K tg (ItW n G Y) fp it tn where
  mem := mem
  obj := own
  keep := frame
  self := self
  item := by
    rintro X eP ew eK calm i pins s σ H E I free st ⟨hi, g⟩
    obtain ⟨fp', S, W, into, back⟩ := goes X.A s.heap (I.ok.hd calm) (see X eP ew eK pins σ H s I g)
    refine W.goes i s _ _ hi (into i st) fun v h' tk y st' old _ => ?_
    have small : ∀ b ∈ fp, b < s.heap.objs.size := fun b hb => by
      obtain ⟨o, ho, _⟩ := own i _ st b hb
      exact Heap.lt_size ho
    obtain ⟨x, H', I', r, y', none'⟩ := come X eP ew eK pins σ H s i v h' tk I free small g hi y old
    exact ⟨x, H', I', r, y', back _ h' st', none'⟩
  done := by
    rintro X eP ew eK calm i pins s σ H E I free st ⟨rfl, g⟩
    obtain ⟨fp', S, W, into, -⟩ := goes X.A s.heap (I.ok.hd calm) (see X eP ew eK pins σ H s I g)
    exact W.stops s _ _ (into _ st) fun h' tk old _ => I.turnedL old fun b hb => free b (sub b hb)
/-- a value of the source itself -/
theorem comes_val {Yh : Nat → Heap → Value → Heap → Prop} {xs : List V} (sub : ∀ b ∈ wr, b ∈ fp) (hy : ∀ i h v h', i < n → Yh i h v h' → ∃ x, xs[i]? = some x ∧ RelV x v) : Comes P w K fp wr n G Yh (YAt xs) :=
  fun X _ _ _ pins σ H s i v h' tk I free _ g hi y old => by
    obtain ⟨x, hx, r⟩ := hy i _ v h' hi y
    exact ⟨x, H, I.turnedL old fun b hb => free b (sub b hb), r, ⟨rfl, hx⟩, fun b hb => (free b hb).1⟩
/-- a new pair -/
theorem comes_pair {Yh : Nat → Heap → Value → Heap → Prop} {xs ys : Nat → Option V} (sub : ∀ b ∈ wr, b ∈ fp)
    (hy : ∀ i h v h', i < n → Yh i h v h' → ∃ T a b x y, v = .ref T ∧ h.objs.size ≤ T ∧ h'.IsTuple T #[a, b] ∧ xs i = some x ∧ ys i = some y ∧ RelV x a ∧ RelV y b) : Comes P w K fp wr n G Yh (YPair xs ys) :=
  fun X _ _ _ pins σ H s i v h' tk I free small g hi yy old => by
    obtain ⟨T, a, b, x, y, rfl, new, isT, hx, hy, rx, ry⟩ := hy i _ v h' hi yy
    have here : ObjOk X.prog X.w (upd H T (.tup [x, y])) h' T (.tup [x, y]) := ⟨by show 2 ≤ sizeLine; decide, [a, b], .cons rx (.cons ry .nil), isT⟩
    refine ⟨.ref T, upd H T (.tup [x, y]), I.turnedNew old (fun c hc => free c (sub c hc)) new here, rfl, ⟨T, x, y, rfl, I.hok.fresh new, rfl, hx, hy⟩, fun c hc => ?_⟩
    rw [upd_ne (Nat.ne_of_lt (Nat.lt_of_lt_of_le (small c hc) new))]
    exact (free c hc).1
end

/-! ### a list or a tuple -/
def iSeqA (K : PySem.W.Frag) (te : TE) : TI := fun σ H R => te σ H fun x H1 => ∃ a xs, x = .ref a ∧ ((SqL K H1 a xs ∧ R (Itl K a) H1) ∨ (SqT K H1 a xs ∧ R (Itt K a) H1))

/-! ### enumerate of a tuple -/
set_option maxHeartbeats 1000000 in
theorem enum_made {v : Value} {o : Obj} {B : Heap → Prop} (b : Begins v o B) : Meets (Builtin.«enumerate.__new__» ⟨[.type "enumerate", v], []⟩) (fun _ R s => B s.heap ∧ R (.ok (.ret (.ref (s.heap.push o).objs.size)))
    { s with heap := (s.heap.push o).push { cls := .type "enumerate", data := .fields #[.none, .bool false, .ref s.heap.objs.size, rawInt 0, .none, .none] } }) := by
  refine .of_wp fun prog w A R ⟨hp, g, d, tk, os⟩ ⟨hb, hR⟩ => ?_
  have begin {A' : Around} {E Q : Value → Shared → Prop} (q : Q (.ref hp.objs.size) ⟨hp.push o, g, d, tk, os⟩) : wpAny (model prog w) A' (pyIter v) Q E ⟨hp, g, d, tk, os⟩ := b.iter prog w A' E _ Q hb q
  have part := sub_enumerate
  wp_walk using begin
  refine wpAny_stack_any fun st => wpAny_pure ?_
  split
  case h_2 => wp_walk using begin; exact ⟨_, rfl, hR⟩
  case h_1 =>
    generalize (_ == Value.type "enumerate") = k
    cases k <;> (wp_walk using begin; exact ⟨_, rfl, hR⟩)
section
variable {P : Program} {w : World} {K : PySem.W.Frag} {elts : List Expr} {kk : Nat} {tpos : Pos} {a e it : Addr} {xs ys : List V}
abbrev idxV (i : Nat) : Option V := some (.int (i : Nat))
theorem vals_get {its : List Value} (r : Vals xs its) {i : Nat} {v : Value} (h : its[i]? = some v) : ∃ x, xs[i]? = some x ∧ RelV x v := by
  have hl := Vals.length r
  have hi := (List.getElem?_eq_some_iff.mp h).1
  obtain ⟨u, hu, ru⟩ := r.get (i := i) (x := xs[i]'(by omega)) (by simp)
  rw [h] at hu
  cases hu
  exact ⟨_, List.getElem?_eq_getElem _, ru⟩
/-- what a next of enumerate gives -/
def YhEnum (xs : List V) (i : Nat) (h : Heap) (v : Value) (h' : Heap) : Prop := ∃ T t x z, v = .ref T ∧ h.objs.size ≤ T ∧ h'.IsTuple T #[.int (0 + (i : Int)) t, x] ∧ xs[i]? = some z ∧ RelV z x
theorem turn_enumT (ne : e ≠ it) (na : a ≠ it) (ea : e ≠ a) :
    Turn P w K (.Tuple elts kk tpos) (ItW xs.length (fun H => SqT K H a xs) (YPair idxV fun i => xs[i]?)) [e, it] e (fun i h => (∃ old, IsEnum h e it (0 + (i : Int)) old) ∧ h.IsTupleIter it a i) := by
  have come : Comes P w K [e, it] [e, it] xs.length (fun H => SqT K H a xs) (YhEnum xs) (YPair idxV fun i => xs[i]?) := comes_pair (fun _ h => h) fun i h v h' hi y => by
    obtain ⟨T, t, x, z, ev, new, isT, hz, rz⟩ := y
    exact ⟨T, .int (0 + (i : Int)) t, x, .int (i : Nat), z, ev, new, isT, rfl, hz, ⟨t, by rw [Int.zero_add]⟩, rz⟩
  refine turn_w (src := fun h => ∃ its : List Value, Vals xs its ∧ h.IsTuple a its.toArray) List.mem_cons_self (fun _ h => h) ?_ ?_ (fun A i s Q E st q => wpAny_pyIter_enum st.1.choose_spec q)
    (fun X _ _ eK pins σ H s I g => ?_) (fun A h hh ⟨its, rel, isT⟩ => ?_) come
  · rintro i h ⟨⟨old, he⟩, o, ho, -, hd⟩ b hb
    rcases List.mem_cons.mp hb with hb | hb
    · rw [hb]; exact ⟨_, he, fun v q => nomatch q⟩
    · obtain rfl := List.mem_singleton.mp hb
      exact ⟨o, ho, fun v q => by rw [hd] at q; cases q⟩
  · rintro i h h' ⟨⟨old, he⟩, hi⟩ keep
    exact ⟨⟨old, keep e List.mem_cons_self _ he⟩, hi.at fun o ho => keep it (List.mem_cons_of_mem _ List.mem_cons_self) o ho⟩
  · subst eK
    obtain ⟨its, rel, isT, _⟩ := I.tuple g
    exact ⟨its, rel, isT⟩
  · have D := Draws.tuple (prog := P) (w := w) (A := A.in1) hh it a na its.toArray
    rw [show its.toArray.size = xs.length by rw [List.size_toArray, Vals.length rel]] at D
    refine ⟨_, _, (GoesN.enumFrom 0 D e ne (by simp [ne, ea]) List.mem_cons_self).mono fun i h v h' hi y => ?_, fun i st => ⟨st.1, st.2, isT⟩, fun i h' st => ⟨st.1, st.2.1⟩⟩
    obtain ⟨T, t, x, ev, new, hx, isT'⟩ := y
    obtain ⟨z, hz, rz⟩ := vals_get rel (show its[i]? = some x by simpa using hx)
    exact ⟨T, t, x, z, ev, new, isT', hz, rz⟩
theorem turn_dvals {d : Addr} {o : Obj} {es : Array DictEntry} {ep : Nat} (ne : d ≠ it) (hx : o.ExactDict) (hd : o.data = .dict es ep) (hl : ys.length = es.size) (hy : ∀ (i : Nat) (en : DictEntry), es[i]? = some en → ∃ y, ys[i]? = some y ∧ RelV y en.val) {tgt : Expr} :
    Turn P w K tgt (ItW ys.length (fun H => H d = some (dO d o)) (YAt ys)) [it] it (fun i h => h.IsValIter it d i es.size ep) := by
  refine turn_w (wr := [it]) (src := fun h => h.DictRaw d es ep) (Yh := fun i _ v _ => ∃ x, ys[i]? = some x ∧ RelV x v) List.mem_cons_self (fun _ h => h) ?_ (fun i h h' ⟨u, hu, r⟩ keep => ⟨u, keep it List.mem_cons_self u hu, r⟩) (fun A i s Q E st q => wpAny_pyIter_valiter st q)
    (fun X _ _ _ pins σ H s I g => ⟨o, (I.hok d _ g).1, hx, hd⟩) (fun A h hh raw => ?_) (comes_val (fun _ h => h) fun i h v h' _ y => y)
  · rintro i h ⟨u, hu, -, du⟩ b hb
    obtain rfl := List.mem_singleton.mp hb
    exact ⟨u, hu, fun v q => by rw [du] at q; cases q⟩
  · rw [hl]
    refine ⟨_, _, (Goes.rawValues hh it d ne es ep).toN.mono fun i _ v _ hi ⟨hi', ev⟩ => ?_, fun i st => ⟨st, raw⟩, fun i h' st => st.1⟩
    obtain ⟨y, h1, h2⟩ := hy i es[i] (Array.getElem?_eq_getElem hi')
    exact ⟨y, h1, ev ▸ h2⟩
theorem turn_ditems {d : Addr} {o : Obj} {es : Array DictEntry} {ep : Nat} (ne : d ≠ it) (hx : o.ExactDict) (hd : o.data = .dict es ep) (hl : ys.length = es.size)
    (hy : ∀ (i : Nat) (en : DictEntry), es[i]? = some en → ∃ x y, xs[i]? = some x ∧ ys[i]? = some y ∧ RelV x en.key ∧ RelV y en.val) :
    Turn P w K (.Tuple elts kk tpos) (ItW ys.length (fun H => H d = some (dO d o)) (YPair (fun i => xs[i]?) fun i => ys[i]?)) [it] it (fun i h => ∃ k v, IsItemIter h it d i es.size ep k v) := by
  refine turn_w (wr := [it]) (src := fun h => h.DictRaw d es ep) (Yh := fun i h v h' => ∃ T a b x y, v = .ref T ∧ h.objs.size ≤ T ∧ h'.IsTuple T #[a, b] ∧ xs[i]? = some x ∧ ys[i]? = some y ∧ RelV x a ∧ RelV y b) List.mem_cons_self (fun _ h => h)
    ?_ (fun i h h' ⟨k, v, r⟩ keep => ⟨k, v, keep it List.mem_cons_self _ r⟩) (fun A i s Q E st q => wpAny_pyIter_itemiter st.choose_spec.choose_spec q)
    (fun X _ _ _ pins σ H s I g => ⟨o, (I.hok d _ g).1, hx, hd⟩) (fun A h hh raw => ?_) (comes_pair (fun _ h => h) fun i h v h' _ y => y)
  · rintro i h ⟨k, v, r⟩ b hb
    obtain rfl := List.mem_singleton.mp hb
    exact ⟨_, r, fun v q => nomatch q⟩
  · rw [hl]
    refine ⟨_, _, (GoesN.rawItems hh it d ne es ep).mono fun i h v h' hi ⟨T, hi', ev, new, isT⟩ => ?_, fun i st => ⟨st, raw⟩, fun i h' st => st.1⟩
    obtain ⟨x, y, h1, h2, h3, h4⟩ := hy i es[i] (Array.getElem?_eq_getElem hi')
    exact ⟨T, _, _, x, y, ev, new, isT, h1, h2, h3, h4⟩
end

/-! ### how they begin -/
section
variable {X : Cx} {pins : List (Addr × Obj)} {σ : St} {H : Hp} {s : Shared} {R : It → Hp → Prop} {tg : Expr}
theorem pie_new {h' : Heap} {tk : Nat} {it : Addr} {fp : List Addr} {tn : Nat → Heap → Prop} {J : It} (I : Inv X pins σ H s) (old : ∀ b o, s.heap.get? b = some o → h'.get? b = some o) (T : Turn X.prog X.w X.K tg J fp it tn) (st : tn 0 h')
    (new : ∀ b ∈ fp, s.heap.objs.size ≤ b) (q : R J H) : PIE X pins σ tg R (.ref it) { s with heap := h', toks := tk } :=
  ⟨it, fp, tn, J, H, rfl, I.kept old, T, st, fun b hb => I.fpOk (new b hb) (I.hok.fresh (new b hb)), q⟩
theorem lt_off {a n k : Nat} (h : a < n) : a ≠ n + k ∧ n + k ≠ a := by omega
def iEnumT (K : PySem.W.Frag) (ta : TA) : TI := fun σ H R => ta σ H fun vs H1 => ∃ a xs, vs = [.ref a] ∧ SqT K H1 a xs ∧ R (ItW xs.length (fun H => SqT K H a xs) (YPair idxV fun i => xs[i]?)) H1
theorem pi_enumT {e : Expr} {ta : TA} {p pos tpos : Pos} {elts : List Expr} {kk : Nat} (hg : Gl X "enumerate") (hm : X.mg "enumerate" = none) (ha : PA X [e] ta) (hs : starEach [e] X.env = [(false, eval e X.env)]) :
    PI X (.Tuple elts kk tpos) (.Call (.Name "enumerate" p) [e] [] pos) (iEnumT X.K ta) := by
  constructor
  intro pins s σ H R I h
  refine Call_ ?_
  apply ld_blt I hg hm boot_enumerate
  apply PyProof.Rows.callWith_type1 _ hs rfl
  apply thn (ha.run pos pins s σ H _ I h)
  rintro us s1 ⟨vs, H1, I1, rv, a, xs, rfl, isT, q⟩
  obtain ⟨u, rfl, ru⟩ := Vals.one rv
  obtain rfl : u = .ref a := ru
  obtain ⟨its, -, tup, -⟩ := I1.tuple isT
  have al : a < s1.heap.objs.size := tup.lt
  apply callType_new PySem.F.called_enumerate (by decide) (PySem.F.typeCall_enumerate_1 _) (PySem.F.newCall_enumerate_1 _) (fun obj => PySem.F.args_object_init_2 obj _) PySem.F.entry_enumerate_new (enum_made (begins_tuple a its.toArray))
  have two : (s1.heap.push { cls := .type "tuple_iterator", data := .fields #[.ref a, .int 0 0] }).objs.size = s1.heap.objs.size + 1 := Heap.size_push ..
  have at1 := Heap.get?_push_size (s1.heap.push { cls := .type "tuple_iterator", data := .fields #[.ref a, .int 0 0] }) (o := { cls := .type "enumerate", data := .fields #[.none, .bool false, .ref s1.heap.objs.size, rawInt 0, .none, .none] }) rfl
  have at0 := Heap.get?_push_of_some { cls := .type "enumerate", data := .fields #[.none, .bool false, .ref s1.heap.objs.size, rawInt 0, .none, .none] } (Heap.get?_push_size s1.heap (o := { cls := .type "tuple_iterator", data := .fields #[.ref a, .int 0 0] }) rfl)
  refine ⟨tup, ⟨_, at1, rfl⟩, wpAny_pyIter_enum at1 ?_⟩
  rw [two] at at1 ⊢
  refine pie_new (tk := s1.toks) I1 (fun b o hb => Heap.get?_push_of_some _ (Heap.get?_push_of_some _ hb)) (turn_enumT (e := s1.heap.objs.size + 1) (it := s1.heap.objs.size) (a := a) (Nat.succ_ne_self _) (lt_off (k := 0) al).1 (lt_off (k := 1) al).2)
    ⟨⟨_, at1⟩, _, at0, rfl, rfl⟩ (fun b hb => ?_) q
  rcases List.mem_cons.mp hb with hb | hb
  · rw [hb]; exact Nat.le_succ _
  · rw [List.mem_singleton.mp hb]; exact Nat.le_refl _
/-- a dict's method without arguments, and what is walked then -/
def iView (te : TE) (B : Addr → Obj → Hp → (It → Hp → Prop) → Prop) : TI := fun σ H R => te σ H fun x H1 => ∃ d o, x = .ref d ∧ H1 d = some (dO d o) ∧ o.ExactDict ∧ B d o H1 R
theorem pi_view {e : Expr} {te : TE} {name : Str} {id : String} {apos cpos : Pos} {B : Addr → Obj → Hp → (It → Hp → Prop) → Prop} (hb : attributeBase e name X.env (eval e X.env) = eval e X.env) (line : (apos.endLine == cpos.line) = true) (sl : Slot "dict" name id) (ty : typeOf (.builtin id) = pure (.type "method_descriptor")) (he : PE X e te)
    (go : ∀ (pins : List (Addr × Obj)) (s : Shared) (σ : St) (H : Hp) (R : It → Hp → Prop) (d : Addr) (o : Obj), Inv X pins σ H s → s.heap.get? d = some o → o.ExactDict → B d o H R →
      wpAny (model X.prog X.w) X.A (call (.builtin id) [.ref d]) (fun v s2 => wpAny (model X.prog X.w) X.A (pyIter v) (PIE X pins σ tg R) X.xe s2) X.xe s) :
    PI X tg (.Call (.Attribute e name apos) [] [] cpos) (iView te B) := by
  constructor
  intro pins s σ H R I h
  apply wpAny_Call_method hb rfl line PySem.F.plainAttrs_dict sl ty
  apply thn (he.run pins s σ H _ I h)
  rintro v s1 ⟨x, H1, I1, rx, d, o, rfl, hd, ex, hB⟩
  obtain rfl : v = .ref d := rx
  have there := (I1.hok d _ hd).1
  refine ⟨⟨o, there, ex.1⟩, fun b q => ?_, Calls.callWith_builtin rfl (PySem.evalArgs_none (go pins s1 σ H1 R d o I1 there ex hB))⟩
  cases q
  exact ⟨o, there, ex.2.1⟩
def BVals (d : Addr) (o : Obj) (H : Hp) (R : It → Hp → Prop) : Prop := ∃ (es : Array DictEntry) (ep : Nat) (ys : List V), o.data = .dict es ep ∧ (d == sysModules) = false ∧ ys.length = es.size ∧
  (∀ (i : Nat) (en : DictEntry), es[i]? = some en → ∃ y, ys[i]? = some y ∧ RelV y en.val) ∧ R (ItW ys.length (fun H => H d = some (dO d o)) (YAt ys)) H
theorem pi_dvals {e : Expr} {te : TE} {apos cpos : Pos} (he : PE X e te) (hb : attributeBase e "values" X.env (eval e X.env) = eval e X.env) (line : (apos.endLine == cpos.line) = true) : PI X tg (.Call (.Attribute e "values" apos) [] [] cpos) (iView te BVals) := by
  refine pi_view hb line PySem.F.slot_dict_values PySem.F.type_dict_values he fun pins s σ H R d o I there ex ⟨es, ep, ys, hd, sm, hl, hy, q⟩ => ?_
  have raw : s.heap.DictRaw d es ep := ⟨o, there, ex, hd⟩
  refine call_meetsIn PySem.F.slot_dict_values raw.typeIs PySem.F.entry_dict_values (PySem.F.args_dict_values_1 _) (meets_dict_values_raw d sm) ⟨⟨es, ep, raw⟩, ?_⟩
  have old : ∀ b u, s.heap.get? b = some u → (s.heap.push { cls := .type "dict_values", data := .fields #[.ref d] }).get? b = some u := fun b u hb => Heap.get?_push_of_some _ hb
  refine wpAny_pyIter_values_raw ⟨_, Heap.get?_push_size _ rfl, rfl, rfl⟩ (raw.at (old d)) ?_
  have I' := I.kept (t' := s.toks) old
  exact pi_one (tk := s.toks) I' _ (turn_dvals (Nat.ne_of_lt (Heap.lt_size (old d o there))) ex hd hl hy) ⟨_, Heap.get?_push_size _ rfl, rfl, rfl⟩ q
def BItems (d : Addr) (o : Obj) (H : Hp) (R : It → Hp → Prop) : Prop := ∃ (es : Array DictEntry) (ep : Nat) (xs ys : List V), o.data = .dict es ep ∧ (d == sysModules) = false ∧ ys.length = es.size ∧
  (∀ (i : Nat) (en : DictEntry), es[i]? = some en → ∃ x y, xs[i]? = some x ∧ ys[i]? = some y ∧ RelV x en.key ∧ RelV y en.val) ∧ R (ItW ys.length (fun H => H d = some (dO d o)) (YPair (fun i => xs[i]?) fun i => ys[i]?)) H
theorem pi_ditems {e : Expr} {te : TE} {apos cpos tpos : Pos} {elts : List Expr} {kk : Nat} (he : PE X e te) (hb : attributeBase e "items" X.env (eval e X.env) = eval e X.env) (line : (apos.endLine == cpos.line) = true) :
    PI X (.Tuple elts kk tpos) (.Call (.Attribute e "items" apos) [] [] cpos) (iView te BItems) := by
  refine pi_view hb line PySem.F.slot_dict_items PySem.F.type_dict_items he fun pins s σ H R d o I there ex ⟨es, ep, xs, ys, hd, sm, hl, hy, q⟩ => ?_
  have raw : s.heap.DictRaw d es ep := ⟨o, there, ex, hd⟩
  refine call_meetsIn PySem.F.slot_dict_items raw.typeIs PySem.F.entry_dict_items (PySem.F.args_dict_items_1 _) (meets_dict_items_raw d sm) ⟨⟨es, ep, raw⟩, ?_⟩
  have old : ∀ b u, s.heap.get? b = some u → (s.heap.push { cls := .type "dict_items", data := .fields #[.ref d] }).get? b = some u := fun b u hb => Heap.get?_push_of_some _ hb
  refine wpAny_pyIter_items_raw ⟨_, Heap.get?_push_size _ rfl, rfl, rfl⟩ (raw.at (old d)) ?_
  have I' := I.kept (t' := s.toks) old
  exact pi_one (tk := s.toks) I' _ (turn_ditems (Nat.ne_of_lt (Heap.lt_size (old d o there))) ex hd hl hy) ⟨_, _, Heap.get?_push_size _ rfl⟩ q
end
end Ev

/-! Ev, part N: what is walked, by values. -/
namespace Ev
open PySem PySem.Spec PyProof.Rows L2

/-- what a turn hands out: a value, or a new pair -/
inductive IV where | one (v : V) | pair (x y : V)
def YI : IV → Hp → V → Hp → Prop
  | .one v, H, x, H' => H' = H ∧ x = v
  | .pair p q, H, x, H' => ∃ T, x = .ref T ∧ H T = none ∧ H' = upd H T (.tup [p, q])
def YIV (ivs : List IV) : Nat → Hp → V → Hp → Prop := fun i H x H' => ∃ v, ivs[i]? = some v ∧ YI v H x H'
/-- the walked objects are as they were -/
def Gk (vs : List V) (H1 H : Hp) : Prop := ∀ a, V.ref a ∈ vs → ∀ u, H1 a = some u → H a = some u
def RepIV (w : World) (O : Addr → Prop) (H : Hp) : D → IV → Prop
  | d, .one v => Rep w O H d v
  | .tup [a, b], .pair p q => Rep w O H a p ∧ Rep w O H b q
  | _, .pair _ _ => False
def RepIVs (w : World) (O : Addr → Prop) (H : Hp) (ds : List D) (ivs : List IV) : Prop := ds.length = ivs.length ∧ ∀ (i : Nat) (d : D) (v : IV), ds[i]? = some d → ivs[i]? = some v → RepIV w O H d v
def tI (w : World) (C : CallS) (k : IK) (rs : List RE) : TI := fun σ H R => ∃ Z ρ os ρ1 ds items, Match w Z ρ σ H ∧ evL C rs ρ = some (os, ρ1) ∧ rds ρ1 os = some ds ∧ itD k ds = some items ∧
  ∀ vs H1 J ivs, PostL w Z ρ σ H os ρ1 vs H1 → Walk J ivs.length (Gk vs H1) (YIV ivs) → RepIVs w (Ow (fun a => Z a ∨ a ∈ freshA os vs) ρ1 σ) H1 items ivs → R J H1
theorem piImp {X : Cx} {tg e : Expr} {t t' : TI} (h : PI X tg e t) (i : ∀ σ H R, t' σ H R → t σ H R) : PI X tg e t' := ⟨fun pins s σ H R I q => h.run pins s σ H R I (i σ H R q)⟩

section
variable {w : World} {O : Addr → Prop} {H H1 : Hp} {K : PySem.W.Frag} {a b : Addr} {xs ys : List V} {J : It} {n : Nat}
theorem one_reps : ∀ {ds : List D} {xs : List V}, Reps w O H ds xs → RepIVs w O H ds (xs.map .one) := fun {ds xs} h => by
  refine ⟨by simp [h.length], fun i d v e1 e2 => ?_⟩
  obtain ⟨x, h1, h2⟩ := h.get e1
  simp [h1] at e2
  subst e2
  exact h2
theorem walkOne {vs : List V} (h : Walk J xs.length (Gk vs H1) (YAt xs)) : Walk J (xs.map IV.one).length (Gk vs H1) (YIV (xs.map .one)) := by
  rw [List.length_map]
  refine ⟨h.goes, h.stops, fun i H x H' hi g y => ?_⟩
  obtain ⟨rfl, e⟩ := h.yields i H x H' hi g y
  exact ⟨.one x, by simp [e], rfl, rfl⟩
def enumIV (k : Nat) : List V → List IV
  | [] => []
  | x :: xs => .pair (.int (k : Nat)) x :: enumIV (k + 1) xs
theorem enumIV_at : ∀ (xs : List V) (k i : Nat), (enumIV k xs)[i]? = xs[i]?.map fun x => IV.pair (.int ((k + i : Nat) : Int)) x
  | [], k, i => by simp [enumIV]
  | x :: xs, k, 0 => by simp [enumIV]
  | x :: xs, k, i + 1 => by
    simp only [enumIV, List.getElem?_cons_succ, enumIV_at xs (k + 1) i, show k + 1 + i = k + (i + 1) by omega]
theorem enumIV_len : ∀ (xs : List V) (k : Nat), (enumIV k xs).length = xs.length
  | [], k => rfl
  | x :: xs, k => by simp [enumIV, enumIV_len xs (k + 1)]
theorem enumFrom_at : ∀ (xs : List D) (k i : Nat), (enumFrom k xs)[i]? = xs[i]?.map fun x => D.tup [.int ((k + i : Nat) : Int), x]
  | [], k, i => by simp [enumFrom]
  | x :: xs, k, 0 => by simp [enumFrom]
  | x :: xs, k, i + 1 => by
    simp only [enumFrom, List.getElem?_cons_succ, enumFrom_at xs (k + 1) i, show k + 1 + i = k + (i + 1) by omega]
theorem enumFrom_len : ∀ (xs : List D) (k : Nat), (enumFrom k xs).length = xs.length
  | [], k => rfl
  | x :: xs, k => by simp [enumFrom, enumFrom_len xs (k + 1)]
def zipIV : List V → List V → List IV
  | x :: xs, y :: ys => .pair x y :: zipIV xs ys
  | _, _ => []
theorem zipIV_at : ∀ (xs ys : List V) (i : Nat) (x y : V), xs[i]? = some x → ys[i]? = some y → (zipIV xs ys)[i]? = some (.pair x y)
  | [], _, i, x, y, h, _ => by simp at h
  | _ :: _, [], i, x, y, _, h => by simp at h
  | a :: xs, b :: ys, 0, x, y, h, g => by simp at h g; subst h; subst g; rfl
  | a :: xs, b :: ys, i + 1, x, y, h, g => by simpa [zipIV] using zipIV_at xs ys i x y (by simpa using h) (by simpa using g)
theorem zipIV_len : ∀ (xs ys : List V), (zipIV xs ys).length = min xs.length ys.length
  | [], ys => by simp [zipIV]
  | _ :: _, [] => by simp [zipIV]
  | a :: xs, b :: ys => by simp [zipIV, zipIV_len xs ys]
theorem zipD_len : ∀ (xs ys : List D), (zipD xs ys).length = min xs.length ys.length
  | [], ys => by simp [zipD]
  | _ :: _, [] => by simp [zipD]
  | a :: xs, b :: ys => by simp [zipD, zipD_len xs ys]
theorem zip_reps : ∀ {ds es : List D} {xs ys : List V}, Reps w O H ds xs → Reps w O H es ys → RepIVs w O H (zipD ds es) (zipIV xs ys) := fun {ds es xs ys} h g => by
  refine ⟨by rw [zipD_len, zipIV_len, h.length, g.length], ?_⟩
  have key : ∀ (ds es : List D) (xs ys : List V), Reps w O H ds xs → Reps w O H es ys → ∀ (i : Nat) (d : D) (v : IV), (zipD ds es)[i]? = some d → (zipIV xs ys)[i]? = some v → RepIV w O H d v := by
    intro ds
    induction ds with
    | nil => intro es xs ys _ _ i d v h; simp [zipD] at h
    | cons d0 ds ih =>
      intro es xs ys h g i d v e1 e2
      cases es with
      | nil => simp [zipD] at e1
      | cons e0 es =>
        unfold Reps at h g
        obtain ⟨x, xs, rfl, h1, h2⟩ := h
        obtain ⟨y, ys, rfl, g1, g2⟩ := g
        cases i with
        | zero =>
          simp [zipD, zipIV] at e1 e2
          subst e1; subst e2
          exact ⟨h1, g1⟩
        | succ i => exact ih es xs ys h2 g2 i d v (by simpa [zipD] using e1) (by simpa [zipIV] using e2)
  exact key ds es xs ys h g
theorem enum_reps {ds : List D} {xs : List V} (h : Reps w O H ds xs) : RepIVs w O H (enumFrom 0 ds) (enumIV 0 xs) := by
  refine ⟨by rw [enumFrom_len, enumIV_len, h.length], fun i d v e1 e2 => ?_⟩
  rw [enumFrom_at] at e1
  rw [enumIV_at] at e2
  cases hd : ds[i]? with
  | none => rw [hd] at e1; simp at e1
  | some d0 =>
    obtain ⟨x, hx, rx⟩ := h.get hd
    rw [hd] at e1
    rw [hx] at e2
    simp at e1 e2
    subst e1; subst e2
    exact ⟨by simp [Rep], rx⟩
theorem walkEnum {vs : List V} (h : Walk J xs.length (Gk vs H1) (YPair (fun i => some (.int (i : Nat))) (fun i => xs[i]?))) : Walk J (enumIV 0 xs).length (Gk vs H1) (YIV (enumIV 0 xs)) := by
  rw [enumIV_len]
  refine ⟨h.goes, h.stops, fun i H x H' hi g y => ?_⟩
  obtain ⟨T, p, q, e1, e2, e3, e4, e5⟩ := h.yields i H x H' hi g y
  simp only [Option.some.injEq] at e4
  subst e4
  refine ⟨.pair (.int ((0 + i : Nat) : Int)) q, by rw [enumIV_at, show xs[i]? = some q from e5]; rfl, T, e1, e2, ?_⟩
  rw [e3, Nat.zero_add]
theorem walkZip {vs : List V} (h : Walk J (min xs.length ys.length) (Gk vs H1) (YPair (fun i => xs[i]?) (fun i => ys[i]?))) : Walk J (zipIV xs ys).length (Gk vs H1) (YIV (zipIV xs ys)) := by
  rw [zipIV_len]
  refine ⟨h.goes, h.stops, fun i H x H' hi g y => ?_⟩
  obtain ⟨T, p, q, e1, e2, e3, e4, e5⟩ := h.yields i H x H' hi g y
  exact ⟨.pair p q, zipIV_at xs ys i p q e4 e5, T, e1, e2, e3⟩
theorem gk_rd {vs : List V} {u : HO} (r : Rd H1 a u) (h : V.ref a ∈ vs) {H : Hp} (g : Gk vs H1 H) : Rd H a u := rdKeep r fun o e => g a h o e
theorem walk_zipT : Walk (RZ.ItzT K a b) (min xs.length ys.length) (fun H => SqT K H a xs ∧ SqT K H b ys) (YPair (fun i => xs[i]?) (fun i => ys[i]?)) where
  goes := fun i H hi q => by
    have h1 := List.getElem?_eq_getElem (l := xs) (Nat.lt_of_lt_of_le hi (Nat.min_le_left _ _))
    have h2 := List.getElem?_eq_getElem (l := ys) (Nat.lt_of_lt_of_le hi (Nat.min_le_right _ _))
    exact ⟨xs, ys, _, _, q.1, q.2, h1, h2⟩
  stops := fun H q => ⟨xs, ys, q.1, q.2, by omega⟩
  yields := fun i H v H' _ q y => by
    obtain ⟨T, x, z, ev, new, eH, fx, fz⟩ := y
    exact ⟨T, x, z, ev, new, eH, fx xs q.1, fz ys q.2⟩
theorem PostL.one {Z : Addr → Prop} {ρ ρ1 : Env} {σ : St} {o : OV} {v : V} (p : PostE w Z ρ σ H o ρ1 v H1) : PostL w Z ρ σ H [o] ρ1 [v] H1 :=
  .cons p ⟨p.m.mono fun a z => z.elim id fun z => (nomatch z), .refl ρ1, .refl, List.nodup_nil, fun a z => (nomatch z), rfl⟩
end

section
variable {X : Cx} {C : CallS} {tg e e2 : Expr} {r r2 : RE}
theorem evL_one {ρ ρ1 : Env} {os : List OV} (h : evL C [r] ρ = some (os, ρ1)) : ∃ o, os = [o] ∧ evE C r ρ = some (o, ρ1) := by
  simp only [evL] at h
  split at h
  · cases h
  · rename_i o ρ2 e1
    cases h
    exact ⟨o, rfl, e1⟩
theorem rds_one {ρ : Env} {o : OV} {ds : List D} (h : rds ρ [o] = some ds) : ∃ d, ds = [d] ∧ rd ρ o = some d := by
  simp only [rds] at h
  split at h
  · rename_i d ds' e1 e2
    cases e2
    cases h
    exact ⟨d, rfl, e1⟩
  · cases h
theorem i_seq (he : PE X e (tE X.w C r)) : PI X tg e (tI X.w C .seq [r]) := by
  refine pi_either (pi_list he) (pi_tup he) fun σ H R ⟨Z, ρ, os, ρ1, ds, items, m, e1, e2, e3, k⟩ => ?_
  obtain ⟨o, rfl, e1'⟩ := evL_one e1
  obtain ⟨d, rfl, e2'⟩ := rds_one e2
  cases d <;> first | (cases e3; done) | skip
  · refine .inr ⟨Z, ρ, o, ρ1, m, e1', fun v H1 p => ?_⟩
    have pl := PostL.one p
    obtain ⟨u, _, e4, us, _⟩ := pl.us e2
    cases e4; cases e3
    unfold RepU Rep at us
    obtain ⟨a, xs, rfl, _, hr, q⟩ := us
    exact ⟨a, rfl, ⟨xs, .inl hr⟩, k _ H1 _ _ pl (walkOne (walk_tup.mono (fun H g => .inl (gk_rd hr List.mem_cons_self g)) fun _ _ _ _ _ _ y => y)) (one_reps q)⟩
  · refine .inl ⟨Z, ρ, o, ρ1, m, e1', fun v H1 p => ?_⟩
    have pl := PostL.one p
    obtain ⟨u, _, e4, us, _⟩ := pl.us e2
    cases e4; cases e3
    obtain ⟨a, xs, rfl, hr, q⟩ := us
    exact ⟨a, rfl, ⟨xs, .inl hr⟩, k _ H1 _ _ pl (walkOne (walk_list.mono (fun H g => .inl (gk_rd hr List.mem_cons_self g)) fun _ _ _ _ _ _ y => y)) (one_reps q)⟩
theorem rng_at (a b : Int) (i : Nat) (h : i < (b - a).toNat) : (rngD a b)[i]? = some (.int (a + (i : Int))) := by
  unfold rngD
  simp [h]
theorem rng_len (a b : Int) : (rngD a b).length = (b - a).toNat := by simp [rngD]
theorem rng_walk {w : World} {O : Addr → Prop} {H H1 : Hp} {vs : List V} (a b : Int) : ∃ ivs, Walk (Itr a (b - a).toNat) ivs.length (Gk vs H1) (YIV ivs) ∧ RepIVs w O H (rngD a b) ivs := by
  refine ⟨(List.range (b - a).toNat).map fun (k : Nat) => .one (.int (a + (k : Int))), ?_, by simp [rng_len], fun i d v e1 e2 => ?_⟩
  · rw [List.length_map, List.length_range]
    refine ⟨fun i H hi _ => hi, fun H _ => Nat.le_refl _, fun i H x H' hi _ y => ?_⟩
    obtain ⟨rfl, rfl⟩ := y
    exact ⟨.one (.int (a + (i : Int))), by simp [hi], rfl, rfl⟩
  · have hi : i < (b - a).toNat := by
      have := (List.getElem?_eq_some_iff.mp e1).1
      rw [rng_len] at this; exact this
    rw [rng_at a b i hi] at e1
    simp [hi] at e2
    cases e1
    subst e2
    simp [RepIV, Rep]
theorem rngOk_le {a b : Int} (h : rngOk a b = true) : -(2 ^ 62) ≤ a ∧ a < 2 ^ 62 ∧ -(2 ^ 62) ≤ b ∧ b < 2 ^ 62 := by
  rw [rngOk, Bool.and_eq_true, decide_eq_true_eq, decide_eq_true_eq] at h
  omega
theorem i_range1 {p pos : Pos} (hg : Gl X "range") (hm : X.mg "range" = none) (ha : PA X [e] (tL X.w C [r])) (hs : starEach [e] X.env = [(false, eval e X.env)]) : PI X tg (.Call (.Name "range" p) [e] [] pos) (tI X.w C .range [r]) := by
  refine piImp (pi_range1 hg hm ha hs) fun σ H R ⟨Z, ρ, os, ρ1, ds, items, m, e1, e2, e3, k⟩ => ⟨Z, ρ, os, ρ1, m, e1, fun vs H1 p => ?_⟩
  obtain ⟨o, rfl, e1⟩ := evL_one e1
  obtain ⟨d, rfl, e2'⟩ := rds_one e2
  obtain ⟨u, r, rfl, us, hr⟩ := p.us e2
  simp [RepUs] at hr
  subst hr
  cases d with
  | int n =>
    simp only [itD] at e3
    split at e3
    · rename_i hc
      cases e3
      simp only [RepU, Rep] at us
      subst us
      obtain ⟨_, _, h3, h4⟩ := rngOk_le hc
      obtain ⟨ivs, w1, w2⟩ := rng_walk (w := X.w) (O := Ow (fun a => Z a ∨ a ∈ freshA [o] [.int n]) ρ1 σ) (H := H1) (H1 := H1) (vs := [.int n]) 0 n
      rw [Int.sub_zero] at w1
      exact ⟨n, rfl, h3, h4, k _ H1 _ ivs p w1 w2⟩
    · cases e3
  | _ => cases e3
theorem evL_two {ρ ρ1 : Env} {os : List OV} (h : evL C [r, r2] ρ = some (os, ρ1)) : ∃ o o2, os = [o, o2] := by
  simp only [evL] at h
  split at h
  · cases h
  · split at h
    · cases h
    · rename_i o ρ2 e1 os ρ3 h2
      cases h
      split at h2
      · cases h2
      · cases h2
        exact ⟨_, _, rfl⟩
theorem rds_two {ρ : Env} {o o2 : OV} {ds : List D} (h : rds ρ [o, o2] = some ds) : ∃ d d2, ds = [d, d2] := by
  have := rds_len h
  match ds, this with
  | [d, d2], _ => exact ⟨d, d2, rfl⟩
theorem i_range2 {p pos : Pos} (hg : Gl X "range") (hm : X.mg "range" = none) (ha : PA X [e, e2] (tL X.w C [r, r2])) (hs : starEach [e, e2] X.env = [(false, eval e X.env), (false, eval e2 X.env)]) (hs2 : starEach [e2] X.env = [(false, eval e2 X.env)]) :
    PI X tg (.Call (.Name "range" p) [e, e2] [] pos) (tI X.w C .range [r, r2]) := by
  refine piImp (pi_range2 hg hm ha hs hs2) fun σ H R ⟨Z, ρ, os, ρ1, ds, items, m, e1, e2, e3, k⟩ => ⟨Z, ρ, os, ρ1, m, e1, fun vs H1 p => ?_⟩
  obtain ⟨o, o2, rfl⟩ := evL_two e1
  obtain ⟨d, d2, rfl⟩ := rds_two e2
  obtain ⟨u, r, rfl, us, hr⟩ := p.us e2
  obtain ⟨u2, r2, rfl, us2, hr⟩ := hr
  simp [RepUs] at hr
  subst hr
  cases d <;> cases d2 <;> first | (cases e3; done) | skip
  rename_i a b
  simp only [itD] at e3
  split at e3
  · rename_i hc
    cases e3
    simp only [RepU, Rep] at us us2
    subst us; subst us2
    obtain ⟨ivs, w1, w2⟩ := rng_walk (w := X.w) (O := Ow (fun x => Z x ∨ x ∈ freshA [o, o2] [.int a, .int b]) ρ1 σ) (H := H1) (H1 := H1) (vs := [.int a, .int b]) a b
    exact ⟨a, b, rfl, rngOk_le hc, k _ H1 _ ivs p w1 w2⟩
  · cases e3
theorem i_enum {p pos tpos : Pos} {elts : List Expr} {kk : Nat} (hg : Gl X "enumerate") (hm : X.mg "enumerate" = none) (ha : PA X [e] (tL X.w C [r])) (hs : starEach [e] X.env = [(false, eval e X.env)]) :
    PI X (.Tuple elts kk tpos) (.Call (.Name "enumerate" p) [e] [] pos) (tI X.w C .enum [r]) := by
  refine pi_either (pi_enum hg hm ha hs) (pi_enumT hg hm ha hs) fun σ H R ⟨Z, ρ, os, ρ1, ds, items, m, e1, e2, e3, k⟩ => ?_
  obtain ⟨o, rfl, e1'⟩ := evL_one e1
  obtain ⟨d, rfl, e2'⟩ := rds_one e2
  cases d <;> first | (cases e3; done) | skip
  · refine .inr ⟨Z, ρ, _, ρ1, m, e1, fun vs H1 p => ?_⟩
    obtain ⟨u, r, rfl, us, hr⟩ := p.us e2
    obtain rfl : r = [] := hr
    cases e3
    unfold RepU Rep at us
    obtain ⟨a, xs, rfl, _, hr, q⟩ := us
    exact ⟨a, xs, rfl, .inl hr, k _ H1 _ _ p (walkEnum (walk_w.mono (fun H g => .inl (gk_rd hr List.mem_cons_self g)) fun _ _ _ _ _ _ y => y)) (enum_reps q)⟩
  · refine .inl ⟨Z, ρ, _, ρ1, m, e1, fun vs H1 p => ?_⟩
    obtain ⟨u, r, rfl, us, hr⟩ := p.us e2
    obtain rfl : r = [] := hr
    cases e3
    obtain ⟨a, xs, rfl, hr, q⟩ := us
    exact ⟨a, xs, rfl, .inl hr, k _ H1 _ _ p (walkEnum (walk_enum.mono (fun H g => .inl (gk_rd hr List.mem_cons_self g)) fun _ _ _ _ _ _ y => y)) (enum_reps q)⟩
theorem i_zip {p pos tpos : Pos} {elts : List Expr} {kk : Nat} (hg : Gl X "zip") (hm : X.mg "zip" = none) (ha : PA X [e, e2] (tL X.w C [r, r2]))
    (hs : starEach [e, e2] X.env = (false, eval e X.env) :: starEach [e2] X.env) (hpl : (backTo pos (starEach [e2] X.env)).any (·.1) = false) :
    PI X (.Tuple elts kk tpos) (.Call (.Name "zip" p) [e, e2] [] pos) (tI X.w C .zip [r, r2]) := by
  refine piImp (RZ.pi_zipA hg hm ha hs hpl) fun σ H R ⟨Z, ρ, os, ρ1, ds, items, m, e1, e2, e3, k⟩ => ⟨Z, ρ, os, ρ1, m, e1, fun vs H1 p => ?_⟩
  obtain ⟨o, o2, rfl⟩ := evL_two e1
  obtain ⟨d, d2, rfl⟩ := rds_two e2
  obtain ⟨u, r, rfl, us, hr⟩ := p.us e2
  obtain ⟨u2, r2, rfl, us2, hr⟩ := hr
  simp [RepUs] at hr
  subst hr
  cases d <;> cases d2 <;> first | (cases e3; done) | skip
  · cases e3
    unfold RepU Rep at us us2
    obtain ⟨a, xs, rfl, _, hr, q⟩ := us
    obtain ⟨b, ys, rfl, _, hr2, q2⟩ := us2
    exact ⟨a, b, xs, ys, rfl, .inr ⟨.inl hr, .inl hr2, k _ H1 _ _ p (walkZip (walk_zipT.mono (fun H g => ⟨.inl (gk_rd hr List.mem_cons_self g), .inl (gk_rd hr2 (List.mem_cons_of_mem _ List.mem_cons_self) g)⟩) fun _ _ _ _ _ _ y => y)) (zip_reps q q2)⟩⟩
  · cases e3
    obtain ⟨a, xs, rfl, hr, q⟩ := us
    obtain ⟨b, ys, rfl, hr2, q2⟩ := us2
    exact ⟨a, b, xs, ys, rfl, .inl ⟨.inl hr, .inl hr2, k _ H1 _ _ p (walkZip ((walk_zip rfl).mono (fun H g => ⟨.inl (gk_rd hr List.mem_cons_self g), .inl (gk_rd hr2 (List.mem_cons_of_mem _ List.mem_cons_self) g)⟩) fun _ _ _ _ _ _ y => y)) (zip_reps q q2)⟩⟩
theorem i_values {apos cpos : Pos} (he : PE X e (tE X.w C r)) (hbase : attributeBase e "values" X.env (eval e X.env) = eval e X.env) (hline : (apos.endLine == cpos.line) = true) : PI X tg (.Call (.Attribute e "values" apos) [] [] cpos) (tI X.w C .values [r]) := by
  refine piImp (pi_dvals he hbase hline) fun σ H R ⟨Z, ρ, os, ρ1, ds, items, m, e1, e2, e3, k⟩ => ?_
  obtain ⟨o, rfl, e1'⟩ := evL_one e1
  refine ⟨Z, ρ, o, ρ1, m, e1', fun v H1 p => ?_⟩
  have pl := PostL.one p
  obtain ⟨d, rfl, e2'⟩ := rds_one e2
  obtain ⟨u, _, e4, us, _⟩ := pl.us e2
  cases e4
  cases d with
  | dct ks ws =>
    cases e3
    obtain ⟨a, xs, ys, rfl, ⟨ob, es, ep, hH, sm, hx, hd, -, -, -, en⟩, q1, q2⟩ := us
    have val : ∀ (i : Nat) (et : DictEntry), es[i]? = some et → ∃ y, ys[i]? = some y ∧ RelV y et.val := fun i et h => by
      obtain ⟨_, _, y, _, _, hy, _, _, ry⟩ := en.at_ i et (by simpa using h)
      exact ⟨y, hy, ry⟩
    exact ⟨a, ob, rfl, hH, hx, es, ep, ys, hd, sm, by rw [en.l3, Array.length_toList], val, k _ H1 _ _ pl (walkOne (walk_w.mono (fun H g => g a List.mem_cons_self _ hH) fun _ _ _ _ _ _ y => y)) (one_reps q2)⟩
  | _ => cases e3
theorem i_items {apos cpos tpos : Pos} {elts : List Expr} {kk : Nat} (he : PE X e (tE X.w C r)) (hbase : attributeBase e "items" X.env (eval e X.env) = eval e X.env) (hline : (apos.endLine == cpos.line) = true) :
    PI X (.Tuple elts kk tpos) (.Call (.Attribute e "items" apos) [] [] cpos) (tI X.w C .items [r]) := by
  refine piImp (pi_ditems he hbase hline) fun σ H R ⟨Z, ρ, os, ρ1, ds, items, m, e1, e2, e3, k⟩ => ?_
  obtain ⟨o, rfl, e1'⟩ := evL_one e1
  refine ⟨Z, ρ, o, ρ1, m, e1', fun v H1 p => ?_⟩
  have pl := PostL.one p
  obtain ⟨d, rfl, e2'⟩ := rds_one e2
  obtain ⟨u, _, e4, us, _⟩ := pl.us e2
  cases e4
  cases d with
  | dct ks ws =>
    cases e3
    obtain ⟨a, xs, ys, rfl, ⟨ob, es, ep, hH, sm, hx, hd, -, -, -, en⟩, q1, q2⟩ := us
    have both : ∀ (i : Nat) (et : DictEntry), es[i]? = some et → ∃ x y, xs[i]? = some x ∧ ys[i]? = some y ∧ RelV x et.key ∧ RelV y et.val := fun i et h => by
      obtain ⟨_, x, y, _, hx, hy, _, rx, ry⟩ := en.at_ i et (by simpa using h)
      exact ⟨x, y, hx, hy, rx, ry⟩
    have same : min xs.length ys.length = ys.length := by rw [en.l2, en.l3, Nat.min_self]
    refine ⟨a, ob, rfl, hH, hx, es, ep, xs, ys, hd, sm, by rw [en.l3, Array.length_toList], both, k _ H1 _ _ pl (walkZip ?_) (zip_reps q1 q2)⟩
    rw [same]
    exact walk_w.mono (fun H g => g a List.mem_cons_self _ hH) fun _ _ _ _ _ _ y => y
  | _ => cases e3
end
end Ev

/-! Ev, part O: readings of statements; for. -/
namespace Ev
open PySem PySem.Spec PyProof.Rows L2

/-- the result of a return -/
def ResS (w : World) (O : Addr → Prop) (ρ : Env) (σ : St) (H H' : Hp) (v : V) : Bool → D → Prop
  | false, d => Rep w O H' d v
  | true, d => ∃ a, v = .ref a ∧ ¬ O a ∧ (H a = none ∨ MutA ρ σ a) ∧ RepT w (fun b => O b ∨ b = a) H' d a
structure RetS (w : World) (Z : Addr → Prop) (ρ : Env) (σ : St) (H : Hp) (fr : Bool) (d : D) (ρ' : Env) (v : V) (σ' : St) (H' : Hp) : Prop where
  m : Match w (Zf Z v (.val fr d)) ρ' σ' H'
  st : StS ρ σ H ρ' σ' H'
  res : ResS w (Ow Z ρ' σ') ρ σ H H' v fr d
def EndS (w : World) (Z : Addr → Prop) (ρ : Env) (σ : St) (H : Hp) (E : Ends) : Option SR → Prop
  | none => False
  | some (.nx ρ') => ∀ σ' H', Match w Z ρ' σ' H' → StS ρ σ H ρ' σ' H' → E.nx σ' H'
  | some (.bk ρ') => ∀ σ' H', Match w Z ρ' σ' H' → StS ρ σ H ρ' σ' H' → E.bk σ' H'
  | some (.ct ρ') => ∀ σ' H', Match w Z ρ' σ' H' → StS ρ σ H ρ' σ' H' → E.ct σ' H'
  | some (.rt fr d ρ') => ∀ v σ' H', RetS w Z ρ σ H fr d ρ' v σ' H' → E.rt v H'
def tS (w : World) (C : CallS) (s : RS) : TS := fun E σ H => ∃ Z ρ, Match w Z ρ σ H ∧ EndS w Z ρ σ H E (evS C s ρ)
def tSs (w : World) (C : CallS) (s : List RS) : TS := fun E σ H => ∃ Z ρ, Match w Z ρ σ H ∧ EndS w Z ρ σ H E (evSs C s ρ)

section
variable {w : World} {Z Z' : Addr → Prop} {ρ ρ1 ρ2 ρ' : Env} {σ σ1 σ2 σ' : St} {H H1 H2 H' : Hp} {E : Ends}
theorem RetS.step {fr : Bool} {d : D} {v : V} (a : StS ρ σ H ρ1 σ1 H1) (r : RetS w Z ρ1 σ1 H1 fr d ρ' v σ' H') : RetS w Z ρ σ H fr d ρ' v σ' H' := by
  refine ⟨r.m, a.trans r.st, ?_⟩
  have q := r.res
  cases fr with
  | false => exact q
  | true =>
    obtain ⟨x, e, n, nw, t⟩ := q
    refine ⟨x, e, n, ?_, t⟩
    rcases nw with z | z
    · exact .inl (none_of a.trk z)
    · exact a.mu x z
theorem EndS.step (a : StS ρ σ H ρ1 σ1 H1) {r : Option SR} (h : EndS w Z ρ σ H E r) : EndS w Z ρ1 σ1 H1 E r := by
  cases r with
  | none => exact h
  | some r =>
    cases r with
    | nx ρ' => exact fun σ' H' m s => h σ' H' m (a.trans s)
    | bk ρ' => exact fun σ' H' m s => h σ' H' m (a.trans s)
    | ct ρ' => exact fun σ' H' m s => h σ' H' m (a.trans s)
    | rt fr d ρ' => exact fun v σ' H' r => h v σ' H' (r.step a)
/-- a value that is returned -/
theorem PostE.ret {fr : Bool} {d : D} {v : V} (p : PostE w Z ρ σ H (.val fr d) ρ1 v H1) : RetS w Z ρ σ H fr d ρ1 v σ H1 := by
  refine ⟨p.m, StS.of p.tr p.st, ?_⟩
  have q := p.res
  cases fr with
  | false => exact q
  | true => exact q
theorem StS.new {p : Addr} {o : HO} (hp : H p = none) : StS ρ σ H ρ σ (upd H p o) := .of (.refl ρ) (.new hp)

/-! ### locks -/
theorem lock_len : ∀ (os : List OV) (ρ : Env), (lockE ρ os).length = ρ.length
  | [], ρ => rfl
  | .plc i :: os, ρ => by
    unfold lockE
    split <;> simp [lock_len os ρ]
  | .val _ _ :: os, ρ => lock_len os ρ
theorem lock_at : ∀ (os : List OV) (ρ : Env) (j : Nat) (s : Sl), ρ[j]? = some s → (OV.plc j ∉ os ∧ (lockE ρ os)[j]? = some s) ∨ (OV.plc j ∈ os ∧ ((isMut s = true ∧ ∃ d, s.get = some d ∧ (lockE ρ os)[j]? = some (.lk d)) ∨ (isMut s = false ∧ (lockE ρ os)[j]? = some s)))
  | [], ρ, j, s, h => .inl ⟨by simp, h⟩
  | .val fr d :: os, ρ, j, s, h => by
    have := lock_at os ρ j s h
    simpa [lockE] using this
  | .plc i :: os, ρ, j, s, h => by
    have ih := lock_at os ρ
    by_cases hj : i = j
    · subst hj
      unfold lockE
      refine .inr ⟨List.mem_cons_self, ?_⟩
      have il : i < (lockE ρ os).length := by rw [lock_len]; exact (List.getElem?_eq_some_iff.mp h).1
      rcases ih i s h with ⟨_, q⟩ | ⟨_, ⟨ms, d, gd, q⟩ | ⟨ms, q⟩⟩
      · rw [q]
        cases s with
        | ow d => exact .inl ⟨rfl, d, rfl, List.getElem?_set_self il⟩
        | io d => exact .inl ⟨rfl, d, rfl, List.getElem?_set_self il⟩
        | _ => exact .inr ⟨rfl, q⟩
      · rw [q]
        exact .inl ⟨ms, d, gd, q⟩
      · rw [q]
        cases s with
        | ow d => cases ms
        | io d => cases ms
        | _ => exact .inr ⟨rfl, q⟩
    · have back : (lockE ρ (OV.plc i :: os))[j]? = (lockE ρ os)[j]? := by
        rw [lockE]
        split
        · exact List.getElem?_set_ne hj
        · exact List.getElem?_set_ne hj
        · rfl
      have hm : (OV.plc j ∈ OV.plc i :: os) ↔ OV.plc j ∈ os := by
        simp only [List.mem_cons, OV.plc.injEq]
        exact ⟨fun h => h.resolve_left fun e => hj e.symm, .inr⟩
      rw [back, hm]
      exact ih j s h
theorem lock_back {os : List OV} {j : Nat} {t : Sl} (h : (lockE ρ os)[j]? = some t) : ∃ s, ρ[j]? = some s ∧ ((t = s ∧ (OV.plc j ∈ os → isMut s = false)) ∨ (OV.plc j ∈ os ∧ isMut s = true ∧ ∃ d, s.get = some d ∧ t = .lk d)) := by
  have il : j < ρ.length := by rw [← lock_len os ρ]; exact (List.getElem?_eq_some_iff.mp h).1
  refine ⟨ρ[j], by simp [il], ?_⟩
  have hs : ρ[j]? = some ρ[j] := by simp [il]
  rcases lock_at os ρ j _ hs with ⟨n, q⟩ | ⟨n, ⟨ms, d, gd, q⟩ | ⟨ms, q⟩⟩
  · rw [h] at q; cases q; exact .inl ⟨rfl, fun z => absurd z n⟩
  · rw [h] at q; cases q; exact .inr ⟨n, ms, d, gd, rfl⟩
  · rw [h] at q; cases q; exact .inl ⟨rfl, fun _ => ms⟩
theorem lock_own {os : List OV} {a : Addr} (h : OwnA (lockE ρ os) σ a) : OwnA ρ σ a := by
  obtain ⟨j, t, e, o, v⟩ := h
  obtain ⟨s, es, ⟨rfl, _⟩ | ⟨_, ms, _⟩⟩ := lock_back e
  · exact ⟨j, t, es, o, v⟩
  · exact ⟨j, s, es, isMut_own ms, v⟩
theorem lock_mut {os : List OV} {a : Addr} (h : MutA (lockE ρ os) σ a) : MutA ρ σ a := by
  obtain ⟨j, t, e, o, v⟩ := h
  obtain ⟨s, es, ⟨rfl, _⟩ | ⟨_, ms, d, _, rfl⟩⟩ := lock_back e
  · exact ⟨j, t, es, o, v⟩
  · cases o
theorem isMut_get {s : Sl} {d : D} {w : World} {O : Addr → Prop} {H : Hp} {x : Option (Option V)} (ms : isMut s = true) (g : s.get = some d) (h : SlotOk w O H x s) : SlotOk w O H x (.lk d) := by
  cases s with
  | ow d' => cases g; exact h
  | io d' => cases g; exact h
  | _ => cases ms
theorem Match.lock (m : Match w Z ρ σ H) (os : List OV) : Match w Z (lockE ρ os) σ H := by
  refine ⟨by rw [lock_len]; exact m.len, m.zt, fun j t e => ?_, fun i j s t a ei ej si sj vi vj => ?_, fun a z => m.zo a (lock_own z)⟩
  · have le : ∀ a, Ow Z (lockE ρ os) σ a → Ow Z ρ σ a := fun a z => z.imp id lock_own
    obtain ⟨s, es, ⟨rfl, _⟩ | ⟨_, ms, d, gd, rfl⟩⟩ := lock_back e
    · exact (m.slot j _ es).mono le (fun _ _ e _ => e) fun _ _ _ _ e => e
    · exact (isMut_get ms gd (m.slot j _ es)).mono le (fun _ _ e _ => e) fun _ _ _ _ e => e
  · obtain ⟨s', es, k⟩ := lock_back ei
    obtain ⟨t', et, l⟩ := lock_back ej
    refine m.ap i j s' t' a es et ?_ ?_ vi vj
    · rcases k with ⟨rfl, _⟩ | ⟨_, ms, _⟩
      · exact si
      · exact isMut_own ms
    · rcases l with ⟨rfl, _⟩ | ⟨_, ms, _⟩
      · exact sj
      · exact isMut_own ms
theorem unlock_len : ∀ (os : List OV) (ρ0 ρ : Env), (unlockE ρ0 ρ os).length = ρ.length
  | [], _, ρ => rfl
  | .plc i :: os, ρ0, ρ => by
    unfold unlockE
    split <;> simp [unlock_len os ρ0 ρ]
  | .val _ _ :: os, ρ0, ρ => unlock_len os ρ0 ρ
theorem unlock_at : ∀ (os : List OV) (ρ0 ρ : Env) (j : Nat) (t : Sl), (unlockE ρ0 ρ os)[j]? = some t → (ρ[j]? = some t ∧ (OV.plc j ∈ os → ∀ s, ρ0[j]? = some s → isMut s = false)) ∨ (OV.plc j ∈ os ∧ ρ0[j]? = some t ∧ isMut t = true)
  | [], _, ρ, j, t, h => .inl ⟨h, fun z => by simp at z⟩
  | .val _ _ :: os, ρ0, ρ, j, t, h => by
    have := unlock_at os ρ0 ρ j t h
    simpa using this
  | .plc i :: os, ρ0, ρ, j, t, h => by
    have ih := unlock_at os ρ0 ρ j t
    unfold unlockE at h
    have done : ∀ (s : Sl), ρ0[i]? = some s → isMut s = true → ((unlockE ρ0 ρ os).set i s)[j]? = some t → (ρ[j]? = some t ∧ (OV.plc j ∈ OV.plc i :: os → ∀ s, ρ0[j]? = some s → isMut s = false)) ∨ (OV.plc j ∈ OV.plc i :: os ∧ ρ0[j]? = some t ∧ isMut t = true) := by
      intro s hs ms h
      by_cases hj : i = j
      · subst hj
        have il : i < (unlockE ρ0 ρ os).length := by
          have := (List.getElem?_eq_some_iff.mp h).1
          simpa using this
        rw [List.getElem?_set_self il] at h
        cases h
        exact .inr ⟨List.mem_cons_self, hs, ms⟩
      · rw [List.getElem?_set_ne hj] at h
        have hm : (OV.plc j ∈ OV.plc i :: os) ↔ OV.plc j ∈ os := by
          simp only [List.mem_cons, OV.plc.injEq]
          exact ⟨fun h => h.resolve_left fun e => hj e.symm, .inr⟩
        rw [hm]
        exact ih h
    split at h
    · rename_i d hs; exact done _ hs rfl h
    · rename_i d hs; exact done _ hs rfl h
    · rename_i n1 n2
      rcases ih h with ⟨a, b⟩ | ⟨a, b⟩
      · refine .inl ⟨a, fun z s hs => ?_⟩
        rcases List.mem_cons.mp z with z | z
        · cases z
          cases s with
          | ow d => exact absurd hs (n1 d)
          | io d => exact absurd hs (n2 d)
          | _ => rfl
        · exact b z s hs
      · exact .inr ⟨List.mem_cons_of_mem _ a, b⟩
/-- behind a walk: the walked places are free again -/
theorem unlock_all {os : List OV} (m : Match w Z ρ' σ' H') (s : StS (lockE ρ1 os) σ1 H1 ρ' σ' H') : Match w Z (unlockE ρ1 ρ' os) σ' H' ∧ StS ρ1 σ1 H1 (unlockE ρ1 ρ' os) σ' H' ∧ ∀ a, OwnA (unlockE ρ1 ρ' os) σ' a → OwnA ρ' σ' a := by
  -- an unlocked slot: locked within
  have lk : ∀ (j : Nat) (t : Sl), OV.plc j ∈ os → ρ1[j]? = some t → isMut t = true → ∃ d, t.get = some d ∧ ρ'[j]? = some (.lk d) ∧ σ'[j]? = σ1[j]? := fun j t hj et mt => by
    rcases lock_at os ρ1 j t et with ⟨n, _⟩ | ⟨_, ⟨_, d, gd, q⟩ | ⟨ms, q⟩⟩
    · exact absurd hj n
    · exact ⟨d, gd, s.lk j d q⟩
    · rw [mt] at ms; cases ms
  have own' : ∀ a, OwnA (unlockE ρ1 ρ' os) σ' a → OwnA ρ' σ' a := fun a ⟨j, t, e, o, v⟩ => by
    rcases unlock_at os ρ1 ρ' j t e with ⟨h, _⟩ | ⟨h1, h2, h3⟩
    · exact ⟨j, t, h, o, v⟩
    · obtain ⟨d, _, e2, _⟩ := lk j t h1 h2 h3
      exact ⟨j, _, e2, rfl, v⟩
  have le : ∀ a, Ow Z (unlockE ρ1 ρ' os) σ' a → Ow Z ρ' σ' a := fun a z => z.imp id (own' a)
  refine ⟨⟨by rw [unlock_len]; exact m.len, m.zt, fun j t e => ?_, fun i j u t a ei ej si sj vi vj => ?_, fun a z => m.zo a (own' a z)⟩,
    ⟨by rw [unlock_len, s.len, lock_len], fun a u e n => s.kp a u e fun z => n (lock_mut z), s.trk, fun a h => ?_, fun a h => (s.ow a (own' a h)).imp_right lock_own, fun j d h => ?_, fun j d h => ?_⟩, own'⟩
  · rcases unlock_at os ρ1 ρ' j t e with ⟨h, _⟩ | ⟨h1, h2, h3⟩
    · exact (m.slot j t h).mono le (fun _ _ e _ => e) fun _ _ _ _ e => e
    · obtain ⟨d, gd, e2, _⟩ := lk j t h1 h2 h3
      have q := (m.slot j _ e2).mono le (fun _ _ e _ => e) fun _ _ _ _ e => e
      cases t with
      | ow d' => cases gd; exact q
      | io d' => cases gd; exact q
      | _ => cases h3
  · have back : ∀ (j : Nat) (t : Sl), (unlockE ρ1 ρ' os)[j]? = some t → isOwn t = true → ∃ t', ρ'[j]? = some t' ∧ isOwn t' = true := fun j t e o => by
      rcases unlock_at os ρ1 ρ' j t e with ⟨h, _⟩ | ⟨h1, h2, h3⟩
      · exact ⟨t, h, o⟩
      · obtain ⟨d, _, e2, _⟩ := lk j t h1 h2 h3
        exact ⟨_, e2, rfl⟩
    obtain ⟨u', eu, ou⟩ := back i u ei si
    obtain ⟨t', et, ot⟩ := back j t ej sj
    exact m.ap i j u' t' a eu et ou ot vi vj
  · obtain ⟨j, t, e, o, v⟩ := h
    rcases unlock_at os ρ1 ρ' j t e with ⟨h, _⟩ | ⟨h1, h2, h3⟩
    · exact (s.mu a ⟨j, t, h, o, v⟩).imp_right lock_mut
    · obtain ⟨d, _, e2, ev⟩ := lk j t h1 h2 h3
      exact .inr ⟨j, t, h2, h3, by rw [← ev]; exact v⟩
  · rcases lock_at os ρ1 j _ h with ⟨n, q⟩ | ⟨hj, ⟨_, d', gd, q⟩ | ⟨ms, q⟩⟩
    · obtain ⟨⟨d2, e2⟩, v⟩ := s.io j d q
      refine ⟨?_, v⟩
      have il : j < (unlockE ρ1 ρ' os).length := by rw [unlock_len]; exact (List.getElem?_eq_some_iff.mp e2).1
      have et : (unlockE ρ1 ρ' os)[j]? = some (unlockE ρ1 ρ' os)[j] := by simp [il]
      rcases unlock_at os ρ1 ρ' j _ et with ⟨h', _⟩ | ⟨h1, _⟩
      · rw [e2] at h'; rw [et, ← h']; exact ⟨d2, rfl⟩
      · exact absurd h1 n
    · obtain ⟨e2, v⟩ := s.lk j d' q
      refine ⟨?_, v⟩
      have il : j < (unlockE ρ1 ρ' os).length := by rw [unlock_len]; exact (List.getElem?_eq_some_iff.mp e2).1
      have et : (unlockE ρ1 ρ' os)[j]? = some (unlockE ρ1 ρ' os)[j] := by simp [il]
      rcases unlock_at os ρ1 ρ' j _ et with ⟨_, h'⟩ | ⟨_, h2, _⟩
      · exact absurd (h' hj _ h) (by simp [isMut])
      · rw [h] at h2; exact ⟨d, by rw [et, ← h2]⟩
    · cases ms
  · have q : (lockE ρ1 os)[j]? = some (.lk d) := by
      rcases lock_at os ρ1 j _ h with ⟨n, q⟩ | ⟨hj, ⟨ms, _⟩ | ⟨_, q⟩⟩
      · exact q
      · cases ms
      · exact q
    obtain ⟨e2, v⟩ := s.lk j d q
    refine ⟨?_, v⟩
    have il : j < (unlockE ρ1 ρ' os).length := by rw [unlock_len]; exact (List.getElem?_eq_some_iff.mp e2).1
    have et : (unlockE ρ1 ρ' os)[j]? = some (unlockE ρ1 ρ' os)[j] := by simp [il]
    rcases unlock_at os ρ1 ρ' j _ et with ⟨h', _⟩ | ⟨_, h2, h3⟩
    · rw [e2] at h'; rw [et, ← h']
    · rw [h] at h2
      have : (unlockE ρ1 ρ' os)[j] = .lk d := by simpa using h2.symm
      rw [this] at h3
      cases h3
/-- the walked objects stay, as long as nothing but slots that may change is changed -/
theorem PostL.gk {os : List OV} {vs : List V} {ds : List D} (m : Match w Z ρ σ H) (p : PostL w Z ρ σ H os ρ1 vs H1) (e : rds ρ1 os = some ds) (kp : ∀ a u, H1 a = some u → ¬ MutA (lockE ρ1 os) σ a → H' a = some u) : Gk vs H1 H' := by
  intro a ha u hu
  refine kp a u hu fun z => ?_
  obtain ⟨i, hi⟩ := List.getElem?_of_mem ha
  have il : i < os.length := by rw [← p.ops.len]; exact (List.getElem?_eq_some_iff.mp hi).1
  have ho : os[i]? = some os[i] := by simp [il]
  have hmem : os[i] ∈ os := List.getElem_mem il
  generalize os[i] = o at ho hmem
  obtain ⟨v, hv, q⟩ := p.ops.at_ ho
  rw [hi] at hv; cases hv
  obtain ⟨d, hd, rdd⟩ := rds_at e ho
  have notO : ∀ d : D, Rep w (Ow (fun a => Z a ∨ a ∈ freshA os vs) ρ1 σ) H1 d (V.ref a) → False := fun d r => by
    cases d with
    | tup l => unfold Rep at r; obtain ⟨b, xs, e, n, _⟩ := r; cases e; exact n (.inr (lock_own z.own))
    | lst l => unfold Rep at r; obtain ⟨b, xs, e, n, _⟩ := r; cases e; exact n (.inr (lock_own z.own))
    | dct l k => unfold Rep at r; obtain ⟨b, xs, ys, e, n, _⟩ := r; cases e; exact n (.inr (lock_own z.own))
    | _ => simp [Rep] at r
  cases o with
  | val fr d' =>
    cases fr with
    | false => exact notO d' q
    | true => exact p.m.zo a (lock_own z.own) (.inr (freshA_at ho hi p.ops.len.symm))
  | plc j =>
    have q : σ[j]? = some (some (V.ref a)) := q
    have rdd : getS ρ1 j = some d := rdd
    unfold getS at rdd
    split at rdd
    · rename_i t et
      have k := p.m.slot j t et
      cases ht : isOwn t with
      | false =>
        cases t with
        | no => cases rdd
        | sh d0 =>
          obtain ⟨v, e', r⟩ := k
          rw [q] at e'; cases e'
          exact notO d0 r
        | _ => cases ht
      | true =>
        obtain ⟨k', t', e', mt', v'⟩ := z
        obtain ⟨t0, et0, q0⟩ := lock_back e'
        have ot0 : isOwn t0 = true := by
          rcases q0 with ⟨rfl, _⟩ | ⟨_, ms, _⟩
          · exact isMut_own mt'
          · exact isMut_own ms
        have := p.m.ap k' j t0 t a et0 et ot0 ht v' q
        subst this
        rcases q0 with ⟨rfl, q0⟩ | ⟨_, _, d0, _, rfl⟩
        · rw [q0 hmem] at mt'; cases mt'
        · cases mt'
    · cases rdd
end
end Ev

/-! Ev, part P: loops, comprehensions. -/
namespace Ev
open PySem PySem.Spec PyProof.Rows L2

section
variable {w : World} {Z Z' : Addr → Prop} {ρ ρ1 ρ2 ρ' : Env} {σ σ1 σ2 σ' : St} {H H1 H2 H' : Hp} {E : Ends}
/-- what a turn hands out, as data -/
theorem RepIV.val {O : Addr → Prop} {H0 : Hp} {d : D} {iv : IV} {x : V} (m : Match w Z ρ σ H) (hO : ∀ a, Ow Z ρ σ a → O a ∨ H0 a = none) (hk : ∀ a u, H0 a = some u → ¬ O a → H a = some u) (r : RepIV w O H0 d iv) (y : YI iv H x H') :
    Match w Z ρ σ H' ∧ StS ρ σ H ρ σ H' ∧ Rep w (Ow Z ρ σ) H' d x := by
  have rep : ∀ {d : D} {v : V}, Rep w O H0 d v → Rep w (Ow Z ρ σ) H d v := fun {d v} r => by
    have r2 : Rep w (fun b => O b ∨ Ow Z ρ σ b) H0 d v := r.moreP fun a h => (hO a h).symm
    exact r2.mono (fun a z => .inr z) fun a u e n => hk a u e fun z => n (.inl z)
  cases iv with
  | one v =>
    obtain ⟨rfl, rfl⟩ := y
    exact ⟨m, .refl, rep r⟩
  | pair p q =>
    obtain ⟨T, rfl, hT, rfl⟩ := y
    refine ⟨m.new' hT, .new hT, ?_⟩
    have key : ∀ a b : D, Rep w O H0 a p → Rep w O H0 b q → Rep w (Ow Z ρ σ) (upd H T (.tup [p, q])) (.tup [a, b]) (.ref T) := fun a b r1 r2 => by
      unfold Rep
      have up : ∀ {d : D} {v : V}, Rep w (Ow Z ρ σ) H d v → Rep w (Ow Z ρ σ) (upd H T (.tup [p, q])) d v := fun {d v} r => r.mono (fun _ z => z) fun a u e _ => by rw [upd_ne (ne_of_none e hT)]; exact e
      exact ⟨T, _, rfl, fun z => m.ow_there z hT, .inl upd_same, .cons (up (rep r1)) (.cons (up (rep r2)) .nil)⟩
    cases d with
    | tup l =>
      match l, r with
      | [a, b], r => exact key a b r.1 r.2
    | _ => exact r.elim
theorem Match.zmono (m : Match w Z' ρ σ H) (h : ∀ a, Z a → Z' a) : Match w Z ρ σ H := m.mono h
end

section
variable {X : Cx} {C : CallS} {tg iter : Expr} {body : List Stmt} {k : IK} {rs : List RE} {t : Tgt} {bs : List RS} {pos : Pos}
theorem s_for (hp : PassesOwn (model X.prog X.w) X.A X.env X.xe) (hc : X.calm = true) (hi : PI X tg iter (tI X.w C k rs)) (hg : PG X tg (tG X.w t)) (hb : PSs X body (tSs X.w C bs)) (hs : ∀ x, foldedSetIterable iter X.env x = pure x) :
    PS X (.For tg iter body [] pos) (tS X.w C (.loop k rs t bs)) := by
  refine psImp (ps_for hp hc hi hg hb hs) fun E σ H ⟨Z, ρ, m, e⟩ => ?_
  simp only [evS] at e
  split at e
  · cases e
  · rename_i os ρ1 e1
    split at e
    · cases e
    · rename_i ds e2
      split at e
      · cases e
      · rename_i items e3
        split at e
        · cases e
        · rename_i r e4
          refine ⟨Z, ρ, os, ρ1, ds, items, m, e1, e2, e3, fun vs H1 J ivs p wk ri => ?_⟩
          have ml : Match X.w (fun a => Z a ∨ a ∈ freshA os vs) (lockE ρ1 os) σ H1 := p.m.lock os
          have s0 : StS ρ σ H ρ1 σ H1 := .of p.tr p.st
          -- the end
          have fin : ∀ (ρ' : Env) (σ' : St) (H' : Hp), Match X.w (fun a => Z a ∨ a ∈ freshA os vs) ρ' σ' H' → StS (lockE ρ1 os) σ H1 ρ' σ' H' → r = .nx ρ' → E.nx σ' H' := by
            intro ρ' σ' H' m' s' er
            subst er
            obtain ⟨m2, s2, _⟩ := unlock_all m' s'
            exact e σ' H' (m2.mono fun a z => .inl z) (s0.trans s2)
          refine for_it wk (fun i σ' H' => ∃ ρ', Match X.w (fun a => Z a ∨ a ∈ freshA os vs) ρ' σ' H' ∧ StS (lockE ρ1 os) σ H1 ρ' σ' H' ∧ forLoop t (evSs C bs) (items.drop i) ρ' = some r) ⟨lockE ρ1 os, ml, .refl, e4⟩ (fun i σ' H' _ ⟨ρ', m', s', _⟩ => p.gk m e2 s'.kp) (fun i x σ' H' H'' hi ⟨ρ', m', s', e'⟩ ⟨iv, hiv, y⟩ => ?_) fun σ' H' ⟨ρ', m', s', e'⟩ => ?_
          · have hl := ri.1
            have hd : items[i]? = some (items[i]'(by omega)) := List.getElem?_eq_getElem _
            generalize items[i]'(by omega) = d at hd
            have hdrop : items.drop i = d :: items.drop (i + 1) := by
              rw [List.drop_eq_getElem_cons (by omega : i < items.length)]
              congr 1
              have := (List.getElem?_eq_some_iff.mp hd)
              exact this.2
            rw [hdrop] at e'
            unfold forLoop at e'
            split at e'
            · cases e'
            · rename_i ρ2 eb
              obtain ⟨m2, s2, r2⟩ := RepIV.val m' (fun a z => z.elim (fun z => .inl (.inl z)) fun z => (s'.ow a z).symm.imp (fun z => .inr (lock_own z)) id) (fun a u e n => s'.kp a u e fun z => n (.inr (lock_own z.own))) (ri.2 i d iv hd hiv) y
              refine ⟨_, ρ', d, ρ2, m2, r2, eb, fun σ2 m3 s3 _ _ _ => ⟨_, ρ2, m3, ?_⟩⟩
              have s4 : StS (lockE ρ1 os) σ H1 ρ2 σ2 H'' := (s'.trans s2).trans s3
              cases eq : evSs C bs ρ2 with
              | none => rw [eq] at e'; cases e'
              | some rb =>
                rw [eq] at e'
                cases rb with
                | nx ρ3 => exact fun σ3 H3 m5 s5 => ⟨ρ3, m5, s4.trans s5, e'⟩
                | ct ρ3 => exact fun σ3 H3 m5 s5 => ⟨ρ3, m5, s4.trans s5, e'⟩
                | bk ρ3 => exact fun σ3 H3 m5 s5 => fin ρ3 σ3 H3 m5 (s4.trans s5) (by simpa using e'.symm)
                | rt fr d ρ3 =>
                  intro v σ3 H3 rt
                  have er : r = .rt fr d ρ3 := by simpa using e'.symm
                  subst er
                  have rt2 := rt.step s4
                  obtain ⟨m6, s6, o6⟩ := unlock_all (Z := Zf (fun a => Z a ∨ a ∈ freshA os vs) v (.val fr d)) rt2.m rt2.st
                  refine e v σ3 H3 ⟨m6.mono fun a z => ?_, s0.trans s6, ?_⟩
                  · cases fr with
                    | false => exact .inl z
                    | true => exact z.imp .inl id
                  · have q := rt2.res
                    have le : ∀ a, Ow Z (unlockE ρ1 ρ3 os) σ3 a → Ow (fun a => Z a ∨ a ∈ freshA os vs) ρ3 σ3 a := fun a z => z.imp .inl (o6 a)
                    cases fr with
                    | false => exact Rep.mono (H := H3) le (fun _ _ e _ => e) q
                    | true =>
                      obtain ⟨a, ea, n, nw, t⟩ := q
                      refine ⟨a, ea, fun z => n (le a z), ?_, t.mono (fun b z => z.imp (le b) id) (fun _ _ e _ => e) fun _ e => e⟩
                      rcases nw with z | z
                      · exact .inl (none_of s0.trk z)
                      · exact s0.mu a (lock_mut z)
          · have hdrop : items.drop ivs.length = [] := List.drop_eq_nil_of_le (by rw [ri.1]; exact Nat.le_refl _)
            rw [hdrop] at e'
            unfold forLoop at e'
            exact fin ρ' σ' H' m' s' (by simpa using e'.symm)
end

/-! ### comprehensions -/
def tC (w : World) (C : CallS) (cs : List RE) : TT := fun σ H Q => ∃ Z ρ b ρ', Match w Z ρ σ H ∧ evC C cs ρ = some (b, ρ') ∧ ∀ H', Match w Z ρ' σ H' → TrE ρ ρ' → Stp ρ σ H H' → Q b H'
section
variable {X : Cx} {C : CallS}
theorem s_cnil : PTs X [] (tC X.w C []) := by
  refine ⟨fun pins s σ H Q I ⟨Z, ρ, b, ρ', m, e, k⟩ => pts_nil.run pins s σ H Q I ?_⟩
  simp only [evC, Option.some.injEq, Prod.mk.injEq] at e
  obtain ⟨rfl, rfl⟩ := e
  exact k H m (.refl ρ) .refl
theorem s_cone {c : Expr} {r : RE} (h : PT X c (tT X.w C r)) : PTs X [c] (tC X.w C [r]) := by
  refine ⟨fun pins s σ H Q I ⟨Z, ρ, b, ρ', m, e, k⟩ => (pts_one h).run pins s σ H Q I ?_⟩
  simp only [evC] at e
  split at e
  · cases e
  · rename_i ρ1 e1
    cases e
    exact ⟨Z, ρ, true, ρ', m, e1, k⟩
  · rename_i ρ1 e1
    cases e
    exact ⟨Z, ρ, false, ρ', m, e1, k⟩
end
mutual
theorem bindT_slot : ∀ (t : Tgt) (d : D) (ρ ρ' : Env), bindT t d ρ = some ρ' → ρ'.length = ρ.length ∧ ∀ (i : Nat) (s : Sl), ρ'[i]? = some s → ρ[i]? = some s ∨ ∃ d, s = .sh d
  | .nm j, d, ρ, ρ', h => by
    unfold bindT at h
    obtain ⟨t, et, ft, rfl⟩ := setS_eq h
    refine ⟨by simp, fun i s e => ?_⟩
    by_cases hj : j = i
    · subst hj
      rw [List.getElem?_set_self (List.getElem?_eq_some_iff.mp et).1] at e
      cases e
      exact .inr ⟨d, rfl⟩
    · rw [List.getElem?_set_ne hj] at e
      exact .inl e
  | .tp ts, d, ρ, ρ', h => by
    unfold bindT at h
    cases d with
    | tup ds => exact bindTs_slot ts ds ρ ρ' h
    | _ => cases h
theorem bindTs_slot : ∀ (t : List Tgt) (d : List D) (ρ ρ' : Env), bindTs t d ρ = some ρ' → ρ'.length = ρ.length ∧ ∀ (i : Nat) (s : Sl), ρ'[i]? = some s → ρ[i]? = some s ∨ ∃ d, s = .sh d
  | [], [], ρ, ρ', h => by simp only [bindTs, Option.some.injEq] at h; subst h; exact ⟨rfl, fun i s e => .inl e⟩
  | [], _ :: _, ρ, ρ', h => by simp [bindTs] at h
  | _ :: _, [], ρ, ρ', h => by simp [bindTs] at h
  | t :: ts, d :: ds, ρ, ρ', h => by
    simp only [bindTs] at h
    split at h
    · rename_i ρ1 e1
      obtain ⟨l1, k1⟩ := bindT_slot t d ρ ρ1 e1
      obtain ⟨l2, k2⟩ := bindTs_slot ts ds ρ1 ρ' h
      refine ⟨l2.trans l1, fun i s e => ?_⟩
      rcases k2 i s e with q | q
      · exact k1 i s q
      · exact .inr q
    · cases h
end
theorem wipeE_len (ρ : Env) : ∀ own : List Nat, (wipeE ρ own).length = ρ.length
  | [] => rfl
  | i :: is => by unfold wipeE; rw [List.length_set, wipeE_len ρ is]
theorem wipeE_out {ρ : Env} {i : Nat} : ∀ {own : List Nat}, i ∉ own → (wipeE ρ own)[i]? = ρ[i]?
  | [], _ => rfl
  | j :: is, h => by
    unfold wipeE
    rw [List.getElem?_set_ne (fun e => h (by simp [e]))]
    exact wipeE_out fun z => h (List.mem_cons_of_mem _ z)
theorem wipeE_in {ρ : Env} {i : Nat} : ∀ {own : List Nat}, i ∈ own → i < ρ.length → (wipeE ρ own)[i]? = some .no
  | j :: is, h, l => by
    unfold wipeE
    by_cases hj : j = i
    · subst hj
      exact List.getElem?_set_self (by rw [wipeE_len]; exact l)
    · rw [List.getElem?_set_ne hj]
      exact wipeE_in ((List.mem_cons.mp h).resolve_left fun e => hj e.symm) l
theorem wipe_in {σ : St} {i : Nat} : ∀ {own : List Nat}, i ∈ own → i < σ.length → (wipe σ own)[i]? = some none
  | j :: is, h, l => by
    unfold wipe
    by_cases hj : j = i
    · subst hj
      exact List.getElem?_set_self (by rw [wipe_length]; exact l)
    · rw [List.getElem?_set_ne hj]
      exact wipe_in ((List.mem_cons.mp h).resolve_left fun e => hj e.symm) l
theorem wipeE_idem {ρ : Env} {own : List Nat} : wipeE (wipeE ρ own) own = wipeE ρ own := by
  apply List.ext_getElem?
  intro i
  by_cases h : i ∈ own
  · by_cases l : i < ρ.length
    · rw [wipeE_in h (by rw [wipeE_len]; exact l), wipeE_in h l]
    · rw [List.getElem?_eq_none (by rw [wipeE_len, wipeE_len]; omega), List.getElem?_eq_none (by rw [wipeE_len]; omega)]
  · rw [wipeE_out h]
theorem wipe_ext {σ σ2 : St} {own : List Nat} (l : σ2.length = σ.length) (h : ∀ i, i ∉ own → σ2[i]? = σ[i]?) : wipe σ2 own = wipe σ own := by
  apply List.ext_getElem?
  intro i
  by_cases hi : i ∈ own
  · by_cases hl : i < σ.length
    · rw [wipe_in hi (by omega), wipe_in hi hl]
    · rw [List.getElem?_eq_none (by rw [wipe_length]; omega), List.getElem?_eq_none (by rw [wipe_length]; omega)]
  · rw [wipe_out hi, wipe_out hi, h i hi]
/-- no own slot owns -/
def NoOwn (ρ : Env) (own : List Nat) : Prop := ∀ i ∈ own, ∀ s, ρ[i]? = some s → isOwn s = false
section
variable {w : World} {Z Z' : Addr → Prop} {ρ ρ1 ρ2 ρ' : Env} {σ σ1 σ2 σ' : St} {H H1 H2 H' : Hp} {own : List Nat}
theorem own_wipe (n : NoOwn ρ own) {a : Addr} : OwnA (wipeE ρ own) (wipe σ own) a ↔ OwnA ρ σ a := by
  constructor
  · rintro ⟨i, s, e, o, v⟩
    obtain ⟨v', hi⟩ := wipe_some v
    rw [wipeE_out hi] at e
    exact ⟨i, s, e, o, v'⟩
  · rintro ⟨i, s, e, o, v⟩
    have hi : i ∉ own := fun z => by rw [n i z s e] at o; cases o
    exact ⟨i, s, by rw [wipeE_out hi]; exact e, o, by rw [wipe_out hi]; exact v⟩
theorem mut_wipe (n : NoOwn ρ own) {a : Addr} : MutA (wipeE ρ own) (wipe σ own) a ↔ MutA ρ σ a := by
  constructor
  · rintro ⟨i, s, e, o, v⟩
    obtain ⟨v', hi⟩ := wipe_some v
    rw [wipeE_out hi] at e
    exact ⟨i, s, e, o, v'⟩
  · rintro ⟨i, s, e, o, v⟩
    have hi : i ∉ own := fun z => by have := n i z s e; rw [isMut_own o] at this; cases this
    exact ⟨i, s, by rw [wipeE_out hi]; exact e, o, by rw [wipe_out hi]; exact v⟩
theorem Match.wiped (m : Match w Z ρ σ H) (n : NoOwn ρ own) : Match w Z (wipeE ρ own) (wipe σ own) H := by
  have le : ∀ a, Ow Z (wipeE ρ own) (wipe σ own) a → Ow Z ρ σ a := fun a z => z.imp id (own_wipe n).mp
  refine ⟨by rw [wipeE_len, wipe_length]; exact m.len, m.zt, fun i s e => ?_, fun i j s t a ei ej si sj vi vj => ?_, fun a z => m.zo a ((own_wipe n).mp z)⟩
  · by_cases hi : i ∈ own
    · have l : i < ρ.length := by
        have := (List.getElem?_eq_some_iff.mp e).1
        rw [wipeE_len] at this; exact this
      rw [wipeE_in hi l] at e
      cases e
      trivial
    · rw [wipeE_out hi] at e
      rw [wipe_out hi]
      exact (m.slot i s e).mono le (fun _ _ e _ => e) fun _ _ _ _ e => e
  · obtain ⟨vi', hi⟩ := wipe_some vi
    obtain ⟨vj', hj⟩ := wipe_some vj
    rw [wipeE_out hi] at ei
    rw [wipeE_out hj] at ej
    exact m.ap i j s t a ei ej si sj vi' vj'
/-- an object of Z is changed -/
theorem Match.updZ {p : Addr} {u : HO} (m : Match w Z ρ σ H) (hp : Z p) : Match w Z ρ σ (upd H p u) := by
  have ne : ∀ a, OwnA ρ σ a → a ≠ p := fun a h e => m.zo a h (e ▸ hp)
  refine ⟨m.len, fun a z => ?_, fun i s e => ?_, m.ap, m.zo⟩
  · by_cases h : a = p
    · subst h; rw [upd_same]; simp
    · rw [upd_ne h]; exact m.zt a z
  · refine (m.slot i s e).mono (fun _ z => z) (fun a o q n => ?_) fun os a o va q => ?_
    · rw [upd_ne (fun z => n (.inl (by rw [z]; exact hp)) : a ≠ p)]; exact q
    · rw [upd_ne (ne a ⟨i, s, e, os, va⟩)]; exact q
theorem backE_len (ρ ρ0 : Env) : ∀ own : List Nat, (backE ρ ρ0 own).length = ρ.length
  | [] => rfl
  | i :: is => by
    unfold backE
    split
    · rw [List.length_set, backE_len ρ ρ0 is]
    · exact backE_len ρ ρ0 is
theorem backE_out {ρ ρ0 : Env} {i : Nat} : ∀ {own : List Nat}, i ∉ own → (backE ρ ρ0 own)[i]? = ρ[i]?
  | [], _ => rfl
  | j :: is, h => by
    have ih := backE_out (ρ := ρ) (ρ0 := ρ0) (own := is) fun z => h (List.mem_cons_of_mem _ z)
    unfold backE
    split
    · rw [List.getElem?_set_ne (fun e => h (by simp [e]))]; exact ih
    · exact ih
theorem backE_in {ρ ρ0 : Env} {i : Nat} (l : ρ.length = ρ0.length) : ∀ {own : List Nat}, i ∈ own → (backE ρ ρ0 own)[i]? = ρ0[i]?
  | j :: is, h => by
    unfold backE
    by_cases hj : j = i
    · subst hj
      split
      · rename_i s hs
        rw [hs]
        exact List.getElem?_set_self (by rw [backE_len, l]; exact (List.getElem?_eq_some_iff.mp hs).1)
      · rename_i hs
        rw [hs]
        exact List.getElem?_eq_none (by rw [backE_len, l]; exact List.getElem?_eq_none_iff.mp hs)
    · have hm : i ∈ is := (List.mem_cons.mp h).resolve_left fun e => hj e.symm
      split
      · rw [List.getElem?_set_ne hj]; exact backE_in l hm
      · exact backE_in l hm
end

section
variable {X : Cx} {C : CallS} {k : IK} {rs : List RE} {t : Tgt} {conds : List RE} {elt : RE} {own : List Nat}
theorem lc_imp {σ : St} {H : Hp} {Q : VK} (ht : (tgS t).all (fun i => own.contains i) = true) (h : tE X.w C (.comp k rs t own conds elt) σ H Q) : tLc (tI X.w C k rs) (tG X.w t) (tC X.w C conds) (tE X.w C elt) own σ H Q := by
  obtain ⟨Z, ρ, o, ρf, m, e, kk⟩ := h
  simp only [evE] at e
  split at e
  · cases e
  · rename_i os ρ1 e1
    split at e
    · cases e
    · rename_i ds e2
      split at e
      · cases e
      · rename_i items e3
        split at e
        · rename_i ho
          split at e
          · cases e
          · rename_i all ρe e4
            cases e
            -- the own slots own nothing
            have no1 : NoOwn ρ1 own := fun i hi s hs => by
              have := List.all_eq_true.mp ho i hi
              unfold ownS at this
              rw [hs] at this
              simpa using this
            have noL : NoOwn (lockE ρ1 os) own := fun i hi s hs => by
              obtain ⟨s', es, ⟨rfl, _⟩ | ⟨_, ms, _⟩⟩ := lock_back hs
              · exact no1 i hi _ es
              · have := no1 i hi s' es; rw [isMut_own ms] at this; cases this
            have lockOwn : ∀ i ∈ own, (lockE ρ1 os)[i]? = ρ1[i]? := fun i hi => by
              cases hs : ρ1[i]? with
              | none => exact List.getElem?_eq_none (by rw [lock_len]; exact List.getElem?_eq_none_iff.mp hs)
              | some s =>
                rcases lock_at os ρ1 i s hs with ⟨_, q⟩ | ⟨_, ⟨ms, _⟩ | ⟨_, q⟩⟩
                · exact q
                · have := no1 i hi s hs; rw [isMut_own ms] at this; cases this
                · exact q
            have noW : ∀ r : Env, NoOwn (wipeE r own) own := fun r i hi s hs => by
              have l : i < r.length := by
                have := (List.getElem?_eq_some_iff.mp hs).1
                rw [wipeE_len] at this; exact this
              rw [wipeE_in hi l] at hs
              cases hs; rfl
            have wipeσ : wipe (wipe σ own) own = wipe σ own := wipe_ext (wipe_length σ own) fun i hi => wipe_out hi
            refine ⟨Z, ρ, os, ρ1, ds, items, m, e1, e2, e3, fun vs H1 J ivs p wk ri A0 hD => ?_⟩
            generalize hρl : lockE ρ1 os = ρl at *
            have hll : ρl.length = ρ1.length := by rw [← hρl, lock_len]
            generalize hZd : (fun a => (Z a ∨ a ∈ freshA os vs) ∨ a = A0) = Zd at *
            have ml : Match X.w (fun a => Z a ∨ a ∈ freshA os vs) ρl σ H1 := by rw [← hρl]; exact p.m.lock os
            have md : Match X.w Zd (wipeE ρl own) (wipe σ own) (upd H1 A0 (.lst [])) := by
              rw [← hZd]
              exact (ml.new hD).wiped noL
            have zD : Zd A0 := by rw [← hZd]; exact .inr rfl
            have oL : ∀ a, OwnA ρl σ a → OwnA ρ1 σ a := fun a z => by rw [← hρl] at z; exact lock_own z
            have uL : ∀ a, MutA ρl σ a → MutA ρ1 σ a := fun a z => by rw [← hρl] at z; exact lock_mut z
            refine lc_it wk (fun i H => ∃ (ρ' : Env) (acc : List D) (accV : List V), Match X.w Zd (wipeE ρ' own) (wipe σ own) H ∧ TrE (wipeE ρl own) (wipeE ρ' own) ∧ Stp (wipeE ρl own) (wipe σ own) H1 H ∧ H A0 = some (.lst accV) ∧
              Reps X.w (Ow Zd (wipeE ρ' own) (wipe σ own)) H acc accV ∧ compLoop t own (evC C conds) (evE C elt) (items.drop i) ρ' acc = some (all, ρe))
              ⟨ρl, [], [], md, .refl _, .new hD, upd_same, .nil, e4⟩ (fun i H _ ⟨ρ', acc, accV, m', t', s', _⟩ => p.gk m e2 (fun a u hu hn => s'.keep a u hu fun z => hn (by rw [hρl]; exact (mut_wipe noL).mp z))) (fun i x H' H'' hi ⟨ρ', acc, accV, m', t', s', hacc, racc, e'⟩ ⟨iv, hiv, y⟩ => ?_) fun H' ⟨ρ', acc, accV, m', t', s', hacc, racc, e'⟩ => ?_
            · -- a turn
              have hl := ri.1
              have hd : items[i]? = some (items[i]'(by omega)) := List.getElem?_eq_getElem _
              generalize items[i]'(by omega) = d at hd
              have hdrop : items.drop i = d :: items.drop (i + 1) := by
                rw [List.drop_eq_getElem_cons (by omega : i < items.length)]
                congr 1
                exact (List.getElem?_eq_some_iff.mp hd).2
              rw [hdrop] at e'
              unfold compLoop at e'
              split at e'
              · cases e'
              · rename_i ρ2 eb
                have hOd : ∀ a, Ow Zd (wipeE ρ' own) (wipe σ own) a → Ow (fun a => Z a ∨ a ∈ freshA os vs) ρ1 σ a ∨ H1 a = none := fun a z => by
                  rcases z with z | z
                  · rw [← hZd] at z
                    rcases z with z | z
                    · exact .inl (.inl z)
                    · rw [z]; exact .inr hD
                  · exact .inl (.inr (oL a ((own_wipe noL).mp (t'.own z))))
                obtain ⟨m2, s2, r2⟩ := RepIV.val m' hOd (fun a u e n => s'.keep a u e fun z => n (.inr (oL a ((mut_wipe noL).mp z).own))) (ri.2 i d iv hd hiv) y
                refine ⟨Zd, wipeE ρ' own, d, ρ2, m2, r2, eb, fun σ2 m3 s3 l3 k3 j3 => ?_⟩
                have sub : ∀ i, i ∉ own → i ∉ tgS t := fun i hi z => hi (by simpa using List.all_eq_true.mp ht i z)
                have eσ : wipe σ2 own = wipe σ own := by
                  rw [wipe_ext l3 fun i hi => k3 i (sub i hi), wipeσ]
                refine ⟨eσ, ?_⟩
                have slots := bindT_slot t d _ _ eb
                have no2 : NoOwn ρ2 own := fun i hi s hs => by
                  rcases slots.2 i s hs with q | ⟨d', rfl⟩
                  · exact noW ρ' i hi s q
                  · rfl
                -- what stays true behind the turn: from an env behind ρ2
                have next : ∀ (ρ3 : Env) (H3 : Hp) (acc' : List D) (accV' : List V) (u : HO), Match X.w Zd ρ3 σ2 H3 → TrE ρ2 ρ3 → StS ρ2 σ2 H'' ρ3 σ2 H3 → u = .lst accV' → (accV' = accV ∧ acc' = acc ∨ ∃ y yd, accV' = accV ++ [y] ∧ acc' = acc ++ [yd] ∧ Rep X.w (Ow Zd ρ3 σ2) H3 yd y) →
                    compLoop t own (evC C conds) (evE C elt) (items.drop (i + 1)) (wipeE ρ3 own) acc' = some (all, ρe) →
                    (∃ (ρ' : Env) (acc : List D) (accV : List V), Match X.w Zd (wipeE ρ' own) (wipe σ own) (upd H3 A0 u) ∧ TrE (wipeE ρl own) (wipeE ρ' own) ∧ Stp (wipeE ρl own) (wipe σ own) H1 (upd H3 A0 u) ∧ upd H3 A0 u A0 = some (.lst accV) ∧
                      Reps X.w (Ow Zd (wipeE ρ' own) (wipe σ own)) (upd H3 A0 u) acc accV ∧ compLoop t own (evC C conds) (evE C elt) (items.drop (i + 1)) ρ' acc = some (all, ρe)) := by
                  intro ρ3 H3 acc' accV' u m4 t4 s4 hu hcase e5
                  have no3 : NoOwn ρ3 own := fun i hi s hs => by
                    obtain ⟨s0, es0, tr0⟩ := t4.back hs
                    cases h0 : isOwn s with
                    | false => rfl
                    | true => have := no2 i hi s0 es0; rw [tr0.own h0] at this; cases this
                  have st : StS (wipeE ρ' own) (wipe σ own) H' ρ3 σ2 H3 := (s2.trans s3).trans s4
                  have le3 : ∀ a, Ow Zd (wipeE ρ3 own) (wipe σ own) a → Ow Zd ρ3 σ2 a := fun a z => z.imp id fun z => (own_wipe no3).mp (by rw [eσ]; exact z)
                  refine ⟨wipeE ρ3 own, acc', accV', ?_, ?_, ?_, by rw [upd_same, hu], ?_, e5⟩
                  · rw [wipeE_idem, ← eσ]
                    exact (m4.wiped no3).updZ zD
                  · rw [wipeE_idem]
                    refine ⟨by rw [wipeE_len, wipeE_len, t4.len, slots.1, wipeE_len]; have := t'.len; rw [wipeE_len, wipeE_len] at this; exact this, fun j s hs => ?_⟩
                    obtain ⟨s1, es1, tr1⟩ := t'.tr j s hs
                    by_cases hj : j ∈ own
                    · have l : j < ρ'.length := by
                        have := (List.getElem?_eq_some_iff.mp es1).1
                        rw [wipeE_len] at this; exact this
                      have l3 : j < ρ3.length := by rw [t4.len, slots.1, wipeE_len]; exact l
                      rw [wipeE_in hj l] at es1
                      cases es1
                      exact ⟨.no, wipeE_in hj l3, tr1⟩
                    · have e2' : ρ2[j]? = some s1 := by rw [j3 j (sub j hj)]; exact es1
                      obtain ⟨s3, es3, tr3⟩ := t4.tr j s1 e2'
                      exact ⟨s3, by rw [wipeE_out hj]; exact es3, tr1.trans tr3⟩
                  · refine ⟨fun a u0 ha hn => ?_, fun a ha => ?_⟩
                    · have hne : a ≠ A0 := ne_of_none ha hD
                      rw [upd_ne hne]
                      refine st.kp a u0 (s'.keep a u0 ha hn) fun z => hn (t'.mut z)
                    · by_cases hne : a = A0
                      · rw [hne, upd_same]; simp
                      · rw [upd_ne hne]; exact st.trk a (s'.trk a ha)
                  · have up : ∀ {d : D} {v : V}, Rep X.w (Ow Zd ρ3 σ2) H3 d v → Rep X.w (Ow Zd (wipeE (wipeE ρ3 own) own) (wipe σ own)) (upd H3 A0 u) d v := fun {d v} r => by
                      rw [wipeE_idem]
                      exact r.mono le3 fun a u0 ha hn => by rw [upd_ne (fun z => hn (.inl (by rw [z]; exact zD)) : a ≠ A0)]; exact ha
                    have ups : ∀ {d : List D} {v : List V}, Reps X.w (Ow Zd ρ3 σ2) H3 d v → Reps X.w (Ow Zd (wipeE (wipeE ρ3 own) own) (wipe σ own)) (upd H3 A0 u) d v := fun {d v} r => by
                      rw [wipeE_idem]
                      exact r.mono le3 fun a u0 ha hn => by rw [upd_ne (fun z => hn (.inl (by rw [z]; exact zD)) : a ≠ A0)]; exact ha
                    have r0 := ups (st.reps racc)
                    rcases hcase with ⟨rfl, rfl⟩ | ⟨y, yd, rfl, rfl, ry⟩
                    · exact r0
                    · exact r0.append (.cons (up ry) .nil)
                -- the new list stays
                have keepD : ∀ {ρa ρb : Env} {σa σb : St} {Ha Hb : Hp} {u : HO}, Match X.w Zd ρa σa Ha → StS ρa σa Ha ρb σb Hb → Ha A0 = some u → Hb A0 = some u := fun {ρa ρb σa σb Ha Hb u} ma sa ha => sa.kp A0 u ha fun z => ma.zo A0 z.own zD
                have hD2 : H'' A0 = some (.lst accV) := keepD m2 s3 (keepD m' s2 hacc)
                split at e'
                · cases e'
                · rename_i ρ3 ec
                  split at e'
                  · cases e'
                  · rename_i fr yd ρ4 ee
                    split at e'
                    · rename_i hlen
                      refine ⟨Zd, ρ2, true, ρ3, m3, ec, fun H3 m4 t4 s4 => ?_⟩
                      dsimp only
                      rw [if_pos rfl]
                      refine ⟨Zd, ρ3, _, ρ4, m4, toVal_eq ee, fun y H4 p5 => ?_⟩
                      have st5 : StS ρ2 σ2 H'' ρ4 σ2 H4 := (StS.of t4 s4).trans (.of p5.tr p5.st)
                      refine ⟨accV, keepD m3 st5 hD2, by rw [racc.length]; exact Nat.lt_of_lt_of_le hlen (by decide), ?_⟩
                      exact next ρ4 H4 _ _ _ p5.m0 (t4.trans p5.tr) st5 rfl (.inr ⟨y, yd, rfl, rfl, p5.opd⟩) e'
                    · cases e'
                · rename_i ρ3 ec
                  refine ⟨Zd, ρ2, false, ρ3, m3, ec, fun H3 m4 t4 s4 => ?_⟩
                  dsimp only
                  rw [if_neg Bool.false_ne_true]
                  have st4 : StS ρ2 σ2 H'' ρ3 σ2 H3 := .of t4 s4
                  have q := next ρ3 H3 acc accV _ m4 t4 st4 rfl (.inl ⟨rfl, rfl⟩) e'
                  have eu : upd H3 A0 (.lst accV) = H3 := by
                    funext a
                    by_cases h : a = A0
                    · subst h; rw [upd_same]; exact (keepD m3 st4 hD2).symm
                    · rw [upd_ne h]
                  rw [eu] at q
                  exact q
            · -- the end
              have hdrop : items.drop ivs.length = [] := List.drop_eq_nil_of_le (by rw [ri.1]; exact Nat.le_refl _)
              rw [hdrop] at e'
              unfold compLoop at e'
              simp only [Option.some.injEq, Prod.mk.injEq] at e'
              obtain ⟨rfl, rfl⟩ := e'
              have hle : ρ'.length = ρ1.length := by have := t'.len; rw [wipeE_len, wipeE_len] at this; rw [this, hll]
              -- the env with the own slots as they were
              generalize hρb : backE ρ' ρ1 own = ρb at *
              have bin : ∀ i, i ∈ own → ρb[i]? = ρ1[i]? := fun i hi => by rw [← hρb]; exact backE_in hle hi
              have bout : ∀ i, i ∉ own → ρb[i]? = (wipeE ρ' own)[i]? := fun i hi => by rw [← hρb, backE_out hi, wipeE_out hi]
              have noB : NoOwn ρb own := fun i hi s hs => no1 i hi s (by rw [← bin i hi]; exact hs)
              have ownB : ∀ a, OwnA ρb σ a → OwnA (wipeE ρ' own) (wipe σ own) a := fun a ⟨i, s, e, o, v⟩ => by
                have hi : i ∉ own := fun z => by rw [noB i z s e] at o; cases o
                exact ⟨i, s, by rw [← bout i hi]; exact e, o, by rw [wipe_out hi]; exact v⟩
              have trB : TrE ρl ρb := ⟨by rw [← hρb, backE_len, hle, hll], fun i s hs => by
                by_cases hi : i ∈ own
                · exact ⟨s, by rw [bin i hi, ← lockOwn i hi]; exact hs, Tr.refl s⟩
                · obtain ⟨u, eu, tu⟩ := t'.tr i s (by rw [wipeE_out hi]; exact hs)
                  exact ⟨u, by rw [bout i hi]; exact eu, tu⟩⟩
              have stB : Stp ρl σ H1 H' := ⟨fun a u ha hn => s'.keep a u ha fun z => hn ((mut_wipe noL).mp z), s'.trk⟩
              have leB : ∀ a, Ow Zd ρb σ a → Ow Zd (wipeE ρ' own) (wipe σ own) a := fun a z => z.imp id (ownB a)
              have mB : Match X.w Zd ρb σ H' := by
                refine ⟨by rw [← hρb, backE_len, hle]; exact p.m.len, m'.zt, fun i s e => ?_, fun i j s u a ei ej si sj vi vj => ?_, fun a z => m'.zo a (ownB a z)⟩
                · by_cases hi : i ∈ own
                  · have e0 : ρ1[i]? = some s := by rw [← bin i hi]; exact e
                    have k0 := p.m.slot i s e0
                    have k1 := no1 i hi s e0
                    cases s with
                    | no => trivial
                    | sh d =>
                      obtain ⟨v, hv, r⟩ := k0
                      refine ⟨v, hv, ?_⟩
                      have r2 : Rep X.w (fun b => Ow (fun a => Z a ∨ a ∈ freshA os vs) ρ1 σ b ∨ b = A0) H1 d v := r.moreP fun a z => by rw [z]; exact .inl hD
                      refine r2.mono (fun a z => ?_) fun a u ha hn => stB.keep a u ha fun z => hn (.inl (.inr (oL a z.own)))
                      rcases z with z | z
                      · rw [← hZd] at z
                        exact z.imp .inl id
                      · exact .inl (.inr (oL a (trB.own z)))
                    | _ => cases k1
                  · have k0 := m'.slot i s (by rw [← bout i hi]; exact e)
                    rw [wipe_out hi] at k0
                    exact k0.mono leB (fun _ _ e _ => e) fun _ _ _ _ e => e
                · have hi : i ∉ own := fun z => by rw [noB i z s ei] at si; cases si
                  have hj : j ∉ own := fun z => by rw [noB j z u ej] at sj; cases sj
                  exact m'.ap i j s u a (by rw [← bout i hi]; exact ei) (by rw [← bout j hj]; exact ej) si sj (by rw [wipe_out hi]; exact vi) (by rw [wipe_out hj]; exact vj)
              obtain ⟨mU, sU, oU⟩ := unlock_all (os := os) (ρ1 := ρ1) (σ1 := σ) (H1 := H1) mB (by rw [hρl]; exact .of trB stB)
              have trU : TrE ρ1 (unlockE ρ1 ρb os) := ⟨sU.len, fun i s hs => by
                have il : i < (unlockE ρ1 ρb os).length := by rw [sU.len]; exact (List.getElem?_eq_some_iff.mp hs).1
                have et : (unlockE ρ1 ρb os)[i]? = some (unlockE ρ1 ρb os)[i] := by simp [il]
                refine ⟨_, et, ?_⟩
                rcases unlock_at os ρ1 ρb i _ et with ⟨h1, h2⟩ | ⟨_, h2, _⟩
                · have hl0 : (lockE ρ1 os)[i]? = some s := by
                    rcases lock_at os ρ1 i s hs with ⟨_, q⟩ | ⟨hm, ⟨ms, _⟩ | ⟨_, q⟩⟩
                    · exact q
                    · rw [h2 hm s hs] at ms; cases ms
                    · exact q
                  rw [hρl] at hl0
                  obtain ⟨u, eu, tu⟩ := trB.tr i s hl0
                  rw [h1] at eu; cases eu
                  exact tu
                · rw [hs] at h2
                  cases h2
                  exact Tr.refl _⟩
              refine kk _ H' ⟨mU.mono fun a z => ?_, p.tr.trans trU, ⟨fun a u ha hn => ?_, fun a ha => s'.trk a (p.st.trk a ha)⟩, A0, rfl, fun z => ?_, .inl (p.st.none_back hD), accV, hacc, ?_⟩
              · rw [← hZd]
                exact z.imp .inl fun z => by cases z; rfl
              · exact sU.kp a u (p.st.keep a u ha hn) fun z => hn (p.tr.mut z)
              · rcases z with z | z
                · exact p.m.zt A0 (.inl z) hD
                · exact m'.zo A0 (ownB A0 (oU A0 z)) zD
              · refine racc.mono (fun a z => ?_) fun _ _ e _ => e
                rcases z with (z | z) | z
                · rw [← hZd]; exact .inl (.inl (.inl z))
                · exact .inr (ownB a (oU a z))
                · rw [z]; exact .inl zD
        · cases e
end
end Ev

/-! Ev, part Q: statements. -/
namespace Ev
open PySem PySem.Spec PyProof.Rows L2

section
variable {X : Cx} {C : CallS} {pos : Pos}
/-! ### blocks -/
theorem ss_nil : PSs X [] (tSs X.w C []) := pssImp pss_nil fun E σ H ⟨Z, ρ, m, e⟩ => e σ H m .refl
theorem ss_cons {st : Stmt} {rest : List Stmt} {s : RS} {ss : List RS} (h1 : PS X st (tS X.w C s)) (h2 : PSs X rest (tSs X.w C ss)) : PSs X (st :: rest) (tSs X.w C (s :: ss)) := by
  refine pssImp (pss_cons h1 h2) fun E σ H ⟨Z, ρ, m, e⟩ => ⟨Z, ρ, m, ?_⟩
  simp only [evSs] at e
  cases q : evS C s ρ with
  | none => rw [q] at e; exact e
  | some r =>
    rw [q] at e
    cases r with
    | nx ρ1 => exact fun σ1 H1 m1 s1 => ⟨Z, ρ1, m1, e.step s1⟩
    | rt fr d ρ1 => exact e
    | bk ρ1 => exact e
    | ct ρ1 => exact e
theorem s_pass : PS X (.Pass pos) (tS X.w C .pass) := psImp ps_pass fun E σ H ⟨Z, ρ, m, e⟩ => by
  simp only [evS] at e
  exact e σ H m .refl
theorem s_brk : PS X (.Break pos) (tS X.w C .brk) := psImp ps_break fun E σ H ⟨Z, ρ, m, e⟩ => by
  simp only [evS] at e
  exact e σ H m .refl
theorem s_cnt : PS X (.Continue pos) (tS X.w C .cnt) := psImp ps_continue fun E σ H ⟨Z, ρ, m, e⟩ => by
  simp only [evS] at e
  exact e σ H m .refl
theorem s_rais {st : Stmt} : PS X st (tS X.w C .rais) := psImp ps_never fun E σ H ⟨Z, ρ, m, e⟩ => by
  simp only [evS] at e
  exact e
theorem s_doc {x : Str} {j : Nat} {p p2 : Pos} : PS X (.Expr (.Constant (.str x) j p) p2) (tS X.w C .pass) := psImp ps_doc fun E σ H ⟨Z, ρ, m, e⟩ => by
  simp only [evS] at e
  exact e σ H m .refl
theorem s_retN : PS X (.Return none pos) (tS X.w C .retN) := psImp ps_retN fun E σ H ⟨Z, ρ, m, e⟩ => by
  simp only [evS] at e
  exact e .non σ H ⟨m, .refl, (rep_non : Rep X.w (Ow Z ρ σ) H .non .non)⟩
theorem s_ret {ex : Expr} {r : RE} (h : PE X ex (tE X.w C r)) : PS X (.Return (some ex) pos) (tS X.w C (.ret r)) := psImp (ps_ret h) fun E σ H ⟨Z, ρ, m, e⟩ => by
  simp only [evS] at e
  split at e
  · cases e
  · rename_i fr d ρ1 e1
    exact ⟨Z, ρ, _, ρ1, m, toVal_eq e1, fun v H1 p => e v σ H1 p.ret⟩
theorem s_if {c : Expr} {a b : List Stmt} {rc : RE} {ra rb : List RS} (hc : PT X c (tT X.w C rc)) (ha : PSs X a (tSs X.w C ra)) (hb : PSs X b (tSs X.w C rb)) : PS X (.If c a b pos) (tS X.w C (.ifs rc ra rb)) := psImp (ps_if hc ha hb) fun E σ H ⟨Z, ρ, m, e⟩ => by
  simp only [evS] at e
  split at e
  · cases e
  · rename_i ρ1 e1
    exact ⟨Z, ρ, true, ρ1, m, e1, fun H1 m1 t1 s1 => by
      dsimp only
      rw [if_pos rfl]
      exact ⟨Z, ρ1, m1, e.step (.of t1 s1)⟩⟩
  · rename_i ρ1 e1
    exact ⟨Z, ρ, false, ρ1, m, e1, fun H1 m1 t1 s1 => by
      dsimp only
      rw [if_neg Bool.false_ne_true]
      exact ⟨Z, ρ1, m1, e.step (.of t1 s1)⟩⟩
theorem s_while {c : Expr} {body : List Stmt} {rc : RE} {rb : List RS} (hp : PassesOwn (model X.prog X.w) X.A X.env X.xe) (hc : PT X c (tT X.w C rc)) (hb : PSs X body (tSs X.w C rb)) : PS X (.While c body [] pos) (tS X.w C (.whl rc rb)) := by
  refine psImp (ps_while hp hc hb) fun E σ H ⟨Z, ρ, m, e⟩ => ?_
  simp only [evS] at e
  cases q : whileLoop (fun ρ' => toBl (evE C rc ρ')) (evSs C rb) WF ρ with
  | none => rw [q] at e; exact e.elim
  | some r =>
    rw [q] at e
    refine ⟨fun n σ' H' => ∃ ρ', Match X.w Z ρ' σ' H' ∧ StS ρ σ H ρ' σ' H' ∧ whileLoop (fun ρ' => toBl (evE C rc ρ')) (evSs C rb) n ρ' = some r, ⟨WF, ρ, m, .refl, q⟩, fun n σ' H' ⟨ρ', m', s', e'⟩ => ?_⟩
    cases n with
    | zero => simp [whileLoop] at e'
    | succ n =>
      simp only [whileLoop] at e'
      split at e'
      · cases e'
      · rename_i ρ1 e1
        refine ⟨Z, ρ', false, ρ1, m', e1, fun H1 m1 t1 s1 => ?_⟩
        dsimp only
        rw [if_neg Bool.false_ne_true]
        cases e'
        exact e σ' H1 m1 (s'.trans (.of t1 s1))
      · rename_i ρ1 e1
        refine ⟨Z, ρ', true, ρ1, m', e1, fun H1 m1 t1 s1 => ?_⟩
        dsimp only
        rw [if_pos rfl]
        have s2 := s'.trans (.of t1 s1)
        refine ⟨fun σ' H' => ∃ ρ', Match X.w Z ρ' σ' H' ∧ StS ρ σ H ρ' σ' H' ∧ whileLoop (fun ρ' => toBl (evE C rc ρ')) (evSs C rb) n ρ' = some r, fun σ' H' h => ⟨n, Nat.lt_succ_self n, h⟩, Z, ρ1, m1, ?_⟩
        cases qb : evSs C rb ρ1 with
        | none => rw [qb] at e'; cases e'
        | some x =>
          rw [qb] at e'
          cases x with
          | nx ρ2 => exact fun σ2 H2 m2 s3 => ⟨ρ2, m2, s2.trans s3, e'⟩
          | ct ρ2 => exact fun σ2 H2 m2 s3 => ⟨ρ2, m2, s2.trans s3, e'⟩
          | bk ρ2 => cases e'; exact fun σ2 H2 m2 s3 => e σ2 H2 m2 (s2.trans s3)
          | rt fr d ρ2 => cases e'; exact fun v σ2 H2 r => e v σ2 H2 (r.step s2)

/-! ### stores -/
theorem s_asg {i : Nat} {x : Str} {ex : Expr} {r : RE} {p2 : Pos} (hN : X.N.Nodup) (hi : X.N[i]? = some x) (hx : Loc X.env.scope x) (h : PE X ex (tE X.w C r)) (hs : swapsWith ex (some (.Name x p2)) pos.line X.env = pure false) (hf : X.fn x = true ∨ X.env.scope.names.lookup x = some .local) :
    PS X (.Assign [.Name x p2] ex pos) (tS X.w C (.asg i r)) := psImp (ps_set hN hi hx h hs hf) fun E σ H ⟨Z, ρ, m, e⟩ => by
  simp only [evS] at e
  split at e
  · cases e
  · rename_i fr d ρ1 e1
    split at e
    · rename_i ρ2 e2
      refine ⟨Z, ρ, _, ρ1, m, toVal_eq e1, fun v H1 p => ?_⟩
      obtain ⟨m2, s2⟩ := p.asg e2
      exact e _ H1 m2 s2
    · cases e
theorem s_asgT {tg ex : Expr} {r : RE} {t : Tgt} (h : PE X ex (tE X.w C r)) (hg : PG X tg (tG X.w t)) (hs : swapsWithSole [tg] ex pos.line X.env = pure false) (hw : swappedStores [tg] ex X.env = pure none) (h1 : (assignEach [tg] X.env).map (·.2) = [assign tg X.env]) :
    PS X (.Assign [tg] ex pos) (tS X.w C (.asgT t r)) := psImp (ps_asg h hg hs hw h1) fun E σ H ⟨Z, ρ, m, e⟩ => by
  simp only [evS] at e
  split at e
  · cases e
  · rename_i fr d ρ1 e1
    split at e
    · rename_i ρ2 e2
      refine ⟨Z, ρ, _, ρ1, m, toVal_eq e1, fun v H1 p => ⟨Z, ρ1, d, ρ2, p.m0, p.opd, e2, fun σ2 m2 s2 _ _ _ => ?_⟩⟩
      exact e σ2 H1 m2 ((StS.of p.tr p.st).trans s2)
    · cases e
theorem s_exp {ex : Expr} {r : RE} (h : PE X ex (tE X.w C r)) (hs : swapsWith ex none pos.line X.env = pure false) : PS X (.Expr ex pos) (tS X.w C (.exp r)) := psImp (ps_expr h hs) fun E σ H ⟨Z, ρ, m, e⟩ => by
  simp only [evS] at e
  split at e
  · rename_i o ρ1 e1
    exact ⟨Z, ρ, o, ρ1, m, e1, fun v H1 p => e σ H1 p.m0 (.of p.tr p.st)⟩
  · cases e
theorem getS_int {w : World} {Z : Addr → Prop} {ρ : Env} {σ : St} {H : Hp} {i : Nat} {a : Int} (m : Match w Z ρ σ H) (h : getS ρ i = some (.int a)) : σ[i]? = some (some (.int a)) := by
  obtain ⟨v, hv⟩ := m.there h
  have := m.get h hv
  simp only [RepU, Rep] at this
  rw [hv, this]
theorem s_aug {i : Nat} {x : Str} {ex : Expr} {r : RE} {op : Operator} {bop : BOp} {p2 : Pos} (hN : X.N.Nodup) (hi : X.N[i]? = some x) (hx : Loc X.env.scope x) (h : PE X ex (tE X.w C r)) (hf : X.fn x = true ∨ X.env.scope.names.lookup x = some .local)
    (ho : ∃ t : TIp, PIp X op t ∧ ∀ (a b : Int) (z : D) (H : Hp) (Q : VK), binD bop (.int a) (.int b) = some z → (∀ v, Rep X.w (fun _ => False) H z v → (∃ c, z = .int c) → Q v H) → t (.int a) (.int b) H Q) :
    PS X (.AugAssign (.Name x p2) op ex pos) (tS X.w C (.aug i bop r)) := by
  obtain ⟨t, ht, hr⟩ := ho
  refine psImp (ps_aug hN hi hx h ht hf) fun E σ H ⟨Z, ρ, m, e⟩ => ?_
  simp only [evS] at e
  split at e
  · rename_i a ha
    split at e
    · rename_i fr b ρ1 e1
      split at e
      · rename_i z e2
        split at e
        · rename_i ρ2 e3
          refine ⟨.int a, getS_int m ha, Z, ρ, _, ρ1, m, toVal_eq e1, fun v H1 p => ?_⟩
          have hv : Rep X.w (Ow Z ρ1 σ) H1 (.int b) v := p.opd
          simp only [Rep] at hv
          subst hv
          refine hr a b z H1 _ e2 fun v rv ⟨c, hc⟩ => ?_
          subst hc
          simp only [Rep] at rv
          subst rv
          obtain ⟨m2, s2⟩ := p.m0.setSh (v := .int c) e3 (by simp [Rep])
          exact e _ H1 m2 ((StS.of p.tr p.st).trans s2)
        · cases e
      · cases e
    · cases e
  · cases e
theorem aug_add : ∃ t : TIp, PIp X .Add t ∧ ∀ (a b : Int) (z : D) (H : Hp) (Q : VK), binD .add (.int a) (.int b) = some z → (∀ v, Rep X.w (fun _ => False) H z v → (∃ c, z = .int c) → Q v H) → t (.int a) (.int b) H Q :=
  ⟨_, iop_add, fun a b z H Q e k => by cases e; exact ⟨a, b, rfl, rfl, k _ (by simp [Rep]) ⟨_, rfl⟩⟩⟩
theorem aug_sub : ∃ t : TIp, PIp X .Sub t ∧ ∀ (a b : Int) (z : D) (H : Hp) (Q : VK), binD .sub (.int a) (.int b) = some z → (∀ v, Rep X.w (fun _ => False) H z v → (∃ c, z = .int c) → Q v H) → t (.int a) (.int b) H Q :=
  ⟨_, iop_sub, fun a b z H Q e k => by cases e; exact ⟨a, b, rfl, rfl, k _ (by simp [Rep]) ⟨_, rfl⟩⟩⟩
theorem aug_mul : ∃ t : TIp, PIp X .Mult t ∧ ∀ (a b : Int) (z : D) (H : Hp) (Q : VK), binD .mul (.int a) (.int b) = some z → (∀ v, Rep X.w (fun _ => False) H z v → (∃ c, z = .int c) → Q v H) → t (.int a) (.int b) H Q :=
  ⟨_, iop_mul, fun a b z H Q e k => by
    simp only [binD, mulD] at e
    split at e
    · rename_i hc
      cases e
      refine ⟨a, b, rfl, rfl, ?_, k _ (by simp [Rep]) ⟨_, rfl⟩⟩
      rw [mulOk, Bool.or_eq_true, decide_eq_true_eq, decide_eq_true_eq] at hc
      exact hc.imp (fun h => by omega) fun h => by omega
    · cases e⟩

/-! ### owned things changed -/
theorem pe_vr {i : Nat} {x : Str} {p : Pos} (hN : X.N[i]? = some x) (hv : Vis X.env.scope x) (hd : (x == ("__debug__" : Str)) = false) (hcd : (x == ("__classdict__" : Str)) = false) : PE X (.Name x p) (fun σ H Q => ∃ v, σ[i]? = some (some v) ∧ Q v H) :=
  peImp (pe_var hN hv hd hcd) fun σ H Q h => h
theorem s_app {i : Nat} {x : Str} {ex : Expr} {r : RE} {p apos cpos : Pos} (hN : X.N[i]? = some x) (hv : Vis X.env.scope x) (hd : (x == ("__debug__" : Str)) = false) (hcd : (x == ("__classdict__" : Str)) = false) (h : PE X ex (tE X.w C r))
    (hbase : attributeBase (.Name x p) "append" X.env (eval (.Name x p) X.env) = eval (.Name x p) X.env)
    (hx : notStar ex = true)
    (hline : (apos.endLine == cpos.line) = true) (hw : swapsWith (.Call (.Attribute (.Name x p) "append" apos) [ex] [] cpos) none pos.line X.env = pure false) :
    PS X (.Expr (.Call (.Attribute (.Name x p) "append" apos) [ex] [] cpos) pos) (tS X.w C (.app i r)) := by
  refine psImp (ps_expr (pe_bm PySem.F.plainAttrs_list PySem.F.slot_list_append PySem.F.type_list_append mt_append (pe_vr hN hv hd hcd) (s_lcons h s_lnil (star_of hx)) hbase (by rw [stars_all (by simp [hx])]; rfl) hline (star_of hx) rfl) hw) fun E σ H ⟨Z, ρ, m, e⟩ => ?_
  simp only [evS] at e
  split at e
  · rename_i l0 h0
    split at e
    · cases e
    · rename_i fr d ρ1 e1
      split at e
      · rename_i l hl
        split at e
        · rename_i hz
          split at e
          · rename_i ρ2 hp
            obtain ⟨s0, t0, es0, ms0, gs0, -, -, -⟩ : ∃ s t, ρ[i]? = some s ∧ True ∧ s.get = some (.lst l0) ∧ True ∧ True ∧ t = s := by
              unfold getS at h0
              split at h0
              · exact ⟨_, _, by assumption, trivial, h0, trivial, trivial, rfl⟩
              · cases h0
            obtain ⟨v0, hv0⟩ := m.there h0
            refine ⟨v0, hv0, ?_, Z, ρ, [.val fr d], ρ1, m, ?_, fun vs H1 pl => ?_⟩
            · have := m.get h0 hv0
              obtain ⟨a, xs, rfl, hr, _⟩ := this
              exact own_ty hr
            · simp only [evL, toVal_eq e1]
            · obtain ⟨v, hvs, q⟩ := pl.ops.at_ (i := 0) (o := .val fr d) rfl
              have hlen := pl.ops.len
              obtain ⟨rfl⟩ : vs = [v] := by
                match vs, hlen, hvs with
                | [u], _, hu => simpa using hu
              obtain ⟨s, t, es, ms, gs, rfl, t1, t2⟩ := getS_slot hl hp
              have m1 : Match X.w Z ρ1 σ H1 := pl.m0
              obtain ⟨a, ea, xs, hH, qa⟩ := m1.mutAt es ms gs
              rw [hv0] at ea
              cases ea
              have hO : OwnA ρ1 σ a := ⟨i, s, es, isMut_own ms, hv0⟩
              have rd : Rep X.w (Ow Z ρ1 σ) H1 d v := by
                have := OpsOk.reps (ρ := ρ1) (O' := Ow Z ρ1 σ) (fun _ => Ow_le) pl.ops (pl.free m) rfl (ds := [d]) rfl
                unfold Reps at this
                obtain ⟨_, _, e, h, _⟩ := this
                cases e; exact h
              have keepO : ∀ b u, H1 b = some u → ¬ Ow Z ρ1 σ b → upd H1 a (.lst (xs ++ [v])) b = some u := fun b u e n => by
                rw [upd_ne (show b ≠ a from fun z => n (.inr (by rw [z]; exact hO)))]; exact e
              have rt : RepT X.w (Ow Z ρ1 σ) (upd H1 a (.lst (xs ++ [v]))) (.lst (l ++ [d])) a :=
                ⟨_, upd_same, (qa.append (.cons rd .nil)).mono (fun _ z => z) keepO⟩
              obtain ⟨m', tr, st⟩ := m1.put es ms hv0 t1 t2 rt
              refine ⟨a, xs, v, rfl, rfl, hH, by rw [qa.length]; exact Nat.lt_of_lt_of_le hz (by decide), ?_⟩
              exact e σ _ m' ((StS.of pl.tr pl.st).trans (.of tr st))
          · cases e
        · cases e
      · cases e
  · cases e
theorem s_ext {i : Nat} {x : Str} {ex : Expr} {r : RE} {p apos cpos : Pos} (hN : X.N[i]? = some x) (hv : Vis X.env.scope x) (hd : (x == ("__debug__" : Str)) = false) (hcd : (x == ("__classdict__" : Str)) = false) (h : PE X ex (tE X.w C r))
    (hbase : attributeBase (.Name x p) "extend" X.env (eval (.Name x p) X.env) = eval (.Name x p) X.env)
    (hx : notStar ex = true)
    (hline : (apos.endLine == cpos.line) = true) (hw : swapsWith (.Call (.Attribute (.Name x p) "extend" apos) [ex] [] cpos) none pos.line X.env = pure false) :
    PS X (.Expr (.Call (.Attribute (.Name x p) "extend" apos) [ex] [] cpos) pos) (tS X.w C (.ext i r)) := by
  refine psImp (ps_expr (pe_bm PySem.F.plainAttrs_list PySem.F.slot_list_extend PySem.F.type_list_extend mt_extend (pe_vr hN hv hd hcd) (s_lcons h s_lnil (star_of hx)) hbase (by rw [stars_all (by simp [hx])]; rfl) hline (star_of hx) rfl) hw) fun E σ H ⟨Z, ρ, m, e⟩ => ?_
  simp only [evS] at e
  split at e
  · rename_i l0 h0
    split at e
    · rename_i y ρ1 e1
      split at e
      · rename_i l hl
        split at e
        · rename_i hz
          split at e
          · rename_i ρ2 hp
            obtain ⟨v0, hv0⟩ := m.there h0
            refine ⟨v0, hv0, ?_, Z, ρ, [.val true (.lst y)], ρ1, m, ?_, fun vs H1 pl => ?_⟩
            · have := m.get h0 hv0
              obtain ⟨a, xs, rfl, hr, _⟩ := this
              exact own_ty hr
            · simp only [evL, toVal_eq e1]
            · obtain ⟨v, hvs, q⟩ := pl.ops.at_ (i := 0) (o := .val true (.lst y)) rfl
              have hlen := pl.ops.len
              obtain ⟨rfl⟩ : vs = [v] := by
                match vs, hlen, hvs with
                | [u], _, hu => simpa using hu
              obtain ⟨b, rfl, zs, hB, qb⟩ := q
              obtain ⟨s, t, es, ms, gs, rfl, t1, t2⟩ := getS_slot hl hp
              have m1 : Match X.w Z ρ1 σ H1 := pl.m0
              obtain ⟨a, ea, xs, hH, qa⟩ := m1.mutAt es ms gs
              rw [hv0] at ea
              cases ea
              have hO : OwnA ρ1 σ a := ⟨i, s, es, isMut_own ms, hv0⟩
              have qb' : Reps X.w (Ow Z ρ1 σ) H1 y zs := qb.mono (fun _ => Ow_le) fun _ _ e _ => e
              have keepO : ∀ c u, H1 c = some u → ¬ Ow Z ρ1 σ c → upd H1 a (.lst (xs ++ zs)) c = some u := fun c u e n => by
                rw [upd_ne (show c ≠ a from fun z => n (.inr (by rw [z]; exact hO)))]; exact e
              have rt : RepT X.w (Ow Z ρ1 σ) (upd H1 a (.lst (xs ++ zs))) (.lst (l ++ y)) a := ⟨_, upd_same, (qa.append qb').mono (fun _ z => z) keepO⟩
              obtain ⟨m', tr, st⟩ := m1.put es ms hv0 t1 t2 rt
              refine ⟨a, b, xs, zs, rfl, rfl, hH, hB, by rw [qa.length, qb'.length]; exact Nat.le_trans hz (by decide), ?_⟩
              exact e σ _ m' ((StS.of pl.tr pl.st).trans (.of tr st))
          · cases e
        · cases e
      · cases e
    · cases e
  · cases e
end
end Ev

/-! Ev, part R: stores to places, several names at once, comprehensions in place. -/
namespace Ev
open PySem PySem.Spec PyProof.Rows L2

section
variable {X : Cx} {C : CallS} {pos : Pos}
/-! ### o[i] = v -/
def rSetA (w : World) : TSet := fun o i v H Q => rSetL o i v H Q ∨
  ∃ (a : Addr) (ks : List D) (k : D) (xs ys : List V) (O : Addr → Prop), o = .ref a ∧ DctO w H a ks xs ys ∧ Reps w O H ks xs ∧ Rep w O H k i ∧ keyOk ks k = true ∧ ks.length < 16777216 ∧
    ∀ ob, DctO w (upd H a (dO a ob)) a (match fkey ks k with | some _ => ks | none => ks ++ [k]) (dputK ks k xs i) (dputV ks k ys v) → Q (upd H a (dO a ob))
theorem set_any (hu : X.A.units + 200 < cLine) : PSet X (rSetA X.w) := fun pins s σ H o i v ov iv u Q I ro ri rv h => by
  rcases h with h | ⟨a, ks, k, xs, ys, O, rfl, hd, hr, rk, ok, hl, q⟩
  · exact set_list pins s σ H o i v ov iv u Q I ro ri rv h
  · cases ro
    exact dl_setItem hu I hd hr rk ok hl ri rv fun ob s' I' hd' => ⟨_, I', q ob hd'⟩
theorem Reps.snoc {w : World} {O : Addr → Prop} {H : Hp} {ds : List D} {xs : List V} {d : D} {x : V} (h : Reps w O H ds xs) (r : Rep w O H d x) : Reps w O H (ds ++ [d]) (xs ++ [x]) := h.append (.cons r .nil)
theorem s_setix {i : Nat} {x : Str} {ix ex : Expr} {rx r : RE} {p pt : Pos} (hu : X.A.units + 200 < cLine) (hN : X.N[i]? = some x) (hv : Vis X.env.scope x) (hd : (x == ("__debug__" : Str)) = false) (hcd : (x == ("__classdict__" : Str)) = false) (hx : PE X ix (tE X.w C rx)) (h : PE X ex (tE X.w C r))
    (ha : ∀ v, assign (.Subscript (.Name x p) ix pt) X.env v = (do
      let ov ← holding [v] (eval (.Name x p) X.env)
      let iv ← holding [v, ov] (eval ix X.env)
      standAt pt; holding [v, ov, iv] (setItem ov iv v)
      release [v, ov, iv] []))
    (hs : swapsWithSole [.Subscript (.Name x p) ix pt] ex pos.line X.env = pure false) (hw : swappedStores [.Subscript (.Name x p) ix pt] ex X.env = pure none) (h1 : (assignEach [.Subscript (.Name x p) ix pt] X.env).map (·.2) = [assign (.Subscript (.Name x p) ix pt) X.env]) :
    PS X (.Assign [.Subscript (.Name x p) ix pt] ex pos) (tS X.w C (.setix i rx r)) := by
  refine psImp (ps_asg h (pg_sub (pe_vr hN hv hd hcd) hx (set_any hu) ha) hs hw h1) fun E σ H ⟨Z, ρ, m, e⟩ => ?_
  simp only [evS] at e
  split at e
  · cases e
  · rename_i fr d ρ1 e1
    split at e
    · cases e
    · rename_i x00 e0
      split at e
      · cases e
      · rename_i fr2 k ρ2 e2
        split at e
        · cases e
        · rename_i x0 e3
          split at e
          · cases e
          · rename_i y e4
            split at e
            · rename_i ρ3 e5
              refine ⟨Z, ρ, _, ρ1, m, toVal_eq e1, fun v H1 p1 => ?_⟩
              obtain ⟨u0, hu0⟩ := p1.m0.there e0
              refine ⟨u0, hu0, Z, ρ1, _, ρ2, p1.m0, toVal_eq e2, fun iv H2 p2 => ?_⟩
              obtain ⟨s, t, es, ms, gs, rfl, t1, t2⟩ := getS_slot e3 e5
              have m2 : Match X.w Z ρ2 σ H2 := p2.m0
              obtain ⟨a, ea, rt⟩ := m2.mutAt es ms gs
              rw [hu0] at ea
              cases ea
              have hO : OwnA ρ2 σ a := ⟨i, s, es, isMut_own ms, hu0⟩
              have rv : Rep X.w (Ow Z ρ2 σ) H2 d v := p1.opd.stay p2.tr p2.st
              have ri : Rep X.w (Ow Z ρ2 σ) H2 k iv := p2.opd
              have keepO : ∀ {w : HO} (b : Addr) (u : HO), H2 b = some u → ¬ Ow Z ρ2 σ b → upd H2 a w b = some u := fun b u e n => by
                rw [upd_ne (show b ≠ a from fun z => n (.inr (by rw [z]; exact hO)))]; exact e
              have fin : ∀ (w : HO), RepT X.w (Ow Z ρ2 σ) (upd H2 a w) y a → E.nx σ (upd H2 a w) := fun w rt' => by
                obtain ⟨m', tr, st⟩ := m2.put es ms hu0 t1 t2 rt'
                exact e σ _ m' (((StS.of p1.tr p1.st).trans (.of p2.tr p2.st)).trans (.of tr st))
              unfold storeD at e4
              split at e4
              · rename_i _ _ _ l j
                split at e4
                · rename_i j' hj
                  cases e4
                  obtain ⟨xs, hH, q⟩ := rt
                  simp only [Rep] at ri
                  subst ri
                  refine .inl ⟨a, xs, j, j', rfl, rfl, hH, by rw [q.length]; exact hj, ?_⟩
                  exact fin _ ⟨_, upd_same, (q.set j' rv).mono (fun _ z => z) keepO⟩
                · cases e4
              · rename_i _ _ _ ks vs
                split at e4
                · rename_i hc
                  cases e4
                  obtain ⟨xs, ys, hd, q1, q2⟩ := rt
                  refine .inr ⟨a, ks, k, xs, ys, Ow Z ρ2 σ, rfl, hd, q1, ri, hc.1, hc.2, fun ob hd' => fin _ ?_⟩
                  unfold dputK dputV at hd'
                  unfold dput
                  cases hf : fkey ks k with
                  | some j =>
                    rw [hf] at hd'
                    dsimp only at hd' ⊢
                    exact ⟨_, _, hd', q1.mono (fun _ z => z) keepO, (q2.set j rv).mono (fun _ z => z) keepO⟩
                  | none =>
                    rw [hf] at hd'
                    dsimp only at hd' ⊢
                    exact ⟨_, _, hd', (q1.snoc ri).mono (fun _ z => z) keepO, (q2.snoc rv).mono (fun _ z => z) keepO⟩
                · cases e4
              · cases e4
            · cases e

/-! ### several names at once -/
def setAll : List Nat → List V → St → St
  | i :: is, v :: vs, σ => setAll is vs (σ.set i (some v))
  | _, _, σ => σ
def gNames (is : List Nat) : TGs := fun vs σ H Q => vs.length = is.length ∧ Q (setAll is vs σ) H
theorem gs_nil : PGs X [] (gNames []) := pgsImp pgs_nil fun v σ H Q ⟨l, q⟩ => by
  cases v with
  | nil => exact ⟨rfl, q⟩
  | cons _ _ => cases l
theorem gs_cons {i : Nat} {is : List Nat} {x : Str} {p : Pos} {es : List Expr} (hN : X.N.Nodup) (hi : X.N[i]? = some x) (hx : Loc X.env.scope x) (hf : X.fn x = true ∨ X.env.scope.names.lookup x = some .local) (h : PGs X es (gNames is))
    (hs : (assignEach (.Name x p :: es) X.env).map (·.2) = assign (.Name x p) X.env :: (assignEach es X.env).map (·.2)) : PGs X (.Name x p :: es) (gNames (i :: is)) :=
  pgsImp (pgs_cons (pg_name hN hi hx hf) h hs) fun v σ H Q ⟨l, q⟩ => by
    cases v with
    | nil => cases l
    | cons v vs => exact ⟨v, vs, rfl, by simpa using l, q⟩
def vOp : Bool × D → OV := fun p => .val p.1 p.2
theorem parL_evL {C : CallS} : ∀ {rs : List RE} {ρ ρ' : Env} {r : List (Bool × D)}, parL C rs ρ = some (r, ρ') → evL C rs ρ = some (r.map vOp, ρ')
  | [], ρ, ρ', r, h => by simp only [parL, Option.some.injEq, Prod.mk.injEq] at h; obtain ⟨rfl, rfl⟩ := h; rfl
  | e :: es, ρ, ρ', r, h => by
    simp only [parL] at h
    split at h
    · cases h
    · rename_i fr d ρ1 e1
      split at h
      · cases h
      · rename_i r2 ρ2 e2
        cases h
        simp only [evL, toVal_eq e1, parL_evL e2]
        rfl
theorem OpsOk.imp {w : World} {O O' : Addr → Prop} {H : Hp} {σ σ' : St} (hO : ∀ a, O' a → O a) : ∀ {r : List (Bool × D)} {vs : List V}, OpsOk w O H σ (r.map vOp) vs → OpsOk w O' H σ' (r.map vOp) vs
  | [], vs, h => h
  | (true, d) :: r, vs, h => by
    obtain ⟨a, xs, e, q, t⟩ := h
    exact ⟨a, xs, e, q.mono hO (fun _ _ e _ => e) fun _ e => e, OpsOk.imp hO t⟩
  | (false, d) :: r, vs, h => by
    obtain ⟨a, xs, e, q, t⟩ := h
    exact ⟨a, xs, e, q.mono hO fun _ _ e _ => e, OpsOk.imp hO t⟩
structure ParOk (w : World) (Z : Addr → Prop) (F : List Addr) (ρ : Env) (σ : St) (H : Hp) (ρ' : Env) (σ' : St) : Prop where
  m : Match w Z ρ' σ' H
  len : ρ'.length = ρ.length
  ow : ∀ a, OwnA ρ' σ' a → a ∈ F ∨ OwnA ρ σ a
  mu : ∀ a, MutA ρ' σ' a → a ∈ F ∨ MutA ρ σ a
  io : ∀ (j : Nat) (d : D), ρ[j]? = some (.io d) → ρ'[j]? = some (.io d) ∧ σ'[j]? = σ[j]?
  lk : ∀ (j : Nat) (d : D), ρ[j]? = some (.lk d) → ρ'[j]? = some (.lk d) ∧ σ'[j]? = σ[j]?
theorem parS_ok {w : World} {Z : Addr → Prop} {H : Hp} : ∀ (is : List Nat) (r : List (Bool × D)) (vs : List V) (ρ ρ' : Env) (σ : St), Match w (fun a => Z a ∨ a ∈ freshA (r.map vOp) vs) ρ σ H → OpsOk w (Ow (fun a => Z a ∨ a ∈ freshA (r.map vOp) vs) ρ σ) H σ (r.map vOp) vs → (freshA (r.map vOp) vs).Nodup →
    (∀ a ∈ freshA (r.map vOp) vs, ¬ Ow Z ρ σ a) → parS is r ρ = some ρ' → ParOk w Z (freshA (r.map vOp) vs) ρ σ H ρ' (setAll is vs σ)
  | [], [], vs, ρ, ρ', σ, m, _, _, _, h => by
    simp only [parS, Option.some.injEq] at h
    subst h
    exact ⟨m.mono fun a z => .inl z, rfl, fun a z => .inr z, fun a z => .inr z, fun j d h => ⟨h, rfl⟩, fun j d h => ⟨h, rfl⟩⟩
  | [], _ :: _, vs, ρ, ρ', σ, m, _, _, _, h => by simp [parS] at h
  | _ :: _, [], vs, ρ, ρ', σ, m, _, _, _, h => by simp [parS] at h
  | i :: is, (false, d) :: r, vs, ρ, ρ', σ, m, o, nd, fr, h => by
    simp only [parS] at h
    split at h
    · rename_i ρ1 e1
      obtain ⟨v, xs, rfl, rv, t⟩ := o
      have m : Match w (fun a => Z a ∨ a ∈ freshA (r.map vOp) xs) ρ σ H := m
      have rv : Rep w (Ow (fun a => Z a ∨ a ∈ freshA (r.map vOp) xs) ρ σ) H d v := rv
      obtain ⟨m1, s1⟩ := m.setSh (show setS ρ i (.sh d) = some ρ1 from e1) rv
      have own1 : ∀ a, OwnA ρ1 (σ.set i (some v)) a → OwnA ρ σ a := fun a z => by
        obtain ⟨_, _, _, rfl⟩ := setS_eq e1
        rcases own_set z with ⟨h, _⟩ | ⟨j, t, _, h1, h2, h3⟩
        · cases h
        · exact ⟨j, t, h1, h2, h3⟩
      have mut1 : ∀ a, MutA ρ1 (σ.set i (some v)) a → MutA ρ σ a := fun a z => by
        obtain ⟨_, _, _, rfl⟩ := setS_eq e1
        rcases mut_set z with ⟨h, _⟩ | ⟨j, t, _, h1, h2, h3⟩
        · cases h
        · exact ⟨j, t, h1, h2, h3⟩
      have nd : (freshA (r.map vOp) xs).Nodup := nd
      have fr : ∀ a ∈ freshA (r.map vOp) xs, ¬ Ow Z ρ σ a := fr
      have p := parS_ok is r xs ρ1 ρ' (σ.set i (some v)) m1 (t.imp fun a z => z.imp id (own1 a)) nd (fun a ha z => fr a ha (z.imp id (own1 a))) h
      refine ⟨p.m, p.len.trans s1.len, fun a z => (p.ow a z).imp id (own1 a), fun a z => (p.mu a z).imp id (mut1 a), fun j d' hj => ?_, fun j d' hj => ?_⟩
      · obtain ⟨_, ef, ff, rfl⟩ := setS_eq e1
        have hij : i ≠ j := fun z => by subst z; rw [ef] at hj; cases hj; cases ff
        obtain ⟨q1, q2⟩ := p.io j d' (by rw [List.getElem?_set_ne hij]; exact hj)
        exact ⟨q1, by rw [show setAll (i :: is) (v :: xs) σ = setAll is xs (σ.set i (some v)) from rfl, q2, List.getElem?_set_ne hij]⟩
      · obtain ⟨_, ef, ff, rfl⟩ := setS_eq e1
        have hij : i ≠ j := fun z => by subst z; rw [ef] at hj; cases hj; cases ff
        obtain ⟨q1, q2⟩ := p.lk j d' (by rw [List.getElem?_set_ne hij]; exact hj)
        exact ⟨q1, by rw [show setAll (i :: is) (v :: xs) σ = setAll is xs (σ.set i (some v)) from rfl, q2, List.getElem?_set_ne hij]⟩
    · cases h
  | i :: is, (true, d) :: r, vs, ρ, ρ', σ, m, o, nd, fr, h => by
    simp only [parS] at h
    split at h
    · rename_i ρ1 e1
      obtain ⟨a0, xs, rfl, rv, t⟩ := o
      have fe : freshA (((true, d) :: r).map vOp) (V.ref a0 :: xs) = a0 :: freshA (r.map vOp) xs := rfl
      rw [fe] at m rv t nd fr
      rw [fe]
      have nd' := List.nodup_cons.mp nd
      have mz : Match w (Zf (fun a => Z a ∨ a ∈ freshA (r.map vOp) xs) (.ref a0) (.val true d)) ρ σ H := m.mono fun a z => by
        rcases z with (z | z) | z
        · exact .inl z
        · exact .inr (List.mem_cons_of_mem _ z)
        · cases z; exact .inr List.mem_cons_self
      have n0 : ¬ Ow (fun a => Z a ∨ a ∈ freshA (r.map vOp) xs) ρ σ a0 := fun z => by
        rcases z with (z | z) | z
        · exact fr a0 List.mem_cons_self (.inl z)
        · exact nd'.1 z
        · exact fr a0 List.mem_cons_self (.inr z)
      have rv' : RepT w (fun b => Ow (fun a => Z a ∨ a ∈ freshA (r.map vOp) xs) ρ σ b ∨ b = a0) H d a0 := rv.mono (fun a z => by
        rcases z with ((z | z) | z) | z
        · exact .inl (.inl z)
        · exact .inl (.inr (List.mem_cons_of_mem _ z))
        · exact .inr z
        · rw [z]; exact .inl (.inr List.mem_cons_self)) (fun _ _ e _ => e) fun _ e => e
      obtain ⟨m1, o1, u1, io1, lk1, l1⟩ := mz.setOw (show setS ρ i (.ow d) = some ρ1 from e1) n0 rv'
      have p := parS_ok is r xs ρ1 ρ' (σ.set i (some (V.ref a0))) m1 (t.imp fun a z => by
        rcases z with (z | z) | z
        · exact .inl (.inl z)
        · exact .inl (.inr (List.mem_cons_of_mem _ z))
        · rcases o1 a z with rfl | z
          · exact .inl (.inr List.mem_cons_self)
          · exact .inr z) nd'.2 (fun a ha z => by
        rcases z with z | z
        · exact fr a (List.mem_cons_of_mem _ ha) (.inl z)
        · rcases o1 a z with rfl | z
          · exact nd'.1 ha
          · exact fr a (List.mem_cons_of_mem _ ha) (.inr z)) h
      refine ⟨p.m, p.len.trans l1, fun a z => ?_, fun a z => ?_, fun j d' hj => ?_, fun j d' hj => ?_⟩
      · rcases p.ow a z with z | z
        · exact .inl (List.mem_cons_of_mem _ z)
        · rcases o1 a z with rfl | z
          · exact .inl List.mem_cons_self
          · exact .inr z
      · rcases p.mu a z with z | z
        · exact .inl (List.mem_cons_of_mem _ z)
        · rcases u1 a z with rfl | z
          · exact .inl List.mem_cons_self
          · exact .inr z
      · obtain ⟨q1, q2⟩ := io1 j d' hj
        obtain ⟨q3, q4⟩ := p.io j d' q1
        exact ⟨q3, q4.trans q2⟩
      · obtain ⟨q1, q2⟩ := lk1 j d' hj
        obtain ⟨q3, q4⟩ := p.lk j d' q1
        exact ⟨q3, q4.trans q2⟩
    · cases h
theorem par_core {σ : St} {H : Hp} {is : List Nat} {rs : List RE} {E : Ends} (h : tS X.w C (.par is rs) E σ H) : tL X.w C rs σ H fun vs H1 => vs.length = is.length ∧ (∀ H2, (H2 = H1 ∨ ∃ p u, H1 p = none ∧ H2 = upd H1 p u) → E.nx (setAll is vs σ) H2) := by
  obtain ⟨Z, ρ, m, e⟩ := h
  simp only [evS] at e
  split at e
  · cases e
  · rename_i r ρ1 e1
    split at e
    · rename_i ρ2 e2
      refine ⟨Z, ρ, r.map vOp, ρ1, m, parL_evL e1, fun vs H1 p => ?_⟩
      have hl : vs.length = is.length := by
        have : ∀ (is : List Nat) (r : List (Bool × D)) (ρ ρ' : Env), parS is r ρ = some ρ' → r.length = is.length := by
          intro is
          induction is with
          | nil => intro r ρ ρ' h; cases r <;> simp [parS] at h ⊢
          | cons i is ih =>
            intro r ρ ρ' h
            cases r with
            | nil => simp [parS] at h
            | cons q r =>
              obtain ⟨fr, d⟩ := q
              simp only [parS] at h
              split at h
              · simp [ih _ _ _ h]
              · cases h
        rw [p.ops.len, List.length_map, this is r ρ1 ρ2 e2]
      refine ⟨hl, fun H2 h2 => ?_⟩
      have key : ∀ H2, Match X.w (fun a => Z a ∨ a ∈ freshA (r.map vOp) vs) ρ1 σ H2 → OpsOk X.w (Ow (fun a => Z a ∨ a ∈ freshA (r.map vOp) vs) ρ1 σ) H2 σ (r.map vOp) vs → StS ρ1 σ H1 ρ1 σ H2 → E.nx (setAll is vs σ) H2 := fun H2 m2 o2 s2 => by
        have q := parS_ok is r vs ρ1 ρ2 σ m2 o2 p.nd (p.free m) e2
        have sp : StS ρ σ H ρ1 σ H2 := (StS.of p.tr p.st).trans s2
        refine e _ H2 q.m ⟨q.len.trans sp.len, sp.kp, sp.trk, fun a h => ?_, fun a h => ?_, fun j d hj => ?_, fun j d hj => ?_⟩
        · rcases q.mu a h with z | z
          · exact p.nw a z
          · exact sp.mu a z
        · rcases q.ow a h with z | z
          · exact (p.nw a z).imp_right MutA.own
          · exact sp.ow a z
        · obtain ⟨⟨d', h1⟩, _⟩ := sp.io j d hj
          obtain ⟨h2, h3⟩ := q.io j d' h1
          exact ⟨⟨d', h2⟩, h3⟩
        · obtain ⟨h1, _⟩ := sp.lk j d hj
          exact q.lk j d h1
      rcases h2 with rfl | ⟨pp, u, hp, rfl⟩
      · exact key _ p.m p.ops .refl
      · refine key _ (p.m.new' hp) ?_ (.new hp)
        have : ∀ (r : List (Bool × D)) (vs : List V), OpsOk X.w (Ow (fun a => Z a ∨ a ∈ freshA (r.map vOp) vs) ρ1 σ) H1 σ (r.map vOp) vs → True := fun _ _ _ => trivial
        have up : ∀ (O : Addr → Prop) (r : List (Bool × D)) (vs : List V), OpsOk X.w O H1 σ (r.map vOp) vs → OpsOk X.w O (upd H1 pp u) σ (r.map vOp) vs := by
          intro O r
          induction r with
          | nil => intro vs h; exact h
          | cons q r ih =>
            intro vs h
            obtain ⟨fr, d⟩ := q
            have k1 : ∀ b o, H1 b = some o → upd H1 pp u b = some o := fun b o e => by rw [upd_ne (ne_of_none e hp)]; exact e
            cases fr with
            | true =>
              obtain ⟨a, xs, e, q, t⟩ := h
              exact ⟨a, xs, e, q.mono (fun _ z => z) (fun b o e _ => k1 b o e) fun o e => k1 a o e, ih xs t⟩
            | false =>
              obtain ⟨a, xs, e, q, t⟩ := h
              exact ⟨a, xs, e, q.mono (fun _ z => z) (fun b o e _ => k1 b o e), ih xs t⟩
        exact up _ r vs p.ops
    · cases e
/-- a, b, .. = x, y, ..: by a tuple -/
theorem s_par {ts es : List Expr} {kt k2 : Nat} {pt pt2 : Pos} {is : List Nat} {rs : List RE} (hc : X.calm = true) (hz : is.length ≤ 16777216) (ha : PA X es (tL X.w C rs)) (hg : PGs X ts (gNames is)) (hn : (assignEach ts X.env).length = is.length) (hst : (assignEach ts X.env).findIdx? (·.1) = none)
    (hs : swapsWithSole [.Tuple ts kt pt] (.Tuple es k2 pt2) pos.line X.env = pure false) (hw : swappedStores [.Tuple ts kt pt] (.Tuple es k2 pt2) X.env = pure none) (h1 : (assignEach [.Tuple ts kt pt] X.env).map (·.2) = [assign (.Tuple ts kt pt) X.env]) :
    PS X (.Assign [.Tuple ts kt pt] (.Tuple es k2 pt2) pos) (tS X.w C (.par is rs)) := by
  refine psImp (ps_asg (pe_tup ha) (pg_tup (n := is.length) hc hg hn hst) hs hw h1) fun E σ H h => ?_
  obtain ⟨Z, ρ, os, ρ1, m, e, k⟩ := par_core h
  refine ⟨Z, ρ, os, ρ1, m, e, fun vs H1 p => ?_⟩
  obtain ⟨hl, q⟩ := k vs H1 p
  exact ⟨by rw [hl]; exact Nat.le_trans hz (by decide), fun pp hp => ⟨pp, vs, rfl, .inl (.inl upd_same), hl, hl, q _ (.inr ⟨pp, _, hp, rfl⟩)⟩⟩
theorem s_par2 {i j : Nat} {x y : Str} {a b : Expr} {rs : List RE} {px py pt : Pos} {kt k2 : Nat} {pt2 : Pos} (hc : X.calm = true) (hN : X.N.Nodup) (hi : X.N[i]? = some x) (hj : X.N[j]? = some y) (hij : i ≠ j)
    (hx : X.env.scope.names.lookup x = some .local) (hy : X.env.scope.names.lookup y = some .local) (ha : PA X [a, b] (tL X.w C rs)) (hw : swappedStores [.Tuple [.Name x px, .Name y py] kt pt] (.Tuple [a, b] k2 pt2) X.env = pure (some [x, y]))
    (hs : swapsWithSole [.Tuple [.Name x px, .Name y py] kt pt] (.Tuple [a, b] k2 pt2) pos.line X.env = pure false) :
    PS X (.Assign [.Tuple [.Name x px, .Name y py] kt pt] (.Tuple [a, b] k2 pt2) pos) (tS X.w C (.par [i, j] rs)) := by
  refine psImp (ps_par hc hN hi hj hij hx hy ha hw hs) fun E σ H h => ?_
  obtain ⟨Z, ρ, os, ρ1, m, e, k⟩ := par_core h
  refine ⟨Z, ρ, os, ρ1, m, e, fun vs H1 p => ?_⟩
  obtain ⟨hl, q⟩ := k vs H1 p
  match vs, hl, q with
  | [v, w], _, q => exact ⟨v, w, rfl, q H1 (.inl rfl)⟩
theorem s_par3 {i j l : Nat} {x y z : Str} {a b c : Expr} {rs : List RE} {px py pz pt : Pos} {kt k2 : Nat} {pt2 : Pos} (hc : X.calm = true) (hN : X.N.Nodup) (hi : X.N[i]? = some x) (hj : X.N[j]? = some y) (hl : X.N[l]? = some z) (hij : i ≠ j) (hil : i ≠ l) (hjl : j ≠ l)
    (hx : X.env.scope.names.lookup x = some .local) (hy : X.env.scope.names.lookup y = some .local) (hz : X.env.scope.names.lookup z = some .local) (ha : PA X [a, b, c] (tL X.w C rs)) (hw : swappedStores [.Tuple [.Name x px, .Name y py, .Name z pz] kt pt] (.Tuple [a, b, c] k2 pt2) X.env = pure (some [x, y, z]))
    (hs : swapsWithSole [.Tuple [.Name x px, .Name y py, .Name z pz] kt pt] (.Tuple [a, b, c] k2 pt2) pos.line X.env = pure false) :
    PS X (.Assign [.Tuple [.Name x px, .Name y py, .Name z pz] kt pt] (.Tuple [a, b, c] k2 pt2) pos) (tS X.w C (.par [i, j, l] rs)) := by
  refine psImp (ps_par3 hc hN hi hj hl hij hil hjl hx hy hz ha hw hs) fun E σ H h => ?_
  obtain ⟨Z, ρ, os, ρ1, m, e, k⟩ := par_core h
  refine ⟨Z, ρ, os, ρ1, m, e, fun vs H1 p => ?_⟩
  obtain ⟨hl, q⟩ := k vs H1 p
  match vs, hl, q with
  | [u, v, w], _, q => exact ⟨u, v, w, rfl, q H1 (.inl rfl)⟩
/-- name = [..] -/
theorem s_setLc {i : Nat} {y : Str} {py : Pos} {elt tg iter : Expr} {ifs : List Expr} {scope : Scope} {own : List (Str × Nat)} {p2 : Pos} {k : IK} {rs : List RE} {t : Tgt} {rc : List RE} {re : RE} (hc : X.calm = true) (hN : X.N.Nodup) (hy : X.N[i]? = some y) (hyl : X.env.scope.names.lookup y = some .local)
    (hsw : swapsWith (.ListComp elt [⟨tg, iter, ifs, 0⟩] scope p2) (some (.Name y py)) pos.line X.env = pure true) (hi : PI X tg iter (tI X.w C k rs)) (ok : BlkOk X.N X.env.scope scope own)
    (hg : ∀ (s : Shared) (H : Hp) (A : Addr) (cl : List (Str × Addr)) (fp : List Addr), PG (X.blk s H scope (compEnvC scope cl A X.env) fp) tg (tG X.w t)) (ht : ∀ (s : Shared) (H : Hp) (A : Addr) (cl : List (Str × Addr)) (fp : List Addr), PTs (X.blk s H scope (compEnvC scope cl A X.env) fp) ifs (tC X.w C rc))
    (he : ∀ (s : Shared) (H : Hp) (A : Addr) (cl : List (Str × Addr)) (fp : List Addr), PE (X.blk s H scope (compEnvC scope cl A X.env) fp) elt (tE X.w C re)) (hs : ∀ x, foldedSetIterable iter X.env x = pure x) (htg : (tgS t).all (fun i => (own.map (·.2)).contains i) = true) :
    PS X (.Assign [.Name y py] (.ListComp elt [⟨tg, iter, ifs, 0⟩] scope p2) pos) (tS X.w C (.asg i (.comp k rs t (own.map (·.2)) rc re))) := by
  refine psImp (ps_setLc hc hN hy hyl hsw hi ok hg ht he hs) fun E σ H ⟨Z, ρ, m, e⟩ => ?_
  simp only [evS] at e
  split at e
  · cases e
  · rename_i fr d ρ1 e1
    split at e
    · rename_i ρ2 e2
      refine lc_imp htg ⟨Z, ρ, _, ρ1, m, toVal_eq e1, fun v H1 p => ?_⟩
      obtain ⟨m2, s2⟩ := p.asg e2
      exact e _ H1 m2 s2
    · cases e
theorem s_lc {elt tg iter : Expr} {ifs : List Expr} {scope : Scope} {own : List (Str × Nat)} {p2 : Pos} {k : IK} {rs : List RE} {t : Tgt} {rc : List RE} {re : RE} (hc : X.calm = true) (hN : X.N.Nodup) (hi : PI X tg iter (tI X.w C k rs)) (ok : BlkOk X.N X.env.scope scope own)
    (hg : ∀ (s : Shared) (H : Hp) (A : Addr) (cl : List (Str × Addr)) (fp : List Addr), PG (X.blk s H scope (compEnvC scope cl A X.env) fp) tg (tG X.w t)) (ht : ∀ (s : Shared) (H : Hp) (A : Addr) (cl : List (Str × Addr)) (fp : List Addr), PTs (X.blk s H scope (compEnvC scope cl A X.env) fp) ifs (tC X.w C rc))
    (he : ∀ (s : Shared) (H : Hp) (A : Addr) (cl : List (Str × Addr)) (fp : List Addr), PE (X.blk s H scope (compEnvC scope cl A X.env) fp) elt (tE X.w C re)) (hs : ∀ x, foldedSetIterable iter X.env x = pure x) (htg : (tgS t).all (fun i => (own.map (·.2)).contains i) = true) :
    PE X (.ListComp elt [⟨tg, iter, ifs, 0⟩] scope p2) (tE X.w C (.comp k rs t (own.map (·.2)) rc re)) :=
  peImp (pe_lc hc hN hi ok hg ht he hs) fun σ H Q h => lc_imp htg h
end
end Ev

/-! Ev: isinstance. -/
namespace Ev
open PySem PySem.Spec PyProof.Rows L2

def tyN : Ty → String
  | .int => "int"
  | .bl => "bool"
  | .str => "str"
  | .tup => "tuple"
  | .lst => "list"
/-- the type of a datum -/
def dTy : D → Option String
  | .non => some "NoneType"
  | .bl _ => some "bool"
  | .int _ => some "int"
  | .str _ => some "str"
  | .tup _ => some "tuple"
  | .lst _ => some "list"
  | .dct _ _ => none
theorem kit_ty (K : PySem.W.Frag) (d : D) (n : String) (h : dTy d = some n) (t : Ty) : PySem.W.kitOne K (.type n) (.type (tyN t)) = some (isaD t d) := by
  cases d <;> simp only [dTy, Option.some.injEq] at h <;> first | (cases h; done) | subst h
  all_goals cases t <;> (first | rfl | decide +kernel)
theorem kit_tys (K : PySem.W.Frag) (d : D) (n : String) (h : dTy d = some n) : ∀ ts : List Ty, PySem.W.kitAny K (.type n) (ts.map fun t => Value.type (tyN t)) = some (ts.any fun t => isaD t d)
  | [] => rfl
  | t :: ts => by
    simp only [List.map_cons, PySem.W.kitAny, kit_ty K d n h t, List.any_cons]
    cases isaD t d with
    | true => rfl
    | false => simpa using kit_tys K d n h ts
theorem repU_ty {w : World} {O : Addr → Prop} {H : Hp} {K : PySem.W.Frag} {d : D} {v : V} {n : String} (h : dTy d = some n) (r : RepU w O H d v) : TyX K H v (.type n) := by
  cases d with
  | non => cases h; simp only [RepU, Rep] at r; subst r; exact .base .non
  | bl b => cases h; simp only [RepU, Rep] at r; subst r; exact .base (.bl b)
  | int b => cases h; simp only [RepU, Rep] at r; subst r; exact .base (.int b)
  | str b => cases h; simp only [RepU, Rep] at r; subst r; exact .base (.str b)
  | tup l =>
    cases h
    unfold RepU Rep at r
    obtain ⟨a, xs, rfl, _, rd, _⟩ := r
    rcases rd with e | ⟨o, e⟩
    · exact .base (.tup e)
    · exact .fTuple e
  | lst l =>
    cases h
    obtain ⟨a, xs, rfl, rd, _⟩ := r
    rcases rd with e | ⟨o, e⟩
    · exact .base (.lst e)
    · exact .base (.frz e)
  | dct l k => cases h
section
variable {X : Cx} {C : CallS}
theorem boot_tyN (t : Ty) : bootBuiltins (tyN t : String) = some (.type (tyN t)) := by
  cases t <;> decide +kernel
theorem pe_tyN {t : Ty} {p : Pos} (hg : Gl X (tyN t)) (hm : X.mg (tyN t) = none) : PE X (.Name (tyN t) p) (fun σ H Q => Q (.ty (tyN t)) H) :=
  peImp (pe_bltn hg hm (boot_tyN t) (show RelV (.ty (tyN t)) (.type (tyN t)) from rfl) (by cases t <;> decide) (by cases t <;> decide)) fun σ H Q h => h
theorem isa_core {σ : St} {H : Hp} {Z : Addr → Prop} {ρ ρ' : Env} {r : RE} {ts : List Ty} {o : OV} (ev : evE C (.bi (.isa ts) [r]) ρ = some (o, ρ')) :
    ∃ o1 d n, evE C r ρ = some (o1, ρ') ∧ rd ρ' o1 = some d ∧ dTy d = some n ∧ o = .val false (.bl (ts.any fun t => isaD t d)) := by
  simp only [evE] at ev
  split at ev
  · cases ev
  · rename_i os ρ1 e1
    split at ev
    · cases ev
    · rename_i ds e2
      split at ev
      · cases ev
      · rename_i fr d e3
        obtain ⟨o1, rfl, e1'⟩ := evL_one e1
        obtain ⟨d1, rfl, e2'⟩ := rds_one e2
        simp only [Option.some.injEq, Prod.mk.injEq] at ev
        obtain ⟨rfl, rfl⟩ := ev
        have e3 : isaB ts [d1] = some (fr, d) := e3
        cases d1 <;> simp only [isaB, Option.some.injEq, Prod.mk.injEq] at e3 <;> first | (cases e3; done) | (obtain ⟨rfl, rfl⟩ := e3; exact ⟨o1, _, _, e1', e2', rfl, rfl⟩)
theorem s_isa1 {a : Expr} {ra : RE} {t : Ty} {p pt pos : Pos} (hg : Gl X "isinstance") (hm : X.mg "isinstance" = none) (ha : PE X a (tE X.w C ra)) (hs : notStar a = true) (gt : Gl X (tyN t)) (mt : X.mg (tyN t) = none) :
    PE X (.Call (.Name "isinstance" p) [a, .Name (tyN t) pt] [] pos) (tE X.w C (.bi (.isa [t]) [ra])) := by
  have st : starEach [a, .Name (tyN t) pt] X.env = (false, eval a X.env) :: starEach [.Name (tyN t) pt] X.env := by cases a <;> first | rfl | cases hs
  refine peImp (pe_callB call_isi hg hm boot_isinstance (pa_cons ha (pa_cons (pe_tyN gt mt) pa_nil rfl) st) (by decide) (by decide) st rfl) fun σ H Q ⟨Z, ρ, o, ρ', m, ev, k⟩ => ?_
  obtain ⟨o1, d, n, e1, e2, e3, rfl⟩ := isa_core (H := H) (σ := σ) (Z := Z) ev
  refine ⟨Z, ρ, o1, ρ', m, e1, fun v H1 p => ⟨v, .ty (tyN t), .type n, .type (tyN t), _, rfl, .ty _, repU_ty e3 (p.opd.rd p.m0 e2), kit_ty X.K d n e3 t, ?_⟩⟩
  refine k _ H1 (.same p.m0 p.tr p.st ?_)
  simp [Rep]
theorem pa_tys : ∀ {ts : List Ty} {es : List Expr}, (∃ ps : List Pos, es = (ts.zip ps).map (fun x => Expr.Name (tyN x.1) x.2) ∧ ps.length = ts.length) → (∀ t ∈ ts, Gl X (tyN t) ∧ X.mg (tyN t) = none) → PA X es (fun σ H Q => Q (ts.map fun t => V.ty (tyN t)) H)
  | [], es, ⟨ps, h, hl⟩, _ => by
    subst h
    exact paImp pa_nil fun σ H Q h => h
  | t :: ts, es, ⟨ps, h, hl⟩, hk => by
    cases ps with
    | nil => cases hl
    | cons p ps =>
      subst h
      exact paImp (pa_cons (pe_tyN (hk t List.mem_cons_self).1 (hk t List.mem_cons_self).2) (pa_tys ⟨ps, rfl, by simpa using hl⟩ fun t' ht => hk t' (List.mem_cons_of_mem _ ht)) rfl) fun σ H Q h => h
theorem s_isaT {a : Expr} {ra : RE} {ts : List Ty} {es : List Expr} {p pt pos : Pos} {k0 : Nat} (hg : Gl X "isinstance") (hm : X.mg "isinstance" = none) (ha : PE X a (tE X.w C ra)) (hs : notStar a = true)
    (he : ∃ ps : List Pos, es = (ts.zip ps).map (fun x => Expr.Name (tyN x.1) x.2) ∧ ps.length = ts.length) (hk : ∀ t ∈ ts, Gl X (tyN t) ∧ X.mg (tyN t) = none) (hz : ts.length ≤ 100) :
    PE X (.Call (.Name "isinstance" p) [a, .Tuple es k0 pt] [] pos) (tE X.w C (.bi (.isa ts) [ra])) := by
  have st : starEach [a, .Tuple es k0 pt] X.env = (false, eval a X.env) :: starEach [.Tuple es k0 pt] X.env := by cases a <;> first | rfl | cases hs
  refine peImp (pe_callB call_isiT hg hm boot_isinstance (pa_cons ha (pa_cons (pe_tup (pa_tys he hk)) pa_nil rfl) st) (by decide) (by decide) st rfl) fun σ H Q ⟨Z, ρ, o, ρ', m, ev, k⟩ => ?_
  obtain ⟨o1, d, n, e1, e2, e3, rfl⟩ := isa_core (H := H) (σ := σ) (Z := Z) ev
  refine ⟨Z, ρ, o1, ρ', m, e1, fun v H1 p => ⟨by rw [List.length_map]; exact Nat.le_trans hz (by decide), fun q hq => ?_⟩⟩
  have m2 : Match X.w Z ρ' σ (upd H1 q (.tup (ts.map fun t => V.ty (tyN t)))) := p.m0.new' hq
  have r2 : RepU X.w (Ow Z ρ' σ) (upd H1 q (.tup (ts.map fun t => V.ty (tyN t)))) d v := by
    have op : OpdOk X.w (Ow Z ρ' σ) (upd H1 q (.tup (ts.map fun t => V.ty (tyN t)))) σ v o1 := p.opd.stay (.refl ρ') (.new hq)
    exact op.rd m2 e2
  have cl : ∀ ts : List Ty, Paired ClsV (ts.map fun t => V.ty (tyN t)) (ts.map fun t => Value.type (tyN t)) := by
    intro ts
    induction ts with
    | nil => exact .nil
    | cons t ts ih => exact .cons (.ty _) ih
  refine ⟨v, q, _, .type n, _, _, rfl, upd_same, cl ts, repU_ty e3 r2, kit_tys X.K d n e3 ts, ?_⟩
  refine k _ _ (.same m2 p.tr (p.st.trans p.tr (.new hq)) ?_)
  simp [Rep]
end
end Ev

/-! Ev, part S: from the text to the small language. -/
namespace Ev
open PySem PySem.Spec PyProof.Rows L2

/-- what is known where code stands -/
structure Gam where
  N : List Str
  sc : Scope
  blk : Option Scope
  fns : List (Str × Nat × List Bool)
  cst : List (Str × Int)
  blt : List Str

/-! ### looks -/
def ixOf : List Str → Str → Option Nat
  | [], _ => none
  | y :: ys, x => if y = x then some 0 else match ixOf ys x with
    | some i => some (i + 1)
    | none => none
theorem ixOf_at : ∀ {N : List Str} {x : Str} {i : Nat}, ixOf N x = some i → N[i]? = some x
  | [], _, _, h => by cases h
  | y :: ys, x, i, h => by
    unfold ixOf at h
    split at h
    · rename_i e
      cases h
      simp [e]
    · split at h
      · rename_i j hj
        cases h
        simpa using ixOf_at hj
      · cases h
def isVis (Γ : Gam) (x : Str) : Bool := match Γ.sc.names.lookup x with
  | some .local => true
  | some .cell => true
  | some .free => true
  | _ => false
def isGlo (Γ : Gam) (x : Str) : Bool := match Γ.sc.names.lookup x with
  | some .globalImplicit => true
  | _ => false
def isSto (Γ : Gam) (x : Str) : Bool := match Γ.sc.names.lookup x with
  | some .local => true
  | some .cell => match Γ.blk with
    | none => true
    | some s => match s.names.lookup x with
      | some .cell => true
      | _ => false
  | _ => false
def okN (x : Str) : Bool := !(x == ("__debug__" : Str)) && !(x == ("__classdict__" : Str))
def notIf : Expr → Bool
  | .IfExp _ _ _ _ => false
  | _ => true
def notSet : Expr → Bool
  | .Set _ _ _ => false
  | _ => true
def notLc : Expr → Bool
  | .ListComp _ _ _ _ => false
  | .SetComp _ _ _ _ => false
  | .DictComp _ _ _ _ _ => false
  | _ => true
def isTupE : Expr → Bool
  | .Tuple _ _ _ => true
  | _ => false
def baseOk : Expr → Bool
  | .Call _ _ _ _ => false
  | _ => true
def nameE (Γ : Gam) (m : Nat) (x : Str) : Option RE :=
  if okN x then
    if isVis Γ x then match ixOf Γ.N x with
      | some i => some (if m = 0 then .var i else if m = 1 then .plc i else .mov i)
      | none => none
    else if isGlo Γ x then match Γ.cst.lookup x with
      | some i => some (.cst (.int i))
      | none => none
    else none
  else none
def constE : Const → Option RE
  | .none => some (.cst .non)
  | .bool b => some (.cst (.bl b))
  | .int i => some (.cst (.int i))
  | .str x => some (.cst (.str x))
  | _ => none
def bopE : Operator → Option BOp
  | .Add => some .add
  | .Sub => some .sub
  | .Mult => some .mul
  | .FloorDiv => some .fdiv
  | .Mod => some .mod
  | .Pow => some .pow
  | _ => none
def copE : CmpOp → COp
  | .Eq => .eq
  | .NotEq => .ne
  | .Lt => .lt
  | .LtE => .le
  | .Gt => .gt
  | .GtE => .ge
  | .Is => .is_
  | .IsNot => .isnot
  | .In => .in_
  | .NotIn => .notin
abbrev CE := Gam → Nat → Expr → Option RE
def boolE (f : Expr → Option RE) (op : BoolOp) : List Expr → Option RE
  | [] => none
  | [a] => if notIf a then f a else none
  | a :: b :: r => if notIf a then match f a, boolE f op (b :: r) with
      | some ra, some rb => some (match op with | .And => .and ra rb | .Or => .or ra rb)
      | _, _ => none
    else none
def dispE (f g : Expr → Option RE) : List Expr → Option (List Bool × List RE)
  | [] => some ([], [])
  | .Starred e _ :: es => match g e, dispE f g es with
    | some r, some (st, rs) => some (true :: st, r :: rs)
    | _, _ => none
  | e :: es => match f e, dispE f g es with
    | some r, some (st, rs) => some (false :: st, r :: rs)
    | _, _ => none
def argsE (f : Expr → Option RE) : List Expr → Option (List RE)
  | [] => some []
  | e :: es => if notStar e then match f e, argsE f es with
      | some r, some rs => some (r :: rs)
      | _, _ => none
    else none
/-- arguments of a def: places where it changes them -/
def ioE (f g : Expr → Option RE) : List Bool → List Expr → Option (List RE)
  | [], [] => some []
  | b :: io, e :: es => if notStar e then match (if b then g e else f e), ioE f g io es with
      | some r, some rs => some (r :: rs)
      | _, _ => none
    else none
  | _, _ => none
mutual
def tgE (Γ : Gam) : Nat → Expr → Option Tgt
  | _, .Name x _ => if isSto Γ x then match ixOf Γ.N x with
      | some i => some (.nm i)
      | none => none
    else none
  | n + 1, .Tuple es _ _ => match tgsE Γ n es with
    | some ts => some (.tp ts)
    | none => none
  | _, _ => none
def tgsE (Γ : Gam) : Nat → List Expr → Option (List Tgt)
  | _, [] => some []
  | n, e :: es => match tgE Γ n e, tgsE Γ n es with
    | some t, some ts => some (t :: ts)
    | _, _ => none
end
/-- the types of the built-in names that are called -/
def biOf (x : Str) : Option (Bool × BI) :=
  if x = "len" then some (false, .len) else if x = "sorted" then some (false, .sorted) else if x = "sum" then some (false, .sum) else if x = "any" then some (false, .any)
  else if x = "all" then some (false, .all) else if x = "min" then some (false, .min) else if x = "max" then some (false, .max) else if x = "abs" then some (false, .abs)
  else if x = "tuple" then some (true, .tuple) else if x = "list" then some (true, .list) else if x = "int" then some (true, .int) else none
def hasB (Γ : Gam) (x : Str) : Bool := isGlo Γ x && Γ.blt.contains x
/-- range(n) -/
def rngE (Γ : Gam) : List Expr → Option Expr
  | [.Call (.Name r _) [a] [] _] => if r = "range" ∧ hasB Γ r = true ∧ notStar a = true then some a else none
  | _ => none
/-- set(x) -/
def setE (Γ : Gam) : List Expr → Option Expr
  | [.Call (.Name r _) [a] [] _] => if r = "set" ∧ hasB Γ r = true ∧ notStar a = true then some a else none
  | _ => none
def bltE (ce : CE) (Γ : Gam) (x : Str) (args : List Expr) : Option RE :=
  if hasB Γ x then match rngE Γ args with
    | some a => if x = "tuple" then (ce Γ 0 a).map fun r => .bi .tuprng [r] else if x = "list" then (ce Γ 0 a).map fun r => .bi .lstrng [r] else none
    | none => match setE Γ args with
      | some a => if x = "sorted" then (ce Γ 1 a).map fun r => .bi .sset [r] else if x = "len" then (ce Γ 1 a).map fun r => .bi .lset [r] else none
      | none => match biOf x with
        | some (_, b) => match args with
          | [] => none
          | a :: as => (argsE (ce Γ 1) (a :: as)).map fun rs => .bi b rs
        | none => none
  else none
def tyOfN (x : Str) : Option Ty :=
  if x = "int" then some .int else if x = "bool" then some .bl else if x = "str" then some .str else if x = "tuple" then some .tup else if x = "list" then some .lst else none
def tysL (Γ : Gam) : List Expr → Option (List Ty)
  | [] => some []
  | .Name x _ :: es => match tyOfN x, tysL Γ es with
    | some t, some ts => if hasB Γ x then some (t :: ts) else none
    | _, _ => none
  | _ => none
def isaE (ce : CE) (Γ : Gam) : List Expr → Option RE
  | [a, .Name x _] => if notStar a && hasB Γ x && hasB Γ "isinstance" then match tyOfN x, ce Γ 1 a with
      | some t, some r => some (.bi (.isa [t]) [r])
      | _, _ => none
    else none
  | [a, .Tuple es _ _] => if notStar a && hasB Γ "isinstance" then match tysL Γ es, ce Γ 1 a with
      | some ts, some r => if ts.length ≤ 100 then some (.bi (.isa ts) [r]) else none
      | _, _ => none
    else none
  | _ => none
def callE (ce : CE) (Γ : Gam) (x : Str) (args : List Expr) : Option RE :=
  if isGlo Γ x && okN x then match Γ.fns.lookup x with
    | some (j, io) => (ioE (ce Γ 0) (ce Γ 1) io args).map fun rs => .call j io rs
    | none => if x = "isinstance" then isaE ce Γ args else bltE ce Γ x args
  else none
def methE (ce : CE) (Γ : Gam) (o : Expr) (name : Str) (apos cpos : Pos) (args : List Expr) : Option RE :=
  if baseOk o && (apos.endLine == cpos.line) then
    if name = "get" then match args with
      | a :: as => if args.length < 30 then match ce Γ 1 o, argsE (ce Γ 0) (a :: as) with
          | some ro, some rs => some (.mth .get ro rs)
          | _, _ => none
        else none
      | [] => none
    else if name = "pop" then match o, args with
      | .Name x _, [] => if isVis Γ x && okN x then match ixOf Γ.N x with
          | some i => some (.pop i)
          | none => none
        else none
      | _, _ => none
    else none
  else none
def seqE (ce : CE) (Γ : Gam) (e : Expr) : Option (IK × List RE) := if notSet e then (ce Γ 1 e).map fun r => (.seq, [r]) else none
def iterE (ce : CE) (Γ : Gam) (tg : Expr) : Expr → Option (IK × List RE)
  | .Call (.Name f p) args [] pos =>
    if hasB Γ f && f = "range" then match args with
      | [a] => (argsE (ce Γ 1) [a]).map fun rs => (.range, rs)
      | [a, b] => (argsE (ce Γ 1) [a, b]).map fun rs => (.range, rs)
      | _ => none
    else if hasB Γ f && f = "enumerate" then match args with
      | [a] => if isTupE tg then (argsE (ce Γ 1) [a]).map fun rs => (.enum, rs) else none
      | _ => none
    else if hasB Γ f && f = "zip" then match args with
      | [a, b] => if isTupE tg then (argsE (ce Γ 1) [a, b]).map fun rs => (.zip, rs) else none
      | _ => none
    else seqE ce Γ (.Call (.Name f p) args [] pos)
  | .Call (.Attribute o name apos) [] [] cpos =>
    if baseOk o && (apos.endLine == cpos.line) && (name = "items") && isTupE tg then (ce Γ 1 o).map fun r => (.items, [r])
    else if baseOk o && (apos.endLine == cpos.line) && (name = "values") then (ce Γ 1 o).map fun r => (.values, [r])
    else seqE ce Γ (.Call (.Attribute o name apos) [] [] cpos)
  | e => seqE ce Γ e
def ownOf (N : List Str) : List (Str × NameKind) → List (Str × Nat)
  | [] => []
  | (x, .local) :: r => match ixOf N x with
    | some i => (x, i) :: ownOf N r
    | none => ownOf N r
  | (x, .cell) :: r => match ixOf N x with
    | some i => (x, i) :: ownOf N r
    | none => ownOf N r
  | _ :: r => ownOf N r
def inBlk (Γ : Gam) (scope : Scope) : Gam := { Γ with sc := relS scope Γ.sc, blk := some scope }
def ifsE (f : Expr → Option RE) : List Expr → Option (List RE)
  | [] => some []
  | [c] => if notIf c then (f c).map fun r => [r] else none
  | _ => none
def compE (ce : CE) (Γ : Gam) (elt tg iter : Expr) (ifs : List Expr) (scope : Scope) : Option RE :=
  if blkC Γ.N Γ.sc scope (ownOf Γ.N scope.names) then
    match iterE ce Γ tg iter, tgE (inBlk Γ scope) 9 tg, ifsE (ce (inBlk Γ scope) 0) ifs, ce (inBlk Γ scope) 0 elt with
    | some (k, rs), some t, some rc, some re => if notSet iter && (tgS t).all (fun i => ((ownOf Γ.N scope.names).map (·.2)).contains i) then some (.comp k rs t ((ownOf Γ.N scope.names).map (·.2)) rc re) else none
    | _, _, _, _ => none
  else none
def optE (f : Expr → Option RE) : Option Expr → Option RE
  | none => some .nop
  | some e => match f e with
    | some r => if isNop r then none else some r
    | none => none
def notSlice : Expr → Bool
  | .Slice _ _ _ _ => false
  | _ => true
def stepE (ce : CE) : CE := fun Γ m e => match e with
  | .Name x _ => nameE Γ m x
  | .Constant c _ _ => constE c
  | .BinOp a op b _ => match ce Γ 1 a, bopE op, ce Γ 1 b with
    | some ra, some o, some rb => some (.bin o ra rb)
    | _, _, _ => none
  | .UnaryOp .USub a _ => (ce Γ 0 a).map .neg
  | .UnaryOp .Not a _ => if notIf a then (ce Γ 0 a).map .not else none
  | .Compare a [op] [b] _ => if behindInMarks op b then none else match ce Γ 1 a, ce Γ 1 b with
    | some ra, some rb => some (.cmp (copE op) ra rb)
    | _, _ => none
  | .Compare a [o1, o2] [b, c] _ => if lastMarks [o1, o2] [b, c] then none else match ce Γ 1 a, ce Γ 1 b, ce Γ 1 c with
    | some ra, some rb, some rc => some (.chn (copE o1) (copE o2) ra rb rc)
    | _, _, _ => none
  | .BoolOp op es _ => boolE (ce Γ 0) op es
  | .IfExp c a b _ => if notIf c then match ce Γ 0 c, ce Γ m a, ce Γ m b with
      | some rc, some ra, some rb => some (.ife rc ra rb)
      | _, _, _ => none
    else none
  | .Tuple es _ _ => (dispE (ce Γ 0) (ce Γ 1) es).map fun p => .tup p.1 p.2
  | .List es _ => (dispE (ce Γ 0) (ce Γ 1) es).map fun p => .lst p.1 p.2
  | .Dict [] [] _ => some (.dct [] [])
  | .Dict [some k] [v] _ => match ce Γ 0 k, ce Γ 0 v with
    | some rk, some rv => some (.dct [rk] [rv])
    | _, _ => none
  | .Subscript a (.Slice lo hi none _) _ => match ce Γ 1 a, optE (ce Γ 0) lo, optE (ce Γ 0) hi with
    | some ra, some rl, some rh => some (.slc ra rl rh)
    | _, _, _ => none
  | .Subscript a i _ => if notSlice i then match ce Γ 1 a, ce Γ 1 i with
      | some ra, some ri => some (.ix ra ri)
      | _, _ => none
    else none
  | .ListComp elt [g] scope _ => if g.is_async = 0 then compE ce Γ elt g.target g.iter g.ifs scope else none
  | .Call (.Name f _) args [] _ => callE ce Γ f args
  | .Call (.Attribute o name apos) args [] cpos => methE ce Γ o name apos cpos args
  | _ => none
def cE : Nat → CE
  | 0 => fun _ _ _ => none
  | n + 1 => stepE (cE n)

/-! ### what is known, is so -/
structure Good (X : Cx) (Γ : Gam) (C : CallS) : Prop where
  N : X.N = Γ.N
  sc : X.env.scope = Γ.sc
  nd : X.N.Nodup
  calm : X.calm = true
  hu : X.A.units + 200 < cLine
  fn : match Γ.blk with
    | none => ∀ x, X.fn x = true
    | some s => ∀ x, X.fn x = (s.names.lookup x == some .cell)
  fns : ∀ x j io, Γ.fns.lookup x = some (j, io) → ∃ (f : Addr) (fd : FuncData) (ps : List Str) (k : Nat), FnOk X.prog X.w X.K X.mg X.base C8.CX0 k f fd ps (spF X.w C j io) ∧ Room k X.A ∧ X.mg x = some (.ref f) ∧ PySem.W.keepIn X.K (.ref f) = true ∧ L2.Binds X.K fd ps []
  cst : ∀ x i, Γ.cst.lookup x = some i → ∃ u, X.mg x = some u ∧ RelV (.int i) u
  blt : ∀ x, Γ.blt.contains x = true → X.mg x = none
section
variable {X : Cx} {Γ : Gam} {C : CallS} (G : Good X Γ C)
include G
theorem Good.vis {x : Str} (h : isVis Γ x = true) : Vis X.env.scope x := by
  unfold isVis at h
  unfold Vis
  rw [G.sc]
  split at h <;> simp_all
theorem Good.glo {x : Str} (h : isGlo Γ x = true) : Gl X x := by
  unfold isGlo at h
  show X.env.scope.names.lookup x = some .globalImplicit
  rw [G.sc]
  split at h <;> simp_all
theorem Good.loc {x : Str} (h : isSto Γ x = true) : L2.Loc X.env.scope x ∧ (X.fn x = true ∨ X.env.scope.names.lookup x = some .local) := by
  unfold isSto at h
  unfold L2.Loc
  rw [G.sc]
  have f := G.fn
  split at h
  · rename_i e; exact ⟨.inl e, .inr e⟩
  · rename_i e
    refine ⟨.inr e, .inl ?_⟩
    split at h
    · rename_i hb
      rw [hb] at f
      exact f x
    · rename_i s hb
      rw [hb] at f
      rw [f x]
      split at h
      · rename_i e2; rw [e2]; rfl
      · cases h
  · cases h
theorem Good.at_ {x : Str} {i : Nat} (h : ixOf Γ.N x = some i) : X.N[i]? = some x := by rw [G.N]; exact ixOf_at h
theorem Good.bl {x : Str} (h : hasB Γ x = true) : Gl X x ∧ X.mg x = none := by
  unfold hasB at h
  rw [Bool.and_eq_true] at h
  exact ⟨G.glo h.1, G.blt x h.2⟩
/-- within a comprehension -/
theorem Good.blk (scope : Scope) (s : Shared) (H : Hp) (A : Addr) (cl : List (Str × Addr)) (fp : List Addr) : Good (X.blk s H scope (compEnvC scope cl A X.env) fp) (inBlk Γ scope) C :=
  ⟨G.N, by show relS scope X.env.scope = relS scope Γ.sc; rw [G.sc], G.nd, G.calm, G.hu, fun x => rfl, G.fns, G.cst, G.blt⟩
end
theorem okN_d {x : Str} (h : okN x = true) : (x == ("__debug__" : Str)) = false ∧ (x == ("__classdict__" : Str)) = false := by
  unfold okN at h
  simpa using h
end Ev

/-! Ev, part T: the text means what the small language says: expressions. -/
namespace Ev
open PySem PySem.Spec PyProof.Rows L2

def SE (X : Cx) (C : CallS) (e : Expr) (r : RE) : Prop := PE X e (tE X.w C r) ∧ (notIf e = true → PT X e (tT X.w C r))
def SndE (C : CallS) (ce : CE) : Prop := ∀ (X : Cx) (Γ : Gam) (m : Nat) (e : Expr) (r : RE), Good X Γ C → ce Γ m e = some r → SE X C e r

/-! ### rows of arguments -/
section
variable {X : Cx} {Γ : Gam} {C : CallS} {ce : CE}
theorem args_ok {f : Expr → Option RE} (hf : ∀ e r, f e = some r → PE X e (tE X.w C r)) : ∀ {es : List Expr} {rs : List RE}, argsE f es = some rs → PA X es (tL X.w C rs) ∧ es.all notStar = true
  | [], rs, h => by simp only [argsE, Option.some.injEq] at h; subst h; exact ⟨s_lnil, rfl⟩
  | e :: es, rs, h => by
    simp only [argsE] at h
    split at h
    · rename_i hs
      split at h
      · rename_i r rs' e1 e2
        cases h
        obtain ⟨h1, h2⟩ := args_ok hf e2
        exact ⟨s_lcons (hf e r e1) h1 (star_of hs), by rw [List.all_cons, hs, h2]; rfl⟩
      · cases h
    · cases h
theorem io_ok {f g : Expr → Option RE} (hf : ∀ e r, f e = some r → PE X e (tE X.w C r)) (hg : ∀ e r, g e = some r → PE X e (tE X.w C r)) : ∀ {io : List Bool} {es : List Expr} {rs : List RE}, ioE f g io es = some rs → PA X es (tL X.w C rs) ∧ es.all notStar = true ∧ es.length = rs.length
  | [], [], rs, h => by simp only [ioE, Option.some.injEq] at h; subst h; exact ⟨s_lnil, rfl, rfl⟩
  | [], _ :: _, rs, h => by simp [ioE] at h
  | _ :: _, [], rs, h => by simp [ioE] at h
  | b :: io, e :: es, rs, h => by
    simp only [ioE] at h
    split at h
    · rename_i hs
      split at h
      · rename_i r rs' e1 e2
        cases h
        obtain ⟨h1, h2, h3⟩ := io_ok hf hg e2
        refine ⟨s_lcons ?_ h1 (star_of hs), by rw [List.all_cons, hs, h2]; rfl, by simp [h3]⟩
        cases b with
        | true => exact hg e r e1
        | false => exact hf e r e1
      · cases h
    · cases h
theorem disp_ok {f g : Expr → Option RE} (hf : ∀ e r, f e = some r → PE X e (tE X.w C r)) (hg : ∀ e r, g e = some r → PE X e (tE X.w C r)) : ∀ {es : List Expr} {st : List Bool} {rs : List RE}, dispE f g es = some (st, rs) → PA X es (tD X.w C st rs)
  | [], st, rs, h => by simp only [dispE, Option.some.injEq, Prod.mk.injEq] at h; obtain ⟨rfl, rfl⟩ := h; exact s_dnil
  | e :: es, st, rs, h => by
    cases hs : notStar e with
    | false =>
      cases e <;> first | (cases hs; done) | skip
      simp only [dispE] at h
      split at h
      · rename_i r st' rs' e1 e2
        cases h
        exact s_dstar (hg _ r e1) (disp_ok hf hg e2)
      · cases h
    | true =>
      have h2 : (match f e, dispE f g es with
          | some r, some (st, rs) => some (false :: st, r :: rs)
          | _, _ => none) = some (st, rs) := by
        cases e <;> first | exact h | cases hs
      split at h2
      · rename_i r st' rs' e1 e2
        cases h2
        exact s_dcons (hf _ r e1) (disp_ok hf hg e2) (star_of hs)
      · cases h2

/-! ### plain tests -/
theorem test_plain {e : Expr} {r : RE} (h : PE X e (tE X.w C r)) (he : ∀ whole, isTrue e X.env whole = (do let v ← whole; standAt e.pos; holding [v] (truthy v))) : SE X C e r := ⟨h, fun _ => s_test h he⟩
theorem name_ok (G : Good X Γ C) {m : Nat} {x : Str} {p : Pos} {r : RE} (h : nameE Γ m x = some r) : SE X C (.Name x p) r := by
  refine test_plain ?_ fun _ => rfl
  unfold nameE at h
  split at h
  · rename_i ho
    obtain ⟨hd, hcd⟩ := okN_d ho
    split at h
    · rename_i hv
      split at h
      · rename_i i hi
        cases h
        split
        · exact s_var (G.at_ hi) (G.vis hv) hd hcd
        · split
          · exact s_plc (G.at_ hi) (G.vis hv) hd hcd
          · exact s_mov (G.at_ hi) (G.vis hv) hd hcd
      · cases h
    · split at h
      · rename_i hg
        split at h
        · rename_i i hi
          cases h
          obtain ⟨u, hm, hr⟩ := G.cst x i hi
          exact s_glob (G.glo hg) hm hr hd
        · cases h
      · cases h
  · cases h
theorem const_ok {c : Const} {j : Nat} {p : Pos} {r : RE} (h : constE c = some r) : SE X C (.Constant c j p) r := by
  refine test_plain ?_ fun _ => rfl
  cases c <;> simp only [constE, Option.some.injEq] at h <;> first | (cases h; done) | subst h
  · exact s_non
  · exact s_bl
  · exact s_int
  · exact s_str
theorem cop_ok (hu : X.A.units + 200 < cLine) (op : CmpOp) : CmpD X op (cmpD (copE op)) := by
  have h64 : X.A.units + 64 < cLine := by omega
  cases op
  · exact op_eqO h64
  · exact op_neO h64
  · exact op_ltO h64
  · exact op_leO h64
  · exact op_gtO h64
  · exact op_geO h64
  · exact op_isO
  · exact op_isnotO
  · exact op_inO hu
  · exact op_notinO hu
theorem bop_ok {op : Operator} {o : BOp} (h : bopE op = some o) : OpD X (binaryOp op) (binD o) := by
  cases op <;> simp only [bopE, Option.some.injEq] at h <;> first | (cases h; done) | subst h
  · exact op_addD
  · exact op_subD
  · exact op_mulD
  · exact op_modD
  · exact op_powD
  · exact op_fdivD
theorem bool_ok {f : Expr → Option RE} (hf : ∀ e r, f e = some r → SE X C e r) {op : BoolOp} {pos : Pos} : ∀ {es : List Expr} {r : RE}, boolE f op es = some r → PE X (.BoolOp op es pos) (tE X.w C r) ∧ PW X (.BoolOp op es pos) (tT X.w C r)
  | [], r, h => by simp [boolE] at h
  | [a], r, h => by
    simp only [boolE] at h
    split at h
    · rename_i hn
      obtain ⟨h1, h2⟩ := hf a r h
      refine ⟨pe_one h1, ?_⟩
      cases op
      · exact pw_and1 (h2 hn)
      · exact pw_or1 (h2 hn)
    · cases h
  | a :: b :: rest, r, h => by
    simp only [boolE] at h
    split at h
    · rename_i hn
      split at h
      · rename_i ra rb e1 e2
        cases h
        obtain ⟨h1, h2⟩ := hf a ra e1
        obtain ⟨h3, h4⟩ := bool_ok (pos := pos) hf e2
        cases op
        · exact ⟨s_and h1 h3, s_andT (h2 hn) h4⟩
        · exact ⟨s_or h1 h3, s_orT (h2 hn) h4⟩
      · cases h
    · cases h
theorem opt_ok {f : Expr → Option RE} (hf : ∀ e r, f e = some r → PE X e (tE X.w C r)) {o : Option Expr} {r : RE} (h : optE f o = some r) : PO X o (tO X.w C r) := by
  unfold optE at h
  split at h
  · cases h; exact s_onone
  · split at h
    · rename_i e _ r' e1
      split at h
      · cases h
      · rename_i hn
        cases h
        exact s_osome (hf _ _ e1) (by simpa using hn)
    · cases h
mutual
theorem tg_ok (G : Good X Γ C) : ∀ (n : Nat) (e : Expr) (t : Tgt), tgE Γ n e = some t → PG X e (tG X.w t)
  | n, .Name x p, t, h => by
    have h : (if isSto Γ x then match ixOf Γ.N x with
      | some i => some (Tgt.nm i)
      | none => none
    else none) = some t := by cases n <;> exact h
    split at h
    · rename_i hs
      split at h
      · rename_i i hi
        cases h
        exact g_nm G.nd (G.at_ hi) (G.loc hs).1 (G.loc hs).2
      · cases h
    · cases h
  | n + 1, .Tuple es k p, t, h => by
    simp only [tgE] at h
    split at h
    · rename_i ts e1
      cases h
      obtain ⟨h1, h2, h3⟩ := tgs_ok G n es ts e1
      exact g_tup G.calm h1 h2 h3
    · cases h
  | 0, .Tuple es k p, t, h => by simp [tgE] at h
  | n, .BoolOp .., t, h => by cases n <;> simp [tgE] at h
  | n, .NamedExpr .., t, h => by cases n <;> simp [tgE] at h
  | n, .BinOp .., t, h => by cases n <;> simp [tgE] at h
  | n, .UnaryOp .., t, h => by cases n <;> simp [tgE] at h
  | n, .Lambda .., t, h => by cases n <;> simp [tgE] at h
  | n, .IfExp .., t, h => by cases n <;> simp [tgE] at h
  | n, .Dict .., t, h => by cases n <;> simp [tgE] at h
  | n, .Set .., t, h => by cases n <;> simp [tgE] at h
  | n, .ListComp .., t, h => by cases n <;> simp [tgE] at h
  | n, .SetComp .., t, h => by cases n <;> simp [tgE] at h
  | n, .DictComp .., t, h => by cases n <;> simp [tgE] at h
  | n, .GeneratorExp .., t, h => by cases n <;> simp [tgE] at h
  | n, .Await .., t, h => by cases n <;> simp [tgE] at h
  | n, .Yield .., t, h => by cases n <;> simp [tgE] at h
  | n, .YieldFrom .., t, h => by cases n <;> simp [tgE] at h
  | n, .Compare .., t, h => by cases n <;> simp [tgE] at h
  | n, .Call .., t, h => by cases n <;> simp [tgE] at h
  | n, .FormattedValue .., t, h => by cases n <;> simp [tgE] at h
  | n, .JoinedStr .., t, h => by cases n <;> simp [tgE] at h
  | n, .Constant .., t, h => by cases n <;> simp [tgE] at h
  | n, .Attribute .., t, h => by cases n <;> simp [tgE] at h
  | n, .Subscript .., t, h => by cases n <;> simp [tgE] at h
  | n, .Starred .., t, h => by cases n <;> simp [tgE] at h
  | n, .List .., t, h => by cases n <;> simp [tgE] at h
  | n, .Slice .., t, h => by cases n <;> simp [tgE] at h
theorem tgs_ok (G : Good X Γ C) : ∀ (n : Nat) (es : List Expr) (ts : List Tgt), tgsE Γ n es = some ts → PGs X es (tGs X.w ts) ∧ ts.length = (assignEach es X.env).length ∧ (assignEach es X.env).findIdx? (·.1) = none
  | n, [], ts, h => by
    have h : some ([] : List Tgt) = some ts := by cases n <;> simpa [tgsE] using h
    cases h
    exact ⟨g_nil, rfl, rfl⟩
  | n, e :: es, ts, h => by
    simp only [tgsE] at h
    split at h
    · rename_i t ts' e1 e2
      cases h
      obtain ⟨h1, h2, h3⟩ := tgs_ok G n es ts' e2
      have hs : assignEach (e :: es) X.env = (false, assign e X.env) :: assignEach es X.env := by
        cases e <;> first | rfl | (cases n <;> simp [tgE] at e1)
      refine ⟨g_cons (tg_ok G n e t e1) h1 (by rw [hs]; rfl), by rw [hs]; simp [h2], ?_⟩
      rw [hs, List.findIdx?_cons]
      simp only [Bool.false_eq_true, if_false, h3]
      rfl
    · cases h
end
end
end Ev

/-! Ev, part St: sets. -/
namespace Ev
open PySem PySem.Spec PyProof.Rows L2

/-! ### each member once -/
theorem ddup_mem {α : Type} [DecidableEq α] : ∀ {l : List α} {x : α}, x ∈ ddup l ↔ x ∈ l
  | [], x => by simp [ddup]
  | y :: l, x => by
    have ih := ddup_mem (l := l) (x := x)
    unfold ddup
    split
    · rename_i hy
      rw [ih, List.mem_cons]
      exact ⟨.inr, fun h => h.elim (fun e => e ▸ hy) id⟩
    · rw [List.mem_cons, List.mem_cons, ih]
theorem ddup_once {α : Type} [DecidableEq α] : ∀ l : List α, (ddup l).Nodup
  | [] => List.Pairwise.nil
  | y :: l => by
    unfold ddup
    split
    · exact ddup_once l
    · rename_i hy
      exact List.nodup_cons.mpr ⟨fun h => hy (ddup_mem.mp h), ddup_once l⟩
theorem once_perm {α : Type} {l m : List α} (hl : l.Nodup) (hm : m.Nodup) (h : ∀ x, x ∈ l ↔ x ∈ m) : l.Perm m := (List.perm_ext_iff_of_nodup hl hm).mpr h
theorem perm_one {α : Type} {l m : List α} (p : l.Perm m) (n : m.Nodup) (h : ∀ x ∈ m, ∀ y ∈ m, x = y) : l = m := by
  match m, n, h with
  | [], _, _ => exact p.eq_nil
  | [x], _, _ => exact List.perm_singleton.mp p
  | x :: y :: r, n, h =>
    have e := h x List.mem_cons_self y (List.mem_cons_of_mem _ List.mem_cons_self)
    have z := (List.nodup_cons.mp n).1
    rw [e] at z
    exact absurd List.mem_cons_self z
theorem each_perm {α β : Type} {R : α → β → Prop} {us us' : List α} (p : us'.Perm us) : ∀ {ds : List β}, PySem.W.EachIs R us ds → ∃ ds', ds'.Perm ds ∧ PySem.W.EachIs R us' ds' := by
  induction p with
  | nil => intro ds h; exact ⟨ds, .refl _, h⟩
  | cons x _ ih =>
    intro ds h
    cases h with
    | cons h1 h2 =>
      obtain ⟨es, q, e⟩ := ih h2
      exact ⟨_ :: es, q.cons _, .cons h1 e⟩
  | swap x y l =>
    intro ds h
    cases h with
    | cons h1 h2 =>
      cases h2 with
      | cons h3 h4 => exact ⟨_ :: _ :: _, .swap .., .cons h3 (.cons h1 h4)⟩
  | trans _ _ ih1 ih2 =>
    intro ds h
    obtain ⟨es, q, e⟩ := ih2 h
    obtain ⟨fs, q', e'⟩ := ih1 e
    exact ⟨fs, q'.trans q, e'⟩
theorem merge_perm {α : Type} {le : α → α → Bool} (T : PySem.W.TotalLe le) {l m : List α} (p : m.Perm l) (n : l.Nodup) (h : ∀ x ∈ l, ∀ y ∈ l, le x y = true → le y x = true → x = y) : m.mergeSort le = l.mergeSort le := by
  refine PySem.W.sort_unique T (PySem.W.sort_pairwise T m) fun c => (PySem.W.sort_stable T m c).trans (perm_one (p.filter _) (n.filter _) fun x hx y hy => ?_)
  obtain ⟨x1, x2⟩ := List.mem_filter.mp hx
  obtain ⟨y1, y2⟩ := List.mem_filter.mp hy
  simp only [PySem.W.sameRank, Bool.and_eq_true] at x2 y2
  exact h x x1 y y1 (T.trans x c y x2.2 y2.1) (T.trans y c x y2.2 x2.1)
/-! ### orders of whole numbers and of their tuples tell which is which -/
theorem lt_int_eq {a b : Int} (h : ltD (.int a) (.int b) = false) (g : ltD (.int b) (.int a) = false) : a = b := by
  simp only [ltD, decide_eq_false_iff_not] at h g
  omega
theorem lt_rows_eq : ∀ {a b : List Int}, ltDs (a.map D.int) (b.map D.int) = false → ltDs (b.map D.int) (a.map D.int) = false → a = b
  | [], [], _, _ => rfl
  | [], _ :: _, h, _ => by simp [ltDs] at h
  | _ :: _, [], _, g => by simp [ltDs] at g
  | x :: a, y :: b, h, g => by
    simp only [List.map_cons, ltDs, eqD, beq_iff_eq] at h g
    by_cases e : x = y
    · subst e
      simp only [if_true] at h g
      rw [lt_rows_eq h g]
    · rw [if_neg e] at h
      rw [if_neg (Ne.symm e)] at g
      exact absurd (lt_int_eq h g) e
theorem rowD_inj {a b : List Int} (h : rowD a = rowD b) : a = b := by
  unfold rowD at h
  injection h with h
  exact (List.map_inj_right (fun _ _ e => by injection e)).mp h
theorem rowsD_eq : ∀ {l : List D} {rs : List (List Int)}, rowsD l = some rs → l = rs.map rowD
  | [], rs, h => by simp [rowsD] at h; subst h; rfl
  | d :: l, rs, h => by
    cases d <;> simp only [rowsD] at h <;> first | cases h; done | skip
    split at h
    · rename_i ns m e1 e2
      cases h
      rw [rowsD_eq e2, intsD_eq e1]; rfl
    · cases h

/-! ### a set at an address: its values -/
def SetV (w : World) (a : Addr) (us : List Value) : HO := .ext fun h => ∃ (es : Array (Int × Value)) (ep : Nat) (t : SetTable), SetAt h a es ep t ∧ t.fits es.size = true ∧ es.size < scanBound ∧ Ris t.place.toList ∧
  (w.params.followText "set-order" = true ∨ t.led = true) ∧ es.toList.map (·.2) = us ∧ ∃ o, h.get? a = some o ∧ o.ExactSet
theorem setV_ok {P : Program} {w : World} {H : Hp} {h : Heap} {a : Addr} {us : List Value} {es : Array (Int × Value)} {ep : Nat} {t : SetTable} {o : Obj} (e : h.get? a = some o) (x : o.ExactSet) (d : o.data = .set es ep t) (f : t.fits es.size = true) (z : es.size < scanBound) (r : Ris t.place.toList)
    (l : w.params.followText "set-order" = true ∨ t.led = true) (u : es.toList.map (·.2) = us) : ObjOk P w H h a (SetV w a us) := by
  refine ⟨⟨es, ep, t, ⟨o, e, x.1, d⟩, f, z, r, l, u, o, e, x⟩, ⟨o, e⟩, fun h1 h2 p k => ?_⟩
  obtain ⟨es', ep', t', a1, a2, a3, a4, a5, a6, o', a7, a8⟩ := p
  exact ⟨es', ep', t', a1.at k, a2, a3, a4, a5, a6, o', k o' a7, a8⟩

section
variable {X : Cx}
/-- sorted of a set -/
def rSortV (w : World) : List V → Hp → VK → Prop := fun vs H Q => ∃ (O : Addr → Prop) (a : Addr) (us : List Value) (ds : List D), vs = [.ref a] ∧ H a = some (SetV w a us) ∧ PySem.W.EachIs (StandsU w O H) us ds ∧ ds.Nodup ∧
  (∀ x ∈ ds, ∀ y ∈ ds, ltD x y = false → ltD y x = false → x = y) ∧ canSort ds = true ∧ ∀ p ys, H p = none → Reps w O H (sortBy ltD ds) ys → Q (.ref p) (upd H p (.lst ys))
theorem sorted_setv (hc : X.calm = true) (hu : X.A.units + 200 < cLine) : CallR X (.builtin "sorted") (rSortV X.w) := fun pins s σ H vs us Q I rv ⟨O, a, ws, ds, ev, hH, hq, nd, anti, cs, q⟩ => by
  subst ev
  obtain ⟨u, rfl, ru⟩ := Vals.one rv
  obtain rfl : u = .ref a := ru
  obtain ⟨es, ep, t, hat, hfit, hsz, hris, hled, hws, -⟩ := (I.hok a _ hH).1
  obtain ⟨al, so, ok, sz⟩ := canSort_facts cs
  have total : PySem.W.TotalLe (PySem.W.dataLe false toP) := PySem.W.sortLe_total _ false _
  refine PySem.Calls.call_function_entry kind_sorted plain_sorted entry_sorted (args_sorted1 _) ?_
  unfold Builtin.«sorted»
  refine wpAny_bind (wpAny_pure (wpAny_bind (collect_set (A := X.A.in1) (I.ok.hd hc) hat hfit hsz hris hled fun s1 out kp grow g1 o1 pm => ?_)))
  rw [hws] at pm
  obtain ⟨ms, pd, items⟩ := each_perm pm hq
  have len : out.length = ds.length := by rw [items.length]; exact pd.length_eq
  have small : out.length ≤ sizeLine := by rw [len, sizeL]; exact sz
  refine wpAny_bind (wpAny_newList ?_ small)
  have here : (s1.heap.push { cls := .type "list", data := .seq out.toArray }).get? s1.heap.objs.size = some (PyProof.Rows.seqObj "list" out.toArray 0) := Heap.get?_push_size _ rfl
  have kn : ∀ b u, s.heap.get? b = some u → (s1.heap.push { cls := .type "list", data := .seq out.toArray }).get? b = some u := fun b u e => Heap.get?_push_of_some _ (kp b u e)
  have new : H s1.heap.objs.size = none := I.hok.fresh grow
  have read : PySem.W.EachIs (fun v d => ∃ as, Reads (s1.heap.push { cls := .type "list", data := .seq out.toArray }) v (toP d) as ∧ s1.heap.objs.size ∉ as) out ms := each_here items fun v d hd ⟨x, rx, px⟩ => by
    obtain ⟨as, r⟩ := Dp.reads I _ x v (repDp X.K (by have := ok d (pd.mem_iff.mp hd); simp only [okD, Bool.and_eq_true] at this; exact this.1) px) rx
    refine ⟨as, PyProof.Rows.Reads.keeps kn r, fun m => ?_⟩
    obtain ⟨o', e⟩ := PyProof.On.reads_mem_get r _ m
    exact absurd (Heap.lt_size (kp _ _ e)) (Nat.lt_irrefl _)
  have alike : PySem.W.AllAlike (ms.map toP) := by
    intro d hd e he
    obtain ⟨x, hx, rfl⟩ := List.mem_map.mp hd
    obtain ⟨y, hy, rfl⟩ := List.mem_map.mp he
    exact alike_toP x y (allAlike_mem al x (pd.mem_iff.mp hx) y (pd.mem_iff.mp hy))
  have sortable : PySem.W.Sortable (ms.map toP) := sortable_toP (so.imp (fun h => List.all_eq_true.mpr fun x hx => List.all_eq_true.mp h x (pd.mem_iff.mp hx)) fun h => List.all_eq_true.mpr fun x hx => List.all_eq_true.mp h x (pd.mem_iff.mp hx))
  refine wpAny_bind (wpAny_holding (wpAny_mono (Q := fun _ s' => EP X pins σ Q (.ref s1.heap.objs.size) s') (PySem.W.list_sort_data here items read alike sortable (by rw [← items.length]; exact small) (fun d hd => ?_) fun out2 lo eo => ?_) (fun _ s' z => wpAny_pure ⟨_, rfl, z⟩) fun _ _ e => e))
  · have := ok d (pd.mem_iff.mp hd)
    simp only [okD, Bool.and_eq_true, decide_eq_true_eq] at this
    rw [dep_toP]
    have e : X.A.in1.units = X.A.units + 1 := rfl
    omega
  · have same : ms.mergeSort (PySem.W.dataLe false toP) = sortBy ltD ds := by
      rw [sortD_merge al]
      refine merge_perm total pd nd fun x hx y hy h1 h2 => anti x hx y hy ?_ ?_
      · have e : PySem.W.dataLe false toP y x = !PySem.W.dataLt (toP x) (toP y) := rfl
        rw [e, lt_toP x y (allAlike_mem al x hx y hy)] at h2
        simpa using h2
      · have e : PySem.W.dataLe false toP x y = !PySem.W.dataLt (toP y) (toP x) := rfl
        rw [e, lt_toP y x (allAlike_mem al y hy x hx)] at h1
        simpa using h1
    rw [same] at eo
    obtain ⟨ys, ry, vy⟩ := stands_each eo
    obtain ⟨n, he⟩ := PyProof.Rows.sortedHeap_at (vs := out) (out := out2.toArray) here
    have keep : ∀ b u, s.heap.get? b = some u → (PyProof.Rows.sortedHeap (s1.heap.push { cls := .type "list", data := .seq out.toArray }) s1.heap.objs.size out out2.toArray).get? b = some u := fun b u e =>
      (PyProof.Rows.sortedHeap_old (fun z => Nat.lt_irrefl _ (z ▸ Heap.lt_size (kp b u e))) (Heap.lt_size (kn b u e))).trans (kn b u e)
    have laid := I.call (g' := s1.gens) (d' := s1.drawn) (t' := s1.toks) (ch := []) (Un.laid (o := .lst ys) keep grow new) (I.hok.laid keep grow ⟨by rw [ry.length, sortBy_length, sizeL]; exact sz, out2, n, vy, he⟩) (by rw [g1]; exact I.bare) (fun _ z => nomatch z)
    have alls : { s1 with heap := PyProof.Rows.sortedHeap (s1.heap.push { cls := .type "list", data := .seq out.toArray }) s1.heap.objs.size out out2.toArray } = { s with heap := PyProof.Rows.sortedHeap (s1.heap.push { cls := .type "list", data := .seq out.toArray }) s1.heap.objs.size out out2.toArray, gens := s1.gens, drawn := s1.drawn, toks := s1.toks } := by
      cases s1; cases s; cases o1; rfl
    refine ⟨.ref s1.heap.objs.size, _, ?_, rfl, q _ ys new ry⟩
    rw [alls]
    exact laid
end

/-! ### set(x), x a list of whole numbers -/
section
variable {P : Program} {w : World} {A : Around} {E : Value → Shared → Prop}
abbrev set0 (w : World) : Obj := { cls := .type "set", dict := none, data := .set #[] 0 (.fresh 0 0 (!w.params.followText "set-order")) }
/-- what __init__ leaves -/
def Filled (w : World) (ns : List Int) (s s' : Shared) : Prop := ∃ h tk c, s' = { s with heap := h, toks := tk } ∧ SetR w h s.heap.objs.size (fun j => decide (j ∈ ns)) c ∧ ∀ b o, s.heap.get? b = some o → h.get? b = some o
set_option maxHeartbeats 3200000 in
theorem init_lst {s : Shared} {l : Addr} {its : Array Value} {ns : List Int} (hh : A.handled = none) (hl : s.heap.IsList l its) (hi : IntsAre its.toList ns) (hb : ns.length + 1 < scanBound) (F : Fin → Shared → Prop)
    (k : ∀ s', Filled w ns s s' → F (.done (.ret .none)) s') : wpAny (model P w) A (Builtin.«set.__init__» ⟨[.ref s.heap.objs.size, .ref l], []⟩) F E { s with heap := s.heap.push (set0 w) } := by
  have size : its.size = ns.length := by rw [← Array.length_toList]; exact IntsAre.length hi
  have tell : ∀ (i : Nat) (v : Value), its[i]? = some v → ∃ k t, ns[i]? = some k ∧ v = .int k t := fun i v hv => by
    have hn : i < ns.length := by rw [← size]; exact (Array.getElem?_eq_some_iff.mp hv).1
    obtain ⟨t, e⟩ := IntsAre.int_at hi i v (by rw [Array.getElem?_toList]; exact hv)
    exact ⟨ns[i], t, List.getElem?_eq_getElem hn, by rw [e, List.getD_eq_getElem?_getD, List.getElem?_eq_getElem hn]; rfl⟩
  obtain ⟨⟨cl, dd, dt, sl⟩, ho, hcl, n, hdt⟩ := hl
  simp only at hcl hdt
  subst hcl hdt
  have old : l < s.heap.objs.size := Heap.lt_size ho
  have hS : (s.heap.push (set0 w)).get? s.heap.objs.size = some (set0 w) := Heap.get?_push_size _ rfl
  have hL : (s.heap.push (set0 w)).get? l = some ⟨.type "list", dd, .seq its n, sl⟩ := Heap.get?_push_of_some _ ho
  have lis : (s.heap.push (set0 w)).IsList l its := ⟨_, hL, rfl, n, rfl⟩
  have len2 : (s.heap.push (set0 w)).objs.size = s.heap.objs.size + 1 := Heap.size_push ..
  have far : ∀ {b : Addr}, b < s.heap.objs.size → b ≠ (s.heap.push (set0 w)).objs.size := fun h => Nat.ne_of_lt (by rw [len2]; exact Nat.lt_succ_of_lt h)
  have not2 : ∀ {a b c : Addr}, a ≠ b → a ≠ c → a ∉ [b, c] := fun h g z => by
    rcases List.mem_cons.mp z with z | z
    · exact h z
    · exact g (List.mem_singleton.mp z)
  have c1 := PySem.F.sub_list_set
  have c2 := PySem.F.sub_list_frozenset
  have c3 : (Value.type "list" == Value.type "dict") = false := by decide
  unfold Builtin.«set.__init__» noKeywords Builtin.Frozenset.updateFrom
  generalize same : pyIter = it
  wp_walk
  subst same
  refine wpAny_pyIter_list lis (wpAny_bind (wpAny_runValue ?_))
  refine set_update_ints ((Walks.list (by simp [hh]) _ l (far old) its).toS) s.heap.objs.size (not2 (Nat.ne_of_lt (by rw [len2]; exact Nat.lt_succ_self _)) (Nat.ne_of_gt old)) ns size hb tell its.size 0 _ (by omega) (by omega)
    ⟨⟨_, Heap.get?_push_size _ rfl, rfl, rfl⟩, lis.push _⟩ ⟨0, Nat.le_refl _, setR_new_at (Heap.get?_push_of_some _ hS)⟩ fun s' c mv _ full => ?_
  refine wpAny_pure (wpAny_pure (k s' ⟨s'.heap, s'.toks, c, ?_, full, fun b o e => ?_⟩))
  · cases s'
    have g1 := mv.gens
    have g2 := mv.drawn
    have g3 := mv.os
    simp only at g1 g2 g3
    subst g1 g2 g3
    rfl
  · have lt := Heap.lt_size e
    refine mv.heap b o ?_ (Heap.get?_push_of_some _ (Heap.get?_push_of_some _ e))
    exact not2 (Nat.ne_of_lt lt) (far lt)
set_option maxHeartbeats 3200000 in
theorem call_set_lst {s : Shared} {l : Addr} {its : Array Value} {ns : List Int} {Q : Value → Shared → Prop} (hh : A.handled = none) (hl : s.heap.IsList l its) (hi : IntsAre its.toList ns) (hb : ns.length + 1 < scanBound)
    (k : ∀ s', Filled w ns s s' → Q (.ref s.heap.objs.size) s') : wpAny (model P w) A (call (.type "set") [.ref l]) Q E s := by
  obtain ⟨c, tl, way⟩ := PySem.F.called_set.mro
  have t1 := PySem.F.called_set.made
  have t2 := PySem.F.called_set.sub
  have t3 := PySem.F.called_set.notType
  have t4 := PySem.F.called_set.canCreate
  have t5 := PySem.F.typeCall_set_1 (.ref l)
  refine wpAny_call (codeAny_of_tree ?_)
  change wpAny _ _ (callAny (.type "set") ⟨[.ref l], []⟩) _ _ s
  refine wpAny_pure ⟨Code.quiet_builtin _ (by decide +kernel), codeAny_builtin PySem.F.entry_type_call ?_⟩
  rw [Around.under_plain (weight_type_call_type "set" [.ref l] []) rfl]
  repeat (any_goals (first | assumption | wp_step))
  refine codeAny_mono (code_set_led1 (.ref l) (E := E) (Q₁ := fun v s1 => v = .ref s.heap.objs.size ∧ s1 = { s with heap := s.heap.push (set0 w) }) ⟨rfl, rfl⟩) fun r s1 got => ?_
  match r, got with
  | .error _, got => exact got
  | .ok (.ret v), got =>
    obtain ⟨rfl, rfl⟩ := got
    have hT : Shared.TypeIs { s with heap := s.heap.push (set0 w) } (.ref s.heap.objs.size) "set" := ⟨_, Heap.get?_push_size _ rfl, rfl⟩
    have t6 := PySem.F.called_set.init.lookup
    have t7 := PySem.F.called_set.init.bind (.ref s.heap.objs.size)
    repeat (any_goals (first | assumption | wp_step))
    refine codeAny_mono (codeAny_call_builtin (R := wants (fun v s2 => v = .none ∧ Filled w ns s s2) E) PySem.F.called_set.init.plain PySem.F.entry_set_init (check_set_init_1 hT ?_)) fun r2 s2 got2 => ?_
    · exact init_lst (by simpa using hh) hl hi hb _ fun s' f => ⟨rfl, f⟩
    · match r2, got2 with
      | .error _, got2 => exact got2
      | .ok (.ret v2), got2 =>
        obtain ⟨rfl, f⟩ := got2
        repeat (any_goals (first | assumption | wp_step))
        exact k _ f
end

/-! ### set(x) in the hand layer -/
theorem ints_stand {w : World} {O : Addr → Prop} {H : Hp} : ∀ {us : List Value} {ms : List Int}, IntsAre us ms → PySem.W.EachIs (StandsU w O H) us (ms.map D.int)
  | _, _, .nil => .nil
  | _, _, .cons k t r => .cons ⟨.int k, ⟨t, rfl⟩, rep_int⟩ (ints_stand r)
theorem good_ints : ∀ l : List (Int × Value), (∀ e ∈ l, GoodE e) → IntsAre (l.map (·.2)) (l.map keyOf)
  | [], _ => .nil
  | (h, v) :: l, g => by
    obtain ⟨k, t, e, -⟩ := g _ List.mem_cons_self
    have e' : v = .int k t := e
    subst e'
    exact .cons k t (good_ints l fun e he => g e (List.mem_cons_of_mem _ he))
theorem reps_rows {w : World} {O : Addr → Prop} {H : Hp} : ∀ {rs : List (List Int)} {xs : List V}, Reps w O H (rs.map rowD) xs → ∃ ks : List (Addr × List Int), xs = ks.map (fun p => V.ref p.1) ∧ rs = ks.map (·.2) ∧ ∀ p ∈ ks, ¬ O p.1 ∧ Rd H p.1 (.tup (p.2.map V.int))
  | [], xs, h => ⟨[], h, rfl, fun _ z => nomatch z⟩
  | n :: rs, xs, h => by
    obtain ⟨x, ys, rfl, h1, h2⟩ := h
    obtain ⟨ks, rfl, rfl, g⟩ := reps_rows h2
    unfold rowD Rep at h1
    obtain ⟨a, zs, rfl, no, rd, rz⟩ := h1
    rw [reps_ints rz] at rd
    refine ⟨(a, n) :: ks, rfl, rfl, fun p hp => ?_⟩
    rcases List.mem_cons.mp hp with e | hp
    · rw [e]; exact ⟨no, rd⟩
    · exact g p hp
section
variable {X : Cx}
def rSetI (K : PySem.W.Frag) (w : World) : List V → Hp → VK → Prop := fun vs H Q => ∃ a ns, vs = [.ref a] ∧ (SqL K H a (ns.map V.int) ∨ SqT K H a (ns.map V.int)) ∧ ns.length + 1 < scanBound ∧
  ∀ p us ms, H p = none → IntsAre us ms → ms.Perm (ddup ns) → Q (.ref p) (upd H p (SetV w p us))
theorem setI_end {pins : List (Addr × Obj)} {s s' : Shared} {σ : St} {H : Hp} {Q : VK} {ns : List Int} (I : Inv X pins σ H s) (f : Filled X.w ns s s')
    (q : ∀ p us ms, H p = none → IntsAre us ms → ms.Perm (ddup ns) → Q (.ref p) (upd H p (SetV X.w p us))) : EP X pins σ Q (.ref s.heap.objs.size) s' := by
  obtain ⟨h, tk, c, rfl, full, keep⟩ := f
  obtain ⟨o, es, ep, t, ho, hx, hd, good, once, mem, hz, hf, -, hr, hl⟩ := full
  refine ⟨.ref _, _, I.laid (t' := tk) keep (Nat.le_refl _) (setV_ok ho hx hd hf hz hr hl rfl), rfl, q _ _ _ (I.hok.fresh (Nat.le_refl _)) (good_ints _ good) (once_perm once (ddup_once _) fun k => ?_)⟩
  rw [← mem k, ddup_mem, decide_eq_true_eq]
theorem set_ints (hc : X.calm = true) : CallR X (.type "set") (rSetI X.K X.w) := fun pins s σ H vs us Q I rv ⟨a, ns, ev, hs, hb, q⟩ => by
  subst ev
  obtain ⟨u, rfl, ru⟩ := Vals.one rv
  obtain rfl : u = .ref a := ru
  rcases hs with hs | hs
  · obtain ⟨its, r, pl, -⟩ := I.list hs
    exact call_set_lst (I.ok.hd hc) pl.isList (by simpa using ints_of_vals r) hb fun s' f => setI_end I f q
  · obtain ⟨its, r, pl, -⟩ := I.tuple hs
    exact call_set_tupI ns (I.ok.hd hc) pl (by simpa using ints_of_vals r) hb fun h tk c full _ keep => setI_end I ⟨h, tk, c, rfl, full, keep⟩ q
def rSetT (K : PySem.W.Frag) (w : World) : List V → Hp → VK → Prop := fun vs H Q => ∃ a, ∃ ks : List (Addr × List Int), vs = [.ref a] ∧ SqL K H a (ks.map fun p => V.ref p.1) ∧ (∀ p ∈ ks, SqT K H p.1 (p.2.map V.int)) ∧ ks.length < 64 ∧
  ∀ p (L : List (Addr × List Int)), H p = none → (∀ q ∈ L, q ∈ ks) → (L.map (·.2)).Perm (ddup (ks.map (·.2))) → Q (.ref p) (upd H p (SetV w p (L.map fun q => Value.ref q.1)))
theorem set_rows (hc : X.calm = true) (hu : X.A.units + 200 < cLine) : CallR X (.type "set") (rSetT X.K X.w) := fun pins s σ H vs us Q I rv ⟨a, ks, ev, hs, ht, hf, q⟩ => by
  subst ev
  obtain ⟨u, rfl, ru⟩ := Vals.one rv
  obtain rfl : u = .ref a := ru
  obtain ⟨its, r, pl, -⟩ := I.list hs
  refine call_set_tups (P := X.prog) (w := X.w) ks (I.ok.hd hc) pl.isList (by simpa using refs_of_vals r) (fun p hp => I.isT (ht p hp)) hf (by omega) fun h tk L es ep t full got keep => ?_
  obtain ⟨o, ho, hx, hd⟩ := full.ob
  have rows : es.toList.map (·.2) = L.map fun q => Value.ref q.1 := by
    rw [full.rows]; simp [rowsOf]
  have size := SetTR.size (s := { s with heap := h }) full
  have fits := SetTR.fits (s := { s with heap := h }) full
  have few := full.few
  refine ⟨.ref _, _, I.laid (t' := tk) keep (Nat.le_refl _) (setV_ok ho hx hd fits (by unfold scanBound; omega) full.tab.ris full.led rows), rfl, q _ L (I.hok.fresh (Nat.le_refl _)) (fun z hz => List.mem_of_mem_take (got.sub z hz)) (once_perm full.nd (ddup_once _) fun k => ?_)⟩
  rw [ddup_mem]
  constructor
  · intro h
    obtain ⟨z, hz, rfl⟩ := List.mem_map.mp h
    exact List.mem_map.mpr ⟨z, List.mem_of_mem_take (got.sub z hz), rfl⟩
  · intro h
    obtain ⟨z, hz, rfl⟩ := List.mem_map.mp h
    exact got.all z (by rw [List.take_length]; exact hz)

/-! ### sorted(set(x)) -/
theorem sset_sorts (hc : X.calm = true) (hu : X.A.units + 200 < cLine) {O : Addr → Prop} {H : Hp} {p : Addr} {us : List Value} {ds es : List D} {Q : VK} (hp : H p = none) (e : PySem.W.EachIs (StandsU X.w O H) us ds) (pm : ds.Perm es) (n : es.Nodup)
    (anti : ∀ x ∈ es, ∀ y ∈ es, ltD x y = false → ltD y x = false → x = y) (cs : canSort es = true) (k : ∀ q ys, upd H p (SetV X.w p us) q = none → Reps X.w O (upd H p (SetV X.w p us)) (sortBy ltD es) ys → Q (.ref q) (upd (upd H p (SetV X.w p us)) q (.lst ys))) :
    rSortV X.w [.ref p] (upd H p (SetV X.w p us)) Q := by
  have T : PySem.W.TotalLe (PySem.W.dataLe false toP) := PySem.W.sortLe_total _ false _
  have keep : ∀ a o, H a = some o → ¬ O a → upd H p (SetV X.w p us) a = some o := fun a o h _ => by
    unfold upd
    rw [if_neg fun z => by rw [z, hp] at h; cases h]
    exact h
  obtain ⟨al, so, ok, sz⟩ := canSort_facts cs
  have al' : allAlike ds = true := by
    have : ∀ l : List D, (∀ x ∈ l, ∀ y ∈ l, alikeD x y = true) → allAlike l = true := by
      intro l
      induction l with
      | nil => intro _; rfl
      | cons x l ih =>
        intro h
        simp only [allAlike, Bool.and_eq_true, List.all_eq_true]
        exact ⟨⟨h x List.mem_cons_self x List.mem_cons_self, fun y hy => ⟨h x List.mem_cons_self y (List.mem_cons_of_mem _ hy), h y (List.mem_cons_of_mem _ hy) x List.mem_cons_self⟩⟩, ih fun a ha b hb => h a (List.mem_cons_of_mem _ ha) b (List.mem_cons_of_mem _ hb)⟩
    exact this ds fun x hx y hy => allAlike_mem al x (pm.mem_iff.mp hx) y (pm.mem_iff.mp hy)
  have all : ∀ f : D → Bool, es.all f = true → ds.all f = true := fun f h => List.all_eq_true.mpr fun x hx => List.all_eq_true.mp h x (pm.mem_iff.mp hx)
  have cs' : canSort ds = true := by
    unfold canSort
    simp only [Bool.and_eq_true, Bool.or_eq_true, decide_eq_true_eq]
    exact ⟨⟨⟨al', so.imp (all _) (all _)⟩, List.all_eq_true.mpr fun x hx => ok x (pm.mem_iff.mp hx)⟩, by rw [pm.length_eq]; exact sz⟩
  have same : sortBy ltD ds = sortBy ltD es := by
    rw [sortD_merge al', sortD_merge al]
    refine merge_perm T pm n fun x hx y hy h1 h2 => anti x hx y hy ?_ ?_
    · have e : PySem.W.dataLe false toP y x = !PySem.W.dataLt (toP x) (toP y) := rfl
      rw [e, lt_toP x y (allAlike_mem al x hx y hy)] at h2
      simpa using h2
    · have e : PySem.W.dataLe false toP x y = !PySem.W.dataLt (toP y) (toP x) := rfl
      rw [e, lt_toP y x (allAlike_mem al y hy x hx)] at h1
      simpa using h1
  refine ⟨O, p, us, ds, rfl, by simp [upd], PySem.W.EachIs.mono (fun u d ⟨x, r, z⟩ => ⟨x, r, z.mono (fun _ h => h) keep⟩) e, pm.nodup_iff.mpr n, fun x hx y hy => anti x (pm.mem_iff.mp hx) y (pm.mem_iff.mp hy), cs', fun q ys hq h => k q ys hq (by rw [← same]; exact h)⟩
theorem sset_ints (hc : X.calm = true) (hu : X.A.units + 200 < cLine) {O : Addr → Prop} {H : Hp} {ns : List Int} {m : List D} {a : Addr} {Q : VK} (h : ssetI ns = some m) (hs : SqL X.K H a (ns.map V.int) ∨ SqT X.K H a (ns.map V.int))
    (k : ∀ p o q ys, H p = none → upd H p o q = none → Reps X.w O (upd H p o) m ys → Q (.ref q) (upd (upd H p o) q (.lst ys))) : rSetI X.K X.w [.ref a] H fun v H1 => rSortV X.w [v] H1 Q := by
  unfold ssetI at h
  split at h
  · rename_i hc2
    cases h
    refine ⟨a, ns, rfl, hs, by unfold scanBound; omega, fun p us ms hp e pm => sset_sorts hc hu hp (ints_stand e) (pm.map _) ?_ ?_ hc2.2 fun q ys hq r => k p _ q ys hp hq r⟩
    · exact List.pairwise_map.mpr ((ddup_once ns).imp fun hne e => hne (by injection e))
    · intro x hx y hy h1 h2
      obtain ⟨i, -, rfl⟩ := List.mem_map.mp hx
      obtain ⟨j, -, rfl⟩ := List.mem_map.mp hy
      rw [lt_int_eq h1 h2]
  · cases h
theorem sset_rows (hc : X.calm = true) (hu : X.A.units + 200 < cLine) {O : Addr → Prop} {H : Hp} {rs : List (List Int)} {xs : List V} {m : List D} {a : Addr} {Q : VK} (h : ssetT rs = some m) (hs : SqL X.K H a xs) (hr : Reps X.w O H (rs.map rowD) xs)
    (k : ∀ p o q ys, H p = none → upd H p o q = none → Reps X.w O (upd H p o) m ys → Q (.ref q) (upd (upd H p o) q (.lst ys))) : rSetT X.K X.w [.ref a] H fun v H1 => rSortV X.w [v] H1 Q := by
  obtain ⟨ks, rfl, rfl, g⟩ := reps_rows hr
  unfold ssetT at h
  split at h
  · rename_i hc2
    cases h
    refine ⟨a, ks, rfl, hs, fun p hp => .inl (g p hp).2, by simpa using hc2.1, fun p L hp sub pm => ?_⟩
    have each : ∀ L : List (Addr × List Int), (∀ q ∈ L, q ∈ ks) → PySem.W.EachIs (StandsU X.w O H) (L.map fun q => Value.ref q.1) ((L.map (·.2)).map rowD) := by
      intro L
      induction L with
      | nil => intro _; exact .nil
      | cons z L ih =>
        intro h
        obtain ⟨no, rd⟩ := g z (h z List.mem_cons_self)
        refine .cons ⟨.ref z.1, rfl, rep_tup no rd ?_⟩ (ih fun q hq => h q (List.mem_cons_of_mem _ hq))
        have lift : ∀ ns : List Int, Reps X.w O H (ns.map D.int) (ns.map V.int) := by
          intro ns
          induction ns with
          | nil => exact .nil
          | cons i ns ih => exact .cons rep_int ih
        exact lift _
    refine sset_sorts hc hu hp (each L sub) (pm.map _) ?_ ?_ hc2.2 fun q ys hq r => k p _ q ys hp hq r
    · exact List.pairwise_map.mpr ((ddup_once _).imp fun hne e => hne (rowD_inj e))
    · intro x hx y hy h1 h2
      obtain ⟨i, -, rfl⟩ := List.mem_map.mp hx
      obtain ⟨j, -, rfl⟩ := List.mem_map.mp hy
      exact congrArg rowD (lt_rows_eq (by simpa [rowD, ltD] using h1) (by simpa [rowD, ltD] using h2))
  · cases h
variable {Γ : Gam} {C : CallS}
theorem s_sset {a : Expr} {r : RE} {p p2 pos2 pos : Pos} (G : Good X Γ C) (h1 : hasB Γ "sorted" = true) (h2 : hasB Γ "set" = true) (hs : notStar a = true) (ha : PE X a (tE X.w C r)) :
    PE X (.Call (.Name "sorted" p) [.Call (.Name "set" p2) [a] [] pos2] [] pos) (tE X.w C (.bi .sset [r])) := by
  have inner := pe_callTy (p := p2) (pos := pos2) ((set_ints (X := X) G.calm).or (set_rows G.calm G.hu)) (G.bl h2).1 (G.bl h2).2 PyProof.Rows.boot_set (pa_cons ha pa_nil (star_of hs)) (by decide) (by decide) (star_of hs) rfl
  refine peImp (pe_callB (p := p) (pos := pos) (sorted_setv G.calm G.hu) (G.bl h1).1 (G.bl h1).2 boot_sorted (pa_cons inner pa_nil (star_of rfl)) (by decide) (by decide) (star_of rfl) rfl) fun σ H Q ⟨Z, ρ, o, ρ', m, ev, k⟩ => ?_
  simp only [evE] at ev
  split at ev
  · cases ev
  · rename_i os ρ1 e1
    split at ev
    · cases ev
    · rename_i ds e2
      split at ev
      · cases ev
      · rename_i fr d e3
        obtain ⟨rfl, rfl⟩ : o = .val fr d ∧ ρ' = ρ1 := by
          simp only [Option.some.injEq, Prod.mk.injEq] at ev
          exact ⟨ev.1.symm, ev.2.symm⟩
        obtain ⟨o1, rfl, e1'⟩ := evL_one e1
        obtain ⟨d1, rfl, e2'⟩ := rds_one e2
        refine ⟨Z, ρ, o1, ρ', m, e1', fun v H1 P => ?_⟩
        have hv := P.opd.rd P.m0 e2'
        have done : ∀ {m : List D}, OV.val fr d = .val true (.lst m) → ∀ p o q ys, H1 p = none → upd H1 p o q = none → Reps X.w (Ow Z ρ' σ) (upd H1 p o) m ys → Q (.ref q) (upd (upd H1 p o) q (.lst ys)) := fun e p o q ys hp hq r => by
          rw [e] at k
          exact k _ _ (.lst (P.m0.new' hp) P.tr (P.st.trans P.tr (Stp.new hp)) hq r)
        change ssetB _ = _ at e3
        unfold ssetB at e3
        split at e3
        · rename_i l hd
          obtain rfl : d1 = .lst l := by simpa using hd
          obtain ⟨b, xs, rfl, rd, rp⟩ := repU_lst hv
          split at e3
          · rename_i ns hn
            rw [intsD_eq hn] at rp
            rw [reps_ints rp] at rd
            cases q : ssetI ns with
            | none => rw [q] at e3; cases e3
            | some m =>
              rw [q] at e3; cases e3
              exact .inl (sset_ints G.calm G.hu q (.inl (.inl rd)) (done rfl))
          · split at e3
            · rename_i rs hn
              rw [rowsD_eq hn] at rp
              cases q : ssetT rs with
              | none => rw [q] at e3; cases e3
              | some m =>
                rw [q] at e3; cases e3
                exact .inr (sset_rows G.calm G.hu q (.inl rd) rp (done rfl))
            · cases e3
        · rename_i l hd
          obtain rfl : d1 = .tup l := by simpa using hd
          obtain ⟨b, xs, rfl, no, rd, rp⟩ := repU_tup hv
          split at e3
          · rename_i ns hn
            rw [intsD_eq hn] at rp
            rw [reps_ints rp] at rd
            cases q : ssetI ns with
            | none => rw [q] at e3; cases e3
            | some m =>
              rw [q] at e3; cases e3
              exact .inl (sset_ints G.calm G.hu q (.inr (.inl rd)) (done rfl))
          · cases e3
        · cases e3
/-! ### len(set(x)) -/
theorem len_setv : CallR X (.builtin "len") (fun vs H Q => ∃ a us, vs = [.ref a] ∧ H a = some (SetV X.w a us) ∧ Q (.int us.length) H) := fun pins s σ H vs us Q I rv ⟨a, ws, ev, hH, q⟩ => by
  subst ev
  obtain ⟨u, rfl, ru⟩ := Vals.one rv
  obtain rfl : u = .ref a := ru
  obtain ⟨es, ep, t, ⟨o, ho, -, hd⟩, hfit, hsz, -, -, hws, o', ho', hx⟩ := (I.hok a _ hH).1
  rw [ho] at ho'
  cases ho'
  refine call_len_set ho hx hd hfit (by unfold scanBound at hsz; omega) ⟨.int ws.length, H, I.tok _, ⟨_, by rw [← hws, List.length_map, Array.length_toList]⟩, q⟩
theorem s_lset {a : Expr} {r : RE} {p p2 pos2 pos : Pos} (G : Good X Γ C) (h1 : hasB Γ "len" = true) (h2 : hasB Γ "set" = true) (hs : notStar a = true) (ha : PE X a (tE X.w C r)) :
    PE X (.Call (.Name "len" p) [.Call (.Name "set" p2) [a] [] pos2] [] pos) (tE X.w C (.bi .lset [r])) := by
  have inner := pe_callTy (p := p2) (pos := pos2) (set_ints (X := X) G.calm) (G.bl h2).1 (G.bl h2).2 PyProof.Rows.boot_set (pa_cons ha pa_nil (star_of hs)) (by decide) (by decide) (star_of hs) rfl
  refine peImp (pe_callB (p := p) (pos := pos) len_setv (G.bl h1).1 (G.bl h1).2 boot_len (pa_cons inner pa_nil (star_of rfl)) (by decide) (by decide) (star_of rfl) rfl) fun σ H Q ⟨Z, ρ, o, ρ', m, ev, k⟩ => ?_
  simp only [evE] at ev
  split at ev
  · cases ev
  · rename_i os ρ1 e1
    split at ev
    · cases ev
    · rename_i ds e2
      split at ev
      · cases ev
      · rename_i fr d e3
        obtain ⟨rfl, rfl⟩ : o = .val fr d ∧ ρ' = ρ1 := by
          simp only [Option.some.injEq, Prod.mk.injEq] at ev
          exact ⟨ev.1.symm, ev.2.symm⟩
        obtain ⟨o1, rfl, e1'⟩ := evL_one e1
        obtain ⟨d1, rfl, e2'⟩ := rds_one e2
        refine ⟨Z, ρ, o1, ρ', m, e1', fun v H1 P => ?_⟩
        have hv := P.opd.rd P.m0 e2'
        have done : ∀ {n : Nat}, OV.val fr d = .val false (.int n) → ∀ p o, H1 p = none → Q (.int n) (upd H1 p o) := fun e p o hp => by
          rw [e] at k
          exact k _ _ (.same (P.m0.new' hp) P.tr (P.st.trans P.tr (Stp.new hp)) rep_int)
        have goal : ∀ {b : Addr} {ns : List Int}, ns.length < 4000 → v = .ref b → (SqL X.K H1 b (ns.map V.int) ∨ SqT X.K H1 b (ns.map V.int)) → OV.val fr d = .val false (.int (ddup ns).length) →
            rSetI X.K X.w [v] H1 fun v H1 => ∃ a us, [v] = [.ref a] ∧ H1 a = some (SetV X.w a us) ∧ Q (.int us.length) H1 := fun {b ns} hz hb hq he => by
          subst hb
          refine ⟨b, ns, rfl, hq, by unfold scanBound; omega, fun p us ms hp e pm => ⟨p, us, rfl, by simp [upd], ?_⟩⟩
          rw [show us.length = (ddup ns).length from (IntsAre.length e).trans pm.length_eq]
          exact done he p _ hp
        change lsetB _ = _ at e3
        unfold lsetB at e3
        split at e3
        · rename_i l hd
          obtain rfl : d1 = .lst l := by simpa using hd
          obtain ⟨b, xs, hb, rd, rp⟩ := repU_lst hv
          split at e3
          · rename_i ns hn
            rw [intsD_eq hn] at rp
            rw [reps_ints rp] at rd
            split at e3
            · rename_i hz
              cases e3
              exact goal hz hb (.inl (.inl rd)) rfl
            · cases e3
          · cases e3
        · rename_i l hd
          obtain rfl : d1 = .tup l := by simpa using hd
          obtain ⟨b, xs, hb, no, rd, rp⟩ := repU_tup hv
          split at e3
          · rename_i ns hn
            rw [intsD_eq hn] at rp
            rw [reps_ints rp] at rd
            split at e3
            · rename_i hz
              cases e3
              exact goal hz hb (.inr (.inl rd)) rfl
            · cases e3
          · cases e3
        · cases e3
end
end Ev

/-! Ev, part U: the text means what the small language says: calls, comprehensions, all expressions. -/
namespace Ev
open PySem PySem.Spec PyProof.Rows L2

section
variable {X : Cx} {Γ : Gam} {C : CallS} {ce : CE}
/-! ### tuple(range(n)), list(range(n)) -/
theorem rngD_rep {w : World} {O : Addr → Prop} {H : Hp} (n : Int) : Reps w O H (rngD 0 n) (rgV 0 n) := by
  unfold rngD rgV
  generalize (n - 0).toNat = k
  have : ∀ l : List Nat, Reps w O H (l.map fun (k : Nat) => D.int (0 + (k : Int))) (l.map fun i => V.int (0 + (i : Nat))) := by
    intro l
    induction l with
    | nil => exact .nil
    | cons a l ih => exact .cons (by simp [Rep]) ih
  exact this _
theorem rng_core {σ : St} {H : Hp} {Z : Addr → Prop} {ρ ρ' : Env} {r : RE} {b : BI} {o : OV} {Q : V → V → Hp → Prop} (m : Match X.w Z ρ σ H) (ev : evE C (.bi b [r]) ρ = some (o, ρ')) (hb : biD b = tuprngB ∨ biD b = lstrngB)
    (k : ∀ n v H1, Match X.w Z ρ' σ H1 → TrE ρ ρ' → Stp ρ σ H H1 → v = V.int n → RgOk 0 n → ((biD b = tuprngB ∧ o = .val false (.tup (rngD 0 n))) ∨ (biD b = lstrngB ∧ o = .val true (.lst (rngD 0 n)))) → Q v v H1) :
    tE X.w C r σ H fun v H1 => Q v v H1 := by
  simp only [evE] at ev
  split at ev
  · cases ev
  · rename_i os ρ1 e1
    split at ev
    · cases ev
    · rename_i ds e2
      split at ev
      · cases ev
      · rename_i fr d e3
        obtain ⟨rfl, rfl⟩ : o = .val fr d ∧ ρ' = ρ1 := by
          simp only [Option.some.injEq, Prod.mk.injEq] at ev
          exact ⟨ev.1.symm, ev.2.symm⟩
        obtain ⟨o1, rfl, e1'⟩ := evL_one e1
        obtain ⟨d1, rfl, e2'⟩ := rds_one e2
        refine ⟨Z, ρ, o1, ρ', m, e1', fun v H1 p => ?_⟩
        have hv := p.opd.rd p.m0 e2'
        have key : ∀ n : Int, d1 = .int n → (rngOk 0 n && decide (n.toNat ≤ 16777216)) = true → v = .int n ∧ RgOk 0 n := fun n hn hc => by
          subst hn
          simp only [RepU, Rep] at hv
          rw [Bool.and_eq_true, decide_eq_true_eq] at hc
          obtain ⟨h1, h2, h3, h4⟩ := rngOk_le hc.1
          exact ⟨hv, h1, h2, h3, h4, by omega⟩
        rcases hb with hb | hb
        · rw [hb] at e3
          unfold tuprngB at e3
          split at e3
          · rename_i n hd
            split at e3
            · rename_i hc
              cases e3
              obtain ⟨h1, h2⟩ := key n (by simpa using hd) hc
              exact k n v H1 p.m0 p.tr p.st h1 h2 (.inl ⟨hb, rfl⟩)
            · cases e3
          · cases e3
        · rw [hb] at e3
          unfold lstrngB at e3
          split at e3
          · rename_i n hd
            split at e3
            · rename_i hc
              cases e3
              obtain ⟨h1, h2⟩ := key n (by simpa using hd) hc
              exact k n v H1 p.m0 p.tr p.st h1 h2 (.inr ⟨hb, rfl⟩)
            · cases e3
          · cases e3
theorem s_tuprng {a : Expr} {r : RE} {p p2 pos2 pos : Pos} (G : Good X Γ C) (ht : hasB Γ "tuple" = true) (hr : hasB Γ "range" = true) (hs : notStar a = true) (ha : PE X a (tE X.w C r)) :
    PE X (.Call (.Name "tuple" p) [.Call (.Name "range" p2) [a] [] pos2] [] pos) (tE X.w C (.bi .tuprng [r])) := by
  refine peImp (pe_tupRg G.calm (G.bl ht).1 (G.bl ht).2 (prg_1 (G.bl hr).1 (G.bl hr).2 ha (star_of hs)) (star_of rfl)) fun σ H Q ⟨Z, ρ, o, ρ', m, ev, k⟩ => ?_
  refine rng_core (Q := fun v _ H1 => ∃ n, v = V.int n ∧ (RgOk 0 n ∧ ∀ q, H1 q = none → Q (.ref q) (upd H1 q (.tup (rgV 0 n))))) m ev (.inl rfl) fun n v H1 m1 t s hv ok h => ⟨n, hv, ok, fun q hq => ?_⟩
  rcases h with ⟨_, rfl⟩ | ⟨h, _⟩
  · exact k _ _ (.tup m1 t s hq (rngD_rep n))
  · exfalso
    have := congrFun h [.int 0]
    simp [biD, tuprngB, lstrngB, rngOk] at this
theorem s_lstrng {a : Expr} {r : RE} {p p2 pos2 pos : Pos} (G : Good X Γ C) (ht : hasB Γ "list" = true) (hr : hasB Γ "range" = true) (hs : notStar a = true) (ha : PE X a (tE X.w C r)) :
    PE X (.Call (.Name "list" p) [.Call (.Name "range" p2) [a] [] pos2] [] pos) (tE X.w C (.bi .lstrng [r])) := by
  refine peImp (pe_listRg G.calm (G.bl ht).1 (G.bl ht).2 (prg_1 (G.bl hr).1 (G.bl hr).2 ha (star_of hs)) (star_of rfl)) fun σ H Q ⟨Z, ρ, o, ρ', m, ev, k⟩ => ?_
  refine rng_core (Q := fun v _ H1 => ∃ n, v = V.int n ∧ (RgOk 0 n ∧ ∀ q, H1 q = none → Q (.ref q) (upd H1 q (.lst (rgV 0 n))))) m ev (.inr rfl) fun n v H1 m1 t s hv ok h => ⟨n, hv, ok, fun q hq => ?_⟩
  rcases h with ⟨h, _⟩ | ⟨_, rfl⟩
  · exfalso
    have := congrFun h [.int 0]
    simp [biD, tuprngB, lstrngB, rngOk] at this
  · exact k _ _ (.lst m1 t s hq (rngD_rep n))

/-! ### calls -/
theorem pos_line {a b : Pos} (h : (a.endLine == b.line) = true) : (a.endLine == b.line) = true := h
theorem bi_way (G : Good X Γ C) {x : Str} {ty : Bool} {b : BI} (h : biOf x = some (ty, b)) : (∃ id, BiOk X (.builtin id) (biD b) ∧ bootBuiltins x = some (.builtin id) ∧ x ≠ "__name__") ∨ (∃ T, BiOk X (.type T) (biD b) ∧ bootBuiltins x = some (.type T) ∧ x ≠ "__name__") := by
  unfold biOf at h
  by_cases hx : x = "len"
  · rw [if_pos hx] at h
    cases h
    rw [hx]
    exact .inl ⟨_, bi_len, boot_len, by decide⟩
  rw [if_neg hx] at h
  clear hx
  by_cases hx : x = "sorted"
  · rw [if_pos hx] at h
    cases h
    rw [hx]
    exact .inl ⟨_, bi_sorted G.calm G.hu, boot_sorted, by decide⟩
  rw [if_neg hx] at h
  clear hx
  by_cases hx : x = "sum"
  · rw [if_pos hx] at h
    cases h
    rw [hx]
    exact .inl ⟨_, bi_sum G.calm, boot_sum, by decide⟩
  rw [if_neg hx] at h
  clear hx
  by_cases hx : x = "any"
  · rw [if_pos hx] at h
    cases h
    rw [hx]
    exact .inl ⟨_, bi_any G.calm, boot_any, by decide⟩
  rw [if_neg hx] at h
  clear hx
  by_cases hx : x = "all"
  · rw [if_pos hx] at h
    cases h
    rw [hx]
    exact .inl ⟨_, bi_all G.calm, boot_all, by decide⟩
  rw [if_neg hx] at h
  clear hx
  by_cases hx : x = "min"
  · rw [if_pos hx] at h
    cases h
    rw [hx]
    exact .inl ⟨_, bi_min G.calm G.hu, boot_min, by decide⟩
  rw [if_neg hx] at h
  clear hx
  by_cases hx : x = "max"
  · rw [if_pos hx] at h
    cases h
    rw [hx]
    exact .inl ⟨_, bi_max G.calm G.hu, boot_max, by decide⟩
  rw [if_neg hx] at h
  clear hx
  by_cases hx : x = "abs"
  · rw [if_pos hx] at h
    cases h
    rw [hx]
    exact .inl ⟨_, bi_abs, boot_abs, by decide⟩
  rw [if_neg hx] at h
  clear hx
  by_cases hx : x = "tuple"
  · rw [if_pos hx] at h
    cases h
    rw [hx]
    exact .inr ⟨_, bi_tuple, PyProof.Rows.boot_tuple, by decide⟩
  rw [if_neg hx] at h
  clear hx
  by_cases hx : x = "list"
  · rw [if_pos hx] at h
    cases h
    rw [hx]
    exact .inr ⟨_, bi_list G.calm, PyProof.Rows.boot_list, by decide⟩
  rw [if_neg hx] at h
  clear hx
  by_cases hx : x = "int"
  · rw [if_pos hx] at h
    cases h
    rw [hx]
    exact .inr ⟨_, bi_int, PyProof.Rows.boot_int, by decide⟩
  rw [if_neg hx] at h
  clear hx
  cases h
theorem blt_ok (hce : ∀ m e r, ce Γ m e = some r → PE X e (tE X.w C r)) (G : Good X Γ C) {x : Str} {args : List Expr} {r : RE} {p pos : Pos} (h : bltE ce Γ x args = some r) (hd : (x == ("__debug__" : Str)) = false) : PE X (.Call (.Name x p) args [] pos) (tE X.w C r) := by
  unfold bltE at h
  split at h
  · rename_i hb
    split at h
    · rename_i a ha
      -- range(a)
      unfold rngE at ha
      split at ha
      · rename_i rn p2 a' pos2
        split at ha
        · rename_i hc
          cases ha
          obtain ⟨h1, h2, h3⟩ := hc
          subst h1
          split at h
          · rename_i hx
            subst hx
            cases q : ce Γ 0 a with
            | none => rw [q] at h; cases h
            | some ra => rw [q] at h; cases h; exact s_tuprng G hb h2 h3 (hce _ _ _ q)
          · split at h
            · rename_i hx
              subst hx
              cases q : ce Γ 0 a with
              | none => rw [q] at h; cases h
              | some ra => rw [q] at h; cases h; exact s_lstrng G hb h2 h3 (hce _ _ _ q)
            · cases h
        · cases ha
      · cases ha
    · split at h
      · rename_i a ha
        unfold setE at ha
        split at ha
        · rename_i rn p2 a' pos2
          split at ha
          · rename_i hc
            cases ha
            obtain ⟨h1, h2, h3⟩ := hc
            subst h1
            split at h
            · rename_i hx
              subst hx
              cases q : ce Γ 1 a with
              | none => rw [q] at h; cases h
              | some ra => rw [q] at h; cases h; exact s_sset G hb h2 h3 (hce _ _ _ q)
            · split at h
              · rename_i hx
                subst hx
                cases q : ce Γ 1 a with
                | none => rw [q] at h; cases h
                | some ra => rw [q] at h; cases h; exact s_lset G hb h2 h3 (hce _ _ _ q)
              · cases h
          · cases ha
        · cases ha
      split at h
      · rename_i ty b hbi
        split at h
        · cases h
        · rename_i a as _ _
          cases q : argsE (ce Γ 1) (a :: as) with
          | none => rw [q] at h; cases h
          | some rs =>
            rw [q] at h
            cases h
            obtain ⟨h1, h2⟩ := args_ok (fun e r => hce 1 e r) q
            rw [List.all_cons, Bool.and_eq_true] at h2
            obtain ⟨hg, hm⟩ := G.bl hb
            have e1 := star_of (es := as) (env := X.env) h2.1
            have e2 := stars_any (env := X.env) (pos := pos) h2.2
            rcases bi_way G hbi with ⟨id, w1, w2, w3⟩ | ⟨T, w1, w2, w3⟩
            · exact s_biB w1 hg hm w2 h1 w3 hd e1 e2
            · exact s_biT w1 hg hm w2 h1 w3 hd e1 e2
      · cases h
  · cases h
theorem tyOfN_eq {x : Str} {t : Ty} (h : tyOfN x = some t) : x = (tyN t : Str) := by
  unfold tyOfN at h
  by_cases hx : x = "int"
  · rw [if_pos hx] at h; cases h; exact hx
  rw [if_neg hx] at h; clear hx
  by_cases hx : x = "bool"
  · rw [if_pos hx] at h; cases h; exact hx
  rw [if_neg hx] at h; clear hx
  by_cases hx : x = "str"
  · rw [if_pos hx] at h; cases h; exact hx
  rw [if_neg hx] at h; clear hx
  by_cases hx : x = "tuple"
  · rw [if_pos hx] at h; cases h; exact hx
  rw [if_neg hx] at h; clear hx
  by_cases hx : x = "list"
  · rw [if_pos hx] at h; cases h; exact hx
  rw [if_neg hx] at h; cases h
theorem tysL_ok (G : Good X Γ C) : ∀ {es : List Expr} {ts : List Ty}, tysL Γ es = some ts → (∃ ps : List Pos, es = (ts.zip ps).map (fun x => Expr.Name (tyN x.1) x.2) ∧ ps.length = ts.length) ∧ ∀ t ∈ ts, Gl X (tyN t) ∧ X.mg (tyN t) = none
  | [], ts, h => by simp only [tysL, Option.some.injEq] at h; subst h; exact ⟨⟨[], rfl, rfl⟩, fun t ht => by cases ht⟩
  | e :: es, ts, h => by
    cases e <;> first | (simp [tysL] at h; done) | skip
    rename_i x p
    simp only [tysL] at h
    split at h
    · rename_i t ts' e1 e2
      split at h
      · rename_i hb
        cases h
        obtain ⟨⟨ps, rfl, hl⟩, hk⟩ := tysL_ok G e2
        have hx := tyOfN_eq e1
        subst hx
        refine ⟨⟨p :: ps, rfl, by simp [hl]⟩, fun t' ht => ?_⟩
        rcases List.mem_cons.mp ht with rfl | ht
        · exact G.bl hb
        · exact hk t' ht
      · cases h
    · cases h
theorem isa_ok (hce : ∀ m e r, ce Γ m e = some r → PE X e (tE X.w C r)) (G : Good X Γ C) {args : List Expr} {r : RE} {p pos : Pos} (h : isaE ce Γ args = some r) : PE X (.Call (.Name "isinstance" p) args [] pos) (tE X.w C r) := by
  unfold isaE at h
  split at h
  · rename_i a x pt
    split at h
    · rename_i hc
      simp only [Bool.and_eq_true] at hc
      obtain ⟨⟨h1, h2⟩, h3⟩ := hc
      split at h
      · rename_i t ra e1 e2
        cases h
        have hx := tyOfN_eq e1
        subst hx
        exact s_isa1 (G.bl h3).1 (G.bl h3).2 (hce _ _ _ e2) h1 (G.bl h2).1 (G.bl h2).2
      · cases h
    · cases h
  · rename_i a es k0 pt
    split at h
    · rename_i hc
      simp only [Bool.and_eq_true] at hc
      obtain ⟨h1, h3⟩ := hc
      split at h
      · rename_i ts ra e1 e2
        split at h
        · rename_i hz
          cases h
          obtain ⟨he, hk⟩ := tysL_ok G e1
          exact s_isaT (G.bl h3).1 (G.bl h3).2 (hce _ _ _ e2) h1 he hk hz
        · cases h
      · cases h
    · cases h
  · cases h
theorem call_ok (hce : ∀ m e r, ce Γ m e = some r → PE X e (tE X.w C r)) (G : Good X Γ C) {x : Str} {args : List Expr} {r : RE} {p pos : Pos} (h : callE ce Γ x args = some r) : SE X C (.Call (.Name x p) args [] pos) r := by
  refine test_plain ?_ fun _ => rfl
  unfold callE at h
  split at h
  · rename_i hc
    rw [Bool.and_eq_true] at hc
    obtain ⟨hd, hcd⟩ := okN_d hc.2
    split at h
    · rename_i j io hf
      obtain ⟨f, fd, ps, k, F, hr, hm, hk, hb⟩ := G.fns x j io hf
      cases q : ioE (ce Γ 0) (ce Γ 1) io args with
      | none => rw [q] at h; cases h
      | some rs =>
        rw [q] at h
        cases h
        obtain ⟨h1, h2, h3⟩ := io_ok (fun e r => hce 0 e r) (fun e r => hce 1 e r) q
        cases args with
        | nil =>
          cases rs with
          | nil => exact s_call0 F hr (G.glo hc.1) hm hk hb hd
          | cons _ _ => cases h3
        | cons a as =>
          rw [List.all_cons, Bool.and_eq_true] at h2
          exact s_call F hr (G.glo hc.1) hm hk hb h1 hd (star_of h2.1) (stars_any h2.2)
    · split at h
      · rename_i hx
        subst hx
        exact isa_ok hce G h
      · exact blt_ok hce G h hd
  · cases h
theorem base_of {o : Expr} {name : Str} {env : PySem.Env} (h : baseOk o = true) : attributeBase o name env (eval o env) = eval o env := by
  cases o <;> first | rfl | cases h
theorem meth_ok (hce : ∀ m e r, ce Γ m e = some r → PE X e (tE X.w C r)) (G : Good X Γ C) {o : Expr} {name : Str} {apos cpos : Pos} {args : List Expr} {r : RE} (h : methE ce Γ o name apos cpos args = some r) : SE X C (.Call (.Attribute o name apos) args [] cpos) r := by
  refine test_plain ?_ fun _ => rfl
  unfold methE at h
  split at h
  · rename_i hc
    rw [Bool.and_eq_true] at hc
    split at h
    · rename_i hn
      subst hn
      split at h
      · rename_i a as
        split at h
        · rename_i hl
          split at h
          · rename_i ro rs e1 e2
            cases h
            obtain ⟨h1, h2⟩ := args_ok (fun e r => hce 0 e r) e2
            exact s_get G.hu (hce _ _ _ e1) h1 (base_of hc.1) h2 (List.cons_ne_nil _ _) hl hc.2
          · cases h
        · cases h
      · cases h
    · split at h
      · rename_i hn
        subst hn
        split at h
        · rename_i x p
          split at h
          · rename_i hv
            rw [Bool.and_eq_true] at hv
            obtain ⟨hd, hcd⟩ := okN_d hv.2
            split at h
            · rename_i i hi
              cases h
              exact s_pop (G.at_ hi) (G.vis hv.1) hd hcd (base_of rfl) hc.2
            · cases h
          · cases h
        · cases h
      · cases h
  · cases h

/-! ### what is walked -/
theorem args_len {f : Expr → Option RE} : ∀ {es : List Expr} {rs : List RE}, argsE f es = some rs → rs.length = es.length
  | [], rs, h => by simp only [argsE, Option.some.injEq] at h; subst h; rfl
  | e :: es, rs, h => by
    simp only [argsE] at h
    split at h
    · split at h
      · rename_i r rs' e1 e2
        cases h
        simp [args_len e2]
      · cases h
    · cases h
theorem len_one {α : Type} {l : List α} (h : l.length = 1) : ∃ x, l = [x] := by
  match l, h with
  | [x], _ => exact ⟨x, rfl⟩
theorem len_two {α : Type} {l : List α} (h : l.length = 2) : ∃ x y, l = [x, y] := by
  match l, h with
  | [x, y], _ => exact ⟨x, y, rfl⟩
theorem seq_ok (hce : ∀ m e r, ce Γ m e = some r → PE X e (tE X.w C r)) {tg e : Expr} {k : IK} {rs : List RE} (h : seqE ce Γ e = some (k, rs)) : PI X tg e (tI X.w C k rs) ∧ ∀ x, foldedSetIterable e X.env x = pure x := by
  unfold seqE at h
  split at h
  · rename_i hs
    cases q : ce Γ 1 e with
    | none => rw [q] at h; cases h
    | some r =>
      rw [q] at h
      cases h
      exact ⟨i_seq (hce _ _ _ q), fun x => by cases e <;> first | rfl | cases hs⟩
  · cases h
theorem isTup_of {tg : Expr} (h : isTupE tg = true) : ∃ es k p, tg = .Tuple es k p := by
  cases tg <;> first | exact ⟨_, _, _, rfl⟩ | cases h
theorem iter_ok (hce : ∀ m e r, ce Γ m e = some r → PE X e (tE X.w C r)) (G : Good X Γ C) {tg e : Expr} {k : IK} {rs : List RE} (h : iterE ce Γ tg e = some (k, rs)) : PI X tg e (tI X.w C k rs) ∧ ∀ x, foldedSetIterable e X.env x = pure x := by
  unfold iterE at h
  split at h
  · rename_i f p args pos
    refine ⟨?_, fun x => rfl⟩
    split at h
    · rename_i hc
      rw [Bool.and_eq_true, decide_eq_true_eq] at hc
      obtain ⟨hb, rfl⟩ := hc
      obtain ⟨hg, hm⟩ := G.bl hb
      split at h
      · rename_i a
        cases q : argsE (ce Γ 1) [a] with
        | none => rw [q] at h; cases h
        | some rs' =>
          rw [q] at h; cases h
          obtain ⟨h1, h2⟩ := args_ok (fun e r => hce 1 e r) q
          simp only [List.all_cons, List.all_nil, Bool.and_true] at h2
          obtain ⟨r, rfl⟩ : ∃ r, rs = [r] := len_one (args_len q)
          exact i_range1 hg hm h1 (star_of h2)
      · rename_i a b
        cases q : argsE (ce Γ 1) [a, b] with
        | none => rw [q] at h; cases h
        | some rs' =>
          rw [q] at h; cases h
          obtain ⟨h1, h2⟩ := args_ok (fun e r => hce 1 e r) q
          simp only [List.all_cons, List.all_nil, Bool.and_true, Bool.and_eq_true] at h2
          obtain ⟨r, r2, rfl⟩ : ∃ r r2, rs = [r, r2] := len_two (args_len q)
          have s1 := star_of (es := [b]) (env := X.env) h2.1
          have s2 := star_of (es := []) (env := X.env) h2.2
          exact i_range2 hg hm h1 (by rw [s1, s2]; rfl) (by rw [s2]; rfl)
      · cases h
    · split at h
      · rename_i hc
        rw [Bool.and_eq_true, decide_eq_true_eq] at hc
        obtain ⟨hb, rfl⟩ := hc
        obtain ⟨hg, hm⟩ := G.bl hb
        split at h
        · rename_i a
          split at h
          · rename_i ht
            obtain ⟨es, kk, tp, rfl⟩ := isTup_of ht
            cases q : argsE (ce Γ 1) [a] with
            | none => rw [q] at h; cases h
            | some rs' =>
              rw [q] at h; cases h
              obtain ⟨h1, h2⟩ := args_ok (fun e r => hce 1 e r) q
              simp only [List.all_cons, List.all_nil, Bool.and_true] at h2
              obtain ⟨r, rfl⟩ : ∃ r, rs = [r] := len_one (args_len q)
              exact i_enum hg hm h1 (star_of h2)
          · cases h
        · cases h
      · split at h
        · rename_i hc
          rw [Bool.and_eq_true, decide_eq_true_eq] at hc
          obtain ⟨hb, rfl⟩ := hc
          obtain ⟨hg, hm⟩ := G.bl hb
          split at h
          · rename_i a b
            split at h
            · rename_i ht
              obtain ⟨es, kk, tp, rfl⟩ := isTup_of ht
              cases q : argsE (ce Γ 1) [a, b] with
              | none => rw [q] at h; cases h
              | some rs' =>
                rw [q] at h; cases h
                obtain ⟨h1, h2⟩ := args_ok (fun e r => hce 1 e r) q
                simp only [List.all_cons, List.all_nil, Bool.and_true, Bool.and_eq_true] at h2
                obtain ⟨r, r2, rfl⟩ : ∃ r r2, rs = [r, r2] := len_two (args_len q)
                exact i_zip hg hm h1 (star_of h2.1) (stars_any (es := [b]) (by simp [h2.2]))
            · cases h
          · cases h
        · exact (seq_ok hce h).1
  · rename_i o name apos cpos
    refine ⟨?_, fun x => rfl⟩
    split at h
    · rename_i hc
      simp only [Bool.and_eq_true, decide_eq_true_eq] at hc
      obtain ⟨⟨⟨h1, h2⟩, rfl⟩, h4⟩ := hc
      obtain ⟨es, kk, tp, rfl⟩ := isTup_of h4
      cases q : ce Γ 1 o with
      | none => rw [q] at h; cases h
      | some r => rw [q] at h; cases h; exact i_items (hce _ _ _ q) (base_of h1) h2
    · split at h
      · rename_i hc
        simp only [Bool.and_eq_true, decide_eq_true_eq] at hc
        obtain ⟨⟨h1, h2⟩, rfl⟩ := hc
        cases q : ce Γ 1 o with
        | none => rw [q] at h; cases h
        | some r => rw [q] at h; cases h; exact i_values (hce _ _ _ q) (base_of h1) h2
      · exact (seq_ok hce h).1
  · exact seq_ok hce h
end
/-! ### comprehensions -/
theorem ifs_ok {X : Cx} {C : CallS} {f : Expr → Option RE} (hf : ∀ e r, f e = some r → SE X C e r) {ifs : List Expr} {rc : List RE} (h : ifsE f ifs = some rc) : PTs X ifs (tC X.w C rc) := by
  unfold ifsE at h
  split at h
  · cases h; exact s_cnil
  · rename_i c
    split at h
    · rename_i hn
      cases q : f c with
      | none => rw [q] at h; cases h
      | some r => rw [q] at h; cases h; exact s_cone ((hf c r q).2 hn)
    · cases h
  · cases h
/-- what a comprehension needs -/
theorem comp_parts {X : Cx} {Γ : Gam} {C : CallS} {ce : CE} (S : SndE C ce) (G : Good X Γ C) {elt tg iter : Expr} {ifs : List Expr} {scope : Scope} {r : RE} (h : compE ce Γ elt tg iter ifs scope = some r) :
    ∃ k rs t rc re, r = .comp k rs t ((ownOf Γ.N scope.names).map (·.2)) rc re ∧ PI X tg iter (tI X.w C k rs) ∧ BlkOk X.N X.env.scope scope (ownOf Γ.N scope.names) ∧
      (∀ (s : Shared) (H : Hp) (A : Addr) (cl : List (Str × Addr)) (fp : List Addr), PG (X.blk s H scope (compEnvC scope cl A X.env) fp) tg (tG X.w t)) ∧ (∀ (s : Shared) (H : Hp) (A : Addr) (cl : List (Str × Addr)) (fp : List Addr), PTs (X.blk s H scope (compEnvC scope cl A X.env) fp) ifs (tC X.w C rc)) ∧
      (∀ (s : Shared) (H : Hp) (A : Addr) (cl : List (Str × Addr)) (fp : List Addr), PE (X.blk s H scope (compEnvC scope cl A X.env) fp) elt (tE X.w C re)) ∧ (∀ x, foldedSetIterable iter X.env x = pure x) ∧ (tgS t).all (fun i => ((ownOf Γ.N scope.names).map (·.2)).contains i) = true := by
  unfold compE at h
  split at h
  · rename_i hb
    split at h
    · rename_i k rs t rc re e1 e2 e3 e4
      split at h
      · rename_i hc
        rw [Bool.and_eq_true] at hc
        cases h
        obtain ⟨h1, h2⟩ := iter_ok (fun m e r h => (S X Γ m e r G h).1) G e1
        refine ⟨k, rs, t, rc, re, rfl, h1, ?_, fun s H A cl fp => tg_ok (G.blk scope s H A cl fp) 9 tg t e2, fun s H A cl fp => ifs_ok (fun e r h => S _ _ 0 e r (G.blk scope s H A cl fp) h) e3, fun s H A cl fp => (S _ _ 0 elt re (G.blk scope s H A cl fp) e4).1, h2, hc.2⟩
        rw [G.N, G.sc]
        exact blkOk_by hb
      · cases h
    · cases h
  · cases h
/-! ### all expressions -/
theorem step_ok {C : CallS} {ce : CE} (S : SndE C ce) : SndE C (stepE ce) := by
  intro X Γ m e r G h
  have hce : ∀ m e r, ce Γ m e = some r → PE X e (tE X.w C r) := fun m e r h => (S X Γ m e r G h).1
  unfold stepE at h
  split at h
  · exact name_ok G h
  · exact const_ok h
  · split at h
    · rename_i ra o rb e1 e2 e3
      cases h
      exact test_plain (s_bin (bop_ok e2) (hce _ _ _ e1) (hce _ _ _ e3)) fun _ => rfl
    · cases h
  · rename_i a pos
    cases q : ce Γ 0 a with
    | none => rw [q] at h; cases h
    | some ra => rw [q] at h; cases h; exact test_plain (s_neg (hce _ _ _ q)) fun _ => rfl
  · rename_i a pos
    split at h
    · rename_i hn
      cases q : ce Γ 0 a with
      | none => rw [q] at h; cases h
      | some ra =>
        rw [q] at h; cases h
        obtain ⟨h1, h2⟩ := S X Γ 0 a ra G q
        exact ⟨s_not h1, fun _ => s_notT (h2 hn)⟩
    · cases h
  · rename_i a op b pos
    split at h
    · cases h
    · rename_i hm
      split at h
      · rename_i ra rb e1 e2
        cases h
        have hm : behindInMarks op b = false := by simpa using hm
        exact ⟨s_cmp (cop_ok G.hu op) hm (hce _ _ _ e1) (hce _ _ _ e2), fun _ => s_cmpT (cop_ok G.hu op) hm (hce _ _ _ e1) (hce _ _ _ e2)⟩
      · cases h
  · rename_i a o1 o2 b c pos
    split at h
    · cases h
    · rename_i hm
      split at h
      · rename_i ra rb rc e1 e2 e3
        cases h
        have hm : lastMarks [o1, o2] [b, c] = false := by simpa using hm
        exact ⟨s_chn (cop_ok G.hu o1) (cop_ok G.hu o2) hm (hce _ _ _ e1) (hce _ _ _ e2) (hce _ _ _ e3), fun _ => s_chnT (cop_ok G.hu o1) (cop_ok G.hu o2) hm (hce _ _ _ e1) (hce _ _ _ e2) (hce _ _ _ e3)⟩
      · cases h
  · obtain ⟨h1, h2⟩ := bool_ok (fun e r h => S X Γ 0 e r G h) h
    exact ⟨h1, fun _ => h2.pt⟩
  · rename_i c a b pos
    split at h
    · rename_i hn
      split at h
      · rename_i rc ra rb e1 e2 e3
        cases h
        exact ⟨s_ife ((S X Γ 0 c rc G e1).2 hn) (hce _ _ _ e2) (hce _ _ _ e3), fun z => by cases z⟩
      · cases h
    · cases h
  · rename_i es k0 pos
    cases q : dispE (ce Γ 0) (ce Γ 1) es with
    | none => rw [q] at h; cases h
    | some p => rw [q] at h; cases h; exact test_plain (s_tup (disp_ok (fun e r => hce 0 e r) (fun e r => hce 1 e r) q)) fun _ => rfl
  · rename_i es pos
    cases q : dispE (ce Γ 0) (ce Γ 1) es with
    | none => rw [q] at h; cases h
    | some p => rw [q] at h; cases h; exact test_plain (s_lst (disp_ok (fun e r => hce 0 e r) (fun e r => hce 1 e r) q)) fun _ => rfl
  · cases h; exact test_plain s_dct0 fun _ => rfl
  · split at h
    · rename_i rk rv e1 e2
      cases h
      exact test_plain (s_dct1 G.hu (hce _ _ _ e1) (hce _ _ _ e2)) fun _ => rfl
    · cases h
  · split at h
    · rename_i ra rl rh e1 e2 e3
      cases h
      exact test_plain (s_slc (hce _ _ _ e1) (opt_ok (fun e r => hce 0 e r) e2) (opt_ok (fun e r => hce 0 e r) e3)) fun _ => rfl
    · cases h
  · rename_i a i pos _
    split at h
    · rename_i hs
      split at h
      · rename_i ra ri e1 e2
        cases h
        refine test_plain (s_ix G.hu (hce _ _ _ e1) (hce _ _ _ e2) ?_) fun _ => rfl
        intro o i'
        cases i <;> first | rfl | cases hs
      · cases h
    · cases h
  · rename_i elt g scope pos
    split at h
    · rename_i ha
      obtain ⟨tg, iter, ifs, ia⟩ := g
      simp only at ha h
      subst ha
      obtain ⟨k, rs, t, rc, re, rfl, h1, h2, h3, h4, h5, h6, h7⟩ := comp_parts S G h
      exact test_plain (s_lc G.calm G.nd h1 h2 h3 h4 h5 h6 h7) fun _ => rfl
    · cases h
  · exact call_ok hce G h
  · exact meth_ok hce G h
  · cases h
theorem cE_ok (C : CallS) : ∀ n, SndE C (cE n)
  | 0 => fun X Γ m e r G h => by cases h
  | n + 1 => step_ok (cE_ok C n)
end Ev

/-! Ev, part V: the text means what the small language says: statements. -/
namespace Ev
open PySem PySem.Spec PyProof.Rows L2

def isStarE : Expr → Bool
  | .Starred _ _ => true
  | _ => false
/-- the names that a parallel assignment stores to from the right -/
def swPick (sc : Scope) (line : Nat) : Expr → Option Str
  | .Name id pos => if sc.names.lookup id == some .local && pos.line == line then some id else none
  | _ => none
def swNames (sc : Scope) (ts vs : List Expr) : Option (List Str) :=
  if !(ts.length == 2 || ts.length == 3) || vs.length != ts.length then none
  else if vs.any isStarE then none
  else if (ts.filterMap (swPick sc ((ts.head?.map (·.pos.line)).getD 0))).length != ts.length || (ts.filterMap (swPick sc ((ts.head?.map (·.pos.line)).getD 0))).eraseDups.length != (ts.filterMap (swPick sc ((ts.head?.map (·.pos.line)).getD 0))).length then none
  else if vs.all (foldedForSure 8) then none
  else some (ts.filterMap (swPick sc ((ts.head?.map (·.pos.line)).getD 0)))
theorem sw_eq {env : PySem.Env} {ts vs : List Expr} {k k2 : Nat} {p p2 : Pos} (hk : env.scope.kind = .function) (hc : (vs.all (constantsAlone 8) && !vs.all (foldedForSure 8)) = false) : swappedStores [.Tuple ts k p] (.Tuple vs k2 p2) env = pure (swNames env.scope ts vs) := by
  have hb : (env.blockKind != .function) = false := by
    have : env.blockKind = .function := by unfold Env.blockKind; rw [hk]; rfl
    rw [this]; rfl
  unfold swappedStores swNames
  simp only [hb, Bool.or_false]
  by_cases h1 : (!(ts.length == 2 || ts.length == 3) || vs.length != ts.length) = true
  · rw [if_pos h1, if_pos h1]
  rw [if_neg h1, if_neg h1]
  have e1 : (vs.any fun (e : Expr) => match e with | .Starred .. => true | _ => false) = vs.any isStarE := by congr 1
  by_cases h2 : vs.any isStarE = true
  · rw [if_pos h2]
    refine (if_pos (e1.trans h2)).trans ?_
    rfl
  rw [if_neg h2]
  refine (if_neg (fun z => h2 (e1.symm.trans z))).trans ?_
  show (if ((ts.filterMap (swPick env.scope ((ts.head?.map (·.pos.line)).getD 0))).length != ts.length || (ts.filterMap (swPick env.scope ((ts.head?.map (·.pos.line)).getD 0))).eraseDups.length != (ts.filterMap (swPick env.scope ((ts.head?.map (·.pos.line)).getD 0))).length) = true then pure none else _) = _
  by_cases h3 : ((ts.filterMap (swPick env.scope ((ts.head?.map (·.pos.line)).getD 0))).length != ts.length || (ts.filterMap (swPick env.scope ((ts.head?.map (·.pos.line)).getD 0))).eraseDups.length != (ts.filterMap (swPick env.scope ((ts.head?.map (·.pos.line)).getD 0))).length) = true
  · rw [if_pos h3, if_pos h3]
  rw [if_neg h3, if_neg h3]
  by_cases h4 : vs.all (foldedForSure 8) = true
  · rw [if_pos h4, if_pos h4]
  rw [if_neg h4, if_neg h4]
  have h5 : ¬ vs.all (constantsAlone 8) = true := fun z => by rw [z] at hc; simp at hc; exact h4 (by simpa using hc)
  rw [if_neg h5]
  rfl

/-! ### statements -/
/-- whether a comprehension's list goes straight to the name -/
def swB (Γ : Gam) (scope : Scope) (x : Str) (p2 pe : Pos) : Bool :=
  Γ.sc.names.lookup x == some .local && p2.line == pe.line && !(scope.names.any fun (n, k) => n == x && (k == .local || k == .cell))
def exprS (ce : CE) (Γ : Gam) : Expr → Option RS
  | .Constant (.str _) _ _ => some .pass
  | .Call (.Attribute (.Name x p) name apos) [a] [] cpos =>
    if name = "append" then
      if isVis Γ x && okN x && notStar a && (apos.endLine == cpos.line) then match ixOf Γ.N x, ce Γ 0 a with
        | some i, some r => some (.app i r)
        | _, _ => none
      else none
    else if name = "extend" then
      if isVis Γ x && okN x && notStar a && (apos.endLine == cpos.line) then match ixOf Γ.N x, ce Γ 2 a with
        | some i, some r => some (.ext i r)
        | _, _ => none
      else none
    else (ce Γ 1 (.Call (.Attribute (.Name x p) name apos) [a] [] cpos)).map .exp
  | e => if notLc e then (ce Γ 1 e).map .exp else none
def nmsE (Γ : Gam) : List Expr → Option (List Nat)
  | [] => some []
  | .Name x _ :: es => if isSto Γ x then match ixOf Γ.N x, nmsE Γ es with
      | some i, some is => some (i :: is)
      | _, _ => none
    else none
  | _ => none
def nmOf : Expr → Str
  | .Name x _ => x
  | _ => Str.empty
def distinct : List Nat → Bool
  | [] => true
  | i :: is => !is.contains i && distinct is
def parE (ce : CE) (Γ : Gam) (ts vs : List Expr) : Option RS :=
  if (vs.all (constantsAlone 8) && !vs.all (foldedForSure 8)) then none else
  match nmsE Γ ts, argsE (ce Γ 0) vs with
  | some is, some rs => match swNames Γ.sc ts vs with
    | none => if is.length ≤ 100 then some (.par is rs) else none
    | some names => if names = ts.map nmOf ∧ distinct is = true ∧ ts.all (fun t => Γ.sc.names.lookup (nmOf t) == some .local) = true ∧ ts.length = vs.length ∧ (ts.length = 2 ∨ ts.length = 3) then some (.par is rs) else none
  | _, _ => none
def augE : Operator → Option BOp
  | .Add => some .add
  | .Sub => some .sub
  | .Mult => some .mul
  | _ => none
def isTupV : Expr → Bool
  | .Tuple _ _ _ => true
  | _ => false
def asgE (ce : CE) (Γ : Gam) (tg e : Expr) (pos : Pos) : Option RS := match tg with
  | .Name x p2 => if isSto Γ x then match ixOf Γ.N x with
      | some i => match e with
        | .ListComp elt [g] scope pe => if g.is_async = 0 then
            if swB Γ scope x p2 pe then (compE ce Γ elt g.target g.iter g.ifs scope).map (.asg i)
            else (ce Γ 0 (.ListComp elt [g] scope pe)).map (.asg i)
          else none
        | e => if notLc e then (ce Γ 0 e).map (.asg i) else none
      | none => none
    else none
  | .Tuple ts kt pt => match e with
    | .Tuple vs k2 pt2 => parE ce Γ ts vs
    | e => match tgE Γ 9 (.Tuple ts kt pt), ce Γ 0 e with
      | some t, some r => some (.asgT t r)
      | _, _ => none
  | .Subscript (.Name x p) ix pt => if isVis Γ x && okN x && notSlice ix then match ixOf Γ.N x, ce Γ 0 ix, ce Γ 0 e with
      | some i, some rx, some r => some (.setix i rx r)
      | _, _, _ => none
    else none
  | _ => none
def stmtsE (cs : Stmt → Option RS) : List Stmt → Option (List RS)
  | [] => some []
  | s :: ss => match cs s, stmtsE cs ss with
    | some r, some rs => some (r :: rs)
    | _, _ => none
def stepS (ce : CE) (cs : Stmt → Option RS) (Γ : Gam) : Stmt → Option RS
  | .Pass _ => some .pass
  | .Break _ => some .brk
  | .Continue _ => some .cnt
  | .Return none _ => some .retN
  | .Return (some e) _ => (ce Γ 2 e).map .ret
  | .Raise _ _ _ => some .rais
  | .Expr e _ => exprS ce Γ e
  | .Assign [tg] e pos => asgE ce Γ tg e pos
  | .AugAssign (.Name x _) op e _ => if isSto Γ x then match ixOf Γ.N x, augE op, ce Γ 0 e with
      | some i, some o, some r => some (.aug i o r)
      | _, _, _ => none
    else none
  | .If c a b _ => if notIf c then match ce Γ 0 c, stmtsE cs a, stmtsE cs b with
      | some rc, some ra, some rb => some (.ifs rc ra rb)
      | _, _, _ => none
    else none
  | .For tg iter body [] _ => match iterE ce Γ tg iter, tgE Γ 9 tg, stmtsE cs body with
      | some (k, rs), some t, some rb => some (.loop k rs t rb)
      | _, _, _ => none
  | .While c body [] _ => if notIf c then match ce Γ 0 c, stmtsE cs body with
      | some rc, some rb => some (.whl rc rb)
      | _, _ => none
    else none
  | _ => none
def cS (ce : CE) (Γ : Gam) : Nat → Stmt → Option RS
  | 0 => fun _ => none
  | n + 1 => stepS ce (cS ce Γ n) Γ
def cSs (ce : CE) (Γ : Gam) (n : Nat) (ss : List Stmt) : Option (List RS) := stmtsE (cS ce Γ n) ss

section
variable {X : Cx} {Γ : Gam} {C : CallS} {ce : CE}
/-- in a def's body -/
structure Body (X : Cx) (Γ : Gam) : Prop where
  (own : PassesOwn (model X.prog X.w) X.A X.env X.xe) (kind : X.env.scope.kind = .function)
theorem stmts_ok {cs : Stmt → Option RS} (hcs : ∀ s r, cs s = some r → PS X s (tS X.w C r)) : ∀ {ss : List Stmt} {rs : List RS}, stmtsE cs ss = some rs → PSs X ss (tSs X.w C rs)
  | [], rs, h => by simp only [stmtsE, Option.some.injEq] at h; subst h; exact ss_nil
  | s :: ss, rs, h => by
    simp only [stmtsE] at h
    split at h
    · rename_i r rs' e1 e2
      cases h
      exact ss_cons (hcs s r e1) (stmts_ok hcs e2)
    · cases h
theorem sw_plain {e : Expr} {t : Option Expr} {l : Nat} {env : PySem.Env} (h : notLc e = true) : swapsWith e t l env = pure false := by
  cases e <;> first | rfl | cases h
theorem exprS_ok (S : SndE C ce) (G : Good X Γ C) {e : Expr} {r : RS} {pos : Pos} (h : exprS ce Γ e = some r) : PS X (.Expr e pos) (tS X.w C r) := by
  have hce : ∀ m e r, ce Γ m e = some r → PE X e (tE X.w C r) := fun m e r h => (S X Γ m e r G h).1
  unfold exprS at h
  split at h
  · cases h; exact s_doc
  · rename_i x p name apos a cpos
    split at h
    · rename_i hn
      subst hn
      split at h
      · rename_i hc
        simp only [Bool.and_eq_true] at hc
        obtain ⟨⟨⟨h1, h2⟩, h3⟩, h4⟩ := hc
        obtain ⟨hd, hcd⟩ := okN_d h2
        split at h
        · rename_i i r' e1 e2
          cases h
          exact s_app (G.at_ e1) (G.vis h1) hd hcd (hce _ _ _ e2) (base_of rfl) h3 h4 (sw_plain rfl)
        · cases h
      · cases h
    · split at h
      · rename_i hn
        subst hn
        split at h
        · rename_i hc
          simp only [Bool.and_eq_true] at hc
          obtain ⟨⟨⟨h1, h2⟩, h3⟩, h4⟩ := hc
          obtain ⟨hd, hcd⟩ := okN_d h2
          split at h
          · rename_i i r' e1 e2
            cases h
            exact s_ext (G.at_ e1) (G.vis h1) hd hcd (hce _ _ _ e2) (base_of rfl) h3 h4 (sw_plain rfl)
          · cases h
        · cases h
      · cases q : ce Γ 1 (.Call (.Attribute (.Name x p) name apos) [a] [] cpos) with
        | none => rw [q] at h; cases h
        | some r' => rw [q] at h; cases h; exact s_exp (hce _ _ _ q) (sw_plain rfl)
  · split at h
    · rename_i hn
      cases q : ce Γ 1 e with
      | none => rw [q] at h; cases h
      | some r' => rw [q] at h; cases h; exact s_exp (hce _ _ _ q) (sw_plain hn)
    · cases h
theorem nms_ok (G : Good X Γ C) : ∀ {es : List Expr} {is : List Nat}, nmsE Γ es = some is → PGs X es (gNames is) ∧ (assignEach es X.env).length = is.length ∧ (assignEach es X.env).findIdx? (·.1) = none
  | [], is, h => by simp only [nmsE, Option.some.injEq] at h; subst h; exact ⟨gs_nil, rfl, rfl⟩
  | e :: es, is, h => by
    cases e <;> first | (simp [nmsE] at h; done) | skip
    rename_i x p
    simp only [nmsE] at h
    split at h
    · rename_i hs
      split at h
      · rename_i i is' e1 e2
        cases h
        obtain ⟨h1, h2, h3⟩ := nms_ok G e2
        have hs' : assignEach (.Name x p :: es) X.env = (false, assign (.Name x p) X.env) :: assignEach es X.env := rfl
        refine ⟨gs_cons G.nd (G.at_ e1) (G.loc hs).1 (G.loc hs).2 h1 rfl, by rw [hs']; simp [h2], ?_⟩
        rw [hs', List.findIdx?_cons]
        simp only [Bool.false_eq_true, if_false, h3]
        rfl
      · cases h
    · cases h
theorem par_ok (S : SndE C ce) (G : Good X Γ C) (B : Body X Γ) {ts vs : List Expr} {r : RS} {kt k2 : Nat} {pt pt2 pos : Pos} (h : parE ce Γ ts vs = some r) : PS X (.Assign [.Tuple ts kt pt] (.Tuple vs k2 pt2) pos) (tS X.w C r) := by
  have hce : ∀ m e r, ce Γ m e = some r → PE X e (tE X.w C r) := fun m e r h => (S X Γ m e r G h).1
  unfold parE at h
  split at h
  · cases h
  · rename_i hcon
    split at h
    · rename_i is rs e1 e2
      obtain ⟨a1, a2⟩ := args_ok (fun e r => hce 0 e r) e2
      obtain ⟨n1, n2, n3⟩ := nms_ok G e1
      have sw := sw_eq (env := X.env) (ts := ts) (vs := vs) (k := kt) (k2 := k2) (p := pt) (p2 := pt2) B.kind (by simpa using hcon)
      rw [G.sc] at sw
      split at h
      · rename_i hsw
        split at h
        · rename_i hl
          cases h
          rw [hsw] at sw
          exact s_par G.calm (by omega) a1 n1 n2 n3 rfl sw rfl
        · cases h
      · rename_i names hsw
        split at h
        · rename_i hc
          obtain ⟨hn, hd, hloc, hl, h23⟩ := hc
          cases h
          rw [hsw, hn] at sw
          have nm : ∀ e ∈ ts, ∃ x p, e = .Name x p := by
            have : ∀ (es : List Expr) (is : List Nat), nmsE Γ es = some is → ∀ e ∈ es, ∃ x p, e = .Name x p := by
              intro es
              induction es with
              | nil => intro is _ e he; cases he
              | cons a es ih =>
                intro is h e he
                cases a <;> first | (simp [nmsE] at h; done) | skip
                rename_i x p
                simp only [nmsE] at h
                split at h
                · split at h
                  · rename_i i is' e1 e2
                    rcases List.mem_cons.mp he with rfl | he
                    · exact ⟨_, _, rfl⟩
                    · exact ih is' e2 e he
                  · cases h
                · cases h
            exact this ts is e1
          rcases h23 with h2 | h3
          · match ts, vs, h2, hl, is, e1, hd, hloc, sw, a1, nm with
            | [t1, t2], [v1, v2], _, _, is, e1, hd, hloc, sw, a1, nm =>
              obtain ⟨x, px, rfl⟩ := nm t1 (by simp)
              obtain ⟨y, py, rfl⟩ := nm t2 (by simp)
              simp only [nmsE] at e1
              split at e1
              · split at e1
                · rename_i i is1 q1 q2
                  cases e1
                  split at q2
                  · split at q2
                    · rename_i j is2 q3 q4
                      cases q4
                      cases q2
                      simp only [distinct, Bool.and_eq_true, Bool.not_eq_true', List.contains_cons, Bool.or_eq_false_iff, beq_eq_false_iff_ne] at hd
                      simp only [List.all_cons, List.all_nil, Bool.and_true, Bool.and_eq_true, beq_iff_eq, nmOf] at hloc
                      exact s_par2 G.calm G.nd (G.at_ q1) (G.at_ q3) hd.1.1 (by rw [G.sc]; exact hloc.1) (by rw [G.sc]; exact hloc.2) a1 sw rfl
                    · cases q2
                  · cases q2
                · cases e1
              · cases e1
          · match ts, vs, h3, hl, is, e1, hd, hloc, sw, a1, nm with
            | [t1, t2, t3], [v1, v2, v3], _, _, is, e1, hd, hloc, sw, a1, nm =>
              obtain ⟨x, px, rfl⟩ := nm t1 (by simp)
              obtain ⟨y, py, rfl⟩ := nm t2 (by simp)
              obtain ⟨z, pz, rfl⟩ := nm t3 (by simp)
              simp only [nmsE] at e1
              split at e1
              · split at e1
                · rename_i i is1 q1 q2
                  cases e1
                  split at q2
                  · split at q2
                    · rename_i j is2 q3 q4
                      cases q2
                      split at q4
                      · split at q4
                        · rename_i l is3 q5 q6
                          cases q6
                          cases q4
                          simp only [distinct, Bool.and_eq_true, Bool.not_eq_true', List.contains_cons, Bool.or_eq_false_iff, beq_eq_false_iff_ne] at hd
                          simp only [List.all_cons, List.all_nil, Bool.and_true, Bool.and_eq_true, beq_iff_eq, nmOf] at hloc
                          exact s_par3 G.calm G.nd (G.at_ q1) (G.at_ q3) (G.at_ q5) hd.1.1 hd.1.2.1 hd.2.1.1 (by rw [G.sc]; exact hloc.1) (by rw [G.sc]; exact hloc.2.1) (by rw [G.sc]; exact hloc.2.2) a1 sw rfl
                        · cases q4
                      · cases q4
                    · cases q2
                  · cases q2
                · cases e1
              · cases e1
        · cases h
    · cases h
theorem asg_ok (S : SndE C ce) (G : Good X Γ C) (B : Body X Γ) {tg e : Expr} {r : RS} {pos : Pos} (h : asgE ce Γ tg e pos = some r) : PS X (.Assign [tg] e pos) (tS X.w C r) := by
  have hce : ∀ m e r, ce Γ m e = some r → PE X e (tE X.w C r) := fun m e r h => (S X Γ m e r G h).1
  unfold asgE at h
  split at h
  · rename_i x p2
    split at h
    · rename_i hs
      split at h
      · rename_i i hi
        split at h
        · rename_i elt g scope pe
          split at h
          · rename_i ha
            obtain ⟨tg, iter, ifs, ia⟩ := g
            simp only at ha h
            subst ha
            have hsw : swapsWith (.ListComp elt [⟨tg, iter, ifs, 0⟩] scope pe) (some (.Name x p2)) pos.line X.env = pure (swB Γ scope x p2 pe) := by
              have hb : X.env.blockKind = .function := by unfold Env.blockKind; rw [B.kind]; rfl
              unfold swapsWith swB
              rw [← G.sc]
              simp only [hb]
              rfl
            split at h
            · rename_i hw
              rw [hw] at hsw
              cases q : compE ce Γ elt tg iter ifs scope with
              | none => rw [q] at h; cases h
              | some rc =>
                rw [q] at h
                cases h
                obtain ⟨k, rs, t, rc', re, rfl, h1, h2, h3, h4, h5, h6, h7⟩ := comp_parts S G q
                have hyl : X.env.scope.names.lookup x = some .local := by
                  unfold swB at hw
                  simp only [Bool.and_eq_true, beq_iff_eq] at hw
                  rw [G.sc]; exact hw.1.1
                exact s_setLc G.calm G.nd (G.at_ hi) hyl hsw h1 h2 h3 h4 h5 h6 h7
            · rename_i hw
              have hw : swB Γ scope x p2 pe = false := by simpa using hw
              rw [hw] at hsw
              cases q : ce Γ 0 (.ListComp elt [⟨tg, iter, ifs, 0⟩] scope pe) with
              | none => rw [q] at h; cases h
              | some rc =>
                rw [q] at h
                cases h
                exact s_asg G.nd (G.at_ hi) (G.loc hs).1 (hce _ _ _ q) hsw (G.loc hs).2
          · cases h
        · split at h
          · rename_i hn
            cases q : ce Γ 0 e with
            | none => rw [q] at h; cases h
            | some rc =>
              rw [q] at h
              cases h
              exact s_asg G.nd (G.at_ hi) (G.loc hs).1 (hce _ _ _ q) (sw_plain hn) (G.loc hs).2
          · cases h
      · cases h
    · cases h
  · rename_i ts kt pt
    split at h
    · exact par_ok S G B h
    · rename_i hne
      split at h
      · rename_i t r' e1 e2
        cases h
        refine s_asgT (hce _ _ _ e2) (tg_ok G 9 _ t e1) ?_ ?_ rfl
        · cases e <;> first | rfl | (exact absurd rfl (hne _ _ _))
        · cases e <;> first | rfl | (exact absurd rfl (hne _ _ _))
      · cases h
  · rename_i x p ix pt
    split at h
    · rename_i hc
      simp only [Bool.and_eq_true] at hc
      obtain ⟨⟨h1, h2⟩, h3⟩ := hc
      obtain ⟨hd, hcd⟩ := okN_d h2
      split at h
      · rename_i i rx r' e1 e2 e3
        cases h
        refine s_setix G.hu (G.at_ e1) (G.vis h1) hd hcd (hce _ _ _ e2) (hce _ _ _ e3) (fun v => ?_) ?_ ?_ rfl
        · cases ix <;> first | rfl | cases h3
        · cases e <;> rfl
        · cases e <;> rfl
      · cases h
    · cases h
  · cases h
theorem stepS_ok (S : SndE C ce) (G : Good X Γ C) (B : Body X Γ) {cs : Stmt → Option RS} (hcs : ∀ s r, cs s = some r → PS X s (tS X.w C r)) {s : Stmt} {r : RS} (h : stepS ce cs Γ s = some r) : PS X s (tS X.w C r) := by
  have hce : ∀ m e r, ce Γ m e = some r → PE X e (tE X.w C r) := fun m e r h => (S X Γ m e r G h).1
  unfold stepS at h
  split at h
  · cases h; exact s_pass
  · cases h; exact s_brk
  · cases h; exact s_cnt
  · cases h; exact s_retN
  · rename_i e pos
    cases q : ce Γ 2 e with
    | none => rw [q] at h; cases h
    | some r' => rw [q] at h; cases h; exact s_ret (hce _ _ _ q)
  · cases h; exact s_rais
  · exact exprS_ok S G h
  · exact asg_ok S G B h
  · rename_i x p op e pos
    split at h
    · rename_i hs
      split at h
      · rename_i i o r' e1 e2 e3
        cases h
        refine s_aug G.nd (G.at_ e1) (G.loc hs).1 (hce _ _ _ e3) (G.loc hs).2 ?_
        cases op <;> simp only [augE, Option.some.injEq] at e2 <;> first | (cases e2; done) | subst e2
        · exact aug_add
        · exact aug_sub
        · exact aug_mul
      · cases h
    · cases h
  · rename_i c a b pos
    split at h
    · rename_i hn
      split at h
      · rename_i rc ra rb e1 e2 e3
        cases h
        exact s_if ((S X Γ 0 c rc G e1).2 hn) (stmts_ok hcs e2) (stmts_ok hcs e3)
      · cases h
    · cases h
  · rename_i tg iter body pos
    split at h
    · rename_i k rs t rb e1 e2 e3
      cases h
      obtain ⟨h1, h2⟩ := iter_ok hce G e1
      exact s_for B.own G.calm h1 (tg_ok G 9 tg t e2) (stmts_ok hcs e3) h2
    · cases h
  · rename_i c body pos
    split at h
    · rename_i hn
      split at h
      · rename_i rc rb e1 e2
        cases h
        exact s_while B.own ((S X Γ 0 c rc G e1).2 hn) (stmts_ok hcs e2)
      · cases h
    · cases h
  · cases h
theorem cS_ok (S : SndE C ce) (G : Good X Γ C) (B : Body X Γ) : ∀ (n : Nat) (s : Stmt) (r : RS), cS ce Γ n s = some r → PS X s (tS X.w C r)
  | 0, s, r, h => by cases h
  | n + 1, s, r, h => stepS_ok S G B (cS_ok S G B n) h
theorem cSs_ok (S : SndE C ce) (G : Good X Γ C) (B : Body X Γ) {n : Nat} {ss : List Stmt} {rs : List RS} (h : cSs ce Γ n ss = some rs) : PSs X ss (tSs X.w C rs) := stmts_ok (cS_ok S G B n) h
end
end Ev

/-! Ev, part W: defs, all of them at once; the end of a law. -/
namespace Ev
open PySem PySem.Spec PyProof.Rows L2

theorem outsE_at : ∀ {io : List Bool} {ρ : Env} {os : List D}, outsE io ρ = some os → ∀ i : Nat, io[i]? = some true → ∃ d : D, ρ[i]? = some (.io d) ∧ (outE io os)[i]? = some (.io d)
  | [], _, _, h, i, hi => by simp at hi
  | true :: fs, .io d :: ρ, os, h, i, hi => by
    simp only [outsE] at h
    split at h
    · rename_i ds e
      cases h
      cases i with
      | zero => exact ⟨d, rfl, rfl⟩
      | succ i => simpa [outE] using outsE_at e i (by simpa using hi)
    · cases h
  | false :: fs, s :: ρ, os, h, i, hi => by
    simp only [outsE] at h
    cases i with
    | zero => simp at hi
    | succ i => simpa [outE] using outsE_at h i (by simpa using hi)
  | true :: fs, [], os, h, i, hi => by simp [outsE] at h
  | true :: fs, .no :: ρ, os, h, i, hi => by simp [outsE] at h
  | true :: fs, .sh _ :: ρ, os, h, i, hi => by simp [outsE] at h
  | true :: fs, .ow _ :: ρ, os, h, i, hi => by simp [outsE] at h
  | true :: fs, .lk _ :: ρ, os, h, i, hi => by simp [outsE] at h
  | false :: fs, [], os, h, i, hi => by simp [outsE] at h

section
variable {w : World} {Z : Addr → Prop} {H H' : Hp} {vs : List V} {fn : Fn} {ds : List D} {N : List Str}
theorem start_at {i : Nat} {v : V} (h : vs[i]? = some v) : (L2.start N vs)[i]? = some (some v) := by
  unfold L2.start
  have hl := (List.getElem?_eq_some_iff.mp h).1
  rw [List.getElem?_append_left (by simpa using hl)]
  simp [h]
theorem start_back {i : Nat} {v : V} (h : (L2.start N vs)[i]? = some (some v)) : vs[i]? = some v := by
  unfold L2.start at h
  by_cases hl : i < (vs.map some).length
  · rw [List.getElem?_append_left hl] at h
    exact map_back h
  · rw [List.getElem?_append_right (by omega)] at h
    rw [List.getElem?_replicate] at h
    split at h <;> simp at h
/-- ahead of a def's body -/
theorem full_at {i : Nat} {s : Sl} (hl : ds.length = fn.io.length) (h : (fullE fn ds)[i]? = some s) : (initE fn.io ds)[i]? = some s ∨ s = .no := by
  unfold fullE at h
  by_cases hi : i < (initE fn.io ds).length
  · rw [List.getElem?_append_left hi] at h; exact .inl h
  · rw [List.getElem?_append_right (by omega), List.getElem?_replicate] at h
    split at h
    · cases h; exact .inr rfl
    · cases h
theorem own_full (hl : ds.length = fn.io.length) {a : Addr} : OwnA (fullE fn ds) (L2.start N vs) a ↔ OwnA (initE fn.io ds) (vs.map some) a := by
  constructor
  · rintro ⟨i, s, e, o, v⟩
    rcases full_at hl e with h | h
    · exact ⟨i, s, h, o, map_at (start_back v)⟩
    · rw [h] at o; cases o
  · rintro ⟨i, s, e, o, v⟩
    refine ⟨i, s, ?_, o, start_at (map_back v)⟩
    unfold fullE
    rw [List.getElem?_append_left (List.getElem?_eq_some_iff.mp e).1]
    exact e
theorem mut_full (hl : ds.length = fn.io.length) {a : Addr} : MutA (fullE fn ds) (L2.start N vs) a ↔ MutA (initE fn.io ds) (vs.map some) a := by
  constructor
  · rintro ⟨i, s, e, o, v⟩
    rcases full_at hl e with h | h
    · exact ⟨i, s, h, o, map_at (start_back v)⟩
    · rw [h] at o; cases o
  · rintro ⟨i, s, e, o, v⟩
    refine ⟨i, s, ?_, o, start_at (map_back v)⟩
    unfold fullE
    rw [List.getElem?_append_left (List.getElem?_eq_some_iff.mp e).1]
    exact e
theorem Match.start (m : Match w Z (initE fn.io ds) (vs.map some) H) (hl : ds.length = fn.io.length) (hN : N.length = fn.ns) (hz : fn.io.length ≤ N.length) : Match w Z (fullE fn ds) (L2.start N vs) H := by
  have hlen := m.len
  rw [initE_len _ _ hl, List.length_map] at hlen
  have le : ∀ a, Ow Z (fullE fn ds) (L2.start N vs) a → Ow Z (initE fn.io ds) (vs.map some) a := fun a z => z.imp id (own_full hl).mp
  refine ⟨?_, m.zt, fun i s e => ?_, fun i j s t a ei ej si sj vi vj => ?_, fun a z => m.zo a ((own_full hl).mp z)⟩
  · unfold fullE L2.start
    rw [List.length_append, List.length_append, initE_len _ _ hl, List.length_replicate, List.length_replicate, List.length_map, hl, hN, hlen]
  · rcases full_at hl e with h | rfl
    · have k := (m.slot i s h).mono le (fun _ _ e _ => e) fun _ _ _ _ e => e
      cases hv : vs[i]? with
      | none =>
        have : (vs.map some)[i]? = none := by simp [hv]
        rw [this] at k
        cases s with
        | no => trivial
        | sh d => obtain ⟨v, e, _⟩ := k; cases e
        | ow d => obtain ⟨v, e, _⟩ := k; cases e
        | io d => obtain ⟨v, e, _⟩ := k; cases e
        | lk d => obtain ⟨v, e, _⟩ := k; cases e
      | some v =>
        rw [start_at hv, ← map_at hv]
        exact k
    · trivial
  · rcases full_at hl ei with h | rfl
    · rcases full_at hl ej with h' | rfl
      · exact m.ap i j s t a h h' si sj (map_at (start_back vi)) (map_at (start_back vj))
      · cases sj
    · cases si
/-- behind it -/
theorem ret_post {fr : Bool} {d : D} {os : List D} {ρ' : Env} {v : V} {σ' : St} (hl : ds.length = fn.io.length) (hv : vs.length = fn.io.length) (r : RetS w Z (fullE fn ds) (L2.start N vs) H fr d ρ' v σ' H') (ho : outsE fn.io ρ' = some os) :
    PostC w Z fn.io ds vs H fr d os v H' := by
  have at_ := outsE_at ho
  have σeq : ∀ i : Nat, fn.io[i]? = some true → σ'[i]? = (L2.start N vs)[i]? := fun i hi => by
    obtain ⟨d0, e0⟩ := initE_true hl hi
    have e1 : (fullE fn ds)[i]? = some (.io d0) := by
      unfold fullE
      rw [List.getElem?_append_left (List.getElem?_eq_some_iff.mp e0).1]
      exact e0
    exact (r.st.io i d0 e1).2
  have vat : ∀ i : Nat, fn.io[i]? = some true → ∃ u, vs[i]? = some u := fun i hi => by
    have : i < vs.length := by rw [hv]; exact (List.getElem?_eq_some_iff.mp hi).1
    exact ⟨vs[i], by simp [this]⟩
  have slot : ∀ (i : Nat) (s : Sl), (outE fn.io os)[i]? = some s → isOwn s = true → ρ'[i]? = some s ∧ σ'[i]? = (vs.map some)[i]? := fun i s e o => by
    rcases outE_at e with rfl | ⟨hi, d0, rfl⟩
    · cases o
    · obtain ⟨d1, e1, e2⟩ := at_ i hi
      rw [e] at e2
      cases e2
      obtain ⟨u, hu⟩ := vat i hi
      exact ⟨e1, by rw [σeq i hi, start_at hu, map_at hu]⟩
  have own' : ∀ a, OwnA (outE fn.io os) (vs.map some) a → OwnA ρ' σ' a := fun a ⟨i, s, e, o, v⟩ => by
    obtain ⟨h1, h2⟩ := slot i s e o
    exact ⟨i, s, h1, o, by rw [h2]; exact v⟩
  have le : ∀ (Z' : Addr → Prop) a, Ow Z' (outE fn.io os) (vs.map some) a → Ow Z' ρ' σ' a := fun Z' a z => z.imp id (own' a)
  refine ⟨⟨by rw [outE_len, List.length_map, hv], r.m.zt, fun i s e => ?_, fun i j s t a ei ej si sj vi vj => ?_, fun a z => r.m.zo a (own' a z)⟩, fun i hi => ?_, ⟨fun a u e n => r.st.kp a u e fun z => n ((mut_full hl).mp z), r.st.trk⟩, ?_⟩
  · cases ho' : isOwn s with
    | false =>
      rcases outE_at e with rfl | ⟨_, d0, rfl⟩
      · trivial
      · cases ho'
    | true =>
      obtain ⟨h1, h2⟩ := slot i s e ho'
      have k := (r.m.slot i s h1).mono (le _) (fun _ _ e _ => e) fun _ _ _ _ e => e
      rw [h2] at k
      exact k
  · obtain ⟨h1, h2⟩ := slot i s ei si
    obtain ⟨h3, h4⟩ := slot j t ej sj
    exact r.m.ap i j s t a h1 h3 si sj (by rw [h2]; exact vi) (by rw [h4]; exact vj)
  · obtain ⟨d1, _, e2⟩ := at_ i hi
    exact ⟨d1, e2⟩
  · have q := r.res
    cases fr with
    | false => exact Rep.mono (H := H') (le Z) (fun _ _ e _ => e) q
    | true =>
      obtain ⟨a, e, n, nw, t⟩ := q
      exact ⟨a, e, fun z => n (le Z a z), nw.imp_right (mut_full hl).mp, t.mono (fun b z => z.imp (le Z b) id) (fun _ _ e _ => e) fun _ e => e⟩
end

/-! ### the defs of a text -/
/-- what is compiled of a def -/
def gamF (fns : List (Str × Nat × List Bool)) (cst : List (Str × Int)) (blt : List Str) (N : List Str) (st : Stmt) : Gam := ⟨N, C8.fnScope st, none, fns, cst, blt⟩
def cDef (fns : List (Str × Nat × List Bool)) (cst : List (Str × Int)) (blt : List Str) (N : List Str) (st : Stmt) : Option (List RS) := cSs (cE 40) (gamF fns cst blt N st) 40 (C8.fnBody st)
structure DefI (K : PySem.W.Frag) (mg : Str → Option Value) (fns : List (Str × Nat × List Bool)) (cst : List (Str × Int)) (blt : List Str) (tab : Nat → Option Fn) (x : Str) (j : Nat) (io : List Bool) (f : Addr) (fd : FuncData) (ps : List Str) : Prop where
  ex : ∃ (st : Stmt) (N : List Str) (fn : Fn), C8.Def K mg x st f fd ∧ L2.Binds K fd ps [] ∧ FnScope N ps (C8.fnScope st) ∧ tab j = some fn ∧ fn.io = io ∧ N.length = fn.ns ∧ ps.length = io.length ∧ io.length ≤ N.length ∧ cDef fns cst blt N st = some fn.body
section
variable {P : Program} {w : World} {K : PySem.W.Frag} {mg : Str → Option Value} {base : Heap} {fns : List (Str × Nat × List Bool)} {cst : List (Str × Int)} {blt : List Str} {tab : Nat → Option Fn}
theorem spF_len {C : CallS} {j : Nat} {io : List Bool} {vs : List V} {H : Hp} {Q : VK} {E : XK} (h : spF w C j io vs H Q E) : vs.length = io.length := by
  obtain ⟨Z, ds, fr, d, outs, m, hl, _⟩ := h
  have := m.len
  rw [initE_len _ _ hl, List.length_map] at this
  exact this.symm
theorem defs_ok (hc : ∀ x i, cst.lookup x = some i → ∃ u, mg x = some u ∧ RelV (.int i) u) (hb : ∀ x, blt.contains x = true → mg x = none)
    (hf : ∀ x j io, fns.lookup x = some (j, io) → ∃ f fd ps, DefI K mg fns cst blt tab x j io f fd ps) : ∀ (n : Nat) (x : Str) (j : Nat) (io : List Bool) (f : Addr) (fd : FuncData) (ps : List Str), DefI K mg fns cst blt tab x j io f fd ps → FnOk P w K mg base C8.CX0 n f fd ps (spF w (callF tab n) j io)
  | 0, x, j, io, f, fd, ps, D => by
    obtain ⟨st, N, fn, F, B, S, t, e1, e2, e3, e4, e5⟩ := D.ex
    have no : ∀ vs H Q E, ¬ spF w (callF tab 0) j io vs H Q E := fun vs H Q E h => by
      obtain ⟨Z, ds, fr, d, outs, m, hl, hC, _⟩ := h
      cases hC
    exact ⟨fun vs H Q E h => (no vs H Q E h).elim, fun A outer s H args us vs Q E _ _ _ _ h => (no vs H Q E h).elim⟩
  | n + 1, x, j, io, f, fd, ps, D => by
    obtain ⟨st, N, fn, F, B, S, t, e1, e2, e3, e4, e5⟩ := D.ex
    subst e1
    refine C8.fn0 F.fn S (fun vs H Q E h => by rw [spF_len h, e3]) fun cdv A outer s H vs Q E hr h => ?_
    have hvl := spF_len h
    obtain ⟨Z, ds, fr, d, outs, m, hl, hC, k⟩ := h
    refine ⟨tSs w (callF tab n) fn.body, cSs_ok (ce := cE 40) (Γ := gamF fns cst blt N st) (n := 40) (cE_ok _ 40) ?_ ?_ e5, ?_⟩
    · refine ⟨rfl, rfl, S.nd, rfl, ?_, fun x => rfl, fun x' j' io' h' => ?_, hc, hb⟩
      · have := hr.un
        show (A.deeper _).units + 200 < cLine
        omega
      · obtain ⟨f', fd', ps', D'⟩ := hf x' j' io' h'
        obtain ⟨st', N', fn', F', B', _⟩ := D'.ex
        exact ⟨f', fd', ps', n, defs_ok hc hb hf n x' j' io' f' fd' ps' D', hr, F'.mgf, F'.kp, B'⟩
    · exact ⟨PassesOwn.never, S.kind⟩
    · have hC : (match tab j with
        | none => none
        | some fn => if ds.length = fn.io.length then finF fn (evSs (callF tab n) fn.body (fullE fn ds)) else none) = some (fr, d, outs) := hC
      rw [t] at hC
      simp only [hl, if_true] at hC
      refine ⟨Z, fullE fn ds, m.start hl e2 e4, ?_⟩
      cases q : evSs (callF tab n) fn.body (fullE fn ds) with
      | none => rw [q] at hC; cases hC
      | some r =>
        rw [q] at hC
        cases r with
        | nx ρ' =>
          simp only [finF] at hC
          split at hC
          · rename_i os ho
            cases hC
            intro σ' H' m' s'
            exact k .non H' (ret_post hl hvl ⟨m', s', (rep_non : Rep w (Ow Z ρ' σ') H' .non .non)⟩ ho)
          · cases hC
        | rt fr' d' ρ' =>
          simp only [finF] at hC
          split at hC
          · rename_i os ho
            cases hC
            intro v σ' H' r
            exact k v H' (ret_post hl hvl r ho)
          · cases hC
        | bk ρ' => cases hC
        | ct ρ' => cases hC
end
end Ev

/-! Ev, part Y: the end of a law. -/
namespace Ev
open PySem PySem.Spec PyProof.Rows L2

theorem mem_of_lookup' {α : Type} : ∀ {l : List (Str × α)} {x : Str} {a : α}, l.lookup x = some a → (x, a) ∈ l
  | [], x, a, h => by cases h
  | (y, b) :: l, x, a, h => by
    rw [List.lookup_cons] at h
    split at h
    · rename_i e
      cases h
      have : x = y := by simpa using e
      subst this
      exact List.mem_cons_self
    · exact List.mem_cons_of_mem _ (mem_of_lookup' h)
theorem all_nil {α : Type} {P : α → Prop} : ∀ p ∈ ([] : List α), P p := fun p h => by cases h
theorem all_cons {α : Type} {P : α → Prop} {a : α} {l : List α} (h : P a) (t : ∀ p ∈ l, P p) : ∀ p ∈ a :: l, P p := fun p hp => by
  rcases List.mem_cons.mp hp with rfl | hp
  · exact h
  · exact t p hp
/-- a def, by what the top has written -/
theorem def_mk {K : PySem.W.Frag} {mg : Str → Option Value} {h : Heap} {fns : List (Str × Nat × List Bool)} {cst : List (Str × Int)} {blt : List Str} {tab : Nat → Option Fn} {x : Str} {j : Nat} {st : Stmt} {N ps : List Str} {fn : Fn} {f : Addr}
    {oc kV dc pm cd ct : Value} {od an : Option Addr} {sl : Array (Option Value)} (KX : K.In h) (G : h.Ns mainGlobals mg)
    (a : PySem.W.nsIn K mainGlobals x = some (some (.ref f))) (l : K.lookup f = some ⟨oc, od, .func (PySem.W.fnOf x x (C8.fnArgs st) (C8.fnBody st) (C8.fnScope st) .none kV dc pm an cd ct), sl⟩) (c : PySem.W.codeIn K cd x = true) (k : PySem.W.keepIn K (.ref f) = true)
    (hb : ∀ (kV doc pm : Value) (an : Option Addr) (cdv ct : Value) (us : List Value), us.length = ps.length → bindArgs (PySem.W.fnOf x x (C8.fnArgs st) (C8.fnBody st) (C8.fnScope st) .none kV doc pm an cdv ct) ⟨us, []⟩ = pure (ps.zip us))
    (S : C8.scC N ps (C8.fnScope st) = true) (t : tab j = some fn) (q : (decide (N.length = fn.ns) && decide (ps.length = fn.io.length) && decide (fn.io.length ≤ N.length)) = true) (cc : cDef fns cst blt N st = some fn.body) :
    DefI K mg fns cst blt tab x j fn.io f (PySem.W.fnOf x x (C8.fnArgs st) (C8.fnBody st) (C8.fnScope st) .none kV dc pm an cd ct) ps := by
  simp only [Bool.and_eq_true, decide_eq_true_eq] at q
  have F : C8.Fun K x x st f (PySem.W.fnOf x x (C8.fnArgs st) (C8.fnBody st) (C8.fnScope st) .none kV dc pm an cd ct) := ⟨_, _, _, _, _, _, _, _, _, _, rfl, l, c⟩
  exact ⟨st, N, fn, ⟨F, PySem.W.mg_of KX G a, k⟩, F.binds rfl hb, C8.fnScope_by S, t, rfl, q.1.1, q.1.2, q.2, cc⟩
/-- no list lies in the written part -/
def noLst (K : PySem.W.Frag) : Bool := K.all fun p => !(p.2.cls == .type "list")
theorem mem_of_lk {α : Type} : ∀ {l : List (Addr × α)} {x : Addr} {a : α}, l.lookup x = some a → (x, a) ∈ l
  | [], x, a, h => by cases h
  | (y, b) :: l, x, a, h => by
    rw [List.lookup_cons] at h
    split at h
    · rename_i e
      cases h
      have : x = y := by simpa using e
      subst this
      exact List.mem_cons_self
    · exact List.mem_cons_of_mem _ (mem_of_lk h)
theorem noLst_at {K : PySem.W.Frag} (h : noLst K = true) {a : Addr} {o : Obj} (e : K.lookup a = some o) : o.cls ≠ .type "list" := fun z => by
  have hm : (a, o) ∈ K := mem_of_lk e
  have := List.all_eq_true.mp h _ hm
  rw [z] at this
  simp at this
theorem ints_rep {w : World} {O : Addr → Prop} {H : Hp} : ∀ ns : List Int, Reps w O H (ns.map .int) (ns.map V.int)
  | [] => .nil
  | n :: ns => .cons (by simp [Rep]) (ints_rep ns)
theorem law_sp {w : World} {K : PySem.W.Frag} {tab : Nat → Option Fn} {n j : Nat} {H : Hp} {a : Addr} {ns : List Int} {E : XK} (hK : noLst K = true) (hS : SqL K H a (ns.map V.int)) (ev : ∃ fr outs, callF tab n j [.lst (ns.map .int)] = some (fr, .bl true, outs)) :
    spF w (callF tab n) j [false] [.ref a] H (fun v _ => v = .bl true) E := by
  obtain ⟨fr, outs, e⟩ := ev
  have hr : Rd H a (.lst (ns.map V.int)) := by
    rcases hS with h | ⟨o, its, m, h1, h2, _⟩
    · exact h
    · exact absurd h2 (noLst_at hK h1)
  have own : ∀ b, ¬ OwnA (initE [false] [.lst (ns.map .int)]) ([V.ref a].map some) b := fun b ⟨i, s, e, o, v⟩ => by
    obtain ⟨d, _, ⟨h, rfl⟩ | ⟨h, rfl⟩⟩ := initE_at e
    · cases i <;> simp at h
    · cases o
  refine ⟨fun _ => False, [.lst (ns.map .int)], fr, .bl true, outs, ⟨rfl, fun b z => z.elim, fun i s e => ?_, fun i j s t b ei _ si _ _ _ => ?_, fun b z => (own b z).elim⟩, rfl, e, fun v H' p => ?_⟩
  · cases i with
    | zero =>
      simp [initE] at e
      subst e
      refine ⟨.ref a, rfl, ?_⟩
      unfold Rep
      exact ⟨a, _, rfl, fun z => z.elim id (own a), hr, ints_rep ns⟩
    | succ i => simp [initE] at e
  · obtain ⟨d, _, ⟨h, rfl⟩ | ⟨h, rfl⟩⟩ := initE_at ei
    · cases i <;> simp at h
    · cases si
  · have q := p.res
    cases fr with
    | false =>
      have q : Rep w (Ow (fun _ => False) (outE [false] outs) ([V.ref a].map some)) H' (.bl true) v := q
      simpa [Rep] using q
    | true =>
      obtain ⟨b, _, _, _, r⟩ := q
      exact r.elim
/-- what the top has written, for a law -/
structure TopI (K : PySem.W.Frag) (mg : Str → Option Value) (fns : List (Str × Nat × List Bool)) (cst : List (Str × Int)) (blt : List Str) (tab : Nat → Option Fn) (j : Nat) (x : Str) (fa : Addr) : Prop where
  nl : noLst K = true
  csts : ∀ p ∈ cst, ∃ u, mg p.1 = some u ∧ RelV (.int p.2) u
  blts : ∀ p ∈ blt, mg p = none
  defs : ∀ p ∈ fns, ∃ f fd ps, DefI K mg fns cst blt tab p.1 p.2.1 p.2.2 f fd ps
  law : ∃ fd, DefI K mg fns cst blt tab "law" j [false] fa fd [x] ∧ ∀ (s : Shared) (u : Value), BindsTo s fd ⟨[u], []⟩ [(x, u)]
theorem walkEv {l : PySem.W.OpenLaw} {q : Program} {loose : List Str} {XP : (Str → Option Value) → Heap → Prop} {YP : World → Heap → Prop} {d : DefRec} {K : Params → PySem.W.Frag} {fns : List (Str × Nat × List Bool)} {cst : List (Str × Int)} {blt : List Str} {tab : Nat → Option Fn} {j : Nat} {x : Str}
    (ev : ∀ ns : List Int, ns.length ≤ 63 → ∃ fr outs, callF tab 200 j [.lst (ns.map .int)] = some (fr, .bl true, outs)) (hn : l.most = some 63) (hdf : d.params.defaults = [])
    (hY : ∀ (w : World) (h : Heap), YP w h → (K w.params).In h)
    (F : ∀ (w : World) (mg : Str → Option Value) (fa : Addr) (h : Heap), (K w.params).In h → h.Ns mainGlobals mg → mg d.name = some (.ref fa) → TopI (K w.params) mg fns cst blt tab j x fa) : PySem.W.WalkO q loose XP YP l.row.toRowW d [] (fun f vs => PySem.call f vs) := by
  refine L2.walk_of (n := 63) (k := 200) (x := x) (CX := fun _ => C8.CX0) (sp := fun w => fun vs H Q E => noLst (K w.params) = true → spF w (callF tab 200) j [false] vs H Q E) hn (by decide) hdf ⟨rfl, by decide, by decide⟩ hY (fun w mg fa h KX G hmg => ?_) (fun w H a ns hl _ hS => ?_) fun _ _ _ _ _ z => z
  · have T := F w mg fa h KX G hmg
    obtain ⟨fd, D, hb⟩ := T.law
    refine ⟨fd, hb, fun base _ _ => (defs_ok (fun y i e => T.csts _ (mem_of_lookup' e)) (fun y e => T.blts y (by simpa using e)) (fun y j' io e => T.defs _ (mem_of_lookup' e)) 200 "law" j [false] fa fd [x] D).imp fun vs H Q E h => h T.nl⟩
  · exact fun hK => law_sp hK hS (ev ns hl)
end Ev

/-! Ev, part Z: plain rules about the evaluator: loops, comprehensions. -/
namespace Ev
open PySem

/-- a loop whose body always goes on -/
theorem forLoop_inv {t : Tgt} {body : EvS} {items : List D} (Inv : List D → Env → Prop)
    (hs : ∀ pre d post, items = pre ++ d :: post → ∀ ρ, Inv pre ρ → ∃ ρ1 ρ2, bindT t d ρ = some ρ1 ∧ (body ρ1 = some (.nx ρ2) ∨ body ρ1 = some (.ct ρ2)) ∧ Inv (pre ++ [d]) ρ2) {ρ : Env} (h0 : Inv [] ρ) :
    ∃ ρ', forLoop t body items ρ = some (.nx ρ') ∧ Inv items ρ' := by
  have go : ∀ (post pre : List D) (ρ : Env), items = pre ++ post → Inv pre ρ → ∃ ρ', forLoop t body post ρ = some (.nx ρ') ∧ Inv items ρ' := by
    intro post
    induction post with
    | nil =>
      intro pre ρ e h
      rw [List.append_nil] at e
      subst e
      exact ⟨ρ, rfl, h⟩
    | cons d post ih =>
      intro pre ρ e h
      obtain ⟨ρ1, ρ2, e1, e2, h2⟩ := hs pre d post e ρ h
      obtain ⟨ρ', e3, h3⟩ := ih (pre ++ [d]) ρ2 (by rw [e]; simp) h2
      refine ⟨ρ', ?_, h3⟩
      unfold forLoop
      rw [e1]
      rcases e2 with e2 | e2
      · simp only [e2]; exact e3
      · simp only [e2]; exact e3
  exact go items [] ρ rfl h0
/-- a loop that may end early: each item goes on, or ends it -/
theorem forLoop_end {t : Tgt} {body : EvS} {items : List D} (Inv : List D → Env → Prop) (Q : SR → Prop)
    (hs : ∀ pre d post, items = pre ++ d :: post → ∀ ρ, Inv pre ρ → ∃ ρ1, bindT t d ρ = some ρ1 ∧ ((∃ ρ2, (body ρ1 = some (.nx ρ2) ∨ body ρ1 = some (.ct ρ2)) ∧ Inv (pre ++ [d]) ρ2) ∨ (∃ ρ2, body ρ1 = some (.bk ρ2) ∧ Q (.nx ρ2)) ∨ ∃ fr x ρ2, body ρ1 = some (.rt fr x ρ2) ∧ Q (.rt fr x ρ2)))
    (hd : ∀ ρ, Inv items ρ → Q (.nx ρ)) {ρ : Env} (h0 : Inv [] ρ) : ∃ r, forLoop t body items ρ = some r ∧ Q r := by
  have go : ∀ (post pre : List D) (ρ : Env), items = pre ++ post → Inv pre ρ → ∃ r, forLoop t body post ρ = some r ∧ Q r := by
    intro post
    induction post with
    | nil =>
      intro pre ρ e h
      rw [List.append_nil] at e
      subst e
      exact ⟨_, rfl, hd ρ h⟩
    | cons d post ih =>
      intro pre ρ e h
      obtain ⟨ρ1, e1, c⟩ := hs pre d post e ρ h
      unfold forLoop
      rw [e1]
      rcases c with ⟨ρ2, e2, h2⟩ | ⟨ρ2, e2, h2⟩ | ⟨fr, x, ρ2, e2, h2⟩
      · obtain ⟨r, e3, h3⟩ := ih (pre ++ [d]) ρ2 (by rw [e]; simp) h2
        rcases e2 with e2 | e2
        · simp only [e2]; exact ⟨r, e3, h3⟩
        · simp only [e2]; exact ⟨r, e3, h3⟩
      · simp only [e2]; exact ⟨_, rfl, h2⟩
      · simp only [e2]; exact ⟨_, rfl, h2⟩
  exact go items [] ρ rfl h0
/-- a comprehension that changes nothing: the turns -/
theorem compLoop_pure {t : Tgt} {own : List Nat} {conds : Env → Option (Bool × Env)} {elt : EvE} {ρw : Env} (p : D → Bool) (f : D → D) : ∀ (items : List D) (ρ : Env) (acc : List D), wipeE ρ own = ρw →
    (∀ d ∈ items, ∃ ρ1, bindT t d ρw = some ρ1 ∧ conds ρ1 = some (p d, ρ1) ∧ (p d = true → ∃ fr, elt ρ1 = some (.val fr (f d), ρ1)) ∧ wipeE ρ1 own = ρw) → wipeE ρw own = ρw → acc.length + items.length ≤ 16777216 →
    ∃ ρe, compLoop t own conds elt items ρ acc = some (acc ++ (items.filter p).map f, ρe) ∧ wipeE ρe own = ρw
  | [], ρ, acc, hw, _, _, _ => ⟨ρ, by simp [compLoop], hw⟩
  | d :: items, ρ, acc, hw, h, hww, hl => by
    obtain ⟨ρ1, e1, e2, e3, e4⟩ := h d List.mem_cons_self
    unfold compLoop
    rw [hw, e1]
    simp only [e2]
    cases hp : p d with
    | true =>
      obtain ⟨fr, e5⟩ := e3 hp
      simp only [e5, toVal]
      rw [if_pos (by simp at hl; omega)]
      obtain ⟨ρe, q, qw⟩ := compLoop_pure p f items (wipeE ρ1 own) (acc ++ [f d]) (by rw [e4, hww]) (fun x hx => h x (List.mem_cons_of_mem _ hx)) hww (by simp at hl ⊢; omega)
      exact ⟨ρe, by rw [q]; simp [hp], qw⟩
    | false =>
      obtain ⟨ρe, q, qw⟩ := compLoop_pure p f items (wipeE ρ1 own) acc (by rw [e4, hww]) (fun x hx => h x (List.mem_cons_of_mem _ hx)) hww (by simp at hl ⊢; omega)
      exact ⟨ρe, by simp only [q]; simp [hp], qw⟩
/-- .. its end: the env is as it was -/
theorem back_wipe {ρ ρe : Env} {own : List Nat} (h : wipeE ρe own = wipeE ρ own) : backE ρe ρ own = ρ := by
  have l : ρe.length = ρ.length := by
    have := congrArg List.length h
    rwa [wipeE_len, wipeE_len] at this
  apply List.ext_getElem?
  intro i
  by_cases hi : i ∈ own
  · exact backE_in l hi
  · rw [backE_out hi, ← wipeE_out (ρ := ρe) hi, h, wipeE_out hi]

theorem wipe_idem {ρ : Env} {own : List Nat} : wipeE (wipeE ρ own) own = wipeE ρ own := wipeE_idem
theorem unlock_lock (ρ : Env) (os : List OV) : unlockE ρ (lockE ρ os) os = ρ := by
  apply List.ext_getElem?
  intro j
  have l1 : (unlockE ρ (lockE ρ os) os).length = ρ.length := by rw [unlock_len, lock_len]
  by_cases hj : j < ρ.length
  · have et : (unlockE ρ (lockE ρ os) os)[j]? = some (unlockE ρ (lockE ρ os) os)[j] := by simp [l1, hj]
    have es : ρ[j]? = some ρ[j] := by simp [hj]
    rcases unlock_at os ρ (lockE ρ os) j _ et with ⟨h1, h2⟩ | ⟨_, h2, _⟩
    · rcases lock_at os ρ j _ es with ⟨_, q⟩ | ⟨hm, ⟨ms, _⟩ | ⟨_, q⟩⟩
      · rw [et, ← h1, q, es]
      · rw [h2 hm _ es] at ms; cases ms
      · rw [et, ← h1, q, es]
    · rw [et, ← h2]
  · rw [List.getElem?_eq_none (by omega), List.getElem?_eq_none (by omega)]
/-- a comprehension that changes nothing -/
theorem comp_pure {C : CallS} {k : IK} {srcs : List RE} {t : Tgt} {own : List Nat} {conds : List RE} {elt : RE} {ρ ρ1 : Env} {os : List OV} {ds items : List D} (p : D → Bool) (f : D → D) (e1 : evL C srcs ρ = some (os, ρ1)) (e2 : rds ρ1 os = some ds) (e3 : itD k ds = some items)
    (ho : own.all (fun i => !ownS ρ1 i) = true)
    (h : ∀ d ∈ items, ∃ ρ2, bindT t d (wipeE (lockE ρ1 os) own) = some ρ2 ∧ evC C conds ρ2 = some (p d, ρ2) ∧ (p d = true → ∃ fr, evE C elt ρ2 = some (.val fr (f d), ρ2)) ∧ wipeE ρ2 own = wipeE (lockE ρ1 os) own) (hl : items.length ≤ 16777216) :
    evE C (.comp k srcs t own conds elt) ρ = some (.val true (.lst ((items.filter p).map f)), ρ1) := by
  obtain ⟨ρe, q, qw⟩ := compLoop_pure (t := t) (conds := evC C conds) (elt := evE C elt) p f items (lockE ρ1 os) [] rfl h wipe_idem (by simpa using hl)
  simp only [evE, e1, e2, e3, ho, if_true, q, List.nil_append]
  congr 3
  have b : backE ρe ρ1 own = lockE ρ1 os := by
    have l : ρe.length = ρ1.length := by
      have := congrArg List.length qw
      rw [wipeE_len, wipeE_len, lock_len] at this
      exact this
    apply List.ext_getElem?
    intro i
    by_cases hi : i ∈ own
    · rw [backE_in l hi]
      cases hs : ρ1[i]? with
      | none => exact (List.getElem?_eq_none (by rw [lock_len]; exact List.getElem?_eq_none_iff.mp hs)).symm
      | some s =>
        rcases lock_at os ρ1 i s hs with ⟨_, q⟩ | ⟨_, ⟨ms, _⟩ | ⟨_, q⟩⟩
        · exact q.symm
        · have := List.all_eq_true.mp ho i hi
          unfold ownS at this
          rw [hs] at this
          simp only [isMut_own ms] at this
          cases this
        · exact q.symm
    · rw [backE_out hi, ← wipeE_out (ρ := ρe) hi, qw, wipeE_out hi]
  rw [b, unlock_lock]
end Ev

/-! L0: runs of the evaluator: data that stand for plain things, and the words of a run. -/
namespace Lw
open PySem Ev

/-! ### plain things as data -/
/-- e tells things apart, and comparable ones -/
structure Enc {α : Type} [DecidableEq α] (e : α → D) : Prop where
  eq : ∀ a b, eqD (e a) (e b) = decide (a = b)
  flat : ∀ a, flatD (e a) = true
  alike : ∀ a b, alikeD (e a) (e b) = true
/-- the depth is small -/
def Dep {α : Type} (e : α → D) (k : Nat) : Prop := ∀ a, depD (e a) ≤ k
section
variable {α β : Type} [DecidableEq α] [DecidableEq β] {e : α → D} {f : β → D}
theorem Enc.inj (h : Enc e) {a b : α} (x : e a = e b) : a = b := by
  have y := h.eq a b
  rw [x, h.eq b b] at y
  simpa using y
theorem Enc.okD (h : Enc e) {k : Nat} (d : Dep e k) (hk : k ≤ 64) (a : α) : Ev.okD (e a) = true := by
  simp only [Ev.okD, h.flat, Bool.true_and, decide_eq_true_eq]
  exact Nat.le_trans (d a) hk
theorem Enc.inD (h : Enc e) (x : α) : ∀ l : List α, Ev.inD (e x) (l.map e) = decide (x ∈ l)
  | [] => by simp [Ev.inD]
  | y :: l => by
    simp only [List.map_cons, Ev.inD, h.eq, Enc.inD h x l, List.mem_cons, Bool.decide_or]
    by_cases c : y = x
    · simp [c]
    · simp [c, Ne.symm c]
theorem Enc.eqs (h : Enc e) : ∀ l m : List α, eqDs (l.map e) (m.map e) = decide (l = m)
  | [], [] => by simp [eqDs]
  | [], _ :: _ => by simp [eqDs]
  | _ :: _, [] => by simp [eqDs]
  | x :: l, y :: m => by simp [eqDs, h.eq, Enc.eqs h l m, Bool.decide_and]
theorem Enc.flats (h : Enc e) : ∀ l : List α, flatDs (l.map e) = true
  | [] => rfl
  | x :: l => by simp [flatDs, h.flat, Enc.flats h l]
theorem Enc.alikes (h : Enc e) : ∀ l m : List α, alikeDs (l.map e) (m.map e) = true
  | [], _ => by simp [alikeDs]
  | _ :: _, [] => by simp [alikeDs]
  | x :: l, y :: m => by simp [alikeDs, h.alike, Enc.alikes h l m]
theorem Dep.deps {k : Nat} (d : Dep e k) : ∀ l : List α, depDs (l.map e) ≤ k
  | [] => Nat.zero_le _
  | x :: l => by simp only [List.map_cons, depDs]; exact Nat.max_le.mpr ⟨d x, Dep.deps d l⟩
theorem Enc.tup (h : Enc e) : Enc fun l : List α => D.tup (l.map e) := ⟨fun a b => by simp only [eqD, h.eqs], fun a => by simp only [flatD, h.flats], fun a b => by simp only [alikeD, h.alikes]⟩
theorem Dep.tup {k : Nat} (d : Dep e k) : Dep (fun l : List α => D.tup (l.map e)) (k + 1) := fun a => by simp only [depD]; exact Nat.succ_le_succ (d.deps a)
theorem Enc.pair (h : Enc e) (g : Enc f) : Enc fun p : α × β => D.tup [e p.1, f p.2] :=
  ⟨fun a b => by simp [eqD, eqDs, h.eq, g.eq, Prod.ext_iff, Bool.decide_and], fun a => by simp [flatD, flatDs, h.flat, g.flat], fun a b => by simp [alikeD, alikeDs, h.alike, g.alike]⟩
theorem Dep.pair {k : Nat} (d : Dep e k) (d' : Dep f k) : Dep (fun p : α × β => D.tup [e p.1, f p.2]) (k + 1) := fun a => by
  simp only [depD, depDs]
  have := d a.1
  have := d' a.2
  omega
end
/-- whole numbers, persons -/
abbrev nI (n : Nat) : D := .int (n : Int)
theorem encI : Enc D.int := ⟨fun a b => rfl, fun a => by simp [flatD], fun a b => by simp [alikeD]⟩
theorem encN : Enc nI := ⟨fun a b => by show ((a : Int) == (b : Int)) = _; rw [Bool.eq_iff_iff]; simp; omega, fun a => by simp [flatD, nI], fun a b => by simp [alikeD, nI]⟩
theorem depI : Dep D.int 0 := fun a => by simp [depD]
theorem depN : Dep nI 0 := fun a => by simp [depD, nI]

/-! ### sorting plain things -/
section
variable {α : Type}
def insT (lt : α → α → Bool) (x : α) : List α → List α
  | [] => [x]
  | y :: ys => if lt y x then y :: insT lt x ys else x :: y :: ys
def sortT (lt : α → α → Bool) : List α → List α
  | [] => []
  | x :: xs => insT lt x (sortT lt xs)
variable {lt : α → α → Bool} {e : α → D}
theorem insBy_map (h : ∀ a b, ltD (e a) (e b) = lt a b) (x : α) : ∀ l : List α, insBy ltD (e x) (l.map e) = (insT lt x l).map e
  | [] => rfl
  | y :: l => by
    simp only [List.map_cons, insBy, insT, h]
    split
    · simp [insBy_map h x l]
    · simp
theorem sortBy_map (h : ∀ a b, ltD (e a) (e b) = lt a b) : ∀ l : List α, sortBy ltD (l.map e) = (sortT lt l).map e
  | [] => rfl
  | x :: l => by simp only [List.map_cons, sortBy, sortT, sortBy_map h l, insBy_map h]
theorem insT_perm (x : α) : ∀ l : List α, (insT lt x l).Perm (x :: l)
  | [] => .refl _
  | y :: l => by
    unfold insT
    split
    · exact ((insT_perm x l).cons y).trans (.swap x y l)
    · exact .refl _
theorem sortT_perm : ∀ l : List α, (sortT lt l).Perm l
  | [] => .refl _
  | x :: l => (insT_perm x _).trans ((sortT_perm l).cons x)
theorem mem_sortT {l : List α} {x : α} : x ∈ sortT lt l ↔ x ∈ l := (sortT_perm l).mem_iff
theorem length_sortT {l : List α} : (sortT lt l).length = l.length := (sortT_perm l).length_eq
/-- a total order: lt is its strict part -/
structure Lin (lt : α → α → Bool) : Prop where
  irr : ∀ a, lt a a = false
  tr : ∀ a b c, lt a b = true → lt b c = true → lt a c = true
  tri : ∀ a b, lt a b = false → lt b a = false → a = b
theorem Lin.asym (L : Lin lt) {a b : α} (h : lt a b = true) : lt b a = false := by
  cases q : lt b a with
  | false => rfl
  | true => rw [← L.irr a, L.tr a b a h q]
theorem Lin.le_trans (L : Lin lt) {a b c : α} (h : lt b a = false) (g : lt c b = false) : lt c a = false := by
  cases q : lt c a with
  | false => rfl
  | true =>
    cases r : lt a b with
    | true => rw [L.tr c a b q r] at g; cases g
    | false =>
      have := L.tri a b r h
      subst this
      rw [q] at g; cases g
theorem insT_pair (L : Lin lt) (x : α) : ∀ l : List α, l.Pairwise (fun a b => lt b a = false) → (insT lt x l).Pairwise (fun a b => lt b a = false)
  | [], _ => by simp [insT]
  | y :: l, h => by
    unfold insT
    rw [List.pairwise_cons] at h
    split
    · rename_i c
      refine List.pairwise_cons.mpr ⟨fun z hz => ?_, insT_pair L x l h.2⟩
      rcases List.mem_cons.mp ((insT_perm x l).mem_iff.mp hz) with rfl | hz
      · exact L.asym c
      · exact h.1 z hz
    · rename_i c
      have c : lt y x = false := by simpa using c
      refine List.pairwise_cons.mpr ⟨fun z hz => ?_, List.pairwise_cons.mpr h⟩
      rcases List.mem_cons.mp hz with rfl | hz
      · exact c
      · exact L.le_trans c (h.1 z hz)
theorem sortT_pair (L : Lin lt) : ∀ l : List α, (sortT lt l).Pairwise (fun a b => lt b a = false)
  | [] => .nil
  | x :: l => insT_pair L x _ (sortT_pair L l)
/-- in order and of the same items: one list -/
theorem sorted_one (L : Lin lt) : ∀ {l m : List α}, l.Perm m → l.Pairwise (fun a b => lt b a = false) → m.Pairwise (fun a b => lt b a = false) → l = m
  | [], m, p, _, _ => p.nil_eq
  | x :: l, [], p, _, _ => by simpa using p.length_eq
  | x :: l, y :: m, p, h, g => by
    have h' := List.pairwise_cons.mp h
    have g' := List.pairwise_cons.mp g
    have e : x = y := by
      rcases List.mem_cons.mp (p.mem_iff.mp List.mem_cons_self) with q | q
      · exact q
      · rcases List.mem_cons.mp (p.mem_iff.mpr List.mem_cons_self) with r | r
        · exact r.symm
        · exact L.tri x y (g'.1 x q) (h'.1 y r) |>.symm ▸ rfl
    subst e
    rw [sorted_one L (List.Perm.cons_inv p) h'.2 g'.2]
theorem sortT_of (L : Lin lt) {l m : List α} (p : l.Perm m) (h : l.Pairwise (fun a b => lt b a = false)) : sortT lt m = l := (sorted_one L (p.trans (sortT_perm m).symm) h (sortT_pair L m)).symm
theorem sortT_self (L : Lin lt) {l : List α} (h : l.Pairwise (fun a b => lt b a = false)) : sortT lt l = l := sortT_of L (.refl _) h
theorem sortT_congr (L : Lin lt) {l m : List α} (p : l.Perm m) : sortT lt l = sortT lt m := sortT_of L ((sortT_perm m).trans p.symm) (sortT_pair L m)
end
def ltI (a b : Int) : Bool := decide (a < b)
def ltN (a b : Nat) : Bool := decide (a < b)
theorem linI : Lin ltI := ⟨fun a => by simp [ltI], fun a b c h g => by simp [ltI] at *; omega, fun a b h g => by simp [ltI] at *; omega⟩
theorem linN : Lin ltN := ⟨fun a => by simp [ltN], fun a b c h g => by simp [ltN] at *; omega, fun a b h g => by simp [ltN] at *; omega⟩
section
variable {α β : Type} [DecidableEq α] [DecidableEq β] {e : α → D} {f : β → D} {lt : α → α → Bool} {lu : β → β → Bool}
/-- lists in the order of the language -/
def ltL (lt : α → α → Bool) : List α → List α → Bool
  | [], _ :: _ => true
  | x :: xs, y :: ys => if x = y then ltL lt xs ys else lt x y
  | _, _ => false
theorem linL (L : Lin lt) : Lin (ltL lt) where
  irr := fun a => by induction a with
    | nil => rfl
    | cons x a ih => simp [ltL, ih]
  tr := fun a => by
    induction a with
    | nil => intro b c h g; cases b <;> cases c <;> simp_all [ltL]
    | cons x a ih =>
      intro b c h g
      cases b with
      | nil => simp [ltL] at h
      | cons y b =>
        cases c with
        | nil => simp [ltL] at g
        | cons z c =>
          simp only [ltL] at h g ⊢
          by_cases xy : x = y
          · subst xy
            by_cases yz : x = z
            · subst yz; simp at h g ⊢; exact ih b c h g
            · simp [yz] at g ⊢; exact g
          · by_cases yz : y = z
            · subst yz; simp [xy] at h ⊢; exact h
            · simp [xy] at h; simp [yz] at g
              have xz : x ≠ z := fun q => by subst q; rw [L.asym h] at g; cases g
              simp [xz]; exact L.tr x y z h g
  tri := fun a => by
    induction a with
    | nil => intro b h g; cases b <;> simp_all [ltL]
    | cons x a ih =>
      intro b h g
      cases b with
      | nil => simp [ltL] at g
      | cons y b =>
        simp only [ltL] at h g
        by_cases xy : x = y
        · subst xy; simp at h g; rw [ih b h g]
        · simp [xy, Ne.symm xy] at h g; exact absurd (L.tri x y h g) xy
def ltP (lt : α → α → Bool) (lu : β → β → Bool) (a b : α × β) : Bool := if a.1 = b.1 then lu a.2 b.2 else lt a.1 b.1
theorem linP (L : Lin lt) (M : Lin lu) : Lin (ltP lt lu) where
  irr := fun a => by simp [ltP, M.irr]
  tr := fun a b c h g => by
    simp only [ltP] at h g ⊢
    by_cases xy : a.1 = b.1
    · rw [if_pos xy] at h
      by_cases yz : b.1 = c.1
      · rw [if_pos yz] at g; rw [if_pos (xy.trans yz)]; exact M.tr _ _ _ h g
      · rw [if_neg yz] at g; rw [if_neg (by rw [xy]; exact yz), xy]; exact g
    · rw [if_neg xy] at h
      by_cases yz : b.1 = c.1
      · rw [if_neg (by rw [← yz]; exact xy), ← yz]; exact h
      · rw [if_neg yz] at g
        have xz : a.1 ≠ c.1 := fun q => by rw [q] at h; rw [L.asym h] at g; cases g
        rw [if_neg xz]; exact L.tr _ _ _ h g
  tri := fun a b h g => by
    simp only [ltP] at h g
    by_cases xy : a.1 = b.1
    · rw [if_pos xy] at h; rw [if_pos xy.symm] at g; exact Prod.ext xy (M.tri _ _ h g)
    · rw [if_neg xy] at h; rw [if_neg (Ne.symm xy)] at g; exact absurd (L.tri _ _ h g) xy
/-- e keeps the order -/
def OrdE (e : α → D) (lt : α → α → Bool) : Prop := ∀ a b, ltD (e a) (e b) = lt a b
theorem ordI : OrdE D.int ltI := fun a b => by simp [ltD, ltI]
theorem ordN : OrdE nI ltN := fun a b => by simp [ltD, ltN, nI]
theorem OrdE.ltDs (o : OrdE e lt) (h : Enc e) : ∀ l m : List α, Ev.ltDs (l.map e) (m.map e) = ltL lt l m
  | [], [] => rfl
  | [], _ :: _ => rfl
  | _ :: _, [] => rfl
  | x :: l, y :: m => by simp [Ev.ltDs, ltL, h.eq, o x y, OrdE.ltDs o h l m]
theorem OrdE.tup (o : OrdE e lt) (h : Enc e) : OrdE (fun l : List α => D.tup (l.map e)) (ltL lt) := fun a b => by simp only [ltD, o.ltDs h]
theorem OrdE.pair (o : OrdE e lt) (h : Enc e) (o' : OrdE f lu) (g : Enc f) (M : Lin lu) : OrdE (fun p : α × β => D.tup [e p.1, f p.2]) (ltP lt lu) := fun a b => by
  simp only [ltD, Ev.ltDs, h.eq, g.eq, ltP, o a.1 b.1, o' a.2 b.2, decide_eq_true_eq]
  by_cases c : a.1 = b.1
  · by_cases d : a.2 = b.2
    · simp [c, d, M.irr]
    · simp [c, d]
  · simp only [c, if_false]
end

/-! ### words of a run -/
/-- a turn of a loop: the target bound, then the body -/
def turn (t : Tgt) (body : EvS) (d : D) (ρ : Ev.Env) : Option SR := match bindT t d ρ with
  | none => none
  | some ρ1 => body ρ1
section
variable {α : Type} {e : α → D} {t : Tgt} {body : EvS}
/-- a loop over plain things, each turn goes on -/
theorem loop_on {xs : List α} (Inv : List α → Ev.Env → Prop) (hs : ∀ pre x post, xs = pre ++ x :: post → ∀ ρ, Inv pre ρ → ∃ ρ2, (turn t body (e x) ρ = some (.nx ρ2) ∨ turn t body (e x) ρ = some (.ct ρ2)) ∧ Inv (pre ++ [x]) ρ2) {ρ : Ev.Env} (h0 : Inv [] ρ) :
    ∃ ρ', forLoop t body (xs.map e) ρ = some (.nx ρ') ∧ Inv xs ρ' := by
  have go : ∀ (post pre : List α) (ρ : Ev.Env), xs = pre ++ post → Inv pre ρ → ∃ ρ', forLoop t body (post.map e) ρ = some (.nx ρ') ∧ Inv xs ρ' := by
    intro post
    induction post with
    | nil => intro pre ρ q h; rw [List.append_nil] at q; subst q; exact ⟨ρ, rfl, h⟩
    | cons x post ih =>
      intro pre ρ q h
      obtain ⟨ρ2, e2, h2⟩ := hs pre x post q ρ h
      obtain ⟨ρ', e3, h3⟩ := ih (pre ++ [x]) ρ2 (by rw [q]; simp) h2
      refine ⟨ρ', ?_, h3⟩
      cases e1 : bindT t (e x) ρ with
      | none => simp only [turn, e1] at e2; rcases e2 with e2 | e2 <;> cases e2
      | some ρ1 =>
        simp only [turn, e1] at e2
        simp only [List.map_cons, forLoop, e1]
        rcases e2 with e2 | e2 <;> simp only [e2] <;> exact e3
  exact go xs [] ρ rfl h0
/-- a loop that may return: with the first x for which p holds -/
theorem loop_ret {xs : List α} (p : α → Bool) (Inv : Ev.Env → Prop) (Q : α → SR → Prop) (hs : ∀ x ∈ xs, p x = false → ∀ ρ, Inv ρ → ∃ ρ2, (turn t body (e x) ρ = some (.nx ρ2) ∨ turn t body (e x) ρ = some (.ct ρ2)) ∧ Inv ρ2)
    (hr : ∀ x ∈ xs, p x = true → ∀ ρ, Inv ρ → ∃ fr d ρ2, turn t body (e x) ρ = some (.rt fr d ρ2) ∧ Q x (.rt fr d ρ2)) : ∀ {ρ : Ev.Env}, Inv ρ →
    ∃ r, forLoop t body (xs.map e) ρ = some r ∧ match xs.find? p with
      | some x => Q x r
      | none => ∃ ρ', r = .nx ρ' ∧ Inv ρ' := by
  induction xs with
  | nil => intro ρ h; exact ⟨_, rfl, ρ, rfl, h⟩
  | cons x xs ih =>
    intro ρ h
    cases c : p x with
    | true =>
      obtain ⟨fr, d, ρ2, e2, q⟩ := hr x List.mem_cons_self c ρ h
      cases e1 : bindT t (e x) ρ with
      | none => simp only [turn, e1] at e2; cases e2
      | some ρ1 =>
        simp only [turn, e1] at e2
        refine ⟨.rt fr d ρ2, by simp only [List.map_cons, forLoop, e1, e2], ?_⟩
        rw [List.find?_cons_of_pos c]
        exact q
    | false =>
      obtain ⟨ρ2, e2, h2⟩ := hs x List.mem_cons_self c ρ h
      obtain ⟨r, e3, q⟩ := ih (fun y hy => hs y (List.mem_cons_of_mem _ hy)) (fun y hy => hr y (List.mem_cons_of_mem _ hy)) h2
      cases e1 : bindT t (e x) ρ with
      | none => simp only [turn, e1] at e2; rcases e2 with e2 | e2 <;> cases e2
      | some ρ1 =>
        simp only [turn, e1] at e2
        refine ⟨r, ?_, ?_⟩
        · simp only [List.map_cons, forLoop, e1]
          rcases e2 with e2 | e2 <;> simp only [e2] <;> exact e3
        · rw [List.find?_cons_of_neg (by simp [c])]
          exact q
end
theorem enum_map {α : Type} {e : α → D} : ∀ (xs : List α) (k : Nat), enumFrom k (xs.map e) = (xs.zipIdx k).map fun p => D.tup [.int (p.2 : Nat), e p.1]
  | [], _ => rfl
  | x :: xs, k => by simp [enumFrom, enum_map xs (k + 1)]
theorem zip_map {α β : Type} {e : α → D} {f : β → D} : ∀ (xs : List α) (ys : List β), zipD (xs.map e) (ys.map f) = (xs.zip ys).map fun p => D.tup [e p.1, f p.2]
  | [], ys => by simp [zipD]
  | _ :: _, [] => by simp [zipD]
  | x :: xs, y :: ys => by simp [zipD, zip_map xs ys]
theorem ints_map : ∀ l : List Int, intsD (l.map .int) = some l
  | [] => rfl
  | x :: l => by simp [intsD, ints_map l]
theorem bls_map : ∀ l : List Bool, blsD (l.map .bl) = some l
  | [] => rfl
  | x :: l => by simp [blsD, bls_map l]
theorem rng_nat (n : Nat) : rngD 0 (n : Int) = (List.range n).map nI := by simp [rngD, nI]
/-- when a row of plain things can be sorted -/
theorem can_sort {α : Type} [DecidableEq α] {e : α → D} {k : Nat} {l : List α} (h : Enc e) (d : Dep e k) (hk : k ≤ 64) (hz : (∀ a, neTup (e a) = true) ∨ ∀ a, noTup (e a) = true) (hl : l.length ≤ 16777216) : canSort (l.map e) = true := by
  have al : ∀ l : List α, allAlike (l.map e) = true := fun l => by
    induction l with
    | nil => rfl
    | cons x l ih => simp [allAlike, ih, h.alike]
  have z : (l.map e).all neTup = true ∨ (l.map e).all noTup = true := by
    rcases hz with hz | hz
    · exact .inl (List.all_eq_true.mpr fun x hx => by obtain ⟨a, _, rfl⟩ := List.mem_map.mp hx; exact hz a)
    · exact .inr (List.all_eq_true.mpr fun x hx => by obtain ⟨a, _, rfl⟩ := List.mem_map.mp hx; exact hz a)
  have o : (l.map e).all Ev.okD = true := List.all_eq_true.mpr fun x hx => by obtain ⟨a, _, rfl⟩ := List.mem_map.mp hx; exact h.okD d hk a
  unfold canSort
  rw [al, o]
  rcases z with z | z <;> simp [z, hl]

theorem ixN_nat (n i : Nat) : ixN n (i : Int) = if i < n then some i else none := by
  simp only [L2.ixN]
  rw [if_pos (by omega)]
  by_cases h : i < n
  · rw [if_pos (by omega), if_pos h]; rfl
  · rw [if_neg (by omega), if_neg h]
@[simp] theorem ix_tn (l : List D) (i : Nat) : ixD (.tup l) (.int (i : Int)) = l[i]? := by
  simp only [ixD, ixN_nat]
  by_cases h : i < l.length
  · rw [if_pos h]
  · rw [if_neg h, List.getElem?_eq_none (by omega)]
@[simp] theorem ix_ln (l : List D) (i : Nat) : ixD (.lst l) (.int (i : Int)) = l[i]? := by
  simp only [ixD, ixN_nat]
  by_cases h : i < l.length
  · rw [if_pos h]
  · rw [if_neg h, List.getElem?_eq_none (by omega)]
@[simp] theorem ix_t0 (l : List D) : ixD (.tup l) (.int 0) = l[0]? := ix_tn l 0
@[simp] theorem ix_t1 (l : List D) : ixD (.tup l) (.int 1) = l[1]? := ix_tn l 1
@[simp] theorem ix_t2 (l : List D) : ixD (.tup l) (.int 2) = l[2]? := ix_tn l 2
@[simp] theorem ix_t3 (l : List D) : ixD (.tup l) (.int 3) = l[3]? := ix_tn l 3
@[simp] theorem ix_l0 (l : List D) : ixD (.lst l) (.int 0) = l[0]? := ix_ln l 0
@[simp] theorem ix_l1 (l : List D) : ixD (.lst l) (.int 1) = l[1]? := ix_ln l 1
@[simp] theorem ix_l2 (l : List D) : ixD (.lst l) (.int 2) = l[2]? := ix_ln l 2
@[simp] theorem ix_l3 (l : List D) : ixD (.lst l) (.int 3) = l[3]? := ix_ln l 3
@[simp] theorem list_l (l : List D) : listB [.lst l] = some (true, .lst l) := rfl
@[simp] theorem list_t (l : List D) : listB [.tup l] = some (true, .lst l) := rfl
@[simp] theorem lt_ii (a b : Int) : ltO (.int a) (.int b) = some (decide (a < b)) := by simp [ltO, ordOk, alikeD, flatD, isNon, depD, ltD]
@[simp] theorem gt_ii (a b : Int) : gtO (.int a) (.int b) = some (decide (b < a)) := by simp [gtO, ordOk, alikeD, flatD, isNon, depD, ltD]
@[simp] theorem le_ii (a b : Int) : leO (.int a) (.int b) = some (decide (a ≤ b)) := by
  simp [leO, ordOk, alikeD, flatD, isNon, depD, ltD]
  rw [Bool.eq_iff_iff]; simp
@[simp] theorem ge_ii (a b : Int) : geO (.int a) (.int b) = some (decide (b ≤ a)) := by
  simp [geO, ordOk, alikeD, flatD, isNon, depD, ltD]
  rw [Bool.eq_iff_iff]; simp
@[simp] theorem free_no : isFree .no = true := rfl
@[simp] theorem free_sh (d : D) : isFree (.sh d) = true := rfl
@[simp] theorem free_ow (d : D) : isFree (.ow d) = true := rfl
@[simp] theorem free_io (d : D) : isFree (.io d) = false := rfl
@[simp] theorem free_lk (d : D) : isFree (.lk d) = false := rfl
/-! ### rows of statements -/
section
variable {C : CallS} {ρ ρ1 ρ2 : Ev.Env} {r : Option SR} {s : RS} {ss : List RS}
theorem seq_nx (h : evS C s ρ = some (.nx ρ1)) (g : evSs C ss ρ1 = r) : evSs C (s :: ss) ρ = r := by simp only [evSs, h, g]
theorem seq_rt {fr : Bool} {d : D} (h : evS C s ρ = some (.rt fr d ρ1)) : evSs C (s :: ss) ρ = some (.rt fr d ρ1) := by simp only [evSs, h]
theorem seq_take {b : List RS} (k : Nat) (h : evSs C (b.take k) ρ = some (.nx ρ1)) (g : evSs C (b.drop k) ρ1 = r) : evSs C b ρ = r := by
  have key : ∀ (a b : List RS) (ρ : Ev.Env), evSs C a ρ = some (.nx ρ1) → evSs C (a ++ b) ρ = evSs C b ρ1 := by
    intro a
    induction a with
    | nil => intro b ρ h; simp only [evSs] at h; cases h; rfl
    | cons s a ih =>
      intro b ρ h
      simp only [List.cons_append, evSs] at h ⊢
      split at h
      · rename_i ρ' e; rw [ih b _ h]
      · rename_i e; exact absurd h (by intro q; exact e _ q)
  rw [← List.take_append_drop k b, key _ _ _ h, g]
theorem seq_loop {k : IK} {srcs : List RE} {t : Tgt} {body : List RS} {os : List OV} {ds items : List D} (h1 : evL C srcs ρ = some (os, ρ1)) (h2 : rds ρ1 os = some ds) (h3 : itD k ds = some items)
    (h4 : forLoop t (evSs C body) items (lockE ρ1 os) = some (.nx ρ2)) (g : evSs C ss (unlockE ρ1 ρ2 os) = r) : evSs C (.loop k srcs t body :: ss) ρ = r := by
  simp only [evSs, evS, h1, h2, h3, h4, unlockR, g]
theorem seq_loop_rt {k : IK} {srcs : List RE} {t : Tgt} {body : List RS} {os : List OV} {ds items : List D} {fr : Bool} {d : D} (h1 : evL C srcs ρ = some (os, ρ1)) (h2 : rds ρ1 os = some ds) (h3 : itD k ds = some items)
    (h4 : forLoop t (evSs C body) items (lockE ρ1 os) = some (.rt fr d ρ2)) : evSs C (.loop k srcs t body :: ss) ρ = some (.rt fr d (unlockE ρ1 ρ2 os)) := by
  simp only [evSs, evS, h1, h2, h3, h4, unlockR]
theorem seq_whl {c : RE} {body : List RS} (h : whileLoop (fun ρ' => toBl (evE C c ρ')) (evSs C body) WF ρ = some (.nx ρ1)) (g : evSs C ss ρ1 = r) : evSs C (.whl c body :: ss) ρ = r := by
  simp only [evSs, evS, h, g]
/-- a while: m turns at most are left -/
theorem whl_on {c : Ev.Env → Option (Bool × Ev.Env)} {body : EvS} (Inv : Nat → Ev.Env → Prop) (Q : Ev.Env → Prop)
    (h : ∀ m ρ, Inv m ρ → (∃ ρ1, c ρ = some (false, ρ1) ∧ Q ρ1) ∨ ∃ ρ1 ρ2 m', c ρ = some (true, ρ1) ∧ (body ρ1 = some (.nx ρ2) ∨ body ρ1 = some (.ct ρ2)) ∧ m' < m ∧ Inv m' ρ2) :
    ∀ (n m : Nat) (ρ : Ev.Env), Inv m ρ → m < n → ∃ ρ', whileLoop c body n ρ = some (.nx ρ') ∧ Q ρ' := by
  intro n
  induction n with
  | zero => intro m ρ _ hn; omega
  | succ n ih =>
    intro m ρ hi hn
    rcases h m ρ hi with ⟨ρ1, e, q⟩ | ⟨ρ1, ρ2, m', e1, e2, hm, hi'⟩
    · exact ⟨ρ1, by simp only [whileLoop, e], q⟩
    · obtain ⟨ρ', e3, q⟩ := ih m' ρ2 hi' (by omega)
      refine ⟨ρ', ?_, q⟩
      rcases e2 with e2 | e2 <;> simp only [whileLoop, e1, e2, e3]
end
/-- a def, run -/
theorem run_def {tab : Nat → Option Fn} {j n : Nat} {fn : Fn} {ds outs : List D} {fr : Bool} {d : D} {ρ : Ev.Env} (h : tab j = some fn) (hl : ds.length = fn.io.length) (he : evSs (callF tab n) fn.body (fullE fn ds) = some (.rt fr d ρ)) (ho : outsE fn.io ρ = some outs) : callF tab (n + 1) j ds = some (fr, d, outs) := by
  simp only [callF, h, hl, if_true, he, finF, ho]
theorem run_def0 {tab : Nat → Option Fn} {j n : Nat} {fn : Fn} {ds outs : List D} {ρ : Ev.Env} (h : tab j = some fn) (hl : ds.length = fn.io.length) (he : evSs (callF tab n) fn.body (fullE fn ds) = some (.nx ρ)) (ho : outsE fn.io ρ = some outs) : callF tab (n + 1) j ds = some (false, .non, outs) := by
  simp only [callF, h, hl, if_true, he, finF, ho]

/-! ### comprehensions over plain things -/
section
variable {α : Type} {e : α → D} {C : CallS} {k : IK} {srcs conds : List RE} {t : Tgt} {own : List Nat} {elt : RE} {ρ ρ1 : Ev.Env} {os : List OV} {ds : List D}
theorem compLoop_map {cf : Ev.Env → Option (Bool × Ev.Env)} {ef : EvE} {ρw : Ev.Env} (p : α → Bool) (f : α → D) : ∀ (xs : List α) (ρ : Ev.Env) (acc : List D), wipeE ρ own = ρw →
    (∀ x ∈ xs, ∃ ρ2, bindT t (e x) ρw = some ρ2 ∧ cf ρ2 = some (p x, ρ2) ∧ (p x = true → ∃ fr, ef ρ2 = some (.val fr (f x), ρ2)) ∧ wipeE ρ2 own = ρw) → wipeE ρw own = ρw → acc.length + xs.length ≤ 16777216 →
    ∃ ρe, compLoop t own cf ef (xs.map e) ρ acc = some (acc ++ (xs.filter p).map f, ρe) ∧ wipeE ρe own = ρw
  | [], ρ, acc, hw, _, _, _ => ⟨ρ, by simp [compLoop], hw⟩
  | x :: xs, ρ, acc, hw, h, ww, hl => by
    obtain ⟨ρ2, e1, e2, e3, e4⟩ := h x List.mem_cons_self
    have hl' : acc.length < 16777216 := by simp at hl; omega
    cases hp : p x with
    | true =>
      obtain ⟨fr, e5⟩ := e3 hp
      rw [hp] at e2
      obtain ⟨ρe, q, qw⟩ := compLoop_map p f xs (wipeE ρ2 own) (acc ++ [f x]) (by rw [e4, ww]) (fun y hy => h y (List.mem_cons_of_mem _ hy)) ww (by simp at hl ⊢; omega)
      exact ⟨ρe, by simp only [List.map_cons, compLoop, hw, e1, e2, e5, toVal, hl', if_true, q]; simp [hp], qw⟩
    | false =>
      rw [hp] at e2
      obtain ⟨ρe, q, qw⟩ := compLoop_map p f xs (wipeE ρ2 own) acc (by rw [e4, ww]) (fun y hy => h y (List.mem_cons_of_mem _ hy)) ww (by simp at hl ⊢; omega)
      exact ⟨ρe, by simp only [List.map_cons, compLoop, hw, e1, e2, q]; simp [hp], qw⟩
theorem back_lock {ρe : Ev.Env} (qw : wipeE ρe own = wipeE (lockE ρ1 os) own) (ho : own.all (fun i => !ownS ρ1 i) = true) : unlockE ρ1 (backE ρe ρ1 own) os = ρ1 := by
  have b : backE ρe ρ1 own = lockE ρ1 os := by
    have l : ρe.length = ρ1.length := by
      have := congrArg List.length qw
      rwa [wipeE_len, wipeE_len, lock_len] at this
    apply List.ext_getElem?
    intro i
    by_cases hi : i ∈ own
    · rw [backE_in l hi]
      cases hs : ρ1[i]? with
      | none => exact (List.getElem?_eq_none (by rw [lock_len]; exact List.getElem?_eq_none_iff.mp hs)).symm
      | some s =>
        rcases lock_at os ρ1 i s hs with ⟨_, q⟩ | ⟨_, ⟨ms, _⟩ | ⟨_, q⟩⟩
        · exact q.symm
        · have := List.all_eq_true.mp ho i hi
          simp [ownS, hs, isMut_own ms] at this
        · exact q.symm
    · rw [backE_out hi, ← wipeE_out (ρ := ρe) hi, qw, wipeE_out hi]
  rw [b, unlock_lock]
theorem comp_map {xs : List α} (p : α → Bool) (f : α → D) (e1 : evL C srcs ρ = some (os, ρ1)) (e2 : rds ρ1 os = some ds) (e3 : itD k ds = some (xs.map e)) (ho : own.all (fun i => !ownS ρ1 i) = true) (hl : xs.length ≤ 16777216)
    (h : ∀ x ∈ xs, ∃ ρ2, bindT t (e x) (wipeE (lockE ρ1 os) own) = some ρ2 ∧ evC C conds ρ2 = some (p x, ρ2) ∧ (p x = true → ∃ fr, evE C elt ρ2 = some (.val fr (f x), ρ2)) ∧ wipeE ρ2 own = wipeE (lockE ρ1 os) own) :
    evE C (.comp k srcs t own conds elt) ρ = some (.val true (.lst ((xs.filter p).map f)), ρ1) := by
  obtain ⟨ρe, q, qw⟩ := compLoop_map (t := t) (own := own) (cf := evC C conds) (ef := evE C elt) p f xs (lockE ρ1 os) [] rfl h wipe_idem (by simpa using hl)
  simp only [evE, e1, e2, e3, ho, if_true, q, List.nil_append, back_lock qw ho]
/-- .. where a turn may change the slots: Inv of what is gone through, of what has come, and of the slots -/
theorem comp_on {xs : List α} (Inv : List α → List D → Ev.Env → Prop) (e1 : evL C srcs ρ = some (os, ρ1)) (e2 : rds ρ1 os = some ds) (e3 : itD k ds = some (xs.map e)) (ho : own.all (fun i => !ownS ρ1 i) = true) (hl : xs.length ≤ 16777216)
    (h0 : Inv [] [] (lockE ρ1 os)) (hw : ∀ pre acc ρ, Inv pre acc ρ → Inv pre acc (wipeE ρ own))
    (h : ∀ pre x post, xs = pre ++ x :: post → ∀ acc ρ, Inv pre acc ρ → ∃ ρ2 b ρ3, bindT t (e x) (wipeE ρ own) = some ρ2 ∧ evC C conds ρ2 = some (b, ρ3) ∧ (b = false → Inv (pre ++ [x]) acc ρ3) ∧ (b = true → ∃ fr y ρ4, evE C elt ρ3 = some (.val fr y, ρ4) ∧ Inv (pre ++ [x]) (acc ++ [y]) ρ4)) :
    ∃ acc ρe, evE C (.comp k srcs t own conds elt) ρ = some (.val true (.lst acc), unlockE ρ1 (backE ρe ρ1 own) os) ∧ Inv xs acc ρe := by
  have go : ∀ (post pre : List α) (acc : List D) (ρ : Ev.Env), xs = pre ++ post → acc.length ≤ pre.length → Inv pre acc ρ → ∃ acc' ρe, compLoop t own (evC C conds) (evE C elt) (post.map e) ρ acc = some (acc', ρe) ∧ Inv xs acc' ρe := by
    intro post
    induction post with
    | nil => intro pre acc ρ q _ hi; rw [List.append_nil] at q; subst q; exact ⟨acc, ρ, rfl, hi⟩
    | cons x post ih =>
      intro pre acc ρ q hz hi
      obtain ⟨ρ2, b, ρ3, f1, f2, f3, f4⟩ := h pre x post q acc ρ hi
      have hz' : acc.length < 16777216 := by
        have := congrArg List.length q
        simp at this
        omega
      cases b with
      | false =>
        obtain ⟨acc', ρe, g, gi⟩ := ih (pre ++ [x]) acc (wipeE ρ3 own) (by rw [q]; simp) (by simp; omega) (hw _ _ _ (f3 rfl))
        exact ⟨acc', ρe, by simp only [List.map_cons, compLoop, f1, f2, g], gi⟩
      | true =>
        obtain ⟨fr, y, ρ4, f5, f6⟩ := f4 rfl
        obtain ⟨acc', ρe, g, gi⟩ := ih (pre ++ [x]) (acc ++ [y]) (wipeE ρ4 own) (by rw [q]; simp) (by simp; omega) (hw _ _ _ f6)
        exact ⟨acc', ρe, by simp only [List.map_cons, compLoop, f1, f2, f5, toVal, hz', if_true, g], gi⟩
  obtain ⟨acc, ρe, g, gi⟩ := go xs [] [] (lockE ρ1 os) rfl (Nat.le_refl _) h0
  exact ⟨acc, ρe, by simp only [evE, e1, e2, e3, ho, if_true, g], gi⟩
end

/-! ### few -/
theorem few_lt : ∀ (m : Nat) (l : List Nat), l.Nodup → (∀ x ∈ l, x < m) → l.length ≤ m
  | 0, [], _, _ => Nat.le_refl _
  | 0, x :: _, _, h => absurd (h x List.mem_cons_self) (Nat.not_lt_zero _)
  | m + 1, l, hn, h => by
    have q := few_lt m (l.erase m) (hn.erase m) fun x hx => by
      have h1 := h x (List.mem_of_mem_erase hx)
      have h2 : x ≠ m := fun e => by subst e; exact absurd hx (hn.not_mem_erase)
      omega
    have := List.length_erase (a := m) (l := l)
    split at this <;> omega
theorem few_of {α : Type} (f : α → Nat) {m : Nat} {l : List α} (hn : l.Nodup) (hi : ∀ x ∈ l, ∀ y ∈ l, f x = f y → x = y) (h : ∀ x ∈ l, f x < m) : l.length ≤ m := by
  have := few_lt m (l.map f) (by
    clear h
    induction l with
    | nil => exact List.nodup_nil
    | cons x l ih =>
      rw [List.map_cons, List.nodup_cons]
      rw [List.nodup_cons] at hn
      refine ⟨fun q => ?_, ih hn.2 fun a ha b hb => hi a (List.mem_cons_of_mem _ ha) b (List.mem_cons_of_mem _ hb)⟩
      obtain ⟨y, hy, e⟩ := List.mem_map.mp q
      have := hi y (List.mem_cons_of_mem _ hy) x List.mem_cons_self e
      subst this
      exact hn.1 hy) (fun x hx => by obtain ⟨y, hy, rfl⟩ := List.mem_map.mp hx; exact h y hy)
  simpa using this
theorem nodup_up {α : Type} {lt : α → α → Bool} (L : Lin lt) {l : List α} (h : l.Pairwise fun a b => lt a b = true) : l.Nodup := h.imp fun {a b} q e => by subst e; rw [L.irr] at q; cases q
end Lw

/-! Tb: the defs of k00_whole_webs, k03_whole_coming, k11_whole_common, k35_whole_rises, k82_across_firsts, k83_across_common_outcomes, k10_whole_befores, k81_across_befores_and_rises, k08_whole_lesser, k47_across_lesser_and_bounds, k32_whole_limits in the small language. -/
namespace Lw
open PySem Ev
/-- is_int(value) -/
def b0 : List RS := [.ret (.and (.bi (.isa [.int]) [.plc 0]) (.not (.bi (.isa [.bl]) [.plc 0])))]
def fn0 : Fn := ⟨[false], 1, b0⟩
/-- is_from(value, least, most) -/
def b1 : List RS := [.ret (.and (.call 0 [false] [.var 0]) (.chn .le .le (.plc 1) (.plc 0) (.plc 2)))]
def fn1 : Fn := ⟨[false, false, false], 3, b1⟩
/-- is_height(value) -/
def b2 : List RS := [.ret (.call 1 [false, false, false] [.var 0, .neg (.cst (.int 1000)), .cst (.int 1000)])]
def fn2 : Fn := ⟨[false], 1, b2⟩
/-- is_tie(value, many) -/
def b3 : List RS := [.ifs (.or (.not (.bi (.isa [.tup]) [.plc 0])) (.cmp .ne (.bi .len [.plc 0]) (.cst (.int 2)))) [.ret (.cst (.bl false))] [], .ret (.and (.call 1 [false, false, false] [.ix (.plc 0) (.cst (.int 0)), .cst (.int 0), .bin .sub (.plc 1) (.cst (.int 1))]) (.and (.call 1 [false, false, false] [.ix (.plc 0) (.cst (.int 1)), .cst (.int 0), .bin .sub (.plc 1) (.cst (.int 1))]) (.cmp .lt (.ix (.plc 0) (.cst (.int 0))) (.ix (.plc 0) (.cst (.int 1))))))]
def fn3 : Fn := ⟨[false, false], 2, b3⟩
/-- need_web(value) -/
def b4 : List RS := [.ifs (.or (.not (.bi (.isa [.tup]) [.plc 0])) (.cmp .ne (.bi .len [.plc 0]) (.cst (.int 2)))) [.rais] [], .asgT (.tp [.nm 1, .nm 2]) (.var 0), .ifs (.or (.not (.call 1 [false, false, false] [.var 1, .cst (.int 1), .cst (.int 8)])) (.not (.bi (.isa [.tup]) [.plc 2]))) [.rais] [], .loop .enum [.plc 2] (.tp [.nm 3, .nm 4]) [.ifs (.or (.not (.call 3 [false, false] [.var 4, .var 1])) (.and (.cmp .gt (.plc 3) (.cst (.int 0))) (.cmp .le (.plc 4) (.ix (.plc 2) (.bin .sub (.plc 3) (.cst (.int 1))))))) [.rais] []]]
def fn4 : Fn := ⟨[false], 5, b4⟩
/-- need_heights(web, value) -/
def b5 : List RS := [.ifs (.or (.not (.bi (.isa [.tup]) [.plc 1])) (.cmp .ne (.bi .len [.plc 1]) (.ix (.plc 0) (.cst (.int 0))))) [.rais] [], .loop .enum [.plc 1] (.tp [.nm 2, .nm 3]) [.ifs (.not (.call 2 [false] [.var 3])) [.rais] []]]
def fn5 : Fn := ⟨[false, false], 4, b5⟩
/-- need_person(web, value) -/
def b6 : List RS := [.ifs (.not (.call 1 [false, false, false] [.var 1, .cst (.int 0), .bin .sub (.ix (.plc 0) (.cst (.int 0))) (.cst (.int 1))])) [.rais] []]
def fn6 : Fn := ⟨[false, false], 2, b6⟩
/-- need_lot(web, value) -/
def b7 : List RS := [.ifs (.or (.not (.bi (.isa [.tup]) [.plc 1])) (.not (.bi .all [.comp .seq [.plc 1] (.nm 4) [4] [] (.call 1 [false, false, false] [.var 4, .cst (.int 0), .bin .sub (.ix (.plc 0) (.cst (.int 0))) (.cst (.int 1))])]))) [.rais] [], .ifs (.bi .any [.comp .zip [.plc 1, .slc (.plc 1) (.cst (.int 1)) .nop] (.tp [.nm 2, .nm 3]) [2, 3] [] (.cmp .ge (.plc 2) (.plc 3))]) [.rais] []]
def fn7 : Fn := ⟨[false, false], 5, b7⟩
/-- tied_to(web, person) -/
def b8 : List RS := [.asg 2 (.lst [] []), .loop .seq [.ix (.plc 0) (.cst (.int 1))] (.tp [.nm 3, .nm 4]) [.ifs (.cmp .in_ (.plc 1) (.tup [false, false] [.var 3, .var 4])) [.app 2 (.bin .sub (.bin .add (.plc 3) (.plc 4)) (.plc 1))] []], .ret (.bi .sorted [.plc 2])]
def fn8 : Fn := ⟨[false, false], 5, b8⟩
/-- neighbors(web, person) -/
def b9 : List RS := [.exp (.call 4 [false] [.var 0]), .exp (.call 6 [false, false] [.var 0, .var 1]), .ret (.bi .tuple [.call 8 [false, false] [.var 0, .var 1]])]
def fn9 : Fn := ⟨[false, false], 2, b9⟩
/-- hanging(web, person, lot) -/
def b10 : List RS := [.par [3, 4] [.lst [false] [.var 1], .lst [false] [.var 1]], .whl (.cmp .ne (.plc 4) (.lst [] [])) [.asg 5 (.pop 4), .loop .seq [.call 8 [false, false] [.var 0, .var 5]] (.nm 6) [.ifs (.and (.cmp .in_ (.plc 6) (.plc 2)) (.cmp .notin (.plc 6) (.plc 3))) [.app 3 (.var 6), .app 4 (.var 6)] []]], .ret (.bi .tuple [.bi .sorted [.plc 3]])]
def fn10 : Fn := ⟨[false, false, false], 7, b10⟩
/-- parts_of(web, lot) -/
def b11 : List RS := [.par [2, 3] [.lst [] [], .bi .list [.plc 1]], .whl (.cmp .ne (.plc 3) (.lst [] [])) [.asg 4 (.call 10 [false, false, false] [.var 0, .ix (.plc 3) (.cst (.int 0)), .var 3]), .app 2 (.var 4), .asg 3 (.comp .seq [.plc 3] (.nm 5) [5] [.cmp .notin (.plc 5) (.plc 4)] (.var 5))], .ret (.bi .tuple [.plc 2])]
def fn11 : Fn := ⟨[false, false], 6, b11⟩
/-- parts(web, lot) -/
def b12 : List RS := [.exp (.call 4 [false] [.var 0]), .exp (.call 7 [false, false] [.var 0, .var 1]), .ret (.call 11 [false, false] [.var 0, .var 1])]
def fn12 : Fn := ⟨[false, false], 2, b12⟩
/-- everybody(web) -/
def b13 : List RS := [.ret (.bi .tuprng [.ix (.plc 0) (.cst (.int 0))])]
def fn13 : Fn := ⟨[false], 1, b13⟩
/-- lower_neighbors(web, heights, person) -/
def b14 : List RS := [.exp (.call 4 [false] [.var 0]), .exp (.call 5 [false, false] [.var 0, .var 1]), .exp (.call 6 [false, false] [.var 0, .var 2]), .ret (.bi .tuple [.comp .seq [.call 8 [false, false] [.var 0, .var 2]] (.nm 3) [3] [.cmp .lt (.ix (.plc 1) (.plc 3)) (.ix (.plc 1) (.plc 2))] (.var 3)])]
def fn14 : Fn := ⟨[false, false, false], 4, b14⟩
/-- is_flat(web, heights) -/
def b16 : List RS := [.exp (.call 4 [false] [.var 0]), .exp (.call 5 [false, false] [.var 0, .var 1]), .ret (.call 15 [false, false] [.var 0, .var 1])]
def fn16 : Fn := ⟨[false, false], 2, b16⟩
/-- flat(web, heights) -/
def b15 : List RS := [.ret (.bi .all [.comp .seq [.ix (.plc 0) (.cst (.int 1))] (.tp [.nm 2, .nm 3]) [2, 3] [] (.cmp .eq (.ix (.plc 1) (.plc 2)) (.ix (.plc 1) (.plc 3)))])]
def fn15 : Fn := ⟨[false, false], 4, b15⟩
/-- lows(web, heights) -/
def b18 : List RS := [.exp (.call 4 [false] [.var 0]), .exp (.call 5 [false, false] [.var 0, .var 1]), .ret (.call 17 [false, false] [.var 0, .var 1])]
def fn18 : Fn := ⟨[false, false], 2, b18⟩
/-- lows_of(web, heights) -/
def b17 : List RS := [.asg 2 (.bin .mul (.lst [false] [.cst (.int 0)]) (.ix (.plc 0) (.cst (.int 0)))), .loop .seq [.call 11 [false, false] [.var 0, .call 13 [false] [.var 0]]] (.nm 3) [.asg 4 (.bi .min [.comp .seq [.plc 3] (.nm 5) [5] [] (.ix (.plc 1) (.plc 5))]), .loop .seq [.plc 3] (.nm 5) [.setix 2 (.var 5) (.var 4)]], .ret (.bi .tuple [.plc 2])]
def fn17 : Fn := ⟨[false, false], 6, b17⟩
/-- _law_taken(_law_row, _law_many) -/
def b19 : List RS := [.ifs (.cmp .gt (.ix (.plc 0) (.cst (.int 3))) (.cst (.int 0))) [.asg 3 (.bin .mod (.bi .int [.ix (.plc 0) (.cst (.int 3))]) (.plc 1)), .setix 0 (.cst (.int 3)) (.bin .fdiv (.ix (.plc 0) (.cst (.int 3))) (.plc 1)), .ret (.mov 3)] [], .setix 0 (.cst (.int 1)) (.bin .add (.ix (.plc 0) (.cst (.int 1))) (.cst (.int 1))), .ifs (.cmp .gt (.ix (.plc 0) (.cst (.int 1))) (.bi .len [.ix (.plc 0) (.cst (.int 0))])) [.setix 0 (.cst (.int 2)) (.bin .mod (.bi .int [.bin .add (.bin .mul (.ix (.plc 0) (.cst (.int 2))) (.cst (.int 48271))) (.cst (.int 11))]) (.cst (.int 2147483647))), .ret (.bin .mod (.bi .int [.bin .fdiv (.ix (.plc 0) (.cst (.int 2))) (.cst (.int 7))]) (.plc 1))] [], .asg 2 (.ix (.ix (.plc 0) (.cst (.int 0))) (.bin .sub (.ix (.plc 0) (.cst (.int 1))) (.cst (.int 1)))), .setix 0 (.cst (.int 2)) (.bin .mod (.bi .int [.bin .add (.bin .add (.bin .mul (.ix (.plc 0) (.cst (.int 2))) (.cst (.int 48271))) (.plc 2)) (.cst (.int 11))]) (.cst (.int 2147483647))), .ifs (.cmp .ge (.plc 2) (.bin .pow (.cst (.int 10)) (.cst (.int 18)))) [.setix 0 (.cst (.int 3)) (.bin .fdiv (.plc 2) (.plc 1))] [], .ret (.bin .mod (.bi .int [.plc 2]) (.plc 1))]
def fn19 : Fn := ⟨[true, false], 4, b19⟩
/-- _law_alike(_law_found, _law_due) -/
def b20 : List RS := [.ifs (.bi (.isa [.tup, .lst]) [.plc 1]) [.ifs (.or (.not (.bi (.isa [.tup, .lst]) [.plc 0])) (.cmp .ne (.bi (.isa [.lst]) [.plc 0]) (.bi (.isa [.lst]) [.plc 1]))) [.ret (.cst (.bl false))] [], .ifs (.cmp .ne (.bi .len [.plc 0]) (.bi .len [.plc 1])) [.ret (.cst (.bl false))] [], .ret (.cmp .eq (.comp .range [.bi .len [.plc 1]] (.nm 2) [2] [.not (.call 20 [false, false] [.ix (.plc 0) (.plc 2), .ix (.plc 1) (.plc 2)])] (.var 2)) (.lst [] []))] [], .ifs (.or (.cmp .is_ (.plc 1) (.cst .non)) (.bi (.isa [.str]) [.plc 1])) [.ret (.and (.cmp .eq (.plc 0) (.plc 1)) (.cmp .eq (.bi (.isa [.str]) [.plc 0]) (.bi (.isa [.str]) [.plc 1])))] [], .ret (.and (.bi (.isa [.int]) [.plc 0]) (.and (.cmp .eq (.bi (.isa [.bl]) [.plc 0]) (.bi (.isa [.bl]) [.plc 1])) (.cmp .eq (.plc 0) (.plc 1))))]
def fn20 : Fn := ⟨[false, false], 3, b20⟩
/-- _law_is(_law_found, _law_due) -/
def b21 : List RS := [.ret (.and (.bi (.isa [.bl]) [.plc 0]) (.cmp .eq (.plc 0) (.plc 1)))]
def fn21 : Fn := ⟨[false, false], 2, b21⟩
/-- _law_web(_law_row, _law_most, _law_more) -/
def b22 : List RS := [.asg 3 (.bin .add (.cst (.int 1)) (.call 19 [true, false] [.plc 0, .var 1])), .asg 4 (.dct [] []), .loop .range [.cst (.int 1), .plc 3] (.nm 5) [.ifs (.cmp .gt (.call 19 [true, false] [.plc 0, .cst (.int 7)]) (.cst (.int 0))) [.setix 4 (.tup [false, false] [.call 19 [true, false] [.plc 0, .var 5], .var 5]) (.cst (.bl true))] []], .loop .range [.ife (.cmp .gt (.plc 3) (.cst (.int 1))) (.call 19 [true, false] [.plc 0, .bin .add (.plc 2) (.cst (.int 1))]) (.cst (.int 0))] (.nm 6) [.asg 7 (.call 19 [true, false] [.plc 0, .bin .sub (.plc 3) (.cst (.int 1))]), .setix 4 (.tup [false, false] [.var 7, .bin .add (.bin .add (.plc 7) (.cst (.int 1))) (.call 19 [true, false] [.plc 0, .bin .sub (.bin .sub (.plc 3) (.cst (.int 1))) (.plc 7)])]) (.cst (.bl true))], .ret (.tup [false, false] [.var 3, .bi .tuple [.bi .sorted [.bi .list [.plc 4]]]])]
def fn22 : Fn := ⟨[true, false, false], 8, b22⟩
/-- _law_heights(_law_row, _law_many, _law_high) -/
def b23 : List RS := [.ret (.bi .tuple [.comp .range [.plc 1] (.nm 3) [3] [] (.bin .sub (.call 19 [true, false] [.plc 0, .var 2]) (.bin .fdiv (.plc 2) (.cst (.int 3))))])]
def fn23 : Fn := ⟨[true, false, false], 4, b23⟩
/-- _law_ties(_law_web_here, _law_person) -/
def b24 : List RS := [.ret (.bi .sorted [.comp .seq [.ix (.plc 0) (.cst (.int 1))] (.tp [.nm 2, .nm 3]) [2, 3] [.cmp .in_ (.plc 1) (.tup [false, false] [.var 2, .var 3])] (.bin .sub (.bin .add (.plc 2) (.plc 3)) (.plc 1))])]
def fn24 : Fn := ⟨[false, false], 4, b24⟩
/-- _law_parts(_law_web_here, _law_lot_here) -/
def b25 : List RS := [.par [2, 3] [.lst [] [], .bi .list [.plc 1]], .whl (.cmp .ne (.plc 3) (.lst [] [])) [.asg 4 (.lst [false] [.ix (.plc 3) (.cst (.int 0))]), .loop .range [.bi .len [.plc 3]] (.nm 5) [.loop .seq [.ix (.plc 0) (.cst (.int 1))] (.tp [.nm 6, .nm 7]) [.ifs (.and (.cmp .in_ (.plc 6) (.plc 1)) (.and (.cmp .in_ (.plc 7) (.plc 1)) (.cmp .ne (.cmp .in_ (.plc 6) (.plc 4)) (.cmp .in_ (.plc 7) (.plc 4))))) [.asg 4 (.bin .add (.plc 4) (.lst [false] [.ife (.cmp .in_ (.plc 6) (.plc 4)) (.var 7) (.var 6)]))] []]], .app 2 (.bi .tuple [.bi .sorted [.plc 4]]), .asg 3 (.comp .seq [.plc 3] (.nm 8) [8] [.cmp .notin (.plc 8) (.plc 4)] (.var 8))], .ret (.mov 2)]
def fn25 : Fn := ⟨[false, false], 9, b25⟩
/-- _law_lot(_law_row, _law_many) -/
def b26 : List RS := [.ret (.bi .tuple [.comp .range [.plc 1] (.nm 2) [2] [.cmp .eq (.call 19 [true, false] [.plc 0, .cst (.int 3)]) (.cst (.int 0))] (.var 2)])]
def fn26 : Fn := ⟨[true, false], 3, b26⟩
/-- law(_law_script) -/
def b27 : List RS := [.asg 1 (.lst [false, false, false, false] [.var 0, .cst (.int 0), .cst (.int 4900), .cst (.int 0)]), .asg 2 (.call 22 [true, false, false] [.plc 1, .cst (.int 8), .cst (.int 5)]), .asg 3 (.ix (.plc 2) (.cst (.int 0))), .par [8, 9, 10] [.call 23 [true, false, false] [.plc 1, .var 3, .cst (.int 6)], .call 19 [true, false] [.plc 1, .var 3], .call 26 [true, false] [.plc 1, .var 3]], .asg 4 (.call 24 [false, false] [.var 2, .var 9]), .ifs (.not (.call 20 [false, false] [.call 9 [false, false] [.var 2, .var 9], .bi .tuple [.plc 4]])) [.ret (.cst (.bl false))] [], .asg 5 (.bi .tuple [.comp .seq [.plc 4] (.nm 11) [11] [.cmp .lt (.ix (.plc 8) (.plc 11)) (.ix (.plc 8) (.plc 9))] (.var 11)]), .ifs (.not (.call 20 [false, false] [.call 14 [false, false, false] [.var 2, .var 8, .var 9], .var 5])) [.ret (.cst (.bl false))] [], .ifs (.not (.call 20 [false, false] [.call 12 [false, false] [.var 2, .var 10], .bi .tuple [.call 25 [false, false] [.var 2, .var 10]]])) [.ret (.cst (.bl false))] [], .ifs (.not (.call 21 [false, false] [.call 16 [false, false] [.var 2, .var 8], .cmp .eq (.comp .seq [.ix (.plc 2) (.cst (.int 1))] (.tp [.nm 11, .nm 12]) [11, 12] [.cmp .ne (.ix (.plc 8) (.plc 11)) (.ix (.plc 8) (.plc 12))] (.cst (.int 1))) (.lst [] [])])) [.ret (.cst (.bl false))] [], .asg 6 (.bin .mul (.lst [false] [.cst (.int 0)]) (.plc 3)), .loop .seq [.call 25 [false, false] [.var 2, .bi .tuprng [.var 3]]] (.nm 7) [.loop .seq [.plc 7] (.nm 11) [.setix 6 (.var 11) (.bi .min [.comp .seq [.plc 7] (.nm 12) [12] [] (.ix (.plc 8) (.plc 12))])]], .ret (.and (.call 20 [false, false] [.call 18 [false, false] [.var 2, .var 8], .bi .tuple [.plc 6]]) (.cmp .is_ (.call 16 [false, false] [.var 2, .bi .tuple [.plc 6]]) (.cst (.bl true))))]
def fn27 : Fn := ⟨[false], 13, b27⟩
/-- open_at(heights, goal, height) -/
def b28 : List RS := [.ret (.comp .range [.bi .len [.plc 0]] (.nm 3) [3] [.chn .ge .ge (.ix (.plc 0) (.plc 3)) (.plc 2) (.ix (.plc 1) (.plc 3))] (.var 3))]
def fn28 : Fn := ⟨[false, false, false], 4, b28⟩
/-- piece_of(web, heights, goal, person) -/
def b29 : List RS := [.asg 4 (.call 28 [false, false, false] [.var 1, .var 2, .ix (.plc 2) (.plc 3)]), .ret (.ife (.cmp .in_ (.plc 3) (.plc 4)) (.call 10 [false, false, false] [.var 0, .var 3, .var 4]) (.tup [] []))]
def fn29 : Fn := ⟨[false, false, false, false], 5, b29⟩
/-- sources_of(web, heights, goal, person) -/
def b30 : List RS := [.ret (.bi .tuple [.comp .seq [.call 29 [false, false, false, false] [.var 0, .var 1, .var 2, .var 3]] (.nm 4) [4] [.cmp .eq (.ix (.plc 1) (.plc 4)) (.ix (.plc 2) (.plc 3))] (.var 4)])]
def fn30 : Fn := ⟨[false, false, false, false], 5, b30⟩
/-- need_both(web, heights, goal) -/
def b31 : List RS := [.exp (.call 4 [false] [.var 0]), .exp (.call 5 [false, false] [.var 0, .var 1]), .exp (.call 5 [false, false] [.var 0, .var 2])]
def fn31 : Fn := ⟨[false, false, false], 3, b31⟩
/-- is_reached(web, heights, goal) -/
def b32 : List RS := [.ret (.bi .all [.comp .seq [.call 13 [false] [.var 0]] (.nm 3) [3] [] (.cmp .ne (.call 30 [false, false, false, false] [.var 0, .var 1, .var 2, .var 3]) (.tup [] []))])]
def fn32 : Fn := ⟨[false, false, false], 4, b32⟩
/-- comes(web, heights, goal) -/
def b33 : List RS := [.exp (.call 31 [false, false, false] [.var 0, .var 1, .var 2]), .ret (.call 32 [false, false, false] [.var 0, .var 1, .var 2])]
def fn33 : Fn := ⟨[false, false, false], 3, b33⟩
/-- sources(web, heights, goal, person) -/
def b34 : List RS := [.exp (.call 31 [false, false, false] [.var 0, .var 1, .var 2]), .exp (.call 6 [false, false] [.var 0, .var 3]), .ret (.call 30 [false, false, false, false] [.var 0, .var 1, .var 2, .var 3])]
def fn34 : Fn := ⟨[false, false, false, false], 4, b34⟩
/-- blocked(web, heights, goal) -/
def b35 : List RS := [.exp (.call 31 [false, false, false] [.var 0, .var 1, .var 2]), .loop .seq [.call 13 [false] [.var 0]] (.nm 3) [.ifs (.cmp .eq (.call 30 [false, false, false, false] [.var 0, .var 1, .var 2, .var 3]) (.tup [] [])) [.ret (.tup [false, false] [.var 3, .call 29 [false, false, false, false] [.var 0, .var 1, .var 2, .var 3]])] []], .ret (.cst .non)]
def fn35 : Fn := ⟨[false, false, false], 4, b35⟩
/-- pieces(web, heights, goal, height) -/
def b36 : List RS := [.exp (.call 31 [false, false, false] [.var 0, .var 1, .var 2]), .ifs (.not (.call 2 [false] [.var 3])) [.rais] [], .ret (.call 11 [false, false] [.var 0, .call 28 [false, false, false] [.var 1, .var 2, .var 3]])]
def fn36 : Fn := ⟨[false, false, false, false], 4, b36⟩
/-- _law_pick(_law_row, _law_things) -/
def b37 : List RS := [.ret (.ix (.plc 1) (.call 19 [true, false] [.plc 0, .bi .len [.plc 1]]))]
def fn37 : Fn := ⟨[true, false], 2, b37⟩
/-- _law_stoops(_law_web_here, _law_heights_here) -/
def b38 : List RS := [.asg 2 (.lst [] []), .loop .range [.ix (.plc 0) (.cst (.int 0))] (.nm 3) [.asg 2 (.bin .add (.plc 2) (.comp .seq [.call 24 [false, false] [.var 0, .var 3]] (.nm 4) [4] [.cmp .lt (.ix (.plc 1) (.plc 4)) (.ix (.plc 1) (.plc 3))] (.tup [false, false] [.var 3, .var 4])))], .ret (.mov 2)]
def fn38 : Fn := ⟨[false, false], 5, b38⟩
/-- _law_after(_law_heights_here, _law_pair) -/
def b39 : List RS := [.ret (.bin .add (.bin .add (.slc (.plc 0) .nop (.ix (.plc 1) (.cst (.int 0)))) (.tup [false] [.ix (.plc 0) (.ix (.plc 1) (.cst (.int 1)))])) (.slc (.plc 0) (.bin .add (.ix (.plc 1) (.cst (.int 0))) (.cst (.int 1))) .nop))]
def fn39 : Fn := ⟨[false, false], 2, b39⟩
/-- _law_steps(_law_web_here, _law_heights_here) -/
def b40 : List RS := [.par [2, 3, 4] [.dct [.var 1] [.cst (.int 0)], .lst [false] [.var 1], .cst (.int 0)], .whl (.cmp .ne (.plc 3) (.lst [] [])) [.par [6, 4] [.lst [] [], .bin .add (.plc 4) (.cst (.int 1))], .loop .seq [.plc 3] (.nm 5) [.loop .seq [.call 38 [false, false] [.var 0, .var 5]] (.nm 7) [.asg 8 (.call 39 [false, false] [.var 5, .var 7]), .ifs (.cmp .notin (.plc 8) (.plc 2)) [.setix 2 (.var 8) (.var 4), .app 6 (.var 8)] []]], .asg 3 (.var 6)], .ret (.mov 2)]
def fn40 : Fn := ⟨[false, false], 9, b40⟩
/-- _law_drawn(_law_row, _law_web_here, _law_heights_here, _law_most) -/
def b41 : List RS := [.par [5, 6] [.var 2, .tup [] []], .loop .range [.plc 3] (.nm 4) [.asg 7 (.call 38 [false, false] [.var 1, .var 5]), .ifs (.cmp .ne (.plc 7) (.lst [] [])) [.asg 8 (.call 37 [true, false] [.plc 0, .var 7]), .par [5, 6] [.call 39 [false, false] [.var 5, .var 8], .bin .add (.plc 6) (.tup [false] [.var 8])]] []], .ret (.tup [false, false] [.var 6, .var 5])]
def fn41 : Fn := ⟨[true, false, false, false], 9, b41⟩
/-- _law_open(_law_heights_here, _law_goal_here, _law_height) -/
def b42 : List RS := [.ret (.bi .tuple [.comp .range [.bi .len [.plc 0]] (.nm 3) [3] [.chn .ge .ge (.ix (.plc 0) (.plc 3)) (.plc 2) (.ix (.plc 1) (.plc 3))] (.var 3)])]
def fn42 : Fn := ⟨[false, false, false], 4, b42⟩
/-- _law_comes(_law_web_here, _law_heights_here, _law_goal_here) -/
def b43 : List RS := [.loop .range [.ix (.plc 0) (.cst (.int 0))] (.nm 3) [.asg 4 (.comp .seq [.call 25 [false, false] [.var 0, .call 42 [false, false, false] [.var 1, .var 2, .ix (.plc 2) (.plc 3)]]] (.nm 5) [5] [.cmp .in_ (.plc 3) (.plc 5)] (.var 5)), .ifs (.or (.cmp .eq (.plc 4) (.lst [] [])) (.cmp .eq (.comp .seq [.ix (.plc 4) (.cst (.int 0))] (.nm 6) [6] [.cmp .eq (.ix (.plc 1) (.plc 6)) (.ix (.plc 2) (.plc 3))] (.var 6)) (.lst [] []))) [.ret (.cst (.bl false))] []], .ret (.cst (.bl true))]
def fn43 : Fn := ⟨[false, false, false], 7, b43⟩
/-- _law_goal(_law_row, _law_web_here, _law_heights_here) -/
def b44 : List RS := [.ifs (.cmp .gt (.call 19 [true, false] [.plc 0, .cst (.int 3)]) (.cst (.int 0))) [.ret (.ix (.call 41 [true, false, false, false] [.plc 0, .var 1, .var 2, .call 19 [true, false] [.plc 0, .cst (.int 9)]]) (.cst (.int 1)))] [], .ret (.bi .tuple [.comp .seq [.plc 2] (.nm 3) [3] [] (.call 37 [true, false] [.plc 0, .var 2])])]
def fn44 : Fn := ⟨[true, false, false], 4, b44⟩
/-- law(_law_script) -/
def b45 : List RS := [.asg 1 (.lst [false, false, false, false] [.var 0, .cst (.int 0), .cst (.int 4903), .cst (.int 0)]), .asg 2 (.call 22 [true, false, false] [.plc 1, .cst (.int 5), .cst (.int 3)]), .asg 3 (.call 23 [true, false, false] [.plc 1, .ix (.plc 2) (.cst (.int 0)), .cst (.int 4)]), .par [7, 8] [.call 44 [true, false, false] [.plc 1, .var 2, .var 3], .call 40 [false, false] [.var 2, .var 3]], .ifs (.not (.call 21 [false, false] [.call 33 [false, false, false] [.var 2, .var 3, .var 7], .cmp .in_ (.plc 7) (.plc 8)])) [.ret (.cst (.bl false))] [], .ifs (.cmp .ne (.call 43 [false, false, false] [.var 2, .var 3, .var 7]) (.cmp .in_ (.plc 7) (.plc 8))) [.ret (.cst (.bl false))] [], .asg 4 (.call 22 [true, false, false] [.plc 1, .cst (.int 8), .cst (.int 5)]), .asg 3 (.call 23 [true, false, false] [.plc 1, .ix (.plc 4) (.cst (.int 0)), .cst (.int 5)]), .par [7, 9] [.call 44 [true, false, false] [.plc 1, .var 4, .var 3], .bin .sub (.call 19 [true, false] [.plc 1, .cst (.int 5)]) (.cst (.int 1))], .ifs (.not (.call 20 [false, false] [.call 36 [false, false, false, false] [.var 4, .var 3, .var 7, .var 9], .bi .tuple [.call 25 [false, false] [.var 4, .call 42 [false, false, false] [.var 3, .var 7, .var 9]]]])) [.ret (.cst (.bl false))] [], .asg 5 (.cst .non), .loop .range [.ix (.plc 4) (.cst (.int 0))] (.nm 6) [.asg 10 (.comp .seq [.call 25 [false, false] [.var 4, .call 42 [false, false, false] [.var 3, .var 7, .ix (.plc 7) (.plc 6)]]] (.nm 11) [11] [.cmp .in_ (.plc 6) (.plc 11)] (.var 11)), .asg 11 (.ife (.cmp .ne (.plc 10) (.lst [] [])) (.ix (.plc 10) (.cst (.int 0))) (.tup [] [])), .asg 12 (.bi .tuple [.comp .seq [.plc 11] (.nm 13) [13] [.cmp .eq (.ix (.plc 3) (.plc 13)) (.ix (.plc 7) (.plc 6))] (.var 13)]), .ifs (.not (.call 20 [false, false] [.call 34 [false, false, false, false] [.var 4, .var 3, .var 7, .var 6], .var 12])) [.ret (.cst (.bl false))] [], .ifs (.and (.cmp .is_ (.plc 5) (.cst .non)) (.cmp .eq (.plc 12) (.tup [] []))) [.asg 5 (.tup [false, false] [.var 6, .var 11])] []], .ret (.and (.call 20 [false, false] [.call 35 [false, false, false] [.var 4, .var 3, .var 7], .var 5]) (.call 21 [false, false] [.call 33 [false, false, false] [.var 4, .var 3, .var 7], .cmp .is_ (.plc 5) (.cst .non)]))]
def fn45 : Fn := ⟨[false], 14, b45⟩
/-- next_of(web, heights) -/
def b46 : List RS := [.asg 2 (.lst [] []), .loop .seq [.call 13 [false] [.var 0]] (.nm 3) [.ext 2 (.comp .seq [.call 8 [false, false] [.var 0, .var 3]] (.nm 4) [4] [.cmp .lt (.ix (.plc 1) (.plc 4)) (.ix (.plc 1) (.plc 3))] (.tup [false, false] [.var 3, .var 4]))], .ret (.bi .tuple [.plc 2])]
def fn46 : Fn := ⟨[false, false], 5, b46⟩
/-- after(heights, person, other) -/
def b47 : List RS := [.ret (.tup [true, false, true] [.slc (.plc 0) .nop (.var 1), .ix (.plc 0) (.plc 2), .slc (.plc 0) (.bin .add (.plc 1) (.cst (.int 1))) .nop])]
def fn47 : Fn := ⟨[false, false, false], 3, b47⟩
/-- all_of(web, heights) -/
def b48 : List RS := [.par [2, 3] [.dct [.var 1] [.cst (.bl true)], .lst [false] [.var 1]], .whl (.cmp .ne (.plc 3) (.lst [] [])) [.asg 4 (.pop 3), .loop .seq [.call 46 [false, false] [.var 0, .var 4]] (.tp [.nm 5, .nm 6]) [.asg 7 (.call 47 [false, false, false] [.var 4, .var 5, .var 6]), .ifs (.cmp .notin (.plc 7) (.plc 2)) [.setix 2 (.var 7) (.cst (.bl true)), .app 3 (.var 7)] []], .ifs (.cmp .gt (.bi .len [.plc 2]) (.cst (.int 5000))) [.rais] []], .ret (.bi .sorted [.plc 2])]
def fn48 : Fn := ⟨[false, false], 8, b48⟩
/-- need_start(web, heights) -/
def b49 : List RS := [.exp (.call 4 [false] [.var 0]), .exp (.call 5 [false, false] [.var 0, .var 1])]
def fn49 : Fn := ⟨[false, false], 2, b49⟩
/-- common(web, one, other) -/
def b50 : List RS := [.exp (.call 49 [false, false] [.var 0, .var 1]), .exp (.call 5 [false, false] [.var 0, .var 2]), .asg 3 (.call 48 [false, false] [.var 0, .var 2]), .ret (.comp .seq [.call 48 [false, false] [.var 0, .var 1]] (.nm 4) [4] [.cmp .in_ (.plc 4) (.plc 3)] (.var 4))]
def fn50 : Fn := ⟨[false, false, false], 5, b50⟩
/-- meets(web, one, other) -/
def b51 : List RS := [.exp (.call 49 [false, false] [.var 0, .var 1]), .exp (.call 5 [false, false] [.var 0, .var 2]), .ret (.cmp .ne (.call 50 [false, false, false] [.var 0, .var 1, .var 2]) (.lst [] []))]
def fn51 : Fn := ⟨[false, false, false], 3, b51⟩
/-- highest_common(web, one, other) -/
def b52 : List RS := [.exp (.call 49 [false, false] [.var 0, .var 1]), .exp (.call 5 [false, false] [.var 0, .var 2]), .asg 3 (.call 50 [false, false, false] [.var 0, .var 1, .var 2]), .ifs (.cmp .eq (.plc 3) (.lst [] [])) [.ret (.cst .non)] [], .asg 4 (.bi .max [.comp .seq [.plc 3] (.nm 5) [5] [] (.bi .sum [.plc 5])]), .ret (.ix (.comp .seq [.plc 3] (.nm 5) [5] [.cmp .eq (.bi .sum [.plc 5]) (.plc 4)] (.var 5)) (.cst (.int 0)))]
def fn52 : Fn := ⟨[false, false, false], 6, b52⟩
/-- is_between(web, heights, goal, told) -/
def b53 : List RS := [.exp (.call 49 [false, false] [.var 0, .var 1]), .exp (.call 5 [false, false] [.var 0, .var 2]), .exp (.call 5 [false, false] [.var 0, .var 3]), .ret (.and (.call 32 [false, false, false] [.var 0, .var 1, .var 3]) (.call 32 [false, false, false] [.var 0, .var 3, .var 2]))]
def fn53 : Fn := ⟨[false, false, false, false], 4, b53⟩
/-- law(_law_script) -/
def b54 : List RS := [.asg 1 (.lst [false, false, false, false] [.var 0, .cst (.int 0), .cst (.int 4911), .cst (.int 0)]), .asg 2 (.call 22 [true, false, false] [.plc 1, .cst (.int 4), .cst (.int 3)]), .asg 3 (.call 23 [true, false, false] [.plc 1, .ix (.plc 2) (.cst (.int 0)), .cst (.int 5)]), .asg 4 (.ife (.cmp .eq (.call 19 [true, false] [.plc 1, .cst (.int 2)]) (.cst (.int 0))) (.call 23 [true, false, false] [.plc 1, .ix (.plc 2) (.cst (.int 0)), .cst (.int 5)]) (.bi .tuple [.comp .seq [.plc 3] (.nm 12) [12] [] (.call 37 [true, false] [.plc 1, .var 3])])), .par [8, 9] [.call 40 [false, false] [.var 2, .var 3], .call 40 [false, false] [.var 2, .var 4]], .asg 5 (.bi .sorted [.comp .seq [.bi .list [.plc 8]] (.nm 11) [11] [.cmp .in_ (.plc 11) (.plc 9)] (.var 11)]), .ifs (.or (.not (.call 20 [false, false] [.call 50 [false, false, false] [.var 2, .var 3, .var 4], .var 5])) (.not (.call 21 [false, false] [.call 51 [false, false, false] [.var 2, .var 3, .var 4], .cmp .ne (.plc 5) (.lst [] [])]))) [.ret (.cst (.bl false))] [], .asg 6 (.ife (.cmp .ne (.plc 5) (.lst [] [])) (.bi .max [.comp .seq [.plc 5] (.nm 11) [11] [] (.bi .sum [.plc 11])]) (.cst (.int 0))), .asg 7 (.ife (.cmp .ne (.plc 5) (.lst [] [])) (.ix (.comp .seq [.plc 5] (.nm 11) [11] [.cmp .eq (.bi .sum [.plc 11]) (.plc 6)] (.var 11)) (.cst (.int 0))) (.cst .non)), .ifs (.not (.call 20 [false, false] [.call 52 [false, false, false] [.var 2, .var 3, .var 4], .var 7])) [.ret (.cst (.bl false))] [], .par [10, 11] [.call 44 [true, false, false] [.plc 1, .var 2, .var 3], .call 44 [true, false, false] [.plc 1, .var 2, .var 3]], .ret (.call 21 [false, false] [.call 53 [false, false, false, false] [.var 2, .var 3, .var 10, .var 11], .and (.cmp .in_ (.plc 11) (.plc 8)) (.cmp .in_ (.plc 10) (.call 40 [false, false] [.var 2, .var 11]))])]
def fn54 : Fn := ⟨[false], 13, b54⟩
/-- turned(heights) -/
def b55 : List RS := [.ret (.bi .tuple [.comp .seq [.plc 0] (.nm 1) [1] [] (.neg (.var 1))])]
def fn55 : Fn := ⟨[false], 2, b55⟩
/-- rises(web, heights, goal) -/
def b56 : List RS := [.exp (.call 31 [false, false, false] [.var 0, .var 1, .var 2]), .ret (.call 32 [false, false, false] [.var 0, .call 55 [false] [.var 1], .call 55 [false] [.var 2]])]
def fn56 : Fn := ⟨[false, false, false], 3, b56⟩
/-- rise_outcomes(web, heights) -/
def b57 : List RS := [.exp (.call 49 [false, false] [.var 0, .var 1]), .ret (.bi .sorted [.comp .seq [.call 48 [false, false] [.var 0, .call 55 [false] [.var 1]]] (.nm 2) [2] [] (.call 55 [false] [.var 2])])]
def fn57 : Fn := ⟨[false, false], 3, b57⟩
/-- valley(web, heights, goal) -/
def b58 : List RS := [.exp (.call 49 [false, false] [.var 0, .var 1]), .exp (.call 5 [false, false] [.var 0, .var 2]), .asg 3 (.comp .seq [.call 48 [false, false] [.var 0, .var 1]] (.nm 4) [4] [.call 32 [false, false, false] [.var 0, .call 55 [false] [.var 4], .call 55 [false] [.var 2]]] (.var 4)), .ret (.ife (.cmp .ne (.plc 3) (.lst [] [])) (.ix (.plc 3) (.neg (.cst (.int 1)))) (.cst .non))]
def fn58 : Fn := ⟨[false, false, false], 5, b58⟩
/-- down_and_up(web, heights, goal) -/
def b59 : List RS := [.exp (.call 49 [false, false] [.var 0, .var 1]), .exp (.call 5 [false, false] [.var 0, .var 2]), .ret (.cmp .isnot (.call 58 [false, false, false] [.var 0, .var 1, .var 2]) (.cst .non))]
def fn59 : Fn := ⟨[false, false, false], 3, b59⟩
/-- count_down_and_up(web, heights) -/
def b60 : List RS := [.exp (.call 49 [false, false] [.var 0, .var 1]), .ifs (.cmp .gt (.ix (.plc 0) (.cst (.int 0))) (.cst (.int 4))) [.rais] [], .asg 2 (.dct [] []), .loop .seq [.call 48 [false, false] [.var 0, .var 1]] (.nm 3) [.loop .seq [.call 48 [false, false] [.var 0, .call 55 [false] [.var 3]]] (.nm 4) [.setix 2 (.var 4) (.cst (.bl true))]], .ret (.bi .len [.plc 2])]
def fn60 : Fn := ⟨[false, false], 5, b60⟩
/-- _law_up(_law_web_here, _law_heights_here) -/
def b61 : List RS := [.par [2, 3] [.dct [.var 1] [.cst (.bl true)], .lst [false] [.var 1]], .whl (.cmp .ne (.plc 3) (.lst [] [])) [.asg 4 (.pop 3), .loop .range [.ix (.plc 0) (.cst (.int 0))] (.nm 5) [.loop .seq [.call 24 [false, false] [.var 0, .var 5]] (.nm 6) [.asg 7 (.call 39 [false, false] [.var 4, .tup [false, false] [.var 5, .var 6]]), .ifs (.and (.cmp .gt (.ix (.plc 4) (.plc 6)) (.ix (.plc 4) (.plc 5))) (.cmp .notin (.plc 7) (.plc 2))) [.setix 2 (.var 7) (.cst (.bl true)), .app 3 (.var 7)] []]]], .ret (.bi .sorted [.bi .list [.plc 2]])]
def fn61 : Fn := ⟨[false, false], 8, b61⟩
/-- law(_law_script) -/
def b62 : List RS := [.asg 1 (.lst [false, false, false, false] [.var 0, .cst (.int 0), .cst (.int 4935), .cst (.int 0)]), .asg 2 (.call 22 [true, false, false] [.plc 1, .cst (.int 4), .cst (.int 2)]), .asg 3 (.call 23 [true, false, false] [.plc 1, .ix (.plc 2) (.cst (.int 0)), .cst (.int 4)]), .asg 4 (.call 61 [false, false] [.var 2, .var 3]), .asg 5 (.ife (.cmp .eq (.call 19 [true, false] [.plc 1, .cst (.int 2)]) (.cst (.int 0))) (.call 37 [true, false] [.plc 1, .var 4]) (.call 44 [true, false, false] [.plc 1, .var 2, .var 3])), .ifs (.or (.not (.call 21 [false, false] [.call 56 [false, false, false] [.var 2, .var 3, .var 5], .cmp .in_ (.plc 5) (.plc 4)])) (.not (.call 20 [false, false] [.call 57 [false, false] [.var 2, .var 3], .var 4]))) [.ret (.cst (.bl false))] [], .par [7, 8, 9] [.dct [] [], .cst .non, .bi .sorted [.bi .list [.call 40 [false, false] [.var 2, .var 3]]]], .loop .seq [.plc 9] (.nm 6) [.loop .seq [.call 61 [false, false] [.var 2, .var 6]] (.nm 10) [.setix 7 (.var 10) (.cst (.bl true)), .asg 8 (.ife (.cmp .eq (.plc 10) (.plc 5)) (.var 6) (.var 8))]], .ifs (.not (.call 20 [false, false] [.call 58 [false, false, false] [.var 2, .var 3, .var 5], .var 8])) [.ret (.cst (.bl false))] [], .ifs (.not (.call 21 [false, false] [.call 59 [false, false, false] [.var 2, .var 3, .var 5], .cmp .isnot (.plc 8) (.cst .non)])) [.ret (.cst (.bl false))] [], .ret (.call 20 [false, false] [.call 60 [false, false] [.var 2, .var 3], .bi .len [.bi .list [.plc 7]]])]
def fn62 : Fn := ⟨[false], 11, b62⟩
/-- outcomes(web, heights) -/
def b63 : List RS := [.exp (.call 49 [false, false] [.var 0, .var 1]), .ret (.call 48 [false, false] [.var 0, .var 1])]
def fn63 : Fn := ⟨[false, false], 2, b63⟩
/-- covers(web, heights) -/
def b64 : List RS := [.exp (.call 49 [false, false] [.var 0, .var 1]), .asg 2 (.lst [] []), .loop .seq [.call 13 [false] [.var 0]] (.nm 3) [.asg 4 (.comp .seq [.call 8 [false, false] [.var 0, .var 3]] (.nm 5) [5] [.cmp .lt (.ix (.plc 1) (.plc 5)) (.ix (.plc 1) (.plc 3))] (.ix (.plc 1) (.plc 5))), .ifs (.cmp .ne (.plc 4) (.lst [] [])) [.app 2 (.tup [true, false, true] [.slc (.plc 1) .nop (.var 3), .bi .max [.plc 4], .slc (.plc 1) (.bin .add (.plc 3) (.cst (.int 1))) .nop])] []], .ret (.bi .sorted [.plc 2])]
def fn64 : Fn := ⟨[false, false], 6, b64⟩
/-- need_values(value) -/
def b65 : List RS := [.ifs (.or (.not (.bi (.isa [.tup]) [.plc 0])) (.not (.chn .le .le (.cst (.int 1)) (.bi .len [.plc 0]) (.cst (.int 4))))) [.rais] [], .ifs (.or (.not (.bi .all [.comp .seq [.plc 0] (.nm 1) [1] [] (.call 2 [false] [.var 1])])) (.bi .any [.comp .zip [.plc 0, .slc (.plc 0) (.cst (.int 1)) .nop] (.tp [.nm 2, .nm 3]) [2, 3] [] (.cmp .ge (.plc 2) (.plc 3))])) [.rais] []]
def fn65 : Fn := ⟨[false], 4, b65⟩
/-- all_heights(many, values) -/
def b66 : List RS := [.asg 2 (.lst [false] [.tup [] []]), .loop .range [.plc 0] (.nm 3) [.asg 4 (.lst [] []), .loop .seq [.plc 2] (.nm 5) [.ext 4 (.comp .seq [.plc 1] (.nm 6) [6] [] (.tup [true, false] [.plc 5, .var 6]))], .asg 2 (.var 4)], .ret (.mov 2)]
def fn66 : Fn := ⟨[false, false], 7, b66⟩
/-- befores_of(web, goal, values) -/
def b67 : List RS := [.ret (.comp .seq [.call 66 [false, false] [.ix (.plc 0) (.cst (.int 0)), .var 2]] (.nm 3) [3] [.call 32 [false, false, false] [.var 0, .var 3, .var 1]] (.var 3))]
def fn67 : Fn := ⟨[false, false, false], 4, b67⟩
/-- need_before(web, goal, values) -/
def b68 : List RS := [.exp (.call 4 [false] [.var 0]), .exp (.call 5 [false, false] [.var 0, .var 1]), .exp (.call 65 [false] [.var 2]), .ifs (.cmp .gt (.ix (.plc 0) (.cst (.int 0))) (.cst (.int 5))) [.rais] []]
def fn68 : Fn := ⟨[false, false, false], 3, b68⟩
/-- befores(web, goal, values) -/
def b69 : List RS := [.exp (.call 68 [false, false, false] [.var 0, .var 1, .var 2]), .ret (.call 67 [false, false, false] [.var 0, .var 1, .var 2])]
def fn69 : Fn := ⟨[false, false, false], 3, b69⟩
/-- is_first(web, goal, values) -/
def b70 : List RS := [.exp (.call 68 [false, false, false] [.var 0, .var 1, .var 2]), .ret (.bi .all [.comp .seq [.call 67 [false, false, false] [.var 0, .var 1, .var 2]] (.nm 3) [3] [] (.cmp .eq (.plc 3) (.plc 1))])]
def fn70 : Fn := ⟨[false, false, false], 4, b70⟩
/-- count_firsts(web, values) -/
def b71 : List RS := [.exp (.call 4 [false] [.var 0]), .exp (.call 65 [false] [.var 1]), .ifs (.cmp .gt (.ix (.plc 0) (.cst (.int 0))) (.cst (.int 5))) [.rais] [], .asg 2 (.cst (.int 0)), .loop .seq [.call 66 [false, false] [.ix (.plc 0) (.cst (.int 0)), .var 1]] (.nm 3) [.ifs (.bi .all [.comp .seq [.call 67 [false, false, false] [.var 0, .var 3, .var 1]] (.nm 4) [4] [] (.cmp .eq (.plc 4) (.plc 3))]) [.aug 2 .add (.cst (.int 1))] []], .ret (.mov 2)]
def fn71 : Fn := ⟨[false, false], 5, b71⟩
/-- highest_before(web, goal, values) -/
def b72 : List RS := [.exp (.call 68 [false, false, false] [.var 0, .var 1, .var 2]), .asg 3 (.call 67 [false, false, false] [.var 0, .var 1, .var 2]), .ifs (.cmp .eq (.plc 3) (.lst [] [])) [.ret (.cst .non)] [], .asg 4 (.bi .max [.comp .seq [.plc 3] (.nm 5) [5] [] (.bi .sum [.plc 5])]), .ret (.ix (.comp .seq [.plc 3] (.nm 5) [5] [.cmp .eq (.bi .sum [.plc 5]) (.plc 4)] (.var 5)) (.cst (.int 0)))]
def fn72 : Fn := ⟨[false, false, false], 6, b72⟩
/-- law(_law_script) -/
def b73 : List RS := [.asg 1 (.lst [false, false, false, false] [.var 0, .cst (.int 0), .cst (.int 4982), .cst (.int 0)]), .asg 2 (.call 22 [true, false, false] [.plc 1, .cst (.int 3), .cst (.int 2)]), .par [11, 12] [.ix (.plc 2) (.cst (.int 0)), .slc (.tup [false, false, false] [.cst (.int 0), .cst (.int 1), .cst (.int 2)]) .nop (.bin .add (.cst (.int 1)) (.call 19 [true, false] [.plc 1, .cst (.int 3)]))], .asg 3 (.lst [false] [.tup [] []]), .loop .range [.plc 11] (.nm 4) [.asg 13 (.lst [] []), .loop .seq [.plc 3] (.nm 6) [.asg 13 (.bin .add (.plc 13) (.comp .seq [.plc 12] (.nm 15) [15] [] (.bin .add (.plc 6) (.tup [false] [.var 15]))))], .asg 3 (.var 13)], .asg 5 (.lst [] []), .loop .seq [.plc 3] (.nm 6) [.asg 5 (.bin .add (.plc 5) (.comp .seq [.call 63 [false, false] [.var 2, .var 6]] (.nm 14) [14] [.cmp .ne (.plc 14) (.plc 6)] (.var 14)))], .asg 7 (.comp .seq [.plc 3] (.nm 6) [6] [.cmp .notin (.plc 6) (.plc 5)] (.var 6)), .ifs (.cmp .ne (.call 71 [false, false] [.var 2, .var 12]) (.bi .len [.plc 7])) [.ret (.cst (.bl false))] [], .asg 8 (.call 37 [true, false] [.plc 1, .var 3]), .ifs (.cmp .ne (.call 70 [false, false, false] [.var 2, .var 8, .var 12]) (.cmp .in_ (.plc 8) (.plc 7))) [.ret (.cst (.bl false))] [], .asg 9 (.call 72 [false, false, false] [.var 2, .var 8, .var 12]), .ifs (.and (.not (.call 70 [false, false, false] [.var 2, .var 9, .var 12])) (.cmp .gt (.bi .sum [.plc 9]) (.bin .add (.bi .sum [.plc 8]) (.bin .mul (.plc 11) (.cst (.int 3)))))) [.ret (.cst (.bl false))] [], .ifs (.cmp .ne (.comp .seq [.call 69 [false, false, false] [.var 2, .var 8, .var 12]] (.nm 6) [6] [.cmp .gt (.bi .sum [.plc 6]) (.bi .sum [.plc 9])] (.var 6)) (.lst [] [])) [.ret (.cst (.bl false))] [], .loop .seq [.call 64 [false, false] [.var 2, .var 8]] (.nm 6) [.ifs (.cmp .notin (.plc 8) (.call 69 [false, false, false] [.var 2, .var 6, .var 12])) [.ret (.cst (.bl false))] []], .asg 10 (.comp .range [.plc 11] (.nm 14) [14] [.cmp .eq (.call 24 [false, false] [.var 2, .var 14]) (.lst [] [])] (.var 14)), .ret (.or (.call 70 [false, false, false] [.var 2, .var 8, .var 12]) (.cmp .lt (.bi .len [.plc 10]) (.plc 11)))]
def fn73 : Fn := ⟨[false], 16, b73⟩
/-- lesser(web, heights, one, other) -/
def b74 : List RS := [.exp (.call 49 [false, false] [.var 0, .var 1]), .exp (.call 5 [false, false] [.var 0, .var 2]), .exp (.call 5 [false, false] [.var 0, .var 3]), .ifs (.or (.not (.call 32 [false, false, false] [.var 0, .var 1, .var 2])) (.not (.call 32 [false, false, false] [.var 0, .var 1, .var 3]))) [.ret (.cst .non)] [], .ret (.bi .tuple [.comp .zip [.plc 2, .plc 3] (.tp [.nm 4, .nm 5]) [4, 5] [] (.bi .min [.plc 4, .plc 5])])]
def fn74 : Fn := ⟨[false, false, false, false], 6, b74⟩
/-- law(_law_script) -/
def b75 : List RS := [.asg 1 (.lst [false, false, false, false] [.var 0, .cst (.int 0), .cst (.int 4983), .cst (.int 0)]), .asg 2 (.call 22 [true, false, false] [.plc 1, .cst (.int 4), .cst (.int 3)]), .asg 3 (.ix (.plc 2) (.cst (.int 0))), .asg 4 (.call 23 [true, false, false] [.plc 1, .var 3, .cst (.int 4)]), .asg 5 (.ife (.cmp .eq (.call 19 [true, false] [.plc 1, .cst (.int 2)]) (.cst (.int 0))) (.bi .tuple [.comp .seq [.plc 4] (.nm 11) [11] [] (.call 37 [true, false] [.plc 1, .var 4])]) (.call 23 [true, false, false] [.plc 1, .var 3, .cst (.int 4)])), .asg 6 (.call 50 [false, false, false] [.var 2, .var 4, .var 5]), .ifs (.and (.cmp .eq (.call 18 [false, false] [.var 2, .var 4]) (.call 18 [false, false] [.var 2, .var 5])) (.cmp .notin (.call 18 [false, false] [.var 2, .var 4]) (.plc 6))) [.ret (.cst (.bl false))] [], .ifs (.cmp .ne (.call 51 [false, false, false] [.var 2, .var 4, .var 5]) (.cmp .ne (.plc 6) (.lst [] []))) [.ret (.cst (.bl false))] [], .ifs (.cmp .ne (.cmp .ne (.plc 6) (.lst [] [])) (.cmp .eq (.call 18 [false, false] [.var 2, .var 4]) (.call 18 [false, false] [.var 2, .var 5]))) [.ret (.cst (.bl false))] [], .loop .seq [.slc (.plc 6) .nop (.cst (.int 8))] (.nm 7) [.loop .seq [.slc (.plc 6) .nop (.cst (.int 8))] (.nm 10) [.ifs (.cmp .notin (.call 74 [false, false, false, false] [.var 2, .var 4, .var 7, .var 10]) (.plc 6)) [.ret (.cst (.bl false))] []]], .asg 8 (.call 52 [false, false, false] [.var 2, .var 4, .var 5]), .ifs (.cmp .ne (.cmp .is_ (.plc 8) (.cst .non)) (.cmp .eq (.plc 6) (.lst [] []))) [.ret (.cst (.bl false))] [], .ifs (.and (.cmp .isnot (.plc 8) (.cst .non)) (.cmp .ne (.comp .seq [.plc 6] (.nm 7) [7] [.cmp .gt (.bi .sum [.plc 7]) (.bi .sum [.plc 8])] (.var 7)) (.lst [] []))) [.ret (.cst (.bl false))] [], .ifs (.or (.cmp .ne (.call 50 [false, false, false] [.var 2, .var 4, .var 4]) (.call 63 [false, false] [.var 2, .var 4])) (.cmp .ne (.call 52 [false, false, false] [.var 2, .var 4, .var 4]) (.plc 4))) [.ret (.cst (.bl false))] [], .loop .seq [.call 12 [false, false] [.var 2, .bi .tuprng [.var 3]]] (.nm 9) [.ifs (.and (.cmp .eq (.bi .len [.plc 9]) (.plc 3)) (.and (.cmp .eq (.bi .min [.plc 4]) (.bi .min [.plc 5])) (.not (.call 51 [false, false, false] [.var 2, .var 4, .var 5])))) [.ret (.cst (.bl false))] []], .ret (.cmp .le (.bi .len [.plc 6]) (.bi .min [.bi .len [.call 63 [false, false] [.var 2, .var 4]], .bi .len [.call 63 [false, false] [.var 2, .var 5]]]))]
def fn75 : Fn := ⟨[false], 12, b75⟩
/-- count_befores(web, goal, values) -/
def b76 : List RS := [.exp (.call 68 [false, false, false] [.var 0, .var 1, .var 2]), .ret (.bi .len [.call 67 [false, false, false] [.var 0, .var 1, .var 2]])]
def fn76 : Fn := ⟨[false, false, false], 3, b76⟩
/-- steps_before(web, goal, values) -/
def b77 : List RS := [.exp (.call 68 [false, false, false] [.var 0, .var 1, .var 2]), .asg 3 (.lst [] []), .loop .seq [.call 66 [false, false] [.ix (.plc 0) (.cst (.int 0)), .var 2]] (.nm 4) [.asg 5 (.comp .seq [.call 13 [false] [.var 0]] (.nm 6) [6] [.cmp .ne (.ix (.plc 4) (.plc 6)) (.ix (.plc 1) (.plc 6))] (.var 6)), .ifs (.and (.cmp .eq (.bi .len [.plc 5]) (.cst (.int 1))) (.call 32 [false, false, false] [.var 0, .var 4, .var 1])) [.app 3 (.var 4)] []], .ret (.mov 3)]
def fn77 : Fn := ⟨[false, false, false], 7, b77⟩
/-- could_be(web, goal, person, values) -/
def b78 : List RS := [.exp (.call 4 [false] [.var 0]), .exp (.call 5 [false, false] [.var 0, .var 1]), .exp (.call 6 [false, false] [.var 0, .var 2]), .exp (.call 65 [false] [.var 3]), .ifs (.cmp .gt (.ix (.plc 0) (.cst (.int 0))) (.cst (.int 5))) [.rais] [], .ret (.bi .tuple [.bi .sset [.comp .seq [.call 67 [false, false, false] [.var 0, .var 1, .var 3]] (.nm 4) [4] [] (.ix (.plc 4) (.plc 2))]])]
def fn78 : Fn := ⟨[false, false, false, false], 5, b78⟩
/-- law(_law_script) -/
def b79 : List RS := [.asg 1 (.lst [false, false, false, false] [.var 0, .cst (.int 0), .cst (.int 4910), .cst (.int 0)]), .asg 2 (.call 22 [true, false, false] [.plc 1, .cst (.int 4), .cst (.int 3)]), .asg 3 (.ix (.plc 2) (.cst (.int 0))), .asg 4 (.bi .tuple [.bi .sset [.comp .range [.bin .add (.cst (.int 1)) (.call 19 [true, false] [.plc 1, .cst (.int 3)])] (.nm 6) [6] [] (.bin .sub (.call 19 [true, false] [.plc 1, .cst (.int 5)]) (.cst (.int 1)))]]), .asg 5 (.lst [false] [.tup [] []]), .loop .range [.plc 3] (.nm 6) [.asg 15 (.lst [] []), .loop .seq [.plc 5] (.nm 12) [.asg 15 (.bin .add (.plc 15) (.comp .seq [.plc 4] (.nm 16) [16] [] (.bin .add (.plc 12) (.tup [false] [.var 16]))))], .asg 5 (.var 15)], .asg 7 (.ife (.cmp .gt (.call 19 [true, false] [.plc 1, .cst (.int 4)]) (.cst (.int 0))) (.call 37 [true, false] [.plc 1, .var 5]) (.call 23 [true, false, false] [.plc 1, .var 3, .cst (.int 4)])), .asg 8 (.comp .seq [.plc 5] (.nm 12) [12] [.cmp .in_ (.plc 7) (.call 40 [false, false] [.var 2, .var 12])] (.var 12)), .ifs (.not (.call 20 [false, false] [.lst [false, false] [.call 69 [false, false, false] [.var 2, .var 7, .var 4], .call 76 [false, false, false] [.var 2, .var 7, .var 4]], .lst [false, false] [.var 8, .bi .len [.plc 8]]])) [.ret (.cst (.bl false))] [], .ifs (.not (.call 21 [false, false] [.call 70 [false, false, false] [.var 2, .var 7, .var 4], .cmp .eq (.comp .seq [.plc 8] (.nm 12) [12] [.cmp .ne (.plc 12) (.plc 7)] (.var 12)) (.lst [] [])])) [.ret (.cst (.bl false))] [], .asg 9 (.ife (.cmp .ne (.plc 8) (.lst [] [])) (.bi .max [.comp .seq [.plc 8] (.nm 12) [12] [] (.bi .sum [.plc 12])]) (.cst (.int 0))), .asg 10 (.ife (.cmp .ne (.plc 8) (.lst [] [])) (.ix (.comp .seq [.plc 8] (.nm 12) [12] [.cmp .eq (.bi .sum [.plc 12]) (.plc 9)] (.var 12)) (.cst (.int 0))) (.cst .non)), .ifs (.not (.call 20 [false, false] [.call 72 [false, false, false] [.var 2, .var 7, .var 4], .var 10])) [.ret (.cst (.bl false))] [], .asg 11 (.lst [] []), .loop .seq [.plc 8] (.nm 12) [.asg 11 (.bin .add (.plc 11) (.ife (.cmp .eq (.bi .len [.comp .range [.plc 3] (.nm 18) [18] [.cmp .ne (.ix (.plc 12) (.plc 18)) (.ix (.plc 7) (.plc 18))] (.var 18)]) (.cst (.int 1))) (.lst [false] [.var 12]) (.lst [] [])))], .ifs (.not (.call 20 [false, false] [.call 77 [false, false, false] [.var 2, .var 7, .var 4], .var 11])) [.ret (.cst (.bl false))] [], .asg 13 (.call 19 [true, false] [.plc 1, .var 3]), .ifs (.not (.call 20 [false, false] [.call 78 [false, false, false, false] [.var 2, .var 7, .var 13, .var 4], .bi .tuple [.bi .sset [.comp .seq [.plc 8] (.nm 12) [12] [] (.ix (.plc 12) (.plc 13))]]])) [.ret (.cst (.bl false))] [], .ifs (.cmp .gt (.plc 3) (.cst (.int 3))) [.ret (.cst (.bl true))] [], .asg 14 (.cst (.int 0)), .loop .seq [.plc 5] (.nm 12) [.asg 14 (.bin .add (.plc 14) (.ife (.cmp .eq (.comp .seq [.plc 5] (.nm 17) [17] [.and (.cmp .ne (.plc 17) (.plc 12)) (.cmp .in_ (.plc 12) (.call 40 [false, false] [.var 2, .var 17]))] (.var 17)) (.lst [] [])) (.cst (.int 1)) (.cst (.int 0))))], .ret (.call 20 [false, false] [.call 71 [false, false] [.var 2, .var 4], .var 14])]
def fn79 : Fn := ⟨[false], 19, b79⟩
/-- count_seeds(web, values) -/
def b80 : List RS := [.exp (.call 4 [false] [.var 0]), .ifs (.or (.not (.bi (.isa [.int]) [.plc 1])) (.or (.bi (.isa [.bl]) [.plc 1]) (.not (.chn .le .le (.cst (.int 1)) (.plc 1) (.cst (.int 3)))))) [.rais] [], .ifs (.cmp .gt (.ix (.plc 0) (.cst (.int 0))) (.cst (.int 4))) [.rais] [], .asg 2 (.lst [false] [.tup [] []]), .loop .seq [.call 13 [false] [.var 0]] (.nm 3) [.asg 4 (.lst [] []), .loop .seq [.plc 2] (.nm 5) [.ext 4 (.comp .range [.plc 1] (.nm 6) [6] [] (.tup [true, false] [.plc 5, .var 6]))], .asg 2 (.var 4)], .ret (.bi .sum [.comp .seq [.plc 2] (.nm 5) [5] [] (.bi .len [.call 48 [false, false] [.var 0, .var 5]])])]
def fn80 : Fn := ⟨[false, false], 7, b80⟩
/-- law(_law_script) -/
def b81 : List RS := [.asg 1 (.lst [false, false, false, false] [.var 0, .cst (.int 0), .cst (.int 4981), .cst (.int 0)]), .asg 2 (.call 22 [true, false, false] [.plc 1, .cst (.int 3), .cst (.int 2)]), .par [10, 11] [.ix (.plc 2) (.cst (.int 0)), .tup [false, false, false] [.cst (.int 0), .cst (.int 1), .cst (.int 2)]], .asg 3 (.lst [false] [.tup [] []]), .loop .range [.plc 10] (.nm 4) [.asg 12 (.lst [] []), .loop .seq [.plc 3] (.nm 8) [.asg 12 (.bin .add (.plc 12) (.comp .seq [.plc 11] (.nm 16) [16] [] (.bin .add (.plc 8) (.tup [false] [.var 16]))))], .asg 3 (.var 12)], .asg 5 (.cst (.int 0)), .loop .seq [.plc 3] (.nm 6) [.asg 5 (.bin .add (.plc 5) (.call 76 [false, false, false] [.var 2, .var 6, .var 11]))], .ifs (.cmp .ne (.plc 5) (.call 80 [false, false] [.var 2, .cst (.int 3)])) [.ret (.cst (.bl false))] [], .asg 6 (.call 37 [true, false] [.plc 1, .var 3]), .asg 7 (.call 69 [false, false, false] [.var 2, .var 6, .var 11]), .loop .seq [.plc 7] (.nm 8) [.asg 13 (.bi .tuple [.comp .seq [.plc 8] (.nm 16) [16] [] (.bin .sub (.cst (.int 2)) (.plc 16))]), .ifs (.not (.call 56 [false, false, false] [.var 2, .var 13, .bi .tuple [.comp .seq [.plc 6] (.nm 16) [16] [] (.bin .sub (.cst (.int 2)) (.plc 16))]])) [.ret (.cst (.bl false))] []], .loop .seq [.call 57 [false, false] [.var 2, .var 6]] (.nm 8) [.ifs (.cmp .ne (.comp .range [.plc 10] (.nm 15) [15] [.cmp .lt (.ix (.plc 8) (.plc 15)) (.ix (.plc 6) (.plc 15))] (.var 15)) (.lst [] [])) [.ret (.cst (.bl false))] []], .loop .seq [.call 77 [false, false, false] [.var 2, .var 6, .var 11]] (.nm 8) [.asg 14 (.comp .range [.plc 10] (.nm 15) [15] [.cmp .ne (.ix (.plc 8) (.plc 15)) (.ix (.plc 6) (.plc 15))] (.var 15)), .ifs (.or (.cmp .ne (.bi .len [.plc 14]) (.cst (.int 1))) (.cmp .le (.ix (.plc 8) (.ix (.plc 14) (.cst (.int 0)))) (.ix (.plc 6) (.ix (.plc 14) (.cst (.int 0)))))) [.ret (.cst (.bl false))] [], .ifs (.cmp .eq (.comp .seq [.call 24 [false, false] [.var 2, .ix (.plc 14) (.cst (.int 0))]] (.nm 15) [15] [.cmp .eq (.ix (.plc 6) (.plc 15)) (.ix (.plc 6) (.ix (.plc 14) (.cst (.int 0))))] (.var 15)) (.lst [] [])) [.ret (.cst (.bl false))] []], .asg 9 (.call 19 [true, false] [.plc 1, .var 10]), .ret (.cmp .eq (.ix (.call 78 [false, false, false, false] [.var 2, .var 6, .var 9, .var 11]) (.cst (.int 0))) (.ix (.plc 6) (.plc 9)))]
def fn81 : Fn := ⟨[false], 17, b81⟩
/-- kept(web, heights, lot) -/
def b82 : List RS := [.exp (.call 49 [false, false] [.var 0, .var 1]), .exp (.call 7 [false, false] [.var 0, .var 2]), .ret (.comp .seq [.call 48 [false, false] [.var 0, .var 1]] (.nm 3) [3] [.bi .all [.comp .seq [.plc 2] (.nm 4) [4] [] (.cmp .eq (.ix (.plc 3) (.plc 4)) (.ix (.plc 1) (.plc 4)))]] (.var 3))]
def fn82 : Fn := ⟨[false, false, false], 5, b82⟩
/-- least_above_of(web, heights, bounds) -/
def b83 : List RS := [.asg 3 (.lst [] []), .loop .seq [.call 13 [false] [.var 0]] (.nm 4) [.loop .seq [.bi .sset [.plc 1]] (.nm 5) [.asg 6 (.comp .seq [.call 13 [false] [.var 0]] (.nm 7) [7] [.chn .ge .ge (.ix (.plc 1) (.plc 7)) (.plc 5) (.ix (.plc 2) (.plc 7))] (.var 7)), .ifs (.and (.cmp .in_ (.plc 4) (.plc 6)) (.bi .any [.comp .seq [.call 10 [false, false, false] [.var 0, .var 4, .var 6]] (.nm 7) [7] [] (.cmp .eq (.ix (.plc 1) (.plc 7)) (.plc 5))])) [.app 3 (.var 5), .brk] []]], .ret (.bi .tuple [.plc 3])]
def fn83 : Fn := ⟨[false, false, false], 8, b83⟩
/-- least_above(web, heights, bounds) -/
def b84 : List RS := [.exp (.call 49 [false, false] [.var 0, .var 1]), .exp (.call 5 [false, false] [.var 0, .var 2]), .ifs (.bi .any [.comp .seq [.call 13 [false] [.var 0]] (.nm 3) [3] [] (.cmp .lt (.ix (.plc 1) (.plc 3)) (.ix (.plc 2) (.plc 3)))]) [.ret (.cst .non)] [], .ret (.call 83 [false, false, false] [.var 0, .var 1, .var 2])]
def fn84 : Fn := ⟨[false, false, false], 4, b84⟩
/-- least_kept(web, heights, lot) -/
def b85 : List RS := [.exp (.call 49 [false, false] [.var 0, .var 1]), .exp (.call 7 [false, false] [.var 0, .var 2]), .asg 3 (.bi .min [.plc 1]), .ret (.call 83 [false, false, false] [.var 0, .var 1, .bi .tuple [.comp .seq [.call 13 [false] [.var 0]] (.nm 4) [4] [] (.ife (.cmp .in_ (.plc 4) (.plc 2)) (.ix (.plc 1) (.plc 4)) (.var 3))]])]
def fn85 : Fn := ⟨[false, false, false], 5, b85⟩
/-- between(web, heights, goal) -/
def b86 : List RS := [.exp (.call 49 [false, false] [.var 0, .var 1]), .exp (.call 5 [false, false] [.var 0, .var 2]), .ret (.comp .seq [.call 48 [false, false] [.var 0, .var 1]] (.nm 3) [3] [.call 32 [false, false, false] [.var 0, .var 3, .var 2]] (.var 3))]
def fn86 : Fn := ⟨[false, false, false], 4, b86⟩
/-- law(_law_script) -/
def b87 : List RS := [.asg 1 (.lst [false, false, false, false] [.var 0, .cst (.int 0), .cst (.int 4908), .cst (.int 0)]), .asg 2 (.call 22 [true, false, false] [.plc 1, .cst (.int 4), .cst (.int 3)]), .asg 3 (.ix (.plc 2) (.cst (.int 0))), .asg 4 (.call 23 [true, false, false] [.plc 1, .var 3, .cst (.int 5)]), .asg 5 (.bi .sorted [.bi .list [.call 40 [false, false] [.var 2, .var 4]]]), .par [12, 13] [.call 44 [true, false, false] [.plc 1, .var 2, .var 4], .call 44 [true, false, false] [.plc 1, .var 2, .var 4]], .asg 6 (.ife (.and (.cmp .in_ (.plc 12) (.plc 5)) (.cmp .in_ (.plc 13) (.plc 5))) (.bi .tuple [.comp .range [.plc 3] (.nm 18) [18] [] (.bi .min [.ix (.plc 12) (.plc 18), .ix (.plc 13) (.plc 18)])]) (.cst .non)), .ifs (.or (.not (.call 20 [false, false] [.call 74 [false, false, false, false] [.var 2, .var 4, .var 12, .var 13], .var 6])) (.and (.cmp .isnot (.plc 6) (.cst .non)) (.cmp .notin (.plc 6) (.plc 5)))) [.ret (.cst (.bl false))] [], .par [14, 15] [.call 23 [true, false, false] [.plc 1, .var 3, .cst (.int 4)], .call 26 [true, false] [.plc 1, .var 3]], .ifs (.cmp .eq (.call 19 [true, false] [.plc 1, .cst (.int 2)]) (.cst (.int 0))) [.asg 14 (.bi .tuple [.comp .range [.plc 3] (.nm 18) [18] [] (.bi .min [.ix (.plc 14) (.plc 18), .ix (.plc 4) (.plc 18)])])] [], .asg 7 (.comp .seq [.plc 5] (.nm 11) [11] [.cmp .eq (.comp .range [.plc 3] (.nm 18) [18] [.cmp .lt (.ix (.plc 11) (.plc 18)) (.ix (.plc 14) (.plc 18))] (.var 18)) (.lst [] [])] (.var 11)), .asg 8 (.ife (.cmp .ne (.plc 7) (.lst [] [])) (.bi .tuple [.comp .range [.plc 3] (.nm 18) [18] [] (.bi .min [.comp .seq [.plc 7] (.nm 11) [11] [] (.ix (.plc 11) (.plc 18))])]) (.cst .non)), .ifs (.or (.not (.call 20 [false, false] [.call 84 [false, false, false] [.var 2, .var 4, .var 14], .var 8])) (.and (.cmp .isnot (.plc 8) (.cst .non)) (.cmp .notin (.plc 8) (.plc 5)))) [.ret (.cst (.bl false))] [], .asg 7 (.comp .seq [.plc 5] (.nm 11) [11] [.cmp .eq (.comp .seq [.plc 15] (.nm 18) [18] [.cmp .ne (.ix (.plc 11) (.plc 18)) (.ix (.plc 4) (.plc 18))] (.var 18)) (.lst [] [])] (.var 11)), .ifs (.not (.call 20 [false, false] [.call 82 [false, false, false] [.var 2, .var 4, .var 15], .var 7])) [.ret (.cst (.bl false))] [], .ifs (.not (.call 20 [false, false] [.call 85 [false, false, false] [.var 2, .var 4, .var 15], .bi .tuple [.comp .range [.plc 3] (.nm 18) [18] [] (.bi .min [.comp .seq [.plc 7] (.nm 11) [11] [] (.ix (.plc 11) (.plc 18))])]])) [.ret (.cst (.bl false))] [], .asg 9 (.call 37 [true, false] [.plc 1, .var 5]), .ifs (.not (.call 20 [false, false] [.call 86 [false, false, false] [.var 2, .var 4, .var 9], .comp .seq [.plc 5] (.nm 11) [11] [.call 43 [false, false, false] [.var 2, .var 11, .var 9]] (.var 11)])) [.ret (.cst (.bl false))] [], .asg 10 (.lst [] []), .loop .seq [.plc 5] (.nm 11) [.asg 16 (.comp .seq [.plc 5] (.nm 17) [17] [.and (.cmp .notin (.plc 17) (.lst [false, false] [.var 11, .var 4])) (.call 43 [false, false, false] [.var 2, .var 17, .var 11])] (.var 17)), .ifs (.and (.cmp .ne (.plc 11) (.plc 4)) (.cmp .eq (.plc 16) (.lst [] []))) [.app 10 (.var 11)] []], .ret (.call 20 [false, false] [.call 64 [false, false] [.var 2, .var 4], .var 10])]
def fn87 : Fn := ⟨[false], 19, b87⟩
/-- heights_of(web, heights, person) -/
def b88 : List RS := [.exp (.call 49 [false, false] [.var 0, .var 1]), .exp (.call 6 [false, false] [.var 0, .var 2]), .asg 3 (.lst [] []), .loop .seq [.bi .sset [.plc 1]] (.nm 4) [.ifs (.cmp .le (.plc 4) (.ix (.plc 1) (.plc 2))) [.asg 5 (.comp .seq [.call 13 [false] [.var 0]] (.nm 6) [6] [.cmp .ge (.ix (.plc 1) (.plc 6)) (.plc 4)] (.var 6)), .ifs (.bi .any [.comp .seq [.call 10 [false, false, false] [.var 0, .var 2, .var 5]] (.nm 6) [6] [] (.cmp .eq (.ix (.plc 1) (.plc 6)) (.plc 4))]) [.app 3 (.var 4)] []] []], .ret (.bi .tuple [.plc 3])]
def fn88 : Fn := ⟨[false, false, false], 7, b88⟩
/-- law(_law_script) -/
def b89 : List RS := [.asg 1 (.lst [false, false, false, false] [.var 0, .cst (.int 0), .cst (.int 4947), .cst (.int 0)]), .asg 2 (.call 22 [true, false, false] [.plc 1, .cst (.int 5), .cst (.int 3)]), .asg 3 (.ix (.plc 2) (.cst (.int 0))), .par [11, 12] [.call 23 [true, false, false] [.plc 1, .var 3, .cst (.int 5)], .call 26 [true, false] [.plc 1, .var 3]], .asg 4 (.call 63 [false, false] [.var 2, .var 11]), .par [13, 14] [.call 37 [true, false] [.plc 1, .var 4], .call 37 [true, false] [.plc 1, .var 4]], .asg 5 (.call 74 [false, false, false, false] [.var 2, .var 11, .var 13, .var 14]), .ifs (.or (.cmp .notin (.plc 5) (.plc 4)) (.cmp .ne (.call 33 [false, false, false] [.var 2, .var 13, .var 5]) (.cmp .in_ (.plc 5) (.call 63 [false, false] [.var 2, .var 13])))) [.ret (.cst (.bl false))] [], .ifs (.cmp .ne (.call 84 [false, false, false] [.var 2, .var 11, .var 5]) (.call 84 [false, false, false] [.var 2, .var 11, .call 84 [false, false, false] [.var 2, .var 11, .var 5]])) [.ret (.cst (.bl false))] [], .ifs (.or (.cmp .ne (.call 84 [false, false, false] [.var 2, .var 11, .var 13]) (.plc 13)) (.cmp .ne (.call 85 [false, false, false] [.var 2, .var 11, .tup [] []]) (.call 18 [false, false] [.var 2, .var 11]))) [.ret (.cst (.bl false))] [], .asg 6 (.call 85 [false, false, false] [.var 2, .var 11, .var 12]), .ifs (.cmp .notin (.plc 6) (.call 82 [false, false, false] [.var 2, .var 11, .var 12])) [.ret (.cst (.bl false))] [], .ifs (.cmp .ne (.call 74 [false, false, false, false] [.var 2, .var 11, .var 6, .call 37 [true, false] [.plc 1, .call 82 [false, false, false] [.var 2, .var 11, .var 12]]]) (.plc 6)) [.ret (.cst (.bl false))] [], .ifs (.or (.cmp .ne (.call 85 [false, false, false] [.var 2, .var 11, .bi .tuprng [.var 3]]) (.plc 11)) (.cmp .ne (.call 82 [false, false, false] [.var 2, .var 11, .tup [] []]) (.plc 4))) [.ret (.cst (.bl false))] [], .asg 7 (.bi .tuple [.comp .range [.plc 3] (.nm 16) [16] [] (.bi .min [.ix (.plc 11) (.plc 16), .bin .sub (.call 19 [true, false] [.plc 1, .cst (.int 4)]) (.cst (.int 1))])]), .asg 8 (.call 84 [false, false, false] [.var 2, .var 11, .var 7]), .loop .range [.plc 3] (.nm 9) [.asg 15 (.comp .seq [.call 88 [false, false, false] [.var 2, .var 11, .var 9]] (.nm 17) [17] [.cmp .ge (.plc 17) (.ix (.plc 7) (.plc 9))] (.var 17)), .ifs (.cmp .lt (.ix (.plc 8) (.plc 9)) (.bi .min [.plc 15])) [.ret (.cst (.bl false))] []], .loop .seq [.plc 4] (.nm 10) [.ifs (.and (.cmp .eq (.comp .range [.plc 3] (.nm 16) [16] [.cmp .lt (.ix (.plc 10) (.plc 16)) (.ix (.plc 7) (.plc 16))] (.var 16)) (.lst [] [])) (.cmp .ne (.call 74 [false, false, false, false] [.var 2, .var 11, .var 10, .var 8]) (.plc 8))) [.ret (.cst (.bl false))] []], .ret (.cst (.bl true))]
def fn89 : Fn := ⟨[false], 18, b89⟩
/-- need_numbers(web, value) -/
def b90 : List RS := [.ifs (.or (.not (.bi (.isa [.tup]) [.plc 1])) (.cmp .ne (.bi .len [.plc 1]) (.ix (.plc 0) (.cst (.int 0))))) [.rais] [], .ifs (.not (.bi .all [.comp .seq [.plc 1] (.nm 2) [2] [] (.call 1 [false, false, false] [.var 2, .cst (.int 0), .cst (.int 1000)])])) [.rais] []]
def fn90 : Fn := ⟨[false, false], 3, b90⟩
/-- limited(web, heights, limits) -/
def b91 : List RS := [.asg 3 (.tup [false, false] [.var 1, .bin .mul (.tup [false] [.cst (.int 0)]) (.ix (.plc 0) (.cst (.int 0)))]), .par [4, 5] [.dct [.var 3] [.cst (.bl true)], .lst [false] [.var 3]], .whl (.cmp .ne (.plc 5) (.lst [] [])) [.asgT (.tp [.nm 6, .nm 7]) (.pop 5), .loop .seq [.call 46 [false, false] [.var 0, .var 6]] (.tp [.nm 8, .nm 9]) [.ifs (.cmp .lt (.ix (.plc 7) (.plc 8)) (.ix (.plc 2) (.plc 8))) [.asg 10 (.tup [true, false, true] [.slc (.plc 7) .nop (.var 8), .bin .add (.ix (.plc 7) (.plc 8)) (.cst (.int 1)), .slc (.plc 7) (.bin .add (.plc 8) (.cst (.int 1))) .nop]), .asg 11 (.tup [false, false] [.call 47 [false, false, false] [.var 6, .var 8, .var 9], .var 10]), .ifs (.cmp .notin (.plc 11) (.plc 4)) [.setix 4 (.var 11) (.cst (.bl true)), .app 5 (.var 11)] []] []]], .ret (.mov 4)]
def fn91 : Fn := ⟨[false, false, false], 12, b91⟩
/-- comes_within(web, heights, goal, limits) -/
def b93 : List RS := [.exp (.call 31 [false, false, false] [.var 0, .var 1, .var 2]), .exp (.call 90 [false, false] [.var 0, .var 3]), .exp (.call 92 [false] [.var 0]), .ret (.bi .any [.comp .seq [.call 91 [false, false, false] [.var 0, .var 1, .var 3]] (.tp [.nm 4, .nm 5]) [4, 5] [] (.cmp .eq (.plc 4) (.plc 2))])]
def fn93 : Fn := ⟨[false, false, false, false], 6, b93⟩
/-- need_few(web) -/
def b92 : List RS := [.ifs (.cmp .gt (.ix (.plc 0) (.cst (.int 0))) (.cst (.int 5))) [.rais] []]
def fn92 : Fn := ⟨[false], 1, b92⟩
/-- outcomes_within(web, heights, limits) -/
def b94 : List RS := [.exp (.call 4 [false] [.var 0]), .exp (.call 5 [false, false] [.var 0, .var 1]), .exp (.call 90 [false, false] [.var 0, .var 2]), .exp (.call 92 [false] [.var 0]), .ret (.bi .sset [.comp .seq [.call 91 [false, false, false] [.var 0, .var 1, .var 2]] (.tp [.nm 3, .nm 4]) [3, 4] [] (.var 3)])]
def fn94 : Fn := ⟨[false, false, false], 5, b94⟩
/-- stoops_of(web, heights, goal, person) -/
def b95 : List RS := [.exp (.call 31 [false, false, false] [.var 0, .var 1, .var 2]), .exp (.call 6 [false, false] [.var 0, .var 3]), .exp (.call 92 [false] [.var 0]), .asg 4 (.dct [] []), .loop .seq [.call 91 [false, false, false] [.var 0, .var 1, .bin .mul (.tup [false] [.cst (.int 60)]) (.ix (.plc 0) (.cst (.int 0)))]] (.tp [.nm 5, .nm 6]) [.ifs (.cmp .eq (.plc 5) (.plc 2)) [.setix 4 (.ix (.plc 6) (.plc 3)) (.cst (.bl true))] []], .ret (.bi .tuple [.bi .sorted [.plc 4]])]
def fn95 : Fn := ⟨[false, false, false, false], 7, b95⟩
/-- _law_runs(_law_web_here, _law_heights_here, _law_spent) -/
def b96 : List RS := [.asg 3 (.lst [false] [.tup [false, false] [.var 1, .var 2]]), .loop .seq [.call 38 [false, false] [.var 0, .var 1]] (.nm 4) [.asg 5 (.bin .add (.bin .add (.slc (.plc 2) .nop (.ix (.plc 4) (.cst (.int 0)))) (.tup [false] [.bin .add (.ix (.plc 2) (.ix (.plc 4) (.cst (.int 0)))) (.cst (.int 1))])) (.slc (.plc 2) (.bin .add (.ix (.plc 4) (.cst (.int 0))) (.cst (.int 1))) .nop)), .asg 3 (.bin .add (.plc 3) (.call 96 [false, false, false] [.var 0, .call 39 [false, false] [.var 1, .var 4], .var 5]))], .ret (.mov 3)]
def fn96 : Fn := ⟨[false, false, false], 6, b96⟩
/-- law(_law_script) -/
def b97 : List RS := [.asg 1 (.lst [false, false, false, false] [.var 0, .cst (.int 0), .cst (.int 4932), .cst (.int 0)]), .asg 2 (.call 22 [true, false, false] [.plc 1, .cst (.int 4), .cst (.int 2)]), .asg 3 (.ix (.plc 2) (.cst (.int 0))), .asg 4 (.call 23 [true, false, false] [.plc 1, .var 3, .cst (.int 4)]), .par [9, 10] [.call 44 [true, false, false] [.plc 1, .var 2, .var 4], .bi .tuple [.comp .range [.plc 3] (.nm 13) [13] [] (.call 19 [true, false] [.plc 1, .cst (.int 3)])]], .asg 5 (.call 96 [false, false, false] [.var 2, .var 4, .bin .mul (.tup [false] [.cst (.int 0)]) (.plc 3)]), .asg 6 (.comp .seq [.plc 5] (.tp [.nm 11, .nm 12]) [11, 12] [.cmp .eq (.comp .range [.plc 3] (.nm 13) [13] [.cmp .gt (.ix (.plc 12) (.plc 13)) (.ix (.plc 10) (.plc 13))] (.var 13)) (.lst [] [])] (.var 11)), .ifs (.not (.call 21 [false, false] [.call 93 [false, false, false, false] [.var 2, .var 4, .var 9, .var 10], .cmp .in_ (.plc 9) (.plc 6)])) [.ret (.cst (.bl false))] [], .ifs (.not (.call 20 [false, false] [.call 94 [false, false, false] [.var 2, .var 4, .var 10], .bi .sset [.plc 6]])) [.ret (.cst (.bl false))] [], .asg 7 (.call 19 [true, false] [.plc 1, .var 3]), .asg 8 (.bi .sset [.comp .seq [.plc 5] (.tp [.nm 11, .nm 12]) [11, 12] [.cmp .eq (.plc 11) (.plc 9)] (.ix (.plc 12) (.plc 7))]), .ret (.call 20 [false, false] [.call 95 [false, false, false, false] [.var 2, .var 4, .var 9, .var 7], .bi .tuple [.plc 8]])]
def fn97 : Fn := ⟨[false], 14, b97⟩
def tab : Nat → Option Fn
  | 0 => some fn0
  | 1 => some fn1
  | 2 => some fn2
  | 3 => some fn3
  | 4 => some fn4
  | 5 => some fn5
  | 6 => some fn6
  | 7 => some fn7
  | 8 => some fn8
  | 9 => some fn9
  | 10 => some fn10
  | 11 => some fn11
  | 12 => some fn12
  | 13 => some fn13
  | 14 => some fn14
  | 15 => some fn15
  | 16 => some fn16
  | 17 => some fn17
  | 18 => some fn18
  | 19 => some fn19
  | 20 => some fn20
  | 21 => some fn21
  | 22 => some fn22
  | 23 => some fn23
  | 24 => some fn24
  | 25 => some fn25
  | 26 => some fn26
  | 27 => some fn27
  | 28 => some fn28
  | 29 => some fn29
  | 30 => some fn30
  | 31 => some fn31
  | 32 => some fn32
  | 33 => some fn33
  | 34 => some fn34
  | 35 => some fn35
  | 36 => some fn36
  | 37 => some fn37
  | 38 => some fn38
  | 39 => some fn39
  | 40 => some fn40
  | 41 => some fn41
  | 42 => some fn42
  | 43 => some fn43
  | 44 => some fn44
  | 45 => some fn45
  | 46 => some fn46
  | 47 => some fn47
  | 48 => some fn48
  | 49 => some fn49
  | 50 => some fn50
  | 51 => some fn51
  | 52 => some fn52
  | 53 => some fn53
  | 54 => some fn54
  | 55 => some fn55
  | 56 => some fn56
  | 57 => some fn57
  | 58 => some fn58
  | 59 => some fn59
  | 60 => some fn60
  | 61 => some fn61
  | 62 => some fn62
  | 63 => some fn63
  | 64 => some fn64
  | 65 => some fn65
  | 66 => some fn66
  | 67 => some fn67
  | 68 => some fn68
  | 69 => some fn69
  | 70 => some fn70
  | 71 => some fn71
  | 72 => some fn72
  | 73 => some fn73
  | 74 => some fn74
  | 75 => some fn75
  | 76 => some fn76
  | 77 => some fn77
  | 78 => some fn78
  | 79 => some fn79
  | 80 => some fn80
  | 81 => some fn81
  | 82 => some fn82
  | 83 => some fn83
  | 84 => some fn84
  | 85 => some fn85
  | 86 => some fn86
  | 87 => some fn87
  | 88 => some fn88
  | 89 => some fn89
  | 90 => some fn90
  | 91 => some fn91
  | 92 => some fn92
  | 93 => some fn93
  | 94 => some fn94
  | 95 => some fn95
  | 96 => some fn96
  | 97 => some fn97
  | _ => none
end Lw

section
/-! L1: webs and heights, what is needed of them. -/
namespace Lw
open PySem Ev
local macro_rules
  | `(tactic| infer_instance) => `(tactic| simp [finF, fullE, initE, outsE, evSs, evS, evE.eq_1, evE.eq_2, evE.eq_3, evE.eq_4, evE.eq_5, evE.eq_6, evE.eq_7, evE.eq_8, evE.eq_9, evE.eq_10, evE.eq_11, evE.eq_12, evE.eq_13, evE.eq_14, evE.eq_15, evE.eq_16, evE.eq_17, evE.eq_18, evE.eq_19, evE.eq_20, evE.eq_21, evE.eq_22, evE.eq_23, evE.eq_24, evE.eq_25, evL, evD, evC, parL, parS, toVal, toBl, toInt, rds, rd, getS, Sl.get, setS, putS, owS, isNop, itD, lockE, unlockE, unlockR, okD, flatD, flatDs, depD, depDs, isCol, isTup, isNon, bindT, bindTs, binD, addD, subD, modD, fdivD, cmpD, eqO, neO, eqD, eqDs, notinO, isO, isnotO, biD, isaB, isaD, lenB, tupleB, ioOk, ioPlaces, noTwice, backIo, turn, *])
abbrev tD (t : Nat × Nat) : D := .tup [nI t.1, nI t.2]
abbrev wD (n : Nat) (ts : List (Nat × Nat)) : D := .tup [nI n, .tup (ts.map tD)]
abbrev hD (h : List Int) : D := .tup (h.map .int)
abbrev pD (l : List Nat) : D := .tup (l.map nI)
abbrev ltT : Nat × Nat → Nat × Nat → Bool := ltP ltN ltN
theorem linT : Lin ltT := linP linN linN
theorem encT : Enc tD := encN.pair encN
theorem depT : Dep tD 1 := depN.pair depN
theorem ordT : OrdE tD ltT := ordN.pair encN ordN encN linN
/-- webs, heights -/
structure Web (n : Nat) (ts : List (Nat × Nat)) : Prop where
  lo : 1 ≤ n
  hi : n ≤ 8
  tie : ∀ t ∈ ts, t.1 < t.2 ∧ t.2 < n
  up : ts.Pairwise fun a b => ltT a b = true
structure Hts (n : Nat) (h : List Int) : Prop where
  len : h.length = n
  rng : ∀ x ∈ h, -1000 ≤ x ∧ x ≤ 1000
@[simp] theorem flat_i (l : List Int) : flatDs (l.map .int) = true := encI.flats l
@[simp] theorem flat_n (l : List Nat) : flatDs (l.map nI) = true := encN.flats l
@[simp] theorem flat_t (l : List (Nat × Nat)) : flatDs (l.map tD) = true := encT.flats l
@[simp] theorem dep_i (l : List Int) : depDs (l.map .int) = 0 := Nat.le_zero.mp (depI.deps l)
@[simp] theorem dep_n (l : List Nat) : depDs (l.map nI) = 0 := Nat.le_zero.mp (depN.deps l)
@[simp] theorem in_2 (x a b : Int) : inO (.int x) (.tup [.int a, .int b]) = some (a == x || b == x) := by simp [inO, okD, flatD, depD, inD, eqD]
theorem ok_all {α : Type} [DecidableEq α] {e : α → D} {k : Nat} (h : Enc e) (d : Dep e k) (hk : k ≤ 64) (l : List α) : (l.map e).all okD = true := by
  rw [List.all_eq_true]
  intro x hx
  obtain ⟨a, -, rfl⟩ := List.mem_map.mp hx
  exact h.okD d hk a
theorem in_lst {α : Type} [DecidableEq α] {e : α → D} {k : Nat} (h : Enc e) (d : Dep e k) (hk : k ≤ 64) (x : α) (l : List α) : inO (e x) (.lst (l.map e)) = some (decide (x ∈ l)) := by
  simp only [inO, h.okD d hk, ok_all h d hk, Bool.and_self, if_true, h.inD]
theorem in_tup {α : Type} [DecidableEq α] {e : α → D} {k : Nat} (h : Enc e) (d : Dep e k) (hk : k ≤ 64) (x : α) (l : List α) : inO (e x) (.tup (l.map e)) = some (decide (x ∈ l)) := by
  simp only [inO, h.okD d hk, ok_all h d hk, Bool.and_self, if_true, h.inD]
@[simp] theorem in_nl (q : Nat) (l : List Nat) : inO (.int (q : Int)) (.lst (l.map nI)) = some (decide (q ∈ l)) := in_lst encN depN (by omega) q l
@[simp] theorem in_nt (q : Nat) (l : List Nat) : inO (.int (q : Int)) (.tup (l.map nI)) = some (decide (q ∈ l)) := in_tup encN depN (by omega) q l
@[simp] theorem in_il (q : Int) (l : List Int) : inO (.int q) (.lst (l.map .int)) = some (decide (q ∈ l)) := in_lst encI depI (by omega) q l
@[simp] theorem in_it (q : Int) (l : List Int) : inO (.int q) (.tup (l.map .int)) = some (decide (q ∈ l)) := in_tup encI depI (by omega) q l
theorem dep_t (l : List (Nat × Nat)) : depDs (l.map tD) ≤ 1 := depT.deps l
@[simp] theorem le_t (a b : Nat × Nat) : leO (tD a) (tD b) = some (!ltT b a) := by
  have h := ordT b a
  simp only [leO, h]
  rw [if_pos (by simp [ordOk, encT.alike, encT.flat, isNon, depD, depDs])]

@[simp] theorem run_is_int (n : Nat) (i : Int) : callF tab (n + 1) 0 [.int i] = some (false, .bl true, []) := by
  simp only [callF, tab, fn0, b0]
  infer_instance
@[simp] theorem run_is_from (n : Nat) (i a b : Int) : callF tab (n + 2) 1 [.int i, .int a, .int b] = some (false, .bl (decide (a ≤ i) && decide (i ≤ b)), []) := by
  rw [callF]
  simp only [tab, fn1, b1]
  by_cases h1 : a ≤ i
  · infer_instance
  · infer_instance
@[simp] theorem run_is_height (n : Nat) (i : Int) : callF tab (n + 3) 2 [.int i] = some (false, .bl (decide (-1000 ≤ i) && decide (i ≤ 1000)), []) := by
  rw [callF]
  simp only [tab, fn2, b2]
  infer_instance
theorem run_is_tie (k n : Nat) (t : Nat × Nat) (h : t.1 < t.2) (g : t.2 < n) : callF tab (k + 3) 3 [tD t, nI n] = some (false, .bl true, []) := by
  rw [callF]
  simp only [tab, fn3, b3]
  have h1 : (t.1 : Int) ≤ (n : Int) - 1 := by omega
  have h2 : (t.2 : Int) ≤ (n : Int) - 1 := by omega
  have h3 : (t.1 : Int) < (t.2 : Int) := by omega
  infer_instance
theorem zipIdx_at {α : Type} {xs : List α} {pre post : List (α × Nat)} {x : α × Nat} (h : xs.zipIdx = pre ++ x :: post) : x.2 = pre.length ∧ xs[x.2]? = some x.1 := by
  have hl : xs.zipIdx[pre.length]? = some x := by rw [h]; simp
  rw [List.getElem?_zipIdx] at hl
  cases q : xs[pre.length]? with
  | none => rw [q] at hl; cases hl
  | some y => rw [q] at hl; simp at hl; subst hl; exact ⟨rfl, q⟩
theorem run_need_web (k n : Nat) (ts : List (Nat × Nat)) (W : Web n ts) : callF tab (k + 4) 4 [wD n ts] = some (false, .non, []) := by
  have h1 : (1 : Int) ≤ n := by have := W.lo; omega
  have h2 : (n : Int) ≤ 8 := by have := W.hi; omega
  obtain ⟨ρ, e, x, y, -, rfl⟩ := loop_on (e := fun p : (Nat × Nat) × Nat => D.tup [nI p.2, tD p.1]) (t := .tp [.nm 3, .nm 4]) (xs := ts.zipIdx)
    (body := evSs (callF tab (k + 3)) [.ifs (.or (.not (.call 3 [false, false] [.var 4, .var 1])) (.and (.cmp .gt (.plc 3) (.cst (.int 0))) (.cmp .le (.plc 4) (.ix (.plc 2) (.bin .sub (.plc 3) (.cst (.int 1))))))) [.rais] []])
    (ρ := [.sh (wD n ts), .sh (nI n), .sh (.tup (ts.map tD)), .no, .no]) (fun pre ρ => ∃ x y, (isFree x = true ∧ isFree y = true) ∧ ρ = [.sh (wD n ts), .sh (nI n), .sh (.tup (ts.map tD)), x, y])
    (fun pre p post hp ρ => by
      rintro ⟨x, y, ⟨fx, fy⟩, rfl⟩
      obtain ⟨-, hx⟩ := zipIdx_at hp
      clear hp
      have mem := List.mem_of_getElem? hx
      obtain ⟨t1, t2⟩ := W.tie _ mem
      have tie := run_is_tie k n p.1 t1 t2
      refine ⟨_, .inl ?_, .sh (nI p.2), .sh (tD p.1), ⟨rfl, rfl⟩, rfl⟩
      by_cases h0 : p.2 = 0
      · infer_instance
      · have hlt : p.2 < ts.length := (List.getElem?_eq_some_iff.mp hx).1
        have hpos : 0 < p.2 := by omega
        have i3 : ixD (.tup (ts.map tD)) (.int ((p.2 : Int) - 1)) = some (tD (ts[p.2 - 1]'(by omega))) := by
          rw [show ((p.2 : Int) - 1) = ((p.2 - 1 : Nat) : Int) by omega, ix_tn, List.getElem?_map, List.getElem?_eq_getElem (by omega)]
          rfl
        have up := (List.pairwise_iff_getElem.mp W.up) (p.2 - 1) p.2 (by omega) hlt (by omega)
        rw [(List.getElem?_eq_some_iff.mp hx).2] at up
        clear hx
        infer_instance) ⟨.no, .no, ⟨rfl, rfl⟩, rfl⟩
  refine run_def0 (ρ := [.sh (wD n ts), .sh (nI n), .sh (.tup (ts.map tD)), x, y]) rfl rfl (seq_take 3 (ρ1 := [.sh (wD n ts), .sh (nI n), .sh (.tup (ts.map tD)), .no, .no]) ?_ (seq_loop (os := [.plc 2]) (ds := [.tup (ts.map tD)]) rfl rfl (enum_map _ _ ▸ rfl) e rfl)) rfl
  clear e
  simp only [fn4, b4, List.take, fullE]
  infer_instance

theorem Web.few {n : Nat} {ts : List (Nat × Nat)} (W : Web n ts) : ts.length ≤ 64 := by
  refine few_of (fun t => t.1 * 8 + t.2) (nodup_up linT W.up) (fun x hx y hy e => ?_) fun x hx => ?_
  · obtain ⟨a1, a2⟩ := W.tie x hx
    obtain ⟨b1, b2⟩ := W.tie y hy
    have := W.hi
    exact Prod.ext (by omega) (by omega)
  · obtain ⟨a1, a2⟩ := W.tie x hx
    have := W.hi
    omega
theorem run_need_heights (k n : Nat) (ts : List (Nat × Nat)) (h : List Int) (T : Hts n h) : callF tab (k + 4) 5 [wD n ts, hD h] = some (false, .non, []) := by
  have hl := T.len
  obtain ⟨ρ, e, x, y, -, rfl⟩ := loop_on (e := fun p : Int × Nat => D.tup [nI p.2, .int p.1]) (t := .tp [.nm 2, .nm 3]) (xs := h.zipIdx) (body := evSs (callF tab (k + 3)) [.ifs (.not (.call 2 [false] [.var 3])) [.rais] []])
    (ρ := [.sh (wD n ts), .sh (hD h), .no, .no]) (fun pre ρ => ∃ x y, (isFree x = true ∧ isFree y = true) ∧ ρ = [.sh (wD n ts), .sh (hD h), x, y])
    (fun pre p post hp ρ => by
      rintro ⟨x, y, ⟨fx, fy⟩, rfl⟩
      obtain ⟨-, hx⟩ := zipIdx_at hp
      obtain ⟨r1, r2⟩ := T.rng _ (List.mem_of_getElem? hx)
      clear hp hx hl
      exact ⟨_, .inl (by infer_instance), .sh (nI p.2), .sh (.int p.1), ⟨rfl, rfl⟩, rfl⟩) ⟨.no, .no, ⟨rfl, rfl⟩, rfl⟩
  refine run_def0 (ρ := [.sh (wD n ts), .sh (hD h), x, y]) rfl rfl (seq_nx (ρ1 := [.sh (wD n ts), .sh (hD h), .no, .no]) ?_ (seq_loop (os := [.plc 1]) (ds := [hD h]) rfl rfl (enum_map _ _ ▸ rfl) e rfl)) rfl
  clear e
  simp only [fn5, fullE]
  infer_instance
theorem run_need_person (k n : Nat) (ts : List (Nat × Nat)) (p : Nat) (hp : p < n) : callF tab (k + 3) 6 [wD n ts, nI p] = some (false, .non, []) := by
  rw [callF]
  have h1 : (p : Int) ≤ (n : Int) - 1 := by omega
  simp only [tab, fn6, b6]
  infer_instance
/-- the neighbors -/
def nebs (ts : List (Nat × Nat)) (p : Nat) : List Nat := (ts.filter fun t => decide (p = t.1) || decide (p = t.2)).map fun t => t.1 + t.2 - p
def tied (ts : List (Nat × Nat)) (p : Nat) : List Nat := sortT ltN (nebs ts p)
theorem nebs_len (ts : List (Nat × Nat)) (p : Nat) : (nebs ts p).length ≤ ts.length := by
  unfold nebs
  rw [List.length_map]
  exact List.length_filter_le _ _
theorem mem_nebs {ts : List (Nat × Nat)} {p q : Nat} : q ∈ nebs ts p ↔ (p, q) ∈ ts ∨ (q, p) ∈ ts := by
  unfold nebs
  simp only [List.mem_map, List.mem_filter, Bool.or_eq_true, decide_eq_true_eq]
  constructor
  · rintro ⟨⟨a, b⟩, ⟨hm, h⟩, rfl⟩
    rcases h with rfl | rfl
    · left; simpa using hm
    · right; simpa using hm
  · rintro (h | h)
    · exact ⟨_, ⟨h, .inl rfl⟩, by simp⟩
    · exact ⟨_, ⟨h, .inr rfl⟩, by simp⟩
theorem mem_tied {ts : List (Nat × Nat)} {p q : Nat} : q ∈ tied ts p ↔ (p, q) ∈ ts ∨ (q, p) ∈ ts := mem_sortT.trans mem_nebs
theorem sorted_n (l : List Nat) (h : l.length ≤ 16777216) : sortedB [.lst (l.map nI)] = some (true, .lst ((sortT ltN l).map nI)) := by
  simp only [sortedB, can_sort encN depN (by omega) (.inr fun a => rfl) h, if_true, sortBy_map ordN]
theorem run_tied (k n : Nat) (ts : List (Nat × Nat)) (W : Web n ts) (p : Nat) : callF tab (k + 1) 8 [wD n ts, nI p] = some (true, .lst ((tied ts p).map nI), []) := by
  have few := W.few
  obtain ⟨ρ, e, x, y, -, rfl⟩ := loop_on (e := tD) (t := .tp [.nm 3, .nm 4]) (xs := ts) (body := evSs (callF tab k) [.ifs (.cmp .in_ (.plc 1) (.tup [false, false] [.var 3, .var 4])) [.app 2 (.bin .sub (.bin .add (.plc 3) (.plc 4)) (.plc 1))] []])
    (ρ := [.sh (wD n ts), .sh (nI p), .ow (.lst []), .no, .no]) (fun pre ρ => ∃ x y, (isFree x = true ∧ isFree y = true) ∧ ρ = [.sh (wD n ts), .sh (nI p), .ow (.lst ((nebs pre p).map nI)), x, y])
    (fun pre t post hp ρ => by
      rintro ⟨x, y, ⟨fx, fy⟩, rfl⟩
      have hl : (nebs pre p).length < 16777216 := by
        have := nebs_len pre p
        have := congrArg List.length hp
        simp at this
        omega
      have app : nebs (pre ++ [t]) p = nebs pre p ++ nebs [t] p := by simp [nebs]
      clear hp few
      refine ⟨_, .inl ?_, .sh (nI t.1), .sh (nI t.2), ⟨rfl, rfl⟩, rfl⟩
      rw [app]
      by_cases c1 : p = t.1
      · subst c1
        have r : nebs [t] t.1 = [t.2] := by simp [nebs]
        have s : (t.1 : Int) + t.2 - t.1 = t.2 := by omega
        clear app
        infer_instance
      · by_cases c2 : p = t.2
        · subst c2
          have r : nebs [t] t.2 = [t.1] := by simp [nebs]
          have s : (t.1 : Int) + t.2 - t.2 = t.1 := by omega
          clear app
          infer_instance
        · have r : nebs [t] p = [] := by simp [nebs, c1, c2]
          have s1 : ((t.1 : Int) == p) = false := by simp; omega
          have s2 : ((t.2 : Int) == p) = false := by simp; omega
          clear app
          infer_instance) ⟨.no, .no, ⟨rfl, rfl⟩, rfl⟩
  refine run_def (ρ := [.sh (wD n ts), .sh (nI p), .ow (.lst ((nebs ts p).map nI)), x, y]) rfl rfl (seq_nx (ρ1 := [.sh (wD n ts), .sh (nI p), .ow (.lst []), .no, .no]) rfl (seq_loop (os := [.val false (.tup (ts.map tD))]) (ds := [.tup (ts.map tD)]) ?_ rfl rfl e (seq_rt ?_))) rfl
  · clear e; infer_instance
  · have s := sorted_n (nebs ts p) (by have := nebs_len ts p; omega)
    clear e
    infer_instance
    rfl
end Lw
end

section
/-! L2: who hangs together. -/
namespace Lw
open PySem Ev
local macro_rules
  | `(tactic| infer_instance) => `(tactic| simp [finF, fullE, initE, outsE, evSs, evS, evE.eq_1, evE.eq_2, evE.eq_3, evE.eq_4, evE.eq_5, evE.eq_6, evE.eq_7, evE.eq_8, evE.eq_9, evE.eq_10, evE.eq_11, evE.eq_12, evE.eq_13, evE.eq_14, evE.eq_15, evE.eq_16, evE.eq_17, evE.eq_18, evE.eq_19, evE.eq_20, evE.eq_21, evE.eq_22, evE.eq_23, evE.eq_24, evE.eq_25, evL, evD, evC, parL, parS, toVal, toBl, toInt, rds, rd, getS, Sl.get, setS, putS, owS, isNop, itD, lockE, unlockE, unlockR, okD, flatD, flatDs, depD, depDs, isCol, isTup, isNon, bindT, bindTs, binD, addD, subD, modD, fdivD, cmpD, eqO, neO, eqD, eqDs, notinO, isO, isnotO, biD, isaB, isaD, lenB, tupleB, ioOk, ioPlaces, noTwice, backIo, turn, *])
def Adj (ts : List (Nat × Nat)) (a b : Nat) : Prop := (a, b) ∈ ts ∨ (b, a) ∈ ts
theorem Adj.symm {ts : List (Nat × Nat)} {a b : Nat} (h : Adj ts a b) : Adj ts b a := h.elim .inr .inl
theorem Web.lt {n : Nat} {ts : List (Nat × Nat)} (W : Web n ts) {a b : Nat} (h : Adj ts a b) : a < n ∧ b < n ∧ a ≠ b := by
  rcases h with h | h
  · obtain ⟨h1, h2⟩ := W.tie _ h
    dsimp only at h1 h2
    omega
  · obtain ⟨h1, h2⟩ := W.tie _ h
    dsimp only at h1 h2
    omega
/-- one can go from p along ties, through those of s -/
inductive Conn (ts : List (Nat × Nat)) (s : Nat → Bool) (p : Nat) : Nat → Prop
  | refl : Conn ts s p p
  | step {q r : Nat} : Conn ts s p q → Adj ts q r → s r = true → Conn ts s p r
open Classical in
noncomputable def comp (n : Nat) (ts : List (Nat × Nat)) (s : Nat → Bool) (p : Nat) : List Nat := (List.range n).filter fun q => decide (Conn ts s p q)
section
variable {n : Nat} {ts : List (Nat × Nat)} {s : Nat → Bool} {p q r : Nat}
theorem Conn.lt (W : Web n ts) (hp : p < n) (h : Conn ts s p q) : q < n := by
  cases h with
  | refl => exact hp
  | step _ a _ => exact (W.lt a).2.1
theorem mem_comp (W : Web n ts) (hp : p < n) : q ∈ comp n ts s p ↔ Conn ts s p q := by
  unfold comp
  simp only [List.mem_filter, List.mem_range, decide_eq_true_eq]
  exact ⟨fun h => h.2, fun h => ⟨h.lt W hp, h⟩⟩
theorem range_up (n : Nat) : (List.range n).Pairwise fun a b => ltN a b = true := by
  rw [List.pairwise_iff_getElem]
  intro i j hi hj hij
  simpa [ltN] using hij
theorem comp_up : (comp n ts s p).Pairwise fun a b => ltN a b = true := (range_up n).filter _
theorem up_le {l : List Nat} (h : l.Pairwise fun a b => ltN a b = true) : l.Pairwise fun a b => ltN b a = false := h.imp fun {a b} h => linN.asym h
/-- the sorted row of unlike ones with the same members -/
theorem sort_eq {l m : List Nat} (hl : l.Nodup) (hm : m.Pairwise fun a b => ltN a b = true) (h : ∀ q, q ∈ l ↔ q ∈ m) : sortT ltN l = m := by
  refine sortT_of linN ?_ (up_le hm)
  exact (List.perm_ext_iff_of_nodup (nodup_up linN hm) hl).mpr fun q => (h q).symm
end
/-- the slots of hanging -/
abbrev envH (n : Nat) (ts : List (Nat × Nat)) (p : Nat) (lot : D) (found edge : List Nat) (x y : Sl) : Ev.Env := [.sh (wD n ts), .sh (nI p), .sh lot, .ow (.lst (found.map nI)), .ow (.lst (edge.map nI)), x, y]
theorem hang_turn (C : CallS) (n : Nat) (ts : List (Nat × Nat)) (p : Nat) (lot : D) (s : Nat → Bool) (hlot : ∀ q : Nat, inO (nI q) lot = some (s q)) (F E : List Nat) (x y : Sl) (fy : isFree y = true) (r : Nat) (z1 : F.length < 16777216) (z2 : E.length < 16777216) :
    turn (.nm 6) (evSs C [.ifs (.and (.cmp .in_ (.plc 6) (.plc 2)) (.cmp .notin (.plc 6) (.plc 3))) [.app 3 (.var 6), .app 4 (.var 6)] []]) (nI r) (envH n ts p lot F E x y) =
      some (.nx (if (s r && !decide (r ∈ F)) = true then envH n ts p lot (F ++ [r]) (E ++ [r]) x (.sh (nI r)) else envH n ts p lot F E x (.sh (nI r)))) := by
  have hr := hlot r
  clear hlot
  cases c1 : s r with
  | false =>
    rw [c1] at hr
    infer_instance
  | true =>
    rw [c1] at hr
    by_cases c2 : r ∈ F
    · infer_instance
    · infer_instance
theorem hang_inner (C : CallS) (n : Nat) (ts : List (Nat × Nat)) (W : Web n ts) (p : Nat) (lot : D) (s : Nat → Bool) (hlot : ∀ q : Nat, inO (nI q) lot = some (s q)) (here : Nat) (F E : List Nat) (x y : Sl) (fy : isFree y = true) (hf : F.Nodup) (hb : ∀ q ∈ F, q < n) (he : E.length ≤ 100) :
    ∃ new y', isFree y' = true ∧ forLoop (.nm 6) (evSs C [.ifs (.and (.cmp .in_ (.plc 6) (.plc 2)) (.cmp .notin (.plc 6) (.plc 3))) [.app 3 (.var 6), .app 4 (.var 6)] []]) ((tied ts here).map nI) (envH n ts p lot F E x y) = some (.nx (envH n ts p lot (F ++ new) (E ++ new) x y')) ∧
      (F ++ new).Nodup ∧ (∀ r ∈ new, Adj ts here r ∧ s r = true) ∧ ∀ r, Adj ts here r → s r = true → r ∈ F ++ new := by
  have hn := W.hi
  obtain ⟨ρ, e, new, y', fy', rfl, h1, h2, h3⟩ := loop_on (e := nI) (t := .nm 6) (xs := tied ts here) (body := evSs C [.ifs (.and (.cmp .in_ (.plc 6) (.plc 2)) (.cmp .notin (.plc 6) (.plc 3))) [.app 3 (.var 6), .app 4 (.var 6)] []]) (ρ := envH n ts p lot F E x y)
    (fun pre ρ => ∃ new y', isFree y' = true ∧ ρ = envH n ts p lot (F ++ new) (E ++ new) x y' ∧ (F ++ new).Nodup ∧ (∀ r ∈ new, Adj ts here r ∧ s r = true) ∧ ∀ r ∈ pre, s r = true → r ∈ F ++ new)
    (fun pre r post hp' ρ => by
      rintro ⟨new, y', fy', rfl, h1, h2, h3⟩
      have ar : Adj ts here r := mem_tied.mp (by rw [hp']; simp)
      have hz : (F ++ new).length ≤ n := few_lt n _ h1 fun q hq => by
        rcases List.mem_append.mp hq with hq | hq
        · exact hb q hq
        · exact (W.lt (h2 q hq).1).2.1
      have go := hang_turn C n ts p lot s hlot (F ++ new) (E ++ new) x y' fy' r (by omega) (by simp at hz ⊢; omega)
      by_cases c : (s r && !decide (r ∈ F ++ new)) = true
      · rw [if_pos c] at go
        simp only [Bool.and_eq_true, Bool.not_eq_true', decide_eq_false_iff_not] at c
        refine ⟨_, .inl go, new ++ [r], .sh (nI r), rfl, by simp, ?_, ?_, ?_⟩
        · rw [← List.append_assoc, List.nodup_append]
          exact ⟨h1, by simp, fun a ha b hb e => by rw [List.mem_singleton.mp hb] at e; exact c.2 (e ▸ ha)⟩
        · intro q hq
          rcases List.mem_append.mp hq with hq | hq
          · exact h2 q hq
          · rw [List.mem_singleton.mp hq]; exact ⟨ar, c.1⟩
        · intro q hq sq
          rw [← List.append_assoc]
          rcases List.mem_append.mp hq with hq | hq
          · exact List.mem_append_left _ (h3 q hq sq)
          · exact List.mem_append_right _ hq
      · rw [if_neg c] at go
        refine ⟨_, .inl go, new, .sh (nI r), rfl, rfl, h1, h2, fun q hq sq => ?_⟩
        rcases List.mem_append.mp hq with hq | hq
        · exact h3 q hq sq
        · rw [List.mem_singleton.mp hq] at sq ⊢
          by_cases z : r ∈ F ++ new
          · exact z
          · rw [sq, decide_eq_false z] at c; exact absurd rfl c) ⟨[], y, fy, by simp, by simpa using hf, by simp, by simp⟩
  exact ⟨new, y', fy', e, h1, h2, fun r ar sr => h3 r (mem_tied.mpr ar) sr⟩
theorem run_hanging (k n : Nat) (ts : List (Nat × Nat)) (W : Web n ts) (p : Nat) (hp : p < n) (lot : D) (s : Nat → Bool) (hlot : ∀ q : Nat, inO (nI q) lot = some (s q)) : callF tab (k + 2) 10 [wD n ts, nI p, lot] = some (false, pD (comp n ts s p), []) := by
  have hn := W.hi
  obtain ⟨ρ', e, F, x, y, -, -, rfl, f1, f2, f3, f4⟩ := whl_on (c := fun ρ' => toBl (evE (callF tab (k + 1)) (.cmp .ne (.plc 4) (.lst [] [])) ρ'))
    (body := evSs (callF tab (k + 1)) [.asg 5 (.pop 4), .loop .seq [.call 8 [false, false] [.var 0, .var 5]] (.nm 6) [.ifs (.and (.cmp .in_ (.plc 6) (.plc 2)) (.cmp .notin (.plc 6) (.plc 3))) [.app 3 (.var 6), .app 4 (.var 6)] []]])
    (fun m ρ => ∃ F E x y, isFree x = true ∧ isFree y = true ∧ ρ = envH n ts p lot F E x y ∧ F.Nodup ∧ p ∈ F ∧ (∀ q ∈ F, Conn ts s p q) ∧ (∀ q ∈ F, q ∉ E → ∀ r, Adj ts q r → s r = true → r ∈ F) ∧ (∀ q ∈ E, q ∈ F) ∧ E.length ≤ F.length ∧ E.length + (n - F.length) ≤ m)
    (fun ρ => ∃ F x y, isFree x = true ∧ isFree y = true ∧ ρ = envH n ts p lot F [] x y ∧ F.Nodup ∧ p ∈ F ∧ (∀ q ∈ F, Conn ts s p q) ∧ ∀ q ∈ F, ∀ r, Adj ts q r → s r = true → r ∈ F)
    (fun m ρ => by
      rintro ⟨F, E, x, y, fx, fy, rfl, h1, h2, h3, h4, h5, h5', h6⟩
      have hz : F.length ≤ n := few_lt n _ h1 fun q hq => (h3 q hq).lt W hp
      cases hE : E with
      | nil =>
        subst hE
        refine .inl ⟨_, ?_, F, x, y, fx, fy, rfl, h1, h2, h3, fun q hq => h4 q hq (by simp)⟩
        clear h3 h4 h5 hlot
        infer_instance
      | cons e0 E0 =>
        rw [← hE]
        have hne : E ≠ [] := by rw [hE]; simp
        obtain ⟨here, hh⟩ : ∃ here, E.getLast? = some here := ⟨_, List.getLast?_eq_some_getLast hne⟩
        have hin : here ∈ E := List.mem_of_getLast? hh
        have heq : E = E.dropLast ++ [here] := by
          rw [List.getLast?_eq_some_getLast hne] at hh
          cases hh
          exact (List.dropLast_concat_getLast hne).symm
        obtain ⟨new, y', fy', e, g1, g2, g3⟩ := hang_inner (callF tab (k + 1)) n ts W p lot s hlot here F E.dropLast (.sh (nI here)) y fy h1 (fun q hq => (h3 q hq).lt W hp) (by simp; omega)
        have hlen : E.length = E.dropLast.length + 1 := by rw [List.length_dropLast]; have := List.length_pos_iff.mpr hne; omega
        have hz2 : (F ++ new).length ≤ n := few_lt n _ g1 fun q hq => by
          rcases List.mem_append.mp hq with hq | hq
          · exact (h3 q hq).lt W hp
          · exact (W.lt (g2 q hq).1).2.1
        refine .inr ⟨envH n ts p lot F E x y, envH n ts p lot (F ++ new) (E.dropLast ++ new) (.sh (nI here)) y', E.dropLast.length + (n - F.length), ?_, .inl ?_, by omega, F ++ new, E.dropLast ++ new, .sh (nI here), y', rfl, fy', rfl, g1, List.mem_append_left _ h2, ?_, ?_, ?_, by simp; omega, ?_⟩
        · have emp : ((E.map nI).isEmpty) = false := by simp [hne]
          have cmp : eqDs (E.map nI) [] = false := by rw [hE]; rfl
          clear h3 h4 h5 hlot e heq hE
          infer_instance
        · have tie := run_tied k n ts W here
          have last : (E.map nI).getLast? = some (nI here) := by rw [List.getLast?_map, hh]; rfl
          refine seq_nx (ρ1 := envH n ts p lot F E.dropLast (.sh (nI here)) y) ?_ (seq_loop (os := [.val true (.lst ((tied ts here).map nI))]) (ds := [.lst ((tied ts here).map nI)]) ?_ rfl rfl e rfl)
          · clear h3 h4 h5 hlot e heq hE
            infer_instance
          · clear h3 h4 h5 hlot e heq hE last hh
            infer_instance
        · intro q hq
          rcases List.mem_append.mp hq with hq | hq
          · exact h3 q hq
          · exact .step (h3 here (h5 here hin)) (g2 q hq).1 (g2 q hq).2
        · intro q hq hnq r ar sr
          rcases List.mem_append.mp hq with hq | hq
          · by_cases c : q = here
            · subst c; exact g3 r ar sr
            · refine List.mem_append_left _ (h4 q hq (fun z => ?_) r ar sr)
              rw [heq] at z
              rcases List.mem_append.mp z with z | z
              · exact hnq (List.mem_append_left _ z)
              · exact c (List.mem_singleton.mp z)
          · exact absurd (List.mem_append_right _ hq) hnq
        · intro q hq
          rcases List.mem_append.mp hq with hq | hq
          · exact List.mem_append_left _ (h5 q (by rw [heq]; exact List.mem_append_left _ hq))
          · exact List.mem_append_right _ hq
        · simp at hz2 ⊢; omega) WF (1 + n) (envH n ts p lot [p] [p] .no .no) ⟨[p], [p], .no, .no, rfl, rfl, rfl, by simp, by simp, fun q hq => by rw [List.mem_singleton.mp hq]; exact .refl, fun q hq hn' => absurd hq hn', fun q hq => hq, Nat.le_refl _, by simp⟩ (by unfold WF; omega)
  have all : ∀ q, q ∈ F ↔ q ∈ comp n ts s p := fun q => by
    rw [mem_comp W hp]
    refine ⟨f3 q, fun c => ?_⟩
    induction c with
    | refl => exact f2
    | step _ a sr ih => exact f4 _ ih _ a sr
  have srt := sort_eq f1 comp_up all
  have hz : F.length ≤ n := few_lt n _ f1 fun q hq => (f3 q hq).lt W hp
  refine run_def (ρ := envH n ts p lot F [] x y) rfl rfl (seq_nx (ρ1 := envH n ts p lot [p] [p] .no .no) ?_ (seq_whl e (seq_rt ?_))) rfl
  · clear e all f3 f4 hlot
    simp only [fn10, fullE]
    infer_instance
  · have sr := sorted_n F (by omega)
    rw [srt] at sr
    clear e all f3 f4 hlot
    infer_instance
end Lw
end

section
/-! L3: parts, lots, least heights. -/
namespace Lw
open PySem Ev
local macro_rules
  | `(tactic| infer_instance) => `(tactic| simp [finF, fullE, initE, outsE, evSs, evS, evE.eq_1, evE.eq_2, evE.eq_3, evE.eq_4, evE.eq_5, evE.eq_6, evE.eq_7, evE.eq_8, evE.eq_9, evE.eq_10, evE.eq_11, evE.eq_12, evE.eq_13, evE.eq_14, evE.eq_15, evE.eq_16, evE.eq_17, evE.eq_18, evE.eq_19, evE.eq_20, evE.eq_21, evE.eq_22, evE.eq_23, evE.eq_24, evE.eq_25, evL, evD, evC, parL, parS, toVal, toBl, toInt, rds, rd, getS, Sl.get, setS, putS, owS, isNop, itD, lockE, unlockE, unlockR, okD, flatD, flatDs, depD, depDs, isCol, isTup, isNon, bindT, bindTs, binD, addD, subD, modD, fdivD, cmpD, eqO, neO, eqD, eqDs, notinO, isO, isnotO, biD, isaB, isaD, lenB, tupleB, ioOk, ioPlaces, noTwice, backIo, turn, *])
/-- what is left is told apart from the rest of the lot -/
structure Left (ts : List (Nat × Nat)) (s : Nat → Bool) (left : List Nat) : Prop where
  sub : ∀ q ∈ left, s q = true
  shut : ∀ q ∈ left, ∀ r, Adj ts q r → s r = true → r ∈ left
noncomputable def partsF (n : Nat) (ts : List (Nat × Nat)) (s : Nat → Bool) : Nat → List Nat → List (List Nat)
  | k + 1, p :: l => comp n ts s p :: partsF n ts s k ((p :: l).filter fun q => !decide (q ∈ comp n ts s p))
  | _, _ => []
noncomputable def partsT (n : Nat) (ts : List (Nat × Nat)) (lot : List Nat) : List (List Nat) := partsF n ts (fun q => decide (q ∈ lot)) lot.length lot
section
variable {n : Nat} {ts : List (Nat × Nat)} {s : Nat → Bool} {p q : Nat} {left : List Nat}
theorem Left.conn (L : Left ts s left) (hp : p ∈ left) (c : Conn ts s p q) : q ∈ left := by
  induction c with
  | refl => exact hp
  | step _ a sr ih => exact L.shut _ ih _ a sr
theorem Left.comp_eq (L : Left ts s left) (hp : p ∈ left) : comp n ts (fun q => decide (q ∈ left)) p = comp n ts s p := by
  unfold comp
  refine List.filter_congr fun q hq => ?_
  clear hq
  rw [decide_eq_decide]
  constructor
  · intro c
    induction c with
    | refl => exact .refl
    | step _ a sr ih => exact .step ih a (L.sub _ (by simpa using sr))
  · intro c
    induction c with
    | refl => exact .refl
    | step c a sr ih => exact .step ih a (by simpa using L.shut _ (L.conn hp c) _ a sr)
theorem Left.rest (W : Web n ts) (hn : p < n) (L : Left ts s left) : Left ts s (left.filter fun q => !decide (q ∈ comp n ts s p)) where
  sub := fun q hq => L.sub q (List.mem_filter.mp hq).1
  shut := fun q hq r a sr => by
    obtain ⟨h1, h2⟩ := List.mem_filter.mp hq
    refine List.mem_filter.mpr ⟨L.shut q h1 r a sr, ?_⟩
    simp only [Bool.not_eq_true', decide_eq_false_iff_not, mem_comp W hn] at h2 ⊢
    exact fun c => h2 (.step c a.symm (L.sub q h1))
theorem rest_len (W : Web n ts) (l : List Nat) (hp : p < n) : ((p :: l).filter fun q => !decide (q ∈ comp n ts s p)).length ≤ l.length := by
  have : p ∈ comp n ts s p := (mem_comp W hp).mpr .refl
  rw [List.filter_cons_of_neg (by simp [this])]
  exact List.length_filter_le _ _
theorem partsF_mono (W : Web n ts) : ∀ (k : Nat) (left : List Nat), (∀ q ∈ left, q < n) → left.length ≤ k → partsF n ts s k left = partsF n ts s left.length left
  | 0, [], _, _ => rfl
  | k + 1, [], _, _ => rfl
  | k + 1, p :: l, h, hk => by
    have hp := h p List.mem_cons_self
    have hl := rest_len (s := s) W l hp
    have hh : ∀ q ∈ (p :: l).filter fun q => !decide (q ∈ comp n ts s p), q < n := fun q hq => h q (List.mem_filter.mp hq).1
    simp only [List.length_cons, partsF]
    rw [partsF_mono W k _ hh (by simp at hk; omega), partsF_mono W l.length _ hh hl]
end
/-- the slots of parts_of -/
abbrev envP (n : Nat) (ts : List (Nat × Nat)) (lot : D) (cs : List (List Nat)) (left : List Nat) (x y : Sl) : Ev.Env := [.sh (wD n ts), .sh lot, .ow (.lst (cs.map pD)), .ow (.lst (left.map nI)), x, y]
theorem run_parts_of (k n : Nat) (ts : List (Nat × Nat)) (W : Web n ts) (lot : D) (l : List Nat) (hl : ∀ q ∈ l, q < n) (hz : l.length ≤ 16777216) (hlot : listB [lot] = some (true, .lst (l.map nI))) : callF tab (k + 3) 11 [wD n ts, lot] = some (false, .tup ((partsT n ts l).map pD), []) := by
  let s : Nat → Bool := fun q => decide (q ∈ l)
  obtain ⟨ρ', e, cs, x, y, -, -, rfl, ecs⟩ := whl_on (c := fun ρ' => toBl (evE (callF tab (k + 2)) (.cmp .ne (.plc 3) (.lst [] [])) ρ'))
    (body := evSs (callF tab (k + 2)) [.asg 4 (.call 10 [false, false, false] [.var 0, .ix (.plc 3) (.cst (.int 0)), .var 3]), .app 2 (.var 4), .asg 3 (.comp .seq [.plc 3] (.nm 5) [5] [.cmp .notin (.plc 5) (.plc 4)] (.var 5))])
    (fun m ρ => ∃ cs left x y, isFree x = true ∧ isFree y = true ∧ isOwn y = false ∧ ρ = envP n ts lot cs left x y ∧ Left ts s left ∧ (∀ q ∈ left, q < n) ∧ cs ++ partsF n ts s left.length left = partsT n ts l ∧ left.length ≤ m ∧ cs.length + left.length ≤ 16777216)
    (fun ρ => ∃ cs x y, isFree x = true ∧ isFree y = true ∧ ρ = envP n ts lot cs [] x y ∧ cs = partsT n ts l)
    (fun m ρ => by
      rintro ⟨cs, left, x, y, fx, fy, oy, rfl, L, hn, hc, hm, hk⟩
      cases left with
      | nil =>
        refine .inl ⟨_, ?_, cs, x, y, fx, fy, rfl, by simpa [partsF] using hc⟩
        clear L hc
        infer_instance
      | cons p l0 =>
        have hp := hn p List.mem_cons_self
        have rl := rest_len (s := s) W l0 hp
        have go := run_hanging k n ts W p hp (.lst ((p :: l0).map nI)) (fun q => decide (q ∈ p :: l0)) (fun q => in_nl q _)
        rw [L.comp_eq List.mem_cons_self] at go
        have cmp := comp_map (C := callF tab (k + 2)) (e := nI) (k := .seq) (srcs := [.plc 3]) (t := .nm 5) (own := [5]) (conds := [.cmp .notin (.plc 5) (.plc 4)]) (elt := .var 5) (xs := p :: l0)
          (ρ := [.sh (wD n ts), .sh lot, .ow (.lst ((cs ++ [comp n ts s p]).map pD)), .sh (.lst ((p :: l0).map nI)), .sh (pD (comp n ts s p)), y]) (ρ1 := [.sh (wD n ts), .sh lot, .ow (.lst ((cs ++ [comp n ts s p]).map pD)), .sh (.lst ((p :: l0).map nI)), .sh (pD (comp n ts s p)), y])
          (os := [.plc 3]) (ds := [.lst ((p :: l0).map nI)]) (fun q => !decide (q ∈ comp n ts s p)) nI rfl rfl rfl (by simp [ownS, oy]) (by simp at hk ⊢; omega) (fun q hq => by
            refine ⟨[.sh (wD n ts), .sh lot, .ow (.lst ((cs ++ [comp n ts s p]).map pD)), .sh (.lst ((p :: l0).map nI)), .sh (pD (comp n ts s p)), .sh (nI q)], ?_, ?_, fun _ => ⟨false, ?_⟩, ?_⟩
            · clear go L hc hn
              simp [wipeE, lockE, bindT, setS]
            · clear go L hc hn
              by_cases c : q ∈ comp n ts s p
              · infer_instance
              · infer_instance
            · clear go L hc hn
              infer_instance
            · clear go L hc hn
              simp [wipeE, lockE])
        refine .inr ⟨envP n ts lot cs (p :: l0) x y, envP n ts lot (cs ++ [comp n ts s p]) ((p :: l0).filter fun q => !decide (q ∈ comp n ts s p)) (.sh (pD (comp n ts s p))) y, ((p :: l0).filter fun q => !decide (q ∈ comp n ts s p)).length, ?_, .inl ?_, by simp at hm; omega,
          cs ++ [comp n ts s p], _, .sh (pD (comp n ts s p)), y, rfl, fy, oy, rfl, L.rest W hp, fun q hq => hn q (List.mem_filter.mp hq).1, ?_, Nat.le_refl _, by simp at hk ⊢; omega⟩
        · clear L hc cmp go hn
          infer_instance
        · refine seq_nx (ρ1 := [.sh (wD n ts), .sh lot, .ow (.lst (cs.map pD)), .sh (.lst ((p :: l0).map nI)), .sh (pD (comp n ts s p)), y]) ?_ (seq_nx (ρ1 := [.sh (wD n ts), .sh lot, .ow (.lst ((cs ++ [comp n ts s p]).map pD)), .sh (.lst ((p :: l0).map nI)), .sh (pD (comp n ts s p)), y]) ?_ (seq_nx ?_ rfl))
          · rw [List.map_cons] at go
            clear L hc cmp hn
            infer_instance
          · have : cs.length < 16777216 := by simp at hk; omega
            clear L hc cmp go hn
            infer_instance
          · clear L hc go hn
            simp only [evS, cmp, toVal]
            infer_instance
        · rw [← hc, List.append_assoc]
          congr 1
          simp only [List.length_cons, partsF, List.singleton_append]
          rw [partsF_mono W l0.length _ (fun q hq => hn q (List.mem_filter.mp hq).1) rl]) WF l.length (envP n ts lot [] l .no .no)
    ⟨[], l, .no, .no, rfl, rfl, rfl, rfl, ⟨fun q hq => by simpa [s] using hq, fun q hq r a sr => by simpa [s] using sr⟩, hl, rfl, Nat.le_refl _, by simpa using hz⟩ (by unfold WF; omega)
  subst ecs
  refine run_def (ρ := envP n ts lot (partsT n ts l) [] x y) rfl rfl (seq_nx (ρ1 := envP n ts lot [] l .no .no) ?_ (seq_whl e (seq_rt ?_))) rfl
  · clear e
    simp only [fn11, fullE]
    infer_instance
  · clear e
    infer_instance
end Lw
end

section
/-! L4: lots, neighbors, flat ones, least heights. -/
namespace Lw
open PySem Ev
local macro_rules
  | `(tactic| infer_instance) => `(tactic| simp [finF, fullE, initE, outsE, evSs, evS, evE.eq_1, evE.eq_2, evE.eq_3, evE.eq_4, evE.eq_5, evE.eq_6, evE.eq_7, evE.eq_8, evE.eq_9, evE.eq_10, evE.eq_11, evE.eq_12, evE.eq_13, evE.eq_14, evE.eq_15, evE.eq_16, evE.eq_17, evE.eq_18, evE.eq_19, evE.eq_20, evE.eq_21, evE.eq_22, evE.eq_23, evE.eq_24, evE.eq_25, evL, evD, evC, parL, parS, toVal, toBl, toInt, rds, rd, getS, Sl.get, setS, putS, owS, isNop, itD, lockE, unlockE, unlockR, okD, flatD, flatDs, depD, depDs, isCol, isTup, isNon, bindT, bindTs, binD, addD, subD, modD, fdivD, cmpD, eqO, neO, eqD, eqDs, notinO, isO, isnotO, biD, isaB, isaD, lenB, tupleB, ioOk, ioPlaces, noTwice, backIo, turn, *])
/-- a lot: a rising row of persons -/
structure Lot (n : Nat) (l : List Nat) : Prop where
  lt : ∀ q ∈ l, q < n
  up : l.Pairwise fun a b => ltN a b = true
theorem Lot.len {n : Nat} {l : List Nat} (L : Lot n l) : l.length ≤ n := few_lt n l (nodup_up linN L.up) L.lt
theorem lot_range (n : Nat) : Lot n (List.range n) := ⟨fun q hq => List.mem_range.mp hq, range_up n⟩
theorem all_true (l : List Bool) (h : ∀ b ∈ l, b = true) : l.all id = true := List.all_eq_true.mpr h
theorem any_false (l : List Bool) (h : ∀ b ∈ l, b = false) : l.any id = false := List.any_eq_false.mpr fun b hb => by simp [h b hb]
theorem all_map {α : Type} (l : List α) (f : α → Bool) : allB [.lst (l.map fun x => .bl (f x))] = some (false, .bl (l.all f)) := by
  have : l.map (fun x => D.bl (f x)) = (l.map f).map .bl := by simp
  rw [this]
  simp only [allB, bls_map]
  simp [List.all_map, Function.comp_def]
theorem any_map {α : Type} (l : List α) (f : α → Bool) : anyB [.lst (l.map fun x => .bl (f x))] = some (false, .bl (l.any f)) := by
  have : l.map (fun x => D.bl (f x)) = (l.map f).map .bl := by simp
  rw [this]
  simp only [anyB, bls_map]
  simp [List.any_map, Function.comp_def]
theorem filter_all {α : Type} (l : List α) : l.filter (fun _ => true) = l := List.filter_eq_self.mpr fun _ _ => rfl
theorem cut_tail (l : List D) : slcD (.tup l) (some 1) none = some (false, .tup l.tail) := by
  have : cutD l (some 1) none = l.tail := by
    unfold cutD cutIx
    cases l with
    | nil => rfl
    | cons x r => simp
  simp [slcD, this]
theorem tail_map {α : Type} (f : α → D) (l : List α) : (l.map f).tail = l.tail.map f := by cases l <;> rfl
theorem run_need_lot (k n : Nat) (ts : List (Nat × Nat)) (hn : n ≤ 8) (l : List Nat) (L : Lot n l) : callF tab (k + 3) 7 [wD n ts, pD l] = some (false, .non, []) := by
  have hl := L.len
  have a1 := comp_map (C := callF tab (k + 2)) (e := nI) (k := .seq) (srcs := [.plc 1]) (t := .nm 4) (own := [4]) (conds := []) (elt := .call 1 [false, false, false] [.var 4, .cst (.int 0), .bin .sub (.ix (.plc 0) (.cst (.int 0))) (.cst (.int 1))]) (xs := l)
    (ρ := [.sh (wD n ts), .sh (pD l), .no, .no, .no]) (ρ1 := [.sh (wD n ts), .sh (pD l), .no, .no, .no]) (os := [.plc 1]) (ds := [pD l]) (fun _ => true) (fun q => .bl (decide (q < n))) rfl rfl rfl rfl (by omega) (fun q hq => by
      have lt := L.lt q hq
      have h1 : (q : Int) ≤ (n : Int) - 1 := by omega
      refine ⟨[.sh (wD n ts), .sh (pD l), .no, .no, .sh (nI q)], rfl, rfl, fun _ => ⟨false, ?_⟩, rfl⟩
      clear hq hl
      infer_instance)
  have a2 := comp_map (C := callF tab (k + 2)) (e := fun p : Nat × Nat => D.tup [nI p.1, nI p.2]) (k := .zip) (srcs := [.plc 1, .slc (.plc 1) (.cst (.int 1)) .nop]) (t := .tp [.nm 2, .nm 3]) (own := [2, 3]) (conds := []) (elt := .cmp .ge (.plc 2) (.plc 3)) (xs := l.zip l.tail)
    (ρ := [.sh (wD n ts), .sh (pD l), .no, .no, .no]) (ρ1 := [.sh (wD n ts), .sh (pD l), .no, .no, .no]) (os := [.plc 1, .val false (pD l.tail)]) (ds := [pD l, pD l.tail]) (fun _ => true) (fun p => .bl (decide (p.2 ≤ p.1))) (by
      have := cut_tail (l.map nI)
      rw [tail_map] at this
      clear a1
      infer_instance) rfl (by rw [← zip_map]; rfl) rfl (by simp; omega) (fun q hq => by
      refine ⟨[.sh (wD n ts), .sh (pD l), .sh (nI q.1), .sh (nI q.2), .no], rfl, rfl, fun _ => ⟨false, ?_⟩, rfl⟩
      clear hq hl a1
      infer_instance)
  have v1 := all_map l (fun q => decide (q < n))
  have v2 := any_map (l.zip l.tail) (fun p => decide (p.2 ≤ p.1))
  rw [List.all_eq_true.mpr (fun q hq => by simpa using L.lt q hq)] at v1
  have no : (l.zip l.tail).any (fun p => decide (p.2 ≤ p.1)) = false := by
    rw [List.any_eq_false]
    intro p hp
    obtain ⟨i, hi, e⟩ := List.mem_iff_getElem.mp hp
    have hi' := hi
    simp only [List.length_zip, List.length_tail] at hi'
    have up := List.pairwise_iff_getElem.mp L.up i (i + 1) (by omega) (by omega) (by omega)
    simp only [List.getElem_zip, List.getElem_tail] at e
    rw [← e]
    simpa [ltN] using up
  rw [no] at v2
  rw [filter_all] at a1 a2
  refine run_def0 (ρ := [.sh (wD n ts), .sh (pD l), .no, .no, .no]) rfl rfl (seq_nx (ρ1 := [.sh (wD n ts), .sh (pD l), .no, .no, .no]) ?_ (seq_nx (ρ1 := [.sh (wD n ts), .sh (pD l), .no, .no, .no]) ?_ rfl)) rfl
  · clear a2 v2 no
    simp only [fn7, fullE]
    infer_instance
  · clear a1 v1 no
    infer_instance

theorem run_neighbors (k n : Nat) (ts : List (Nat × Nat)) (W : Web n ts) (p : Nat) (hp : p < n) : callF tab (k + 5) 9 [wD n ts, nI p] = some (false, pD (tied ts p), []) := by
  have a1 := run_need_web k n ts W
  have a2 := run_need_person (k + 1) n ts p hp
  have a3 := run_tied (k + 3) n ts W p
  rw [callF]
  simp only [tab, fn9, b9]
  infer_instance
theorem run_parts (k n : Nat) (ts : List (Nat × Nat)) (W : Web n ts) (l : List Nat) (L : Lot n l) : callF tab (k + 5) 12 [wD n ts, pD l] = some (false, .tup ((partsT n ts l).map pD), []) := by
  have a1 := run_need_web k n ts W
  have a2 := run_need_lot (k + 1) n ts W.hi l L
  have a3 := run_parts_of (k + 1) n ts W (pD l) l L.lt (by have := L.len; have := W.hi; omega) rfl
  rw [callF]
  simp only [tab, fn12, b12]
  infer_instance
theorem rng_ok (n : Nat) (h : n ≤ 16777216) : rngOk 0 (n : Int) = true := by
  rw [rngOk, Bool.and_eq_true, decide_eq_true_eq, decide_eq_true_eq]
  omega
theorem tuprng_n (n : Nat) (h : n ≤ 16777216) : tuprngB [nI n] = some (false, pD (List.range n)) := by
  simp [tuprngB, rng_ok n h, rng_nat, h]
theorem lstrng_n (n : Nat) (h : n ≤ 16777216) : lstrngB [nI n] = some (true, .lst ((List.range n).map nI)) := by
  simp [lstrngB, rng_ok n h, rng_nat, h]
theorem run_everybody (k n : Nat) (ts : List (Nat × Nat)) (h : n ≤ 8) : callF tab (k + 1) 13 [wD n ts] = some (false, pD (List.range n), []) := by
  have a := tuprng_n n (by omega)
  rw [callF]
  simp only [tab, fn13, b13]
  infer_instance
/-- the height of one -/
def at_ (h : List Int) (q : Nat) : Int := h.getD q 0
theorem h_at {n : Nat} {h : List Int} (T : Hts n h) {q : Nat} (hq : q < n) : h[q]? = some (at_ h q) := by
  have := T.len
  rw [at_, List.getD_eq_getElem?_getD, List.getElem?_eq_getElem (by omega)]
  rfl
theorem tied_lt {n : Nat} {ts : List (Nat × Nat)} (W : Web n ts) {p q : Nat} (h : q ∈ tied ts p) : q < n := (W.lt (mem_tied.mp h)).2.1
theorem tied_len {n : Nat} {ts : List (Nat × Nat)} (W : Web n ts) (p : Nat) : (tied ts p).length ≤ 64 := by
  unfold tied
  rw [length_sortT]
  exact Nat.le_trans (nebs_len ts p) W.few
def lowerT (ts : List (Nat × Nat)) (h : List Int) (p : Nat) : List Nat := (tied ts p).filter fun q => decide (at_ h q < at_ h p)
theorem run_lower (k n : Nat) (ts : List (Nat × Nat)) (W : Web n ts) (h : List Int) (T : Hts n h) (p : Nat) (hp : p < n) : callF tab (k + 5) 14 [wD n ts, hD h, nI p] = some (false, pD (lowerT ts h p), []) := by
  have a1 := run_need_web k n ts W
  have a2 := run_need_heights k n ts h T
  have a3 := run_need_person (k + 1) n ts p hp
  have a4 := run_tied (k + 3) n ts W p
  have c := comp_map (C := callF tab (k + 4)) (e := nI) (k := .seq) (srcs := [.call 8 [false, false] [.var 0, .var 2]]) (t := .nm 3) (own := [3]) (conds := [.cmp .lt (.ix (.plc 1) (.plc 3)) (.ix (.plc 1) (.plc 2))]) (elt := .var 3) (xs := tied ts p)
    (ρ := [.sh (wD n ts), .sh (hD h), .sh (nI p), .no]) (ρ1 := [.sh (wD n ts), .sh (hD h), .sh (nI p), .no]) (os := [.val true (.lst ((tied ts p).map nI))]) (ds := [.lst ((tied ts p).map nI)]) (fun q => decide (at_ h q < at_ h p)) nI (by infer_instance) rfl rfl rfl (by have := tied_len W p; omega) (fun q hq => by
      have e1 := h_at T hp
      have e2 := h_at T (tied_lt W hq)
      refine ⟨[.sh (wD n ts), .sh (hD h), .sh (nI p), .sh (nI q)], rfl, ?_, fun _ => ⟨false, rfl⟩, rfl⟩
      clear hq a1 a2 a3 a4
      by_cases c : at_ h q < at_ h p
      · infer_instance
      · infer_instance)
  rw [callF]
  simp only [tab, fn14, b14]
  clear a4
  infer_instance
  rfl
def flatT (ts : List (Nat × Nat)) (h : List Int) : Bool := ts.all fun t => decide (at_ h t.1 = at_ h t.2)
theorem run_flat (k n : Nat) (ts : List (Nat × Nat)) (W : Web n ts) (h : List Int) (T : Hts n h) : callF tab (k + 1) 15 [wD n ts, hD h] = some (false, .bl (flatT ts h), []) := by
  have c := comp_map (C := callF tab k) (e := tD) (k := .seq) (srcs := [.ix (.plc 0) (.cst (.int 1))]) (t := .tp [.nm 2, .nm 3]) (own := [2, 3]) (conds := []) (elt := .cmp .eq (.ix (.plc 1) (.plc 2)) (.ix (.plc 1) (.plc 3))) (xs := ts)
    (ρ := [.sh (wD n ts), .sh (hD h), .no, .no]) (ρ1 := [.sh (wD n ts), .sh (hD h), .no, .no]) (os := [.val false (.tup (ts.map tD))]) (ds := [.tup (ts.map tD)]) (fun _ => true) (fun t => .bl (decide (at_ h t.1 = at_ h t.2))) (by infer_instance) rfl rfl rfl (by have := W.few; omega) (fun t ht => by
      obtain ⟨t1, t2⟩ := W.tie t ht
      have e1 := h_at T (show t.1 < n by omega)
      have e2 := h_at T t2
      refine ⟨[.sh (wD n ts), .sh (hD h), .sh (nI t.1), .sh (nI t.2)], rfl, rfl, fun _ => ⟨false, ?_⟩, rfl⟩
      clear ht
      infer_instance
      rfl)
  rw [filter_all] at c
  have a := all_map ts fun t => decide (at_ h t.1 = at_ h t.2)
  rw [callF]
  simp only [tab, fn15, b15]
  infer_instance
  rfl
theorem run_is_flat (k n : Nat) (ts : List (Nat × Nat)) (W : Web n ts) (h : List Int) (T : Hts n h) : callF tab (k + 5) 16 [wD n ts, hD h] = some (false, .bl (flatT ts h), []) := by
  have a1 := run_need_web k n ts W
  have a2 := run_need_heights k n ts h T
  have a3 := run_flat (k + 3) n ts W h T
  rw [callF]
  simp only [tab, fn16, b16]
  infer_instance

/-! ### least heights -/
def minL (h : List Int) : List Nat → Int
  | [] => 0
  | q :: l => (l.map (at_ h)).foldl min (at_ h q)
theorem min_map (h : List Int) (l : List Nat) (hl : l ≠ []) : minB [.lst (l.map fun q => .int (at_ h q))] = some (false, .int (minL h l)) := by
  have : l.map (fun q => D.int (at_ h q)) = (l.map (at_ h)).map .int := by simp
  rw [this]
  cases l with
  | nil => exact absurd rfl hl
  | cons q l =>
    simp only [minB, ints_map]
    rfl
/-- one height laid for all of a part -/
def layL (x : Int) (acc : List Int) (part : List Nat) : List Int := part.foldl (fun acc q => acc.set q x) acc
theorem layL_len (x : Int) : ∀ (part : List Nat) (acc : List Int), (layL x acc part).length = acc.length
  | [], _ => rfl
  | q :: l, acc => by
    show (layL x (acc.set q x) l).length = _
    rw [layL_len x l, List.length_set]
theorem layL_snoc (x : Int) (acc : List Int) (pre : List Nat) (q : Nat) : layL x acc (pre ++ [q]) = (layL x acc pre).set q x := by simp [layL, List.foldl_append]
theorem layL_at (x : Int) : ∀ (part : List Nat) (acc : List Int) (i : Nat), at_ (layL x acc part) i = if i ∈ part ∧ i < acc.length then x else at_ acc i
  | [], acc, i => by simp [layL]
  | q :: l, acc, i => by
    show at_ (layL x (acc.set q x) l) i = _
    rw [layL_at x l (acc.set q x) i, List.length_set]
    by_cases c : i ∈ l ∧ i < acc.length
    · rw [if_pos c, if_pos ⟨List.mem_cons_of_mem _ c.1, c.2⟩]
    · rw [if_neg c]
      by_cases e : i = q
      · subst e
        by_cases z : i < acc.length
        · rw [if_pos ⟨List.mem_cons_self, z⟩]
          simp [at_, List.getD_eq_getElem?_getD, z]
        · rw [if_neg (fun q => z q.2)]
          simp [at_, List.getD_eq_getElem?_getD, z]
      · rw [if_neg (fun w => by
          rcases List.mem_cons.mp w.1 with r | r
          · exact e r
          · exact c ⟨r, w.2⟩)]
        simp [at_, List.getD_eq_getElem?_getD, List.getElem?_set_ne (Ne.symm e)]
noncomputable def lowsT (n : Nat) (ts : List (Nat × Nat)) (h : List Int) : List Int := (partsT n ts (List.range n)).foldl (fun acc part => layL (minL h part) acc part) (List.replicate n 0)
theorem lay_parts_len (h : List Int) : ∀ (ps : List (List Nat)) (acc : List Int), (ps.foldl (fun acc part => layL (minL h part) acc part) acc).length = acc.length
  | [], _ => rfl
  | p :: ps, acc => by rw [List.foldl_cons, lay_parts_len h ps, layL_len]
theorem lowsT_len (n : Nat) (ts : List (Nat × Nat)) (h : List Int) : (lowsT n ts h).length = n := by rw [lowsT, lay_parts_len, List.length_replicate]
theorem comp_ne {n : Nat} {ts : List (Nat × Nat)} {s : Nat → Bool} (W : Web n ts) {p : Nat} (hp : p < n) : comp n ts s p ≠ [] := fun e => by
  have := (mem_comp (s := s) W hp).mpr .refl
  rw [e] at this
  cases this
theorem comp_lt {n : Nat} {ts : List (Nat × Nat)} {s : Nat → Bool} {p q : Nat} (h : q ∈ comp n ts s p) : q < n := by
  unfold comp at h
  simpa using (List.mem_filter.mp h).1
theorem partsF_mem {n : Nat} {ts : List (Nat × Nat)} {s : Nat → Bool} : ∀ (k : Nat) (l : List Nat) (c : List Nat), (∀ q ∈ l, q < n) → c ∈ partsF n ts s k l → ∃ p ∈ l, c = comp n ts s p
  | 0, _, _, _, h => nomatch h
  | k + 1, [], _, _, h => nomatch h
  | k + 1, p :: l, c, hl, h => by
    rcases List.mem_cons.mp h with h | h
    · exact ⟨p, List.mem_cons_self, h⟩
    · obtain ⟨q, hq, e⟩ := partsF_mem k _ c (fun q hq => hl q (List.mem_filter.mp hq).1) h
      exact ⟨q, (List.mem_filter.mp hq).1, e⟩
theorem parts_len {n : Nat} {ts : List (Nat × Nat)} {s : Nat → Bool} : ∀ (k : Nat) (l : List Nat), (partsF n ts s k l).length ≤ k
  | 0, _ => Nat.le_refl _
  | k + 1, [] => Nat.zero_le _
  | k + 1, p :: l => by simp only [partsF, List.length_cons]; exact Nat.succ_le_succ (parts_len k _)
theorem store_l (l : List D) (i : Nat) (x : D) (h : i < l.length) : storeD (.lst l) (.int (i : Int)) x = some (.lst (l.set i x)) := by
  simp only [storeD, ixN_nat, h, if_true]
theorem mul_one (x : D) (n : Nat) (h : n ≤ 16777216) : mulD (.lst [x]) (nI n) = some (.lst (List.replicate n x)) := by
  have e : (List.replicate n [x]).flatten = List.replicate n x := by
    induction n with
    | zero => rfl
    | succ n ih => rw [List.replicate_succ, List.flatten_cons, ih (by omega), List.replicate_succ]; rfl
  simp only [mulD, nI, List.length_singleton, Int.toNat_natCast, Int.natAbs_natCast]
  rw [if_pos (by omega), e]
abbrev envW (n : Nat) (ts : List (Nat × Nat)) (h acc : List Int) (x y z : Sl) : Ev.Env := [.sh (wD n ts), .sh (hD h), .ow (.lst (acc.map .int)), x, y, z]
theorem run_lows_of (k n : Nat) (ts : List (Nat × Nat)) (W : Web n ts) (h : List Int) (T : Hts n h) : callF tab (k + 4) 17 [wD n ts, hD h] = some (false, hD (lowsT n ts h), []) := by
  have hn := W.hi
  have a1 := run_everybody (k + 2) n ts hn
  have a2 := run_parts_of k n ts W (pD (List.range n)) (List.range n) (fun q hq => List.mem_range.mp hq) (by simp; omega) rfl
  obtain ⟨ρ, e, x, y, z, -, -, -, rfl⟩ := loop_on (e := pD) (t := .nm 3) (xs := partsT n ts (List.range n)) (body := evSs (callF tab (k + 3)) [.asg 4 (.bi .min [.comp .seq [.plc 3] (.nm 5) [5] [] (.ix (.plc 1) (.plc 5))]), .loop .seq [.plc 3] (.nm 5) [.setix 2 (.var 5) (.var 4)]])
    (ρ := envW n ts h (List.replicate n 0) .no .no .no) (fun pre ρ => ∃ x y z, isFree x = true ∧ isFree y = true ∧ (isFree z = true ∧ isOwn z = false) ∧ ρ = envW n ts h (pre.foldl (fun acc part => layL (minL h part) acc part) (List.replicate n 0)) x y z)
    (fun pre part post hp ρ => by
      rintro ⟨x, y, z, fx, fy, ⟨fz, oz⟩, rfl⟩
      generalize hacc : pre.foldl (fun acc part => layL (minL h part) acc part) (List.replicate n 0) = acc
      have hl : acc.length = n := by rw [← hacc, lay_parts_len, List.length_replicate]
      obtain ⟨p, hp1, hc⟩ := partsF_mem _ _ part (fun q hq => List.mem_range.mp hq) (show part ∈ partsT n ts (List.range n) by rw [hp]; simp)
      have lt : ∀ q ∈ part, q < n := fun q hq => comp_lt (hc ▸ hq)
      have ne : part ≠ [] := hc ▸ comp_ne W (List.mem_range.mp hp1)
      have pl : part.length ≤ n := by
        rw [hc]
        exact few_lt n _ (nodup_up linN comp_up) fun q hq => comp_lt hq
      clear hc hp1
      have c := comp_map (C := callF tab (k + 3)) (e := nI) (k := .seq) (srcs := [.plc 3]) (t := .nm 5) (own := [5]) (conds := []) (elt := .ix (.plc 1) (.plc 5)) (xs := part) (ρ := envW n ts h acc (.sh (pD part)) y z) (ρ1 := envW n ts h acc (.sh (pD part)) y z) (os := [.plc 3]) (ds := [pD part])
        (fun _ => true) (fun q => .int (at_ h q)) rfl rfl rfl (by simp [ownS, oz]) (by omega) (fun q hq => by
          have e1 := h_at T (lt q hq)
          refine ⟨envW n ts h acc (.sh (pD part)) y (.sh (nI q)), by simp [wipeE, lockE, bindT, setS], rfl, fun _ => ⟨false, ?_⟩, by simp [wipeE, lockE]⟩
          clear hq hp
          infer_instance)
      rw [filter_all] at c
      have mn := min_map h part ne
      obtain ⟨ρ', e', w, fw, ow, rfl⟩ := loop_on (e := nI) (t := .nm 5) (xs := part) (body := evSs (callF tab (k + 3)) [.setix 2 (.var 5) (.var 4)]) (ρ := envW n ts h acc (.sh (pD part)) (.sh (.int (minL h part))) z)
        (fun pre ρ => ∃ w, isFree w = true ∧ isOwn w = false ∧ ρ = envW n ts h (layL (minL h part) acc pre) (.sh (pD part)) (.sh (.int (minL h part))) w)
        (fun pre q post hp ρ => by
          rintro ⟨w, fw, ow, rfl⟩
          have lq := lt q (by rw [hp]; simp)
          have st := store_l ((layL (minL h part) acc pre).map .int) q (.int (minL h part)) (by simp [layL_len]; omega)
          refine ⟨_, .inl ?_, .sh (nI q), rfl, rfl, rfl⟩
          rw [layL_snoc]
          clear hp c mn
          infer_instance) ⟨z, fz, oz, rfl⟩
      refine ⟨_, .inl ?_, .sh (pD part), .sh (.int (minL h part)), w, rfl, rfl, ⟨fw, ow⟩, rfl⟩
      have b : turn (.nm 3) (evSs (callF tab (k + 3)) [.asg 4 (.bi .min [.comp .seq [.plc 3] (.nm 5) [5] [] (.ix (.plc 1) (.plc 5))]), .loop .seq [.plc 3] (.nm 5) [.setix 2 (.var 5) (.var 4)]]) (pD part) (envW n ts h acc x y z) = evSs (callF tab (k + 3)) [.asg 4 (.bi .min [.comp .seq [.plc 3] (.nm 5) [5] [] (.ix (.plc 1) (.plc 5))]), .loop .seq [.plc 3] (.nm 5) [.setix 2 (.var 5) (.var 4)]] (envW n ts h acc (.sh (pD part)) y z) := by
        simp [turn, bindT, setS, fx]
      rw [b]
      refine seq_nx (ρ1 := envW n ts h acc (.sh (pD part)) (.sh (.int (minL h part))) z) ?_ (seq_loop (os := [.plc 3]) (ds := [pD part]) rfl rfl rfl e' ?_)
      · clear e' hp b
        infer_instance
      · rw [List.foldl_append, hacc]
        rfl) ⟨.no, .no, .no, rfl, rfl, ⟨rfl, rfl⟩, rfl⟩
  refine run_def (ρ := envW n ts h (lowsT n ts h) x y z) rfl rfl (seq_nx (ρ1 := envW n ts h (List.replicate n 0) .no .no .no) ?_ (seq_loop (os := [.val false (.tup ((partsT n ts (List.range n)).map pD))]) (ds := [.tup ((partsT n ts (List.range n)).map pD)]) ?_ rfl rfl e (seq_rt rfl))) rfl
  · have z := mul_one (.int 0) n (by omega)
    clear e a1 a2
    simp only [fn17, fullE]
    infer_instance
  · clear e
    infer_instance
theorem run_lows (k n : Nat) (ts : List (Nat × Nat)) (W : Web n ts) (h : List Int) (T : Hts n h) : callF tab (k + 5) 18 [wD n ts, hD h] = some (false, hD (lowsT n ts h), []) := by
  have a1 := run_need_web k n ts W
  have a2 := run_need_heights k n ts h T
  have a3 := run_lows_of k n ts W h T
  rw [callF]
  simp only [tab, fn18, b18]
  infer_instance
end Lw
end

section
/-! D1: what a law draws. -/
namespace Lw
open PySem Ev
local macro_rules
  | `(tactic| infer_instance) => `(tactic| simp [finF, fullE, initE, outsE, evSs, evS, evE.eq_1, evE.eq_2, evE.eq_3, evE.eq_4, evE.eq_5, evE.eq_6, evE.eq_7, evE.eq_8, evE.eq_9, evE.eq_10, evE.eq_11, evE.eq_12, evE.eq_13, evE.eq_14, evE.eq_15, evE.eq_16, evE.eq_17, evE.eq_18, evE.eq_19, evE.eq_20, evE.eq_21, evE.eq_22, evE.eq_23, evE.eq_24, evE.eq_25, evL, evD, evC, parL, parS, toVal, toBl, toInt, rds, rd, getS, Sl.get, setS, putS, owS, isNop, itD, lockE, unlockE, unlockR, okD, flatD, flatDs, depD, depDs, isCol, isTup, isNon, bindT, bindTs, binD, addD, subD, modD, fdivD, cmpD, eqO, neO, eqD, eqDs, notinO, isO, isnotO, biD, isaB, isaD, lenB, tupleB, ioOk, ioPlaces, noTwice, backIo, turn, *])
/-- the law's row: the script, the place, the mixed number, a great cell's rest -/
abbrev rowD (ns : List Int) (p : Nat) (s r : Int) : D := .lst [.lst (ns.map .int), nI p, .int s, .int r]
def Row (d : D) : Prop := ∃ ns p s r, d = rowD ns p s r
theorem mod_of (x : Int) (m : Nat) (h : 1 ≤ m) : ∃ v : Nat, v < m ∧ x.fmod m = v := by
  have h1 := Int.fmod_nonneg_of_pos (a := x) (b := m) (by omega)
  have h2 := Int.fmod_lt_of_pos (a := x) (b := m) (by omega)
  exact ⟨(x.fmod m).toNat, by omega, by omega⟩
@[simp] theorem st4_1 (a b c d x : D) : storeD (.lst [a, b, c, d]) (.int 1) x = some (.lst [a, x, c, d]) := rfl
@[simp] theorem st4_2 (a b c d x : D) : storeD (.lst [a, b, c, d]) (.int 2) x = some (.lst [a, b, x, d]) := rfl
@[simp] theorem st4_3 (a b c d x : D) : storeD (.lst [a, b, c, d]) (.int 3) x = some (.lst [a, b, c, x]) := rfl
theorem mul_48 (s : Int) : mulD (.int s) (.int 48271) = some (.int (s * 48271)) := by simp [mulD, mulOk]
theorem pow_18 : powD (.int 10) (.int 18) = some (.int 1000000000000000000) := by simp [powD]
@[simp] theorem int_i (i : Int) : intB [.int i] = some (false, .int i) := rfl
theorem run_taken (k : Nat) {d : D} (R : Row d) (m : Nat) (h : 1 ≤ m) (hm : m < 1073741824) : ∃ v d', v < m ∧ Row d' ∧ callF tab (k + 1) 19 [d, nI m] = some (false, nI v, [d']) := by
  obtain ⟨ns, p, s, r, rfl⟩ := R
  have m0 : (m : Int) ≠ 0 := by omega
  have m0' : m ≠ 0 := by omega
  have p18 := pow_18
  by_cases c1 : 0 < r
  · obtain ⟨v, hv, ev⟩ := mod_of r m h
    refine ⟨v, rowD ns p s (r.fdiv m), hv, ⟨_, _, _, _, rfl⟩, ?_⟩
    rw [callF]
    simp only [tab, fn19, b19]
    have i := int_i r
    infer_instance
  · by_cases c2 : ns.length < p + 1
    · obtain ⟨v, hv, ev⟩ := mod_of (((s * 48271 + 11).fmod 2147483647).fdiv 7) m h
      refine ⟨v, rowD ns (p + 1) ((s * 48271 + 11).fmod 2147483647) r, hv, ⟨_, _, _, _, rfl⟩, ?_⟩
      rw [callF]
      simp only [tab, fn19, b19]
      have i := int_i (s * 48271 + 11)
      have i2 := int_i (((s * 48271 + 11).fmod 2147483647).fdiv 7)
      have ms := mul_48 s
      have c2' : (ns.length : Int) < (p : Int) + 1 := by omega
      infer_instance
    · have hp : p < ns.length := by omega
      have c2' : ¬ (ns.length : Int) < (p : Int) + 1 := by omega
      obtain ⟨cell, hc⟩ : ∃ cell, ns[p]? = some cell := ⟨_, List.getElem?_eq_getElem hp⟩
      clear hp
      obtain ⟨v, hv, ev⟩ := mod_of cell m h
      have i := int_i (s * 48271 + cell + 11)
      have i2 := int_i cell
      have ms := mul_48 s
      by_cases c3 : (1000000000000000000 : Int) ≤ cell
      · refine ⟨v, rowD ns (p + 1) ((s * 48271 + cell + 11).fmod 2147483647) (cell.fdiv m), hv, ⟨_, _, _, _, rfl⟩, ?_⟩
        rw [callF]
        simp only [tab, fn19, b19]
        infer_instance
      · refine ⟨v, rowD ns (p + 1) ((s * 48271 + cell + 11).fmod 2147483647) r, hv, ⟨_, _, _, _, rfl⟩, ?_⟩
        rw [callF]
        simp only [tab, fn19, b19]
        infer_instance

/-! ### alike -/
/-- plain data of a depth -/
inductive Pl : Nat → D → Prop
  | non {k : Nat} : Pl k .non
  | bl {k : Nat} (b : Bool) : Pl k (.bl b)
  | int {k : Nat} (i : Int) : Pl k (.int i)
  | tup {k : Nat} {l : List D} (h : ∀ d ∈ l, Pl k d) (hz : l.length ≤ 16777216) : Pl (k + 1) (.tup l)
  | lst {k : Nat} {l : List D} (h : ∀ d ∈ l, Pl k d) (hz : l.length ≤ 16777216) : Pl (k + 1) (.lst l)
theorem alike_self : ∀ {k : Nat} {d : D}, Pl k d → ∀ j : Nat, callF tab (j + k + 1) 20 [d, d] = some (false, .bl true, []) := fun {k d} h j => by
  cases h with
    | non =>
      rw [callF]
      simp only [tab, fn20, b20]
      infer_instance
    | bl b =>
      rw [callF]
      simp only [tab, fn20, b20]
      cases b <;> infer_instance
    | int i =>
      rw [callF]
      simp only [tab, fn20, b20]
      infer_instance
    | @tup k l hl hz =>
      have z : l.length ≤ 4611686018427387903 := by omega
      have rg : rngOk 0 (l.length : Int) = true := rng_ok l.length hz
      have c := comp_map (C := callF tab (j + k + 1)) (e := nI) (k := .range) (srcs := [.bi .len [.plc 1]]) (t := .nm 2) (own := [2]) (conds := [.not (.call 20 [false, false] [.ix (.plc 0) (.plc 2), .ix (.plc 1) (.plc 2)])]) (elt := .var 2) (xs := List.range l.length)
        (ρ := [.sh (.tup l), .sh (.tup l), .no]) (ρ1 := [.sh (.tup l), .sh (.tup l), .no]) (os := [.val false (nI l.length)]) (ds := [nI l.length]) (fun _ => false) nI rfl rfl (by simp only [itD, nI, rg, if_true, rng_nat]) rfl (by simpa using hz) (fun i hi => by
          have hi' := List.mem_range.mp hi
          have it : l[i]? = some l[i] := List.getElem?_eq_getElem hi'
          have ih := alike_self (hl _ (List.getElem_mem hi')) j
          refine ⟨[.sh (.tup l), .sh (.tup l), .sh (nI i)], rfl, ?_, fun q => (nomatch q), rfl⟩
          generalize l[i] = x at it ih
          clear hi hi' hl rg
          infer_instance)
      have f : (List.range l.length).filter (fun _ => false) = [] := List.filter_eq_nil_iff.mpr fun _ _ => Bool.false_ne_true
      rw [f] at c
      clear rg hl
      rw [show j + (k + 1) + 1 = (j + k + 1) + 1 by omega, callF]
      simp only [tab, fn20, b20]
      infer_instance
    | @lst k l hl hz =>
      have z : l.length ≤ 4611686018427387903 := by omega
      have rg : rngOk 0 (l.length : Int) = true := rng_ok l.length hz
      have c := comp_map (C := callF tab (j + k + 1)) (e := nI) (k := .range) (srcs := [.bi .len [.plc 1]]) (t := .nm 2) (own := [2]) (conds := [.not (.call 20 [false, false] [.ix (.plc 0) (.plc 2), .ix (.plc 1) (.plc 2)])]) (elt := .var 2) (xs := List.range l.length)
        (ρ := [.sh (.lst l), .sh (.lst l), .no]) (ρ1 := [.sh (.lst l), .sh (.lst l), .no]) (os := [.val false (nI l.length)]) (ds := [nI l.length]) (fun _ => false) nI rfl rfl (by simp only [itD, nI, rg, if_true, rng_nat]) rfl (by simpa using hz) (fun i hi => by
          have hi' := List.mem_range.mp hi
          have it : l[i]? = some l[i] := List.getElem?_eq_getElem hi'
          have ih := alike_self (hl _ (List.getElem_mem hi')) j
          refine ⟨[.sh (.lst l), .sh (.lst l), .sh (nI i)], rfl, ?_, fun q => (nomatch q), rfl⟩
          generalize l[i] = x at it ih
          clear hi hi' hl rg
          infer_instance)
      have f : (List.range l.length).filter (fun _ => false) = [] := List.filter_eq_nil_iff.mpr fun _ _ => Bool.false_ne_true
      rw [f] at c
      clear rg hl
      rw [show j + (k + 1) + 1 = (j + k + 1) + 1 by omega, callF]
      simp only [tab, fn20, b20]
      infer_instance
theorem pl_map {α : Type} {k : Nat} {e : α → D} (h : ∀ a, Pl k (e a)) {l : List α} (hz : l.length ≤ 16777216) : Pl (k + 1) (.tup (l.map e)) ∧ Pl (k + 1) (.lst (l.map e)) := by
  have : ∀ d ∈ l.map e, Pl k d := fun d hd => by obtain ⟨a, -, rfl⟩ := List.mem_map.mp hd; exact h a
  exact ⟨.tup this (by simpa using hz), .lst this (by simpa using hz)⟩
theorem run_is (k : Nat) (b c : Bool) : callF tab (k + 1) 21 [.bl b, .bl c] = some (false, .bl (b == c), []) := by
  rw [callF]
  simp only [tab, fn21, b21]
  cases b <;> cases c <;> infer_instance
end Lw
end

section
/-! D2: webs, heights and lots that a law draws. -/
namespace Lw
open PySem Ev
local macro_rules
  | `(tactic| infer_instance) => `(tactic| simp [finF, fullE, initE, outsE, evSs, evS, evE.eq_1, evE.eq_2, evE.eq_3, evE.eq_4, evE.eq_5, evE.eq_6, evE.eq_7, evE.eq_8, evE.eq_9, evE.eq_10, evE.eq_11, evE.eq_12, evE.eq_13, evE.eq_14, evE.eq_15, evE.eq_16, evE.eq_17, evE.eq_18, evE.eq_19, evE.eq_20, evE.eq_21, evE.eq_22, evE.eq_23, evE.eq_24, evE.eq_25, evL, evD, evC, parL, parS, toVal, toBl, toInt, rds, rd, getS, Sl.get, setS, putS, owS, isNop, itD, lockE, unlockE, unlockR, okD, flatD, flatDs, depD, depDs, isCol, isTup, isNon, bindT, bindTs, binD, addD, subD, modD, fdivD, cmpD, eqO, neO, eqD, eqDs, notinO, isO, isnotO, biD, isaB, isaD, lenB, tupleB, ioOk, ioPlaces, mutS, isMut, noTwice, backIo, turn, *])
/-- a draw below a written bound -/
theorem taken_i (k : Nat) {d : D} (R : Row d) (m : Nat) (i : Int) (e : i = m) (h : 1 ≤ m) (hm : m < 1073741824) : ∃ v d', v < m ∧ Row d' ∧ callF tab (k + 1) 19 [d, .int i] = some (false, nI v, [d']) := by
  subst e
  exact run_taken k R m h hm
/-! ### heights -/
theorem run_law_heights (k : Nat) {d : D} (R : Row d) (n m : Nat) (hn : n ≤ 1000) (h : 1 ≤ m) (hm : m < 1000) : ∃ hs d', hs.length = n ∧ (∀ x ∈ hs, ∃ v : Nat, v < m ∧ x = (v : Int) - (m / 3 : Nat)) ∧ Row d' ∧ callF tab (k + 2) 23 [d, nI n, nI m] = some (false, hD hs, [d']) := by
  have rg : rngOk 0 (n : Int) = true := rng_ok n (by omega)
  obtain ⟨acc, ρe, c, hs, d', rfl, hl, hv, R', x, ex, rfl⟩ := comp_on (C := callF tab (k + 1)) (e := nI) (k := .range) (srcs := [.plc 1]) (t := .nm 3) (own := [3]) (conds := []) (elt := .bin .sub (.call 19 [true, false] [.plc 0, .var 2]) (.bin .fdiv (.plc 2) (.cst (.int 3)))) (xs := List.range n)
    (ρ := [.io d, .sh (nI n), .sh (nI m), .no]) (ρ1 := [.io d, .sh (nI n), .sh (nI m), .no]) (os := [.plc 1]) (ds := [nI n])
    (fun pre acc ρ => ∃ hs d', acc = hs.map .int ∧ hs.length = pre.length ∧ (∀ x ∈ hs, ∃ v : Nat, v < m ∧ x = (v : Int) - (m / 3 : Nat)) ∧ Row d' ∧ ∃ x, (isFree x = true) ∧ ρ = [.io d', .sh (nI n), .sh (nI m), x])
    rfl rfl (by simp only [itD, nI, rg, if_true, rng_nat]) rfl (by simp; omega) ⟨[], d, rfl, rfl, by simp, R, .no, rfl, rfl⟩
    (fun pre acc ρ => by
      rintro ⟨hs, d', e1, e2, e3, e4, x, fx, rfl⟩
      exact ⟨hs, d', e1, e2, e3, e4, .no, rfl, rfl⟩)
    (fun pre q post hp acc ρ => by
      rintro ⟨hs, d', rfl, e2, e3, e4, x, fx, rfl⟩
      obtain ⟨v, d'', hv, R', t⟩ := run_taken k e4 m h (by omega)
      have dv : (m : Int).fdiv 3 = (m / 3 : Nat) := by rw [Int.fdiv_eq_ediv_of_nonneg _ (by omega)]; omega
      refine ⟨[.io d', .sh (nI n), .sh (nI m), .sh (nI q)], true, [.io d', .sh (nI n), .sh (nI m), .sh (nI q)], rfl, rfl, (fun z => nomatch z), fun _ => ⟨false, .int ((v : Int) - (m / 3 : Nat)), [.io d'', .sh (nI n), .sh (nI m), .sh (nI q)], ?_, hs ++ [(v : Int) - (m / 3 : Nat)], d'', by simp, by simp [e2], ?_, R', _, rfl, rfl⟩⟩
      · clear e2 e3 e4 hp rg
        infer_instance
      · intro y hy
        rcases List.mem_append.mp hy with hy | hy
        · exact e3 y hy
        · exact ⟨v, hv, List.mem_singleton.mp hy⟩)
  refine ⟨hs, d', by simpa using hl, hv, R', ?_⟩
  refine run_def (fn := fn23) (ρ := [.io d', .sh (nI n), .sh (nI m), .no]) rfl rfl (seq_rt ?_) rfl
  simp only [fn23, fullE]
  simp only [unlockE, backE] at c
  clear hl hv rg ex
  infer_instance
/-! ### lots -/
theorem run_law_lot (k : Nat) {d : D} (R : Row d) (n : Nat) (hn : n ≤ 1000) : ∃ l d', Lot n l ∧ Row d' ∧ callF tab (k + 2) 26 [d, nI n] = some (false, pD l, [d']) := by
  have rg : rngOk 0 (n : Int) = true := rng_ok n (by omega)
  obtain ⟨acc, ρe, c, l, d', rfl, hl, R', x, ex, rfl⟩ := comp_on (C := callF tab (k + 1)) (e := nI) (k := .range) (srcs := [.plc 1]) (t := .nm 2) (own := [2]) (conds := [.cmp .eq (.call 19 [true, false] [.plc 0, .cst (.int 3)]) (.cst (.int 0))]) (elt := .var 2) (xs := List.range n)
    (ρ := [.io d, .sh (nI n), .no]) (ρ1 := [.io d, .sh (nI n), .no]) (os := [.plc 1]) (ds := [nI n])
    (fun pre acc ρ => ∃ l d', acc = l.map nI ∧ l.Sublist pre ∧ Row d' ∧ ∃ x, (isFree x = true) ∧ ρ = [.io d', .sh (nI n), x])
    rfl rfl (by simp only [itD, nI, rg, if_true, rng_nat]) rfl (by simp; omega) ⟨[], d, rfl, .slnil, R, .no, rfl, rfl⟩
    (fun pre acc ρ => by
      rintro ⟨l, d', e1, e2, e4, x, fx, rfl⟩
      exact ⟨l, d', e1, e2, e4, .no, rfl, rfl⟩)
    (fun pre q post hp acc ρ => by
      rintro ⟨l, d', rfl, e2, e4, x, fx, rfl⟩
      obtain ⟨v, d'', hv, R', t⟩ := taken_i k e4 3 3 rfl (by omega) (by omega)
      refine ⟨[.io d', .sh (nI n), .sh (nI q)], decide (v = 0), [.io d'', .sh (nI n), .sh (nI q)], rfl, ?_, fun _ => ⟨l, d'', rfl, ?_, R', _, rfl, rfl⟩, fun _ => ⟨false, nI q, [.io d'', .sh (nI n), .sh (nI q)], rfl, l ++ [q], d'', by simp, ?_, R', _, rfl, rfl⟩⟩
      · clear e2 e4 hp rg hv
        by_cases c : v = 0
        · subst c
          infer_instance
        · have c' : ((v : Int) == 0) = false := by simp; omega
          infer_instance
      · exact e2.trans (List.sublist_append_left _ _)
      · exact List.Sublist.append e2 (.refl _))
  refine ⟨l, d', ⟨fun q hq => List.mem_range.mp (hl.subset hq), (range_up n).sublist hl⟩, R', ?_⟩
  refine run_def (fn := fn26) (ρ := [.io d', .sh (nI n), .no]) rfl rfl (seq_rt ?_) rfl
  simp only [fn26, fullE]
  simp only [unlockE, backE] at c
  clear hl rg ex
  infer_instance
/-! ### webs -/
theorem fkey_none {α : Type} [DecidableEq α] {e : α → D} (h : Enc e) (x : α) : ∀ l : List α, x ∉ l → fkey (l.map e) (e x) = none
  | [], _ => rfl
  | y :: l, hx => by
    have h1 : y ≠ x := fun q => hx (q ▸ List.mem_cons_self)
    simp only [List.map_cons, fkey, h.eq, decide_eq_false h1, fkey_none h x l (fun q => hx (List.mem_cons_of_mem _ q))]
    rfl
theorem fkey_some {α : Type} [DecidableEq α] {e : α → D} (h : Enc e) (x : α) : ∀ l : List α, x ∈ l → ∃ j, fkey (l.map e) (e x) = some j ∧ l[j]? = some x
  | y :: l, hx => by
    by_cases c : y = x
    · exact ⟨0, by simp [fkey, h.eq, c], by simp [c]⟩
    · obtain ⟨j, e1, e2⟩ := fkey_some h x l (by
        rcases List.mem_cons.mp hx with q | q
        · exact absurd q.symm c
        · exact q)
      exact ⟨j + 1, by simp [fkey, h.eq, c, e1], by simpa using e2⟩
theorem put_keys {α : Type} [DecidableEq α] {e : α → D} (h : Enc e) (x : α) (l : List α) (vs : List D) (y : D) : ∃ vs', dput (l.map e) vs (e x) y = ((if x ∈ l then l else l ++ [x]).map e, vs') := by
  by_cases c : x ∈ l
  · obtain ⟨j, e1, e2⟩ := fkey_some h x l c
    exact ⟨_, by simp only [dput, e1, if_pos c]; rfl⟩
  · exact ⟨_, by simp only [dput, fkey_none h x l c, if_neg c, List.map_append]; rfl⟩
theorem keyOk_t (l : List (Nat × Nat)) (t : Nat × Nat) : keyOk (l.map tD) (tD t) = true := by
  have one : ∀ t : Nat × Nat, tupKey (tD t) = true := fun t => by simp [tupKey, keyDs, keyD, depDs, depD]
  have all : (l.map tD).all tupKey = true := List.all_eq_true.mpr fun d hd => by obtain ⟨a, -, rfl⟩ := List.mem_map.mp hd; exact one a
  simp only [keyOk, one, all, Bool.and_self, Bool.true_or]
/-- ties so far: unlike ones -/
structure Ties (n : Nat) (l : List (Nat × Nat)) : Prop where
  nd : l.Nodup
  ok : ∀ t ∈ l, t.1 < t.2 ∧ t.2 < n
theorem Ties.more {n : Nat} {l : List (Nat × Nat)} (T : Ties n l) {t : Nat × Nat} (h : t.1 < t.2 ∧ t.2 < n) : Ties n (if t ∈ l then l else l ++ [t]) := by
  by_cases c : t ∈ l
  · rw [if_pos c]; exact T
  · rw [if_neg c]
    refine ⟨List.nodup_append.mpr ⟨T.nd, by simp, fun a ha b hb e => c (by rw [← List.mem_singleton.mp hb, ← e]; exact ha)⟩, fun s hs => ?_⟩
    rcases List.mem_append.mp hs with hs | hs
    · exact T.ok s hs
    · rw [List.mem_singleton.mp hs]; exact h
theorem Ties.few {n : Nat} {l : List (Nat × Nat)} (T : Ties n l) (hn : n ≤ 8) : l.length ≤ 64 := by
  refine few_of (fun t => t.1 * 8 + t.2) T.nd (fun x hx y hy e => ?_) fun x hx => ?_
  · have a := T.ok x hx
    have b := T.ok y hy
    exact Prod.ext (by omega) (by omega)
  · have a := T.ok x hx
    omega
theorem Ties.store {n : Nat} {l : List (Nat × Nat)} (T : Ties n l) (hn : n ≤ 8) (vs : List D) (t : Nat × Nat) (y : D) : ∃ vs', storeD (.dct (l.map tD) vs) (tD t) y = some (.dct ((if t ∈ l then l else l ++ [t]).map tD) vs') := by
  obtain ⟨vs', e⟩ := put_keys encT t l vs y
  have f := T.few hn
  exact ⟨vs', by
    simp only [storeD, e, keyOk_t, List.length_map]
    rw [if_pos ⟨trivial, by omega⟩]
    by_cases c : t ∈ l <;> simp only [c, if_true, if_false]⟩
theorem Ties.web {n : Nat} {l : List (Nat × Nat)} (T : Ties n l) (h1 : 1 ≤ n) (hn : n ≤ 8) : Web n (sortT ltT l) where
  lo := h1
  hi := hn
  tie := fun t ht => T.ok t (mem_sortT.mp ht)
  up := by
    have p := sortT_pair linT l
    have nd : (sortT ltT l).Nodup := (sortT_perm l).nodup_iff.mpr T.nd
    refine (List.pairwise_and_iff.mpr ⟨p, nd⟩).imp fun {a b} h => ?_
    cases q : ltT a b with
    | true => rfl
    | false => exact absurd (linT.tri a b q h.1) h.2
@[simp] theorem list_d (ks vs : List D) : listB [.dct ks vs] = some (true, .lst ks) := rfl
/-- the slots of _law_web -/
abbrev envL (d : D) (mo me n : Nat) (l : List (Nat × Nat)) (vs : List D) (x y z : Sl) : Ev.Env := [.io d, .sh (nI mo), .sh (nI me), .sh (nI n), .ow (.dct (l.map tD) vs), x, y, z]
theorem run_law_web (k : Nat) {d : D} (R : Row d) (mo me : Nat) (h1 : 1 ≤ mo) (h8 : mo ≤ 8) (hme : me ≤ 1000) : ∃ n ts d', n ≤ mo ∧ Web n ts ∧ Row d' ∧ callF tab (k + 2) 22 [d, nI mo, nI me] = some (false, wD n ts, [d']) := by
  obtain ⟨v0, d0, hv0, R0, t0⟩ := run_taken k R mo h1 (by omega)
  generalize hn : v0 + 1 = n
  have n1 : 1 ≤ n := by omega
  have n8 : n ≤ 8 := by omega
  have z1 : (1 : Int) + v0 = n := by omega
  -- the first ties
  have rg1 : rngOk 1 (n : Int) = true := by
    rw [rngOk, Bool.and_eq_true, decide_eq_true_eq, decide_eq_true_eq]
    omega
  have r1 : rngD 1 (n : Int) = (List.range' 1 (n - 1)).map nI := by
    have : ((n : Int) - 1).toNat = n - 1 := by omega
    unfold rngD
    rw [this, List.range'_eq_map_range, List.map_map]
    refine List.map_congr_left fun i hi => ?_
    simp [nI]
  obtain ⟨ρ1, e1, l1, vs1, d1, x1, fx1, T1, R1, rfl⟩ := loop_on (e := nI) (t := .nm 5) (xs := List.range' 1 (n - 1)) (body := evSs (callF tab (k + 1)) [.ifs (.cmp .gt (.call 19 [true, false] [.plc 0, .cst (.int 7)]) (.cst (.int 0))) [.setix 4 (.tup [false, false] [.call 19 [true, false] [.plc 0, .var 5], .var 5]) (.cst (.bl true))] []])
    (ρ := envL d0 mo me n [] [] .no .no .no) (fun pre ρ => ∃ l vs d x, isFree x = true ∧ Ties n l ∧ Row d ∧ ρ = envL d mo me n l vs x .no .no)
    (fun pre q post hp ρ => by
      rintro ⟨l, vs, d, x, fx, T, R, rfl⟩
      have hq : 1 ≤ q ∧ q < n := by
        have : q ∈ List.range' 1 (n - 1) := by rw [hp]; simp
        rw [List.mem_range'_1] at this
        omega
      clear hp
      obtain ⟨v, d', hv, R', t⟩ := taken_i k R 7 7 rfl (by omega) (by omega)
      by_cases c : v = 0
      · subst c
        refine ⟨_, .inl ?_, l, vs, d', .sh (nI q), rfl, T, R', rfl⟩
        clear rg1 r1 t0 z1 R R' T
        infer_instance
      · have c' : 0 < v := by omega
        obtain ⟨u, d'', hu, R'', t'⟩ := run_taken k R' q hq.1 (by omega)
        obtain ⟨vs', st⟩ := T.store n8 vs (u, q) (.bl true)
        refine ⟨_, .inl ?_, _, vs', d'', .sh (nI q), rfl, T.more (t := (u, q)) ⟨hu, hq.2⟩, R'', rfl⟩
        clear rg1 r1 t0 z1 R R' R'' T c hu hv
        infer_instance) ⟨[], [], d0, .no, rfl, ⟨List.nodup_nil, fun t ht => nomatch ht⟩, R0, rfl⟩
  -- how many more
  obtain ⟨more, d2, hmo, R2, ev2⟩ : ∃ more d2, (2 ≤ n ∨ more = 0) ∧ Row d2 ∧ more ≤ me ∧ evE (callF tab (k + 1)) (.ife (.cmp .gt (.plc 3) (.cst (.int 1))) (.call 19 [true, false] [.plc 0, .bin .add (.plc 2) (.cst (.int 1))]) (.cst (.int 0))) (envL d1 mo me n l1 vs1 x1 .no .no) = some (.val false (nI more), envL d2 mo me n l1 vs1 x1 .no .no) := by
    by_cases c : 2 ≤ n
    · have c' : (1 : Int) < n := by omega
      obtain ⟨v, d2, hv, R2, t⟩ := taken_i k R1 (me + 1) ((me : Int) + 1) rfl (by omega) (by omega)
      refine ⟨v, d2, .inl c, R2, by omega, ?_⟩
      clear rg1 r1 t0 z1 R R1 R2 T1 e1 c hv
      infer_instance
    · have c' : ¬ (1 : Int) < n := by omega
      refine ⟨0, d1, .inr rfl, R1, by omega, ?_⟩
      clear rg1 r1 t0 z1 R R1 T1 e1
      infer_instance
  obtain ⟨hme2, ev2⟩ := ev2
  have rg2 : rngOk 0 (more : Int) = true := rng_ok more (by omega)
  obtain ⟨ρ3, e3, l3, vs3, d3, x3, y3, z3, -, -, -, T3, R3, rfl⟩ := loop_on (e := nI) (t := .nm 6) (xs := List.range more) (body := evSs (callF tab (k + 1)) [.asg 7 (.call 19 [true, false] [.plc 0, .bin .sub (.plc 3) (.cst (.int 1))]), .setix 4 (.tup [false, false] [.var 7, .bin .add (.bin .add (.plc 7) (.cst (.int 1))) (.call 19 [true, false] [.plc 0, .bin .sub (.bin .sub (.plc 3) (.cst (.int 1))) (.plc 7)])]) (.cst (.bl true))])
    (ρ := envL d2 mo me n l1 vs1 x1 .no .no) (fun pre ρ => ∃ l vs d x y z, isFree x = true ∧ isFree y = true ∧ isFree z = true ∧ Ties n l ∧ Row d ∧ ρ = envL d mo me n l vs x y z)
    (fun pre q post hp ρ => by
      rintro ⟨l, vs, d, x, y, z, fx, fy, fz, T, R, rfl⟩
      have hn2 : 2 ≤ n := by
        rcases hmo with h | h
        · exact h
        · subst h; simp at hp
      clear hp
      obtain ⟨v, d', hv, R', t⟩ := taken_i k R (n - 1) ((n : Int) - 1) (by omega) (by omega) (by omega)
      obtain ⟨u, d'', hu, R'', t'⟩ := taken_i k R' (n - 1 - v) ((n : Int) - 1 - v) (by omega) (by omega) (by omega)
      obtain ⟨vs', st⟩ := T.store n8 vs (v, v + 1 + u) (.bl true)
      have st : storeD (.dct (l.map tD) vs) (.tup [nI v, .int ((v : Int) + 1 + u)]) (.bl true) = _ := st
      refine ⟨_, .inl ?_, _, vs', d'', x, .sh (nI q), .sh (nI v), fx, rfl, rfl, T.more (t := (v, v + 1 + u)) ⟨by simp; omega, by simp; omega⟩, R'', rfl⟩
      clear rg1 rg2 r1 t0 z1 R R' R'' T hu hv e1 ev2 T1 R1 R2 hmo
      infer_instance) ⟨l1, vs1, d2, x1, .no, .no, fx1, rfl, rfl, T1, R2, rfl⟩
  have few := T3.few n8
  have sb : sortedB [.lst (l3.map tD)] = some (true, .lst ((sortT ltT l3).map tD)) := by
    simp only [sortedB, can_sort encT depT (by omega) (.inl fun a => rfl) (show l3.length ≤ 16777216 by omega), if_true, sortBy_map ordT]
  refine ⟨n, sortT ltT l3, d3, by omega, T3.web n1 n8, R3, ?_⟩
  refine run_def (fn := fn22) (ρ := envL d3 mo me n l3 vs3 x3 y3 z3) rfl rfl (seq_take 2 (ρ1 := envL d0 mo me n [] [] .no .no .no) ?_ (seq_loop (os := [.val false (.int 1), .plc 3]) (ds := [.int 1, nI n]) rfl rfl (by simp only [itD, rg1, if_true, r1]) e1
    (seq_loop (os := [.val false (nI more)]) (ds := [nI more]) (ρ1 := envL d2 mo me n l1 vs1 x1 .no .no) ?_ rfl (by simp only [itD, nI, rg2, if_true, rng_nat]) e3 (seq_rt ?_)))) rfl
  · clear e1 e3 ev2 rg1 rg2 r1 R R0 R1 R2 R3 T1 T3 few sb
    simp only [fn22, b22, fullE]
    infer_instance
  · show evL (callF tab (k + 1)) _ (envL d1 mo me n l1 vs1 x1 .no .no) = _
    simp only [evL, ev2]
  · clear e1 e3 ev2 rg1 rg2 r1 R R0 R1 R2 R3 T1 T3 few t0
    show evS (callF tab (k + 1)) _ (envL d3 mo me n l3 vs3 x3 y3 z3) = _
    infer_instance
end Lw
end

section
/-! D3: neighbors and parts as a law reckons them. -/
namespace Lw
open PySem Ev
local macro_rules
  | `(tactic| infer_instance) => `(tactic| simp [finF, fullE, initE, outsE, evSs, evS, evE.eq_1, evE.eq_2, evE.eq_3, evE.eq_4, evE.eq_5, evE.eq_6, evE.eq_7, evE.eq_8, evE.eq_9, evE.eq_10, evE.eq_11, evE.eq_12, evE.eq_13, evE.eq_14, evE.eq_15, evE.eq_16, evE.eq_17, evE.eq_18, evE.eq_19, evE.eq_20, evE.eq_21, evE.eq_22, evE.eq_23, evE.eq_24, evE.eq_25, evL, evD, evC, parL, parS, toVal, toBl, toInt, rds, rd, getS, Sl.get, setS, putS, owS, isNop, itD, lockE, unlockE, unlockR, okD, flatD, flatDs, depD, depDs, isCol, isTup, isNon, bindT, bindTs, binD, addD, subD, modD, fdivD, cmpD, eqO, neO, eqD, eqDs, notinO, isO, isnotO, biD, isaB, isaD, lenB, tupleB, ioOk, ioPlaces, mutS, isMut, noTwice, backIo, turn, *])
theorem run_law_ties (k n : Nat) (ts : List (Nat × Nat)) (W : Web n ts) (p : Nat) : callF tab (k + 1) 24 [wD n ts, nI p] = some (true, .lst ((tied ts p).map nI), []) := by
  have few := W.few
  have c := comp_map (C := callF tab k) (e := tD) (k := .seq) (srcs := [.ix (.plc 0) (.cst (.int 1))]) (t := .tp [.nm 2, .nm 3]) (own := [2, 3]) (conds := [.cmp .in_ (.plc 1) (.tup [false, false] [.var 2, .var 3])]) (elt := .bin .sub (.bin .add (.plc 2) (.plc 3)) (.plc 1)) (xs := ts)
    (ρ := [.sh (wD n ts), .sh (nI p), .no, .no]) (ρ1 := [.sh (wD n ts), .sh (nI p), .no, .no]) (os := [.val false (.tup (ts.map tD))]) (ds := [.tup (ts.map tD)]) (fun t => decide (p = t.1) || decide (p = t.2)) (fun t => nI (t.1 + t.2 - p)) (by infer_instance) rfl rfl rfl (by omega) (fun t ht => by
      refine ⟨[.sh (wD n ts), .sh (nI p), .sh (nI t.1), .sh (nI t.2)], rfl, ?_, fun hc => ⟨false, ?_⟩, rfl⟩
      · have e1 : ((t.1 : Int) == p) = decide (p = t.1) := by rw [Bool.eq_iff_iff]; simp; omega
        have e2 : ((t.2 : Int) == p) = decide (p = t.2) := by rw [Bool.eq_iff_iff]; simp; omega
        clear few ht
        infer_instance
        by_cases c1 : p = t.1 <;> by_cases c2 : p = t.2 <;> simp [c1, c2]
      · have e : (t.1 : Int) + t.2 - p = ((t.1 + t.2 - p : Nat) : Int) := by
          simp only [Bool.or_eq_true, decide_eq_true_eq] at hc
          omega
        clear few ht hc
        infer_instance)
  have e : (ts.filter fun t => decide (p = t.1) || decide (p = t.2)).map (fun t => nI (t.1 + t.2 - p)) = (nebs ts p).map nI := by simp [nebs]
  rw [e] at c
  have s := sorted_n (nebs ts p) (by have := nebs_len ts p; omega)
  rw [callF]
  simp only [tab, fn24, b24]
  clear e
  infer_instance
  rfl
/-! ### a part, by going over all ties again and again -/
def stepP (s : Nat → Bool) (S : List Nat) (t : Nat × Nat) : List Nat := if s t.1 = true ∧ s t.2 = true ∧ decide (t.1 ∈ S) ≠ decide (t.2 ∈ S) then S ++ [if t.1 ∈ S then t.2 else t.1] else S
def passP (ts : List (Nat × Nat)) (s : Nat → Bool) (S : List Nat) : List Nat := ts.foldl (stepP s) S
def iterP (ts : List (Nat × Nat)) (s : Nat → Bool) : Nat → List Nat → List Nat
  | 0, S => S
  | k + 1, S => passP ts s (iterP ts s k S)
def ShutP (s : Nat → Bool) (ts : List (Nat × Nat)) (S : List Nat) : Prop := ∀ t ∈ ts, s t.1 = true → s t.2 = true → (t.1 ∈ S ↔ t.2 ∈ S)
section
variable {n : Nat} {ts : List (Nat × Nat)} {s : Nat → Bool} {p : Nat}
theorem step_len (S : List Nat) (t : Nat × Nat) : S.length ≤ (stepP s S t).length := by
  unfold stepP
  split <;> simp
theorem fold_len : ∀ (l : List (Nat × Nat)) (S : List Nat), S.length ≤ (l.foldl (stepP s) S).length
  | [], _ => Nat.le_refl _
  | t :: l, S => Nat.le_trans (step_len S t) (fold_len l _)
theorem fold_same : ∀ (l : List (Nat × Nat)) (S : List Nat), (l.foldl (stepP s) S).length = S.length → l.foldl (stepP s) S = S ∧ ShutP s l S
  | [], S, _ => ⟨rfl, fun t ht => nomatch ht⟩
  | t :: l, S, h => by
    have a := step_len (s := s) S t
    have b := fold_len (s := s) l (stepP s S t)
    rw [List.foldl_cons] at h ⊢
    have e : stepP s S t = S := by
      by_cases c : s t.1 = true ∧ s t.2 = true ∧ decide (t.1 ∈ S) ≠ decide (t.2 ∈ S)
      · exfalso
        have : (stepP s S t).length = S.length + 1 := by unfold stepP; rw [if_pos c]; simp
        omega
      · unfold stepP; rw [if_neg c]
    rw [e] at h ⊢
    obtain ⟨g1, g2⟩ := fold_same l S h
    refine ⟨g1, fun u hu s1 s2 => ?_⟩
    rcases List.mem_cons.mp hu with rfl | hu
    · have c : ¬ (s u.1 = true ∧ s u.2 = true ∧ decide (u.1 ∈ S) ≠ decide (u.2 ∈ S)) := fun c => by
        have : (stepP s S u).length = S.length + 1 := by unfold stepP; rw [if_pos c]; simp
        rw [e] at this
        omega
      by_cases c1 : u.1 ∈ S <;> by_cases c2 : u.2 ∈ S <;> simp_all
    · exact g2 u hu s1 s2
theorem shut_fold : ∀ (l : List (Nat × Nat)) (S : List Nat), ShutP s l S → l.foldl (stepP s) S = S
  | [], _, _ => rfl
  | t :: l, S, h => by
    have e : stepP s S t = S := by
      unfold stepP
      refine if_neg fun c => c.2.2 ?_
      rw [decide_eq_decide]
      exact h t List.mem_cons_self c.1 c.2.1
    rw [List.foldl_cons, e]
    exact shut_fold l S fun u hu => h u (List.mem_cons_of_mem _ hu)
/-- what stands in the row so far -/
structure GotP (ts : List (Nat × Nat)) (s : Nat → Bool) (p : Nat) (S : List Nat) : Prop where
  nd : S.Nodup
  mem : p ∈ S
  conn : ∀ q ∈ S, Conn ts s p q
theorem GotP.step {S : List Nat} (G : GotP ts s p S) {t : Nat × Nat} (ht : t ∈ ts) : GotP ts s p (stepP s S t) := by
  unfold stepP
  split
  · rename_i c
    obtain ⟨s1, s2, c⟩ := c
    by_cases c1 : t.1 ∈ S
    · have c2 : t.2 ∉ S := fun z => c (by rw [decide_eq_true c1, decide_eq_true z])
      rw [if_pos c1]
      refine ⟨List.nodup_append.mpr ⟨G.nd, by simp, fun a ha b hb e => c2 (by rw [← List.mem_singleton.mp hb, ← e]; exact ha)⟩, List.mem_append_left _ G.mem, fun q hq => ?_⟩
      rcases List.mem_append.mp hq with hq | hq
      · exact G.conn q hq
      · rw [List.mem_singleton.mp hq]; exact .step (G.conn _ c1) (.inl ht) s2
    · have c2 : t.2 ∈ S := by
        by_cases z : t.2 ∈ S
        · exact z
        · exact absurd (by rw [decide_eq_false c1, decide_eq_false z]) c
      rw [if_neg c1]
      refine ⟨List.nodup_append.mpr ⟨G.nd, by simp, fun a ha b hb e => c1 (by rw [← List.mem_singleton.mp hb, ← e]; exact ha)⟩, List.mem_append_left _ G.mem, fun q hq => ?_⟩
      rcases List.mem_append.mp hq with hq | hq
      · exact G.conn q hq
      · rw [List.mem_singleton.mp hq]; exact .step (G.conn _ c2) (.inr ht) s1
  · exact G
theorem GotP.fold : ∀ {l : List (Nat × Nat)} {S : List Nat}, GotP ts s p S → (∀ t ∈ l, t ∈ ts) → GotP ts s p (l.foldl (stepP s) S)
  | [], _, G, _ => G
  | t :: l, _, G, h => (G.step (h t List.mem_cons_self)).fold fun u hu => h u (List.mem_cons_of_mem _ hu)
theorem GotP.zero : GotP ts s p [p] := ⟨by simp, by simp, fun q hq => by rw [List.mem_singleton.mp hq]; exact .refl⟩
theorem GotP.iter (k : Nat) : GotP ts s p (iterP ts s k [p]) := by
  induction k with
  | zero => exact .zero
  | succ k ih => exact ih.fold fun t ht => ht
theorem iter_shut (k : Nat) : ShutP s ts (iterP ts s k [p]) ∨ k + 1 ≤ (iterP ts s k [p]).length := by
  induction k with
  | zero => exact .inr (Nat.le_refl _)
  | succ k ih =>
    rcases ih with ih | ih
    · left
      show ShutP s ts (passP ts s _)
      rw [passP, shut_fold ts _ ih]
      exact ih
    · by_cases c : (passP ts s (iterP ts s k [p])).length = (iterP ts s k [p]).length
      · left
        obtain ⟨e, h⟩ := fold_same ts _ c
        show ShutP s ts (passP ts s _)
        rw [passP, e]
        exact h
      · right
        have := fold_len (s := s) ts (iterP ts s k [p])
        show _ ≤ (passP ts s _).length
        unfold passP at c ⊢
        omega
theorem sub_len {α : Type} [DecidableEq α] : ∀ (S l : List α), S.Nodup → (∀ q ∈ S, q ∈ l) → S.length ≤ l.length
  | [], _, _, _ => Nat.zero_le _
  | x :: S, l, h, g => by
    rw [List.nodup_cons] at h
    have := sub_len S (l.erase x) h.2 fun q hq => (List.mem_erase_of_ne (fun e : q = x => h.1 (e ▸ hq))).mpr (g q (List.mem_cons_of_mem _ hq))
    have hx := g x List.mem_cons_self
    rw [List.length_erase_of_mem hx] at this
    have := List.length_pos_of_mem hx
    simp only [List.length_cons]
    omega
theorem iter_comp (W : Web n ts) (hp : p < n) {left : List Nat} (L : Left ts s left) (hl : p ∈ left) : sortT ltN (iterP ts s left.length [p]) = comp n ts s p ∧ ∀ q, q ∈ iterP ts s left.length [p] ↔ q ∈ comp n ts s p := by
  have G := GotP.iter (ts := ts) (s := s) (p := p) left.length
  have shut : ShutP s ts (iterP ts s left.length [p]) := by
    rcases iter_shut (ts := ts) (s := s) (p := p) left.length with h | h
    · exact h
    · exfalso
      have : (iterP ts s left.length [p]).length ≤ left.length := sub_len _ _ G.nd fun q hq => L.conn hl (G.conn q hq)
      omega
  have all : ∀ q, q ∈ iterP ts s left.length [p] ↔ q ∈ comp n ts s p := fun q => by
    rw [mem_comp W hp]
    refine ⟨G.conn q, fun c => ?_⟩
    induction c with
    | refl => exact G.mem
    | step c a sr ih =>
      have sq := L.sub _ (L.conn hl c)
      rcases a with a | a
      · exact (shut _ a sq sr).mp ih
      · exact (shut _ a sr sq).mpr ih
  exact ⟨sort_eq G.nd comp_up all, all⟩
end
/-- the slots of _law_parts -/
abbrev envQ (n : Nat) (ts : List (Nat × Nat)) (lot : D) (cs : List (List Nat)) (left : Sl) (S : Sl) (x y z w : Sl) : Ev.Env := [.sh (wD n ts), .sh lot, .ow (.lst (cs.map pD)), left, S, x, y, z, w]
theorem parts_turn (C : CallS) (n : Nat) (ts : List (Nat × Nat)) (lot : D) (s : Nat → Bool) (hlot : ∀ q : Nat, inO (nI q) lot = some (s q)) (cs : List (List Nat)) (left : Sl) (S : List Nat) (x y z w : Sl) (fy : isFree y = true) (fz : isFree z = true) (t : Nat × Nat) (z1 : S.length < 16777216) :
    turn (.tp [.nm 6, .nm 7]) (evSs C [.ifs (.and (.cmp .in_ (.plc 6) (.plc 1)) (.and (.cmp .in_ (.plc 7) (.plc 1)) (.cmp .ne (.cmp .in_ (.plc 6) (.plc 4)) (.cmp .in_ (.plc 7) (.plc 4))))) [.asg 4 (.bin .add (.plc 4) (.lst [false] [.ife (.cmp .in_ (.plc 6) (.plc 4)) (.var 7) (.var 6)]))] []]) (tD t) (envQ n ts lot cs left (.ow (.lst (S.map nI))) x y z w) =
      some (.nx (envQ n ts lot cs left (.ow (.lst ((stepP s S t).map nI))) x (.sh (nI t.1)) (.sh (nI t.2)) w)) := by
  have h1 := hlot t.1
  have h2 := hlot t.2
  have z2 : S.length + 1 ≤ 16777216 := by omega
  clear hlot
  cases c1 : s t.1 with
  | false =>
    rw [c1] at h1
    have e : stepP s S t = S := by simp [stepP, c1]
    infer_instance
  | true =>
    rw [c1] at h1
    cases c2 : s t.2 with
    | false =>
      rw [c2] at h2
      have e : stepP s S t = S := by simp [stepP, c2]
      infer_instance
    | true =>
      rw [c2] at h2
      by_cases m1 : t.1 ∈ S
      · by_cases m2 : t.2 ∈ S
        · have e : stepP s S t = S := by simp [stepP, m1, m2]
          infer_instance
        · have e : stepP s S t = S ++ [t.2] := by simp [stepP, c1, c2, m1, m2]
          infer_instance
      · by_cases m2 : t.2 ∈ S
        · have e : stepP s S t = S ++ [t.1] := by simp [stepP, c1, c2, m1, m2]
          infer_instance
        · have e : stepP s S t = S := by simp [stepP, m1, m2]
          infer_instance
theorem run_law_parts (k n : Nat) (ts : List (Nat × Nat)) (W : Web n ts) (lot : D) (l : List Nat) (hl : ∀ q ∈ l, q < n) (hn : l.Nodup) (hlot : listB [lot] = some (true, .lst (l.map nI))) (hin : ∀ q : Nat, inO (nI q) lot = some (decide (q ∈ l))) :
    callF tab (k + 1) 25 [wD n ts, lot] = some (true, .lst ((partsT n ts l).map pD), []) := by
  have n8 := W.hi
  have hz : l.length ≤ 8 := Nat.le_trans (few_lt n l hn hl) n8
  have few := W.few
  let s : Nat → Bool := fun q => decide (q ∈ l)
  obtain ⟨ρ', e, cs, S, x, y, z, w, rfl, ecs⟩ := whl_on (c := fun ρ' => toBl (evE (callF tab k) (.cmp .ne (.plc 3) (.lst [] [])) ρ'))
    (body := evSs (callF tab k) [.asg 4 (.lst [false] [.ix (.plc 3) (.cst (.int 0))]), .loop .range [.bi .len [.plc 3]] (.nm 5) [.loop .seq [.ix (.plc 0) (.cst (.int 1))] (.tp [.nm 6, .nm 7]) [.ifs (.and (.cmp .in_ (.plc 6) (.plc 1)) (.and (.cmp .in_ (.plc 7) (.plc 1)) (.cmp .ne (.cmp .in_ (.plc 6) (.plc 4)) (.cmp .in_ (.plc 7) (.plc 4))))) [.asg 4 (.bin .add (.plc 4) (.lst [false] [.ife (.cmp .in_ (.plc 6) (.plc 4)) (.var 7) (.var 6)]))] []]], .app 2 (.bi .tuple [.bi .sorted [.plc 4]]), .asg 3 (.comp .seq [.plc 3] (.nm 8) [8] [.cmp .notin (.plc 8) (.plc 4)] (.var 8))])
    (fun m ρ => ∃ cs left S x y z w, isFree S = true ∧ isFree x = true ∧ isFree y = true ∧ isFree z = true ∧ (isFree w = true ∧ isOwn w = false) ∧ ρ = envQ n ts lot cs (.ow (.lst (left.map nI))) S x y z w ∧ Left ts s left ∧ (∀ q ∈ left, q < n) ∧ cs ++ partsF n ts s left.length left = partsT n ts l ∧ left.length ≤ m ∧ cs.length + left.length ≤ 100)
    (fun ρ => ∃ cs S x y z w, ρ = envQ n ts lot cs (.ow (.lst [])) S x y z w ∧ cs = partsT n ts l)
    (fun m ρ => by
      rintro ⟨cs, left, S, x, y, z, w, fS, fx, fy, fz, ⟨fw, ow⟩, rfl, L, hlt, hc, hm, hk⟩
      cases left with
      | nil =>
        refine .inl ⟨_, ?_, cs, S, x, y, z, w, rfl, by simpa [partsF] using hc⟩
        clear L hc hin
        infer_instance
      | cons p l0 =>
        have hp := hlt p List.mem_cons_self
        have rl := rest_len (s := s) W l0 hp
        have hlen : (p :: l0).length ≤ 100 := by omega
        obtain ⟨srt, all⟩ := iter_comp W hp L List.mem_cons_self
        generalize hleft : p :: l0 = left at *
        have h0 : (left.map nI)[0]? = some (nI p) := by rw [← hleft]; rfl
        have G := fun j => GotP.iter (ts := ts) (s := s) (p := p) j
        have sz : ∀ j, (iterP ts s j [p]).length ≤ n := fun j => few_lt n _ (G j).nd fun q hq => ((G j).conn q hq).lt W hp
        -- the passes
        obtain ⟨ρ1, e1, x1, y1, z1, fx1, fy1, fz1, rfl⟩ := loop_on (e := nI) (t := .nm 5) (xs := List.range left.length) (body := evSs (callF tab k) [.loop .seq [.ix (.plc 0) (.cst (.int 1))] (.tp [.nm 6, .nm 7]) [.ifs (.and (.cmp .in_ (.plc 6) (.plc 1)) (.and (.cmp .in_ (.plc 7) (.plc 1)) (.cmp .ne (.cmp .in_ (.plc 6) (.plc 4)) (.cmp .in_ (.plc 7) (.plc 4))))) [.asg 4 (.bin .add (.plc 4) (.lst [false] [.ife (.cmp .in_ (.plc 6) (.plc 4)) (.var 7) (.var 6)]))] []]])
          (ρ := envQ n ts lot cs (.ow (.lst (left.map nI))) (.ow (.lst [nI p])) x y z w) (fun pre ρ => ∃ x y z, isFree x = true ∧ isFree y = true ∧ isFree z = true ∧ ρ = envQ n ts lot cs (.ow (.lst (left.map nI))) (.ow (.lst ((iterP ts s pre.length [p]).map nI))) x y z w)
          (fun pre q post hp' ρ => by
            rintro ⟨x, y, z, fx, fy, fz, rfl⟩
            obtain ⟨ρ2, e2, y2, z2, fy2, fz2, rfl⟩ := loop_on (e := tD) (t := .tp [.nm 6, .nm 7]) (xs := ts) (body := evSs (callF tab k) [.ifs (.and (.cmp .in_ (.plc 6) (.plc 1)) (.and (.cmp .in_ (.plc 7) (.plc 1)) (.cmp .ne (.cmp .in_ (.plc 6) (.plc 4)) (.cmp .in_ (.plc 7) (.plc 4))))) [.asg 4 (.bin .add (.plc 4) (.lst [false] [.ife (.cmp .in_ (.plc 6) (.plc 4)) (.var 7) (.var 6)]))] []])
              (ρ := envQ n ts lot cs (.ow (.lst (left.map nI))) (.ow (.lst ((iterP ts s pre.length [p]).map nI))) (.sh (nI q)) y z w) (fun pre2 ρ => ∃ y z, isFree y = true ∧ isFree z = true ∧ ρ = envQ n ts lot cs (.ow (.lst (left.map nI))) (.ow (.lst ((pre2.foldl (stepP s) (iterP ts s pre.length [p])).map nI))) (.sh (nI q)) y z w)
              (fun pre2 t post2 hp2 ρ => by
                rintro ⟨y, z, fy, fz, rfl⟩
                have G2 := (G pre.length).fold (l := pre2) (fun u hu => by rw [hp2]; exact List.mem_append_left _ hu)
                have s2 := few_lt n _ G2.nd fun q hq => (G2.conn q hq).lt W hp
                refine ⟨_, .inl (parts_turn (callF tab k) n ts lot s hin cs _ _ (.sh (nI q)) y z w fy fz t (by omega)), .sh (nI t.1), .sh (nI t.2), rfl, rfl, ?_⟩
                rw [List.foldl_append]
                rfl) ⟨y, z, fy, fz, rfl⟩
            refine ⟨envQ n ts lot cs (.ow (.lst (left.map nI))) (.ow (.lst ((iterP ts s (pre.length + 1) [p]).map nI))) (.sh (nI q)) y2 z2 w, .inl ?_, .sh (nI q), y2, z2, rfl, fy2, fz2, by rw [List.length_append]; rfl⟩
            have b : turn (.nm 5) (evSs (callF tab k) [.loop .seq [.ix (.plc 0) (.cst (.int 1))] (.tp [.nm 6, .nm 7]) [.ifs (.and (.cmp .in_ (.plc 6) (.plc 1)) (.and (.cmp .in_ (.plc 7) (.plc 1)) (.cmp .ne (.cmp .in_ (.plc 6) (.plc 4)) (.cmp .in_ (.plc 7) (.plc 4))))) [.asg 4 (.bin .add (.plc 4) (.lst [false] [.ife (.cmp .in_ (.plc 6) (.plc 4)) (.var 7) (.var 6)]))] []]]) (nI q) (envQ n ts lot cs (.ow (.lst (left.map nI))) (.ow (.lst ((iterP ts s pre.length [p]).map nI))) x y z w) = evSs (callF tab k) [.loop .seq [.ix (.plc 0) (.cst (.int 1))] (.tp [.nm 6, .nm 7]) [.ifs (.and (.cmp .in_ (.plc 6) (.plc 1)) (.and (.cmp .in_ (.plc 7) (.plc 1)) (.cmp .ne (.cmp .in_ (.plc 6) (.plc 4)) (.cmp .in_ (.plc 7) (.plc 4))))) [.asg 4 (.bin .add (.plc 4) (.lst [false] [.ife (.cmp .in_ (.plc 6) (.plc 4)) (.var 7) (.var 6)]))] []]] (envQ n ts lot cs (.ow (.lst (left.map nI))) (.ow (.lst ((iterP ts s pre.length [p]).map nI))) (.sh (nI q)) y z w) := by
              simp [turn, bindT, setS, fx]
            rw [b]
            exact seq_loop (os := [.val false (.tup (ts.map tD))]) (ds := [.tup (ts.map tD)]) (by clear e2 b; infer_instance) rfl rfl e2 rfl) ⟨x, y, z, fx, fy, fz, rfl⟩
        rw [List.length_range] at *
        generalize hS : iterP ts s left.length [p] = R at *
        have sR : R.length ≤ n := by rw [← hS]; exact sz _
        -- who is left
        have cmp := comp_map (C := callF tab k) (e := nI) (k := .seq) (srcs := [.plc 3]) (t := .nm 8) (own := [8]) (conds := [.cmp .notin (.plc 8) (.plc 4)]) (elt := .var 8) (xs := left)
          (ρ := envQ n ts lot (cs ++ [comp n ts s p]) (.ow (.lst (left.map nI))) (.ow (.lst (R.map nI))) x1 y1 z1 w) (ρ1 := envQ n ts lot (cs ++ [comp n ts s p]) (.ow (.lst (left.map nI))) (.ow (.lst (R.map nI))) x1 y1 z1 w)
          (os := [.plc 3]) (ds := [.lst (left.map nI)]) (fun q => !decide (q ∈ R)) nI rfl rfl rfl (by simp [ownS, ow]) (by omega) (fun q hq => by
            refine ⟨[.sh (wD n ts), .sh lot, .ow (.lst ((cs ++ [comp n ts s p]).map pD)), .lk (.lst (left.map nI)), .ow (.lst (R.map nI)), x1, y1, z1, .sh (nI q)], ?_, ?_, fun _ => ⟨false, ?_⟩, ?_⟩
            · simp [wipeE, lockE, bindT, setS]
            · clear L hc hlt e1 G sz all srt hin
              by_cases c : q ∈ R
              · infer_instance
              · infer_instance
            · simp [evE]
            · simp [wipeE, lockE])
        have fl : (left.filter fun q => !decide (q ∈ R)) = left.filter fun q => !decide (q ∈ comp n ts s p) := List.filter_congr fun q _ => by rw [decide_eq_decide.mpr (all q)]
        rw [fl] at cmp
        refine .inr ⟨envQ n ts lot cs (.ow (.lst (left.map nI))) S x y z w, envQ n ts lot (cs ++ [comp n ts s p]) (.ow (.lst ((left.filter fun q => !decide (q ∈ comp n ts s p)).map nI))) (.ow (.lst (R.map nI))) x1 y1 z1 w, (left.filter fun q => !decide (q ∈ comp n ts s p)).length, ?_, .inl ?_, ?_,
          cs ++ [comp n ts s p], _, .ow (.lst (R.map nI)), x1, y1, z1, w, rfl, fx1, fy1, fz1, ⟨fw, ow⟩, rfl, L.rest W hp, fun q hq => hlt q (List.mem_filter.mp hq).1, ?_, Nat.le_refl _, ?_⟩
        · have cm : eqDs (left.map nI) [] = false := by rw [← hleft]; rfl
          clear L hc hlt e1 G sz all srt hin cmp fl
          infer_instance
        · have cl : cs.length < 16777216 := by omega
          have sr := sorted_n R (by omega)
          rw [srt] at sr
          refine seq_nx (ρ1 := envQ n ts lot cs (.ow (.lst (left.map nI))) (.ow (.lst [nI p])) x y z w) ?_ (seq_loop (os := [.val false (nI left.length)]) (ds := [nI left.length]) ?_ rfl (by simp only [itD, nI, rng_ok left.length (by omega), if_true, rng_nat]) e1
            (seq_nx (ρ1 := envQ n ts lot (cs ++ [comp n ts s p]) (.ow (.lst (left.map nI))) (.ow (.lst (R.map nI))) x1 y1 z1 w) ?_ (seq_nx ?_ rfl)))
          · have h0' : (left.map nI)[0]? = some (nI p) := h0
            clear L hc hlt e1 G sz all srt hin cmp fl
            simp only [List.getElem?_map] at h0'
            infer_instance
          · clear L hc hlt e1 G sz all srt hin cmp fl
            infer_instance
          · clear L hc hlt e1 G sz all srt hin cmp fl
            show evS (callF tab k) _ (envQ n ts lot cs (.ow (.lst (left.map nI))) (.ow (.lst (R.map nI))) x1 y1 z1 w) = _
            infer_instance
          · clear L hc hlt e1 G sz all srt hin fl
            simp only [evS, cmp, toVal]
            infer_instance
        · have ll : left.length = l0.length + 1 := by rw [← hleft]; rfl
          omega
        · have key : partsF n ts s left.length left = comp n ts s p :: partsF n ts s l0.length (left.filter fun q => !decide (q ∈ comp n ts s p)) := by rw [← hleft]; rfl
          rw [← hc, List.append_assoc, key, partsF_mono W l0.length _ (fun q hq => hlt q (List.mem_filter.mp hq).1) rl]
          rfl
        · have ll : left.length = l0.length + 1 := by rw [← hleft]; rfl
          simp only [List.length_append, List.length_singleton]
          omega) WF l.length (envQ n ts lot [] (.ow (.lst (l.map nI))) .no .no .no .no .no)
    ⟨[], l, .no, .no, .no, .no, .no, rfl, rfl, rfl, rfl, ⟨rfl, rfl⟩, rfl, ⟨fun q hq => by simpa [s] using hq, fun q hq r a sr => by simpa [s] using sr⟩, hl, rfl, Nat.le_refl _, by simp; omega⟩ (by unfold WF; omega)
  subst ecs
  refine run_def (ρ := [.sh (wD n ts), .sh lot, .no, .ow (.lst []), S, x, y, z, w]) rfl rfl (seq_nx (ρ1 := envQ n ts lot [] (.ow (.lst (l.map nI))) .no .no .no .no .no) ?_ (seq_whl e (seq_rt ?_))) rfl
  · clear e hin
    simp only [fn25, fullE]
    infer_instance
  · clear e hin
    infer_instance
end Lw
end

section
/-! R00: the run of the law of webs. -/
namespace Lw
open PySem Ev
local macro_rules
  | `(tactic| infer_instance) => `(tactic| simp [finF, fullE, initE, outsE, evSs, evS, evE.eq_1, evE.eq_2, evE.eq_3, evE.eq_4, evE.eq_5, evE.eq_6, evE.eq_7, evE.eq_8, evE.eq_9, evE.eq_10, evE.eq_11, evE.eq_12, evE.eq_13, evE.eq_14, evE.eq_15, evE.eq_16, evE.eq_17, evE.eq_18, evE.eq_19, evE.eq_20, evE.eq_21, evE.eq_22, evE.eq_23, evE.eq_24, evE.eq_25, evL, evD, evC, parL, parS, toVal, toBl, toInt, rds, rd, getS, Sl.get, setS, putS, owS, isNop, itD, lockE, unlockE, unlockR, okD, flatD, flatDs, depD, depDs, isCol, isTup, isNon, bindT, bindTs, binD, addD, subD, modD, fdivD, cmpD, eqO, neO, eqD, eqDs, notinO, isO, isnotO, biD, isaB, isaD, lenB, tupleB, ioOk, ioPlaces, mutS, isMut, noTwice, backIo, turn, *])
/-! ### least heights: what stands where -/
section
variable {n : Nat} {ts : List (Nat × Nat)} {s : Nat → Bool} {p q : Nat}
theorem Conn.trans {a b c : Nat} (h : Conn ts s a b) (g : Conn ts s b c) : Conn ts s a c := by
  induction g with
  | refl => exact h
  | step _ a sr ih => exact .step ih a sr
theorem Conn.symm {a b : Nat} (ha : s a = true) (h : Conn ts s a b) : Conn ts s b a ∧ s b = true := by
  induction h with
  | refl => exact ⟨.refl, ha⟩
  | step _ a sr ih => exact ⟨(Conn.step .refl a.symm ih.2).trans ih.1, sr⟩
theorem comp_same (hp : s p = true) (h : Conn ts s p q) : comp n ts s q = comp n ts s p := by
  have b := (h.symm hp).1
  unfold comp
  refine List.filter_congr fun r hr => ?_
  rw [decide_eq_decide]
  exact ⟨fun c => h.trans c, fun c => b.trans c⟩
theorem lay_at (W : Web n ts) (h : List Int) : ∀ (k : Nat) (left : List Nat) (acc : List Int), Left ts s left → (∀ q ∈ left, q < n) → left.length ≤ k → acc.length = n → ∀ i, i < n →
    at_ ((partsF n ts s k left).foldl (fun acc part => layL (minL h part) acc part) acc) i = if i ∈ left then minL h (comp n ts s i) else at_ acc i
  | 0, [], acc, _, _, _, _, i, _ => by simp [partsF]
  | k + 1, [], acc, _, _, _, _, i, _ => by simp [partsF]
  | k + 1, p :: l, acc, L, hl, hk, ha, i, hi => by
    have hp := hl p List.mem_cons_self
    have rl := rest_len (s := s) W l hp
    simp only [partsF, List.foldl_cons]
    rw [lay_at W h k _ _ (L.rest W hp) (fun q hq => hl q (List.mem_filter.mp hq).1) (by simp at hk; omega) (by rw [layL_len, ha]) i hi, layL_at]
    by_cases c : i ∈ comp n ts s p
    · have ci := (mem_comp W hp).mp c
      have il := L.conn List.mem_cons_self ci
      rw [if_neg (fun z => by simp [c] at z), if_pos ⟨c, by omega⟩, if_pos il, comp_same (L.sub p List.mem_cons_self) ci]
    · by_cases m : i ∈ p :: l
      · rw [if_pos (List.mem_filter.mpr ⟨m, by simp [c]⟩), if_pos m]
      · rw [if_neg (fun z => m (List.mem_filter.mp z).1), if_neg (fun z => c z.1), if_neg m]
end
abbrev allS (n : Nat) : Nat → Bool := fun q => decide (q ∈ List.range n)
theorem allS_lt {n q : Nat} : allS n q = true ↔ q < n := by simp [allS]
theorem left_range (n : Nat) (ts : List (Nat × Nat)) : Left ts (allS n) (List.range n) := ⟨fun q hq => by simpa [allS] using hq, fun q _ r _ hr => by simpa [allS] using hr⟩
theorem lows_at {n : Nat} {ts : List (Nat × Nat)} (W : Web n ts) (h : List Int) {i : Nat} (hi : i < n) : at_ (lowsT n ts h) i = minL h (comp n ts (allS n) i) := by
  have := lay_at W h (List.range n).length (List.range n) (List.replicate n 0) (left_range n ts) (fun q hq => List.mem_range.mp hq) (Nat.le_refl _) (by simp) i hi
  rw [if_pos (List.mem_range.mpr hi)] at this
  exact this
theorem lows_flat {n : Nat} {ts : List (Nat × Nat)} (W : Web n ts) (h : List Int) : flatT ts (lowsT n ts h) = true := by
  unfold flatT
  rw [List.all_eq_true]
  intro t ht
  obtain ⟨h1, h2⟩ := W.tie t ht
  have l1 : t.1 < n := by omega
  have c : Conn ts (allS n) t.1 t.2 := .step .refl (.inl ht) (allS_lt.mpr h2)
  rw [decide_eq_true_eq, lows_at W h l1, lows_at W h h2, comp_same (allS_lt.mpr l1) c]
theorem minL_rng {n : Nat} {h : List Int} (T : Hts n h) {l : List Nat} (hl : l ≠ []) (lt : ∀ q ∈ l, q < n) : -1000 ≤ minL h l ∧ minL h l ≤ 1000 := by
  have one : ∀ q ∈ l, -1000 ≤ at_ h q ∧ at_ h q ≤ 1000 := fun q hq => T.rng _ (List.mem_of_getElem? (h_at T (lt q hq)))
  have fold : ∀ (l : List Nat) (a : Int), -1000 ≤ a ∧ a ≤ 1000 → (∀ q ∈ l, -1000 ≤ at_ h q ∧ at_ h q ≤ 1000) → -1000 ≤ (l.map (at_ h)).foldl min a ∧ (l.map (at_ h)).foldl min a ≤ 1000 := by
    intro l
    induction l with
    | nil => intro a ha _; exact ha
    | cons q l ih =>
      intro a ha hq
      rw [List.map_cons, List.foldl_cons]
      have := hq q List.mem_cons_self
      exact ih _ (by omega) fun r hr => hq r (List.mem_cons_of_mem _ hr)
  cases l with
  | nil => exact absurd rfl hl
  | cons q l => exact fold l _ (one q List.mem_cons_self) fun r hr => one r (List.mem_cons_of_mem _ hr)
theorem lows_hts {n : Nat} {ts : List (Nat × Nat)} (W : Web n ts) {h : List Int} (T : Hts n h) : Hts n (lowsT n ts h) where
  len := lowsT_len n ts h
  rng := fun x hx => by
    obtain ⟨i, hi, e⟩ := List.mem_iff_getElem.mp hx
    have hi' : i < n := by rw [lowsT_len] at hi; exact hi
    have e' : at_ (lowsT n ts h) i = x := by rw [at_, List.getD_eq_getElem?_getD, List.getElem?_eq_getElem hi, ← e]; rfl
    rw [← e', lows_at W h hi']
    exact minL_rng T (comp_ne W hi') fun q hq => comp_lt hq
theorem pl_n {k : Nat} (n : Nat) : Pl k (nI n) := .int _
theorem pl_p (l : List Nat) (hz : l.length ≤ 16777216) : Pl 1 (pD l) := (pl_map (k := 0) (fun n => pl_n n) hz).1
theorem pl_h (l : List Int) (hz : l.length ≤ 16777216) : Pl 1 (hD l) := (pl_map (k := 0) (fun n => .int n) hz).1
theorem pl_ps (l : List (List Nat)) (hz : l.length ≤ 16777216) (h : ∀ x ∈ l, x.length ≤ 16777216) : Pl 2 (.tup (l.map pD)) := .tup (fun d hd => by obtain ⟨a, ha, rfl⟩ := List.mem_map.mp hd; exact pl_p a (h a ha)) (by simpa using hz)
/-- the slots of the law -/
abbrev envK (sc row w n x4 x5 x6 x7 h p l x11 x12 : Sl) : Ev.Env := [sc, row, w, n, x4, x5, x6, x7, h, p, l, x11, x12]
theorem runs00 : ∀ ns : List Int, ns.length ≤ 63 → ∃ fr outs, callF tab 200 27 [.lst (ns.map .int)] = some (fr, .bl true, outs) := by
  intro ns hns
  have R0 : Row (rowD ns 0 4900 0) := ⟨_, _, _, _, rfl⟩
  obtain ⟨n, ts, d1, hn, W, R1, c1⟩ := run_law_web 197 R0 8 5 (by omega) (by omega) (by omega)
  obtain ⟨hs, d2, hl, hv, R2, c2⟩ := run_law_heights 197 R1 n 6 (by omega) (by omega) (by omega)
  obtain ⟨p, d3, hp, R3, c3⟩ := run_taken 198 R2 n W.lo (by omega)
  obtain ⟨l, d4, L, R4, c4⟩ := run_law_lot 197 R3 n (by omega)
  have T : Hts n hs := ⟨hl, fun x hx => by
    obtain ⟨v, h1, h2⟩ := hv x hx
    omega⟩
  have hn8 := W.hi
  have tl := tied_len W p
  have wl : (lowerT ts hs p).length ≤ 64 := by unfold lowerT; exact Nat.le_trans (List.length_filter_le _ _) tl
  have ll := L.len
  have pf : ∀ l : List Nat, (∀ q ∈ l, q < n) → l.length ≤ 16777216 → Pl 2 (.tup ((partsT n ts l).map pD)) := fun l hl hz => pl_ps _ (by have := parts_len (n := n) (ts := ts) (s := fun q => decide (q ∈ l)) l.length l; exact Nat.le_trans this hz) fun c hc => by
    obtain ⟨q, -, e⟩ := partsF_mem _ _ c hl hc
    rw [e]
    exact Nat.le_trans (few_lt n _ (nodup_up linN comp_up) fun q hq => comp_lt hq) (by omega)
  replace c1 : callF tab 199 22 [.lst [.lst (ns.map .int), .int 0, .int 4900, .int 0], .int 8, .int 5] = some (_, _, [d1]) := c1
  replace c2 : callF tab 199 23 [d1, nI n, .int 6] = some (_, _, [d2]) := c2
  replace c3 : callF tab 199 19 [d2, nI n] = some (_, _, [d3]) := c3
  replace c4 : callF tab 199 26 [d3, nI n] = some (_, _, [d4]) := c4
  have c5 : callF tab 199 24 _ = _ := run_law_ties 198 n ts W p
  have c6 : callF tab 199 9 _ = _ := run_neighbors 194 n ts W p hp
  have c7 : callF tab 199 20 _ = _ := alike_self (pl_p (tied ts p) (by omega)) 197
  have c8 : callF tab 199 14 _ = _ := run_lower 194 n ts W hs T p hp
  have c9 : callF tab 199 20 _ = _ := alike_self (pl_p (lowerT ts hs p) (by omega)) 197
  have c10 : callF tab 199 12 _ = _ := run_parts 194 n ts W l L
  have c11 : callF tab 199 25 _ = _ := run_law_parts 198 n ts W (pD l) l L.lt (nodup_up linN L.up) rfl (fun q => in_nt q l)
  have c12 : callF tab 199 20 _ = _ := alike_self (pf l L.lt (by omega)) 196
  have c13 : callF tab 199 16 _ = _ := run_is_flat 194 n ts W hs T
  have c14 := fun b c => (run_is 198 b c : callF tab 199 21 _ = _)
  have c15 : callF tab 199 25 _ = _ := run_law_parts 198 n ts W (pD (List.range n)) (List.range n) (fun q hq => List.mem_range.mp hq) List.nodup_range rfl (fun q => in_nt q _)
  have c16 : callF tab 199 18 _ = _ := run_lows 194 n ts W hs T
  have c17 : callF tab 199 20 _ = _ := alike_self (pl_h (lowsT n ts hs) (by rw [lowsT_len]; omega)) 197
  have c18 : callF tab 199 16 _ = _ := run_is_flat 194 n ts W _ (lows_hts W T)
  rw [lows_flat W] at c18
  have tr := tuprng_n n (by omega)
  have mu := mul_one (.int 0) n (by omega)
  -- the lower ones
  have k1 := comp_map (C := callF tab 199) (e := nI) (k := .seq) (srcs := [.plc 4]) (t := .nm 11) (own := [11]) (conds := [.cmp .lt (.ix (.plc 8) (.plc 11)) (.ix (.plc 8) (.plc 9))]) (elt := .var 11) (xs := tied ts p)
    (ρ := envK (.sh (.lst (ns.map .int))) (.ow d4) (.sh (wD n ts)) (.sh (nI n)) (.ow (.lst ((tied ts p).map nI))) .no .no .no (.sh (hD hs)) (.sh (nI p)) (.sh (pD l)) .no .no) (ρ1 := envK (.sh (.lst (ns.map .int))) (.ow d4) (.sh (wD n ts)) (.sh (nI n)) (.ow (.lst ((tied ts p).map nI))) .no .no .no (.sh (hD hs)) (.sh (nI p)) (.sh (pD l)) .no .no)
    (os := [.plc 4]) (ds := [.lst ((tied ts p).map nI)]) (fun q => decide (at_ hs q < at_ hs p)) nI rfl rfl rfl rfl (by omega) (fun q hq => by
      have e1 := h_at T hp
      have e2 := h_at T (tied_lt W hq)
      refine ⟨envK (.sh (.lst (ns.map .int))) (.ow d4) (.sh (wD n ts)) (.sh (nI n)) (.lk (.lst ((tied ts p).map nI))) .no .no .no (.sh (hD hs)) (.sh (nI p)) (.sh (pD l)) (.sh (nI q)) .no, rfl, ?_, fun _ => ⟨false, rfl⟩, rfl⟩
      clear c1 c2 c3 c4 c5 c6 c7 c8 c9 c10 c11 c12 c13 c14 c15 c16 c17 c18 hq hl hp T
      by_cases c : at_ hs q < at_ hs p
      · infer_instance
      · infer_instance)
  replace k1 : evE (callF tab 199) _ _ = some (OV.val true (.lst ((lowerT ts hs p).map nI)), _) := k1
  have ones : ∀ l : List (Nat × Nat), flatDs (l.map fun _ => D.int 1) = true ∧ depDs (l.map fun _ => D.int 1) ≤ 63 := fun l => by
    have : ∀ l : List (Nat × Nat), depDs (l.map fun _ => D.int 1) = 0 := fun l => by
      induction l with
      | nil => rfl
      | cons t l ih => rw [List.map_cons, depDs, ih]; rfl
    refine ⟨?_, by rw [this]; omega⟩
    induction l with
    | nil => rfl
    | cons t l ih => rw [List.map_cons, flatDs, ih]; rfl
  -- who ties unequal ones
  have k2 := comp_map (C := callF tab 199) (e := tD) (k := .seq) (srcs := [.ix (.plc 2) (.cst (.int 1))]) (t := .tp [.nm 11, .nm 12]) (own := [11, 12]) (conds := [.cmp .ne (.ix (.plc 8) (.plc 11)) (.ix (.plc 8) (.plc 12))]) (elt := .cst (.int 1)) (xs := ts)
    (ρ := envK (.sh (.lst (ns.map .int))) (.ow d4) (.sh (wD n ts)) (.sh (nI n)) (.ow (.lst ((tied ts p).map nI))) (.sh (pD (lowerT ts hs p))) .no .no (.sh (hD hs)) (.sh (nI p)) (.sh (pD l)) .no .no) (ρ1 := envK (.sh (.lst (ns.map .int))) (.ow d4) (.sh (wD n ts)) (.sh (nI n)) (.ow (.lst ((tied ts p).map nI))) (.sh (pD (lowerT ts hs p))) .no .no (.sh (hD hs)) (.sh (nI p)) (.sh (pD l)) .no .no)
    (os := [.val false (.tup (ts.map tD))]) (ds := [.tup (ts.map tD)]) (fun t => !decide (at_ hs t.1 = at_ hs t.2)) (fun _ => .int 1) (by infer_instance) rfl rfl rfl (by have := W.few; omega) (fun t ht => by
      obtain ⟨t1, t2⟩ := W.tie t ht
      have e1 := h_at T (show t.1 < n by omega)
      have e2 := h_at T t2
      refine ⟨envK (.sh (.lst (ns.map .int))) (.ow d4) (.sh (wD n ts)) (.sh (nI n)) (.ow (.lst ((tied ts p).map nI))) (.sh (pD (lowerT ts hs p))) .no .no (.sh (hD hs)) (.sh (nI p)) (.sh (pD l)) (.sh (nI t.1)) (.sh (nI t.2)), rfl, ?_, fun _ => ⟨false, rfl⟩, rfl⟩
      clear c1 c2 c3 c4 c5 c6 c7 c8 c9 c10 c11 c12 c13 c14 c15 c16 c17 c18 ht hl hp T t1 t2
      by_cases c : at_ hs t.1 = at_ hs t.2
      · infer_instance
      · have c' : (at_ hs t.1 == at_ hs t.2) = false := by simpa using c
        infer_instance)
  obtain ⟨fl, dp⟩ := ones (ts.filter fun t => !decide (at_ hs t.1 = at_ hs t.2))
  have nil : eqDs ((ts.filter fun t => !decide (at_ hs t.1 = at_ hs t.2)).map fun _ => D.int 1) [] = flatT ts hs := by
    have : flatT ts hs = !ts.any fun t => !decide (at_ hs t.1 = at_ hs t.2) := by simp [flatT, List.all_eq_not_any_not]
    rw [this]
    cases e : ts.filter fun t => !decide (at_ hs t.1 = at_ hs t.2) with
    | nil =>
      rw [List.filter_eq_nil_iff] at e
      rw [List.any_eq_false.mpr e]
      rfl
    | cons t r =>
      have : t ∈ ts.filter fun t => !decide (at_ hs t.1 = at_ hs t.2) := by rw [e]; exact List.mem_cons_self
      obtain ⟨m1, m2⟩ := List.mem_filter.mp this
      rw [List.any_eq_true.mpr ⟨t, m1, m2⟩]
      rfl
  let E := fun (acc : List Int) (x y z : Sl) => envK (.sh (.lst (ns.map .int))) (.ow d4) (.sh (wD n ts)) (.sh (nI n)) (.ow (.lst ((tied ts p).map nI))) (.sh (pD (lowerT ts hs p))) (.ow (.lst (acc.map .int))) x (.sh (hD hs)) (.sh (nI p)) (.sh (pD l)) y z
  let B : List RS := [.loop .seq [.plc 7] (.nm 11) [.setix 6 (.var 11) (.bi .min [.comp .seq [.plc 7] (.nm 12) [12] [] (.ix (.plc 8) (.plc 12))])]]
  obtain ⟨ρ', e, x, y, z, -, -, -, rfl⟩ := loop_on (e := pD) (t := .nm 7) (xs := partsT n ts (List.range n)) (body := evSs (callF tab 199) B)
    (ρ := E (List.replicate n 0) .no .no .no) (fun pre ρ => ∃ x y z, isFree x = true ∧ isFree y = true ∧ (isFree z = true ∧ isOwn z = false) ∧ ρ = E (pre.foldl (fun acc part => layL (minL hs part) acc part) (List.replicate n 0)) x y z)
    (fun pre part post hpp ρ => by
      rintro ⟨x, y, z, fx, fy, ⟨fz, oz⟩, rfl⟩
      generalize hacc : pre.foldl (fun acc part => layL (minL hs part) acc part) (List.replicate n 0) = acc
      have hla : acc.length = n := by rw [← hacc, lay_parts_len, List.length_replicate]
      obtain ⟨p', hp1, hc⟩ := partsF_mem _ _ part (fun q hq => List.mem_range.mp hq) (show part ∈ partsT n ts (List.range n) by rw [hpp]; simp)
      have lt : ∀ q ∈ part, q < n := fun q hq => comp_lt (hc ▸ hq)
      have ne : part ≠ [] := hc ▸ comp_ne W (List.mem_range.mp hp1)
      have pl : part.length ≤ n := by
        rw [hc]
        exact few_lt n _ (nodup_up linN comp_up) fun q hq => comp_lt hq
      clear hc hp1
      have mn := min_map hs part ne
      obtain ⟨ρ', e', w, u, fw, fu, ou, rfl⟩ := loop_on (e := nI) (t := .nm 11) (xs := part) (body := evSs (callF tab 199) [.setix 6 (.var 11) (.bi .min [.comp .seq [.plc 7] (.nm 12) [12] [] (.ix (.plc 8) (.plc 12))])]) (ρ := E acc (.sh (pD part)) y z)
        (fun pre ρ => ∃ w u, isFree w = true ∧ isFree u = true ∧ isOwn u = false ∧ ρ = E (layL (minL hs part) acc pre) (.sh (pD part)) w u)
        (fun pre q post hpq ρ => by
          rintro ⟨w, u, fw, fu, ou, rfl⟩
          have lq := lt q (by rw [hpq]; simp)
          have st := store_l ((layL (minL hs part) acc pre).map .int) q (.int (minL hs part)) (by simp [layL_len]; omega)
          have c := comp_map (C := callF tab 199) (e := nI) (k := .seq) (srcs := [.plc 7]) (t := .nm 12) (own := [12]) (conds := []) (elt := .ix (.plc 8) (.plc 12)) (xs := part) (ρ := E (layL (minL hs part) acc pre) (.sh (pD part)) (.sh (nI q)) u) (ρ1 := E (layL (minL hs part) acc pre) (.sh (pD part)) (.sh (nI q)) u) (os := [.plc 7]) (ds := [pD part])
            (fun _ => true) (fun q => .int (at_ hs q)) rfl rfl rfl (by simp [E, ownS, ou]) (by omega) (fun r hr => by
              have e1 := h_at T (lt r hr)
              refine ⟨E (layL (minL hs part) acc pre) (.sh (pD part)) (.sh (nI q)) (.sh (nI r)), by simp [E, wipeE, lockE, bindT, setS], rfl, fun _ => ⟨false, ?_⟩, by simp [E, wipeE, lockE]⟩
              clear c1 c2 c3 c4 c5 c6 c7 c8 c9 c10 c11 c12 c13 c14 c15 c16 c17 c18 hr hpp hpq lt hl hp T
              simp only [E]
              infer_instance)
          rw [filter_all] at c
          refine ⟨E ((layL (minL hs part) acc pre).set q (minL hs part)) (.sh (pD part)) (.sh (nI q)) u, .inl ?_, .sh (nI q), u, rfl, fu, ou, by rw [layL_snoc]⟩
          clear c1 c2 c3 c4 c5 c6 c7 c8 c9 c10 c11 c12 c13 c14 c15 c16 c17 c18 hpp hpq lt hl hp T
          simp only [E] at c ⊢
          infer_instance) ⟨y, z, fy, fz, oz, rfl⟩
      refine ⟨_, .inl ?_, .sh (pD part), w, u, rfl, fw, ⟨fu, ou⟩, rfl⟩
      have b : turn (.nm 7) (evSs (callF tab 199) B) (pD part) (E acc x y z) = evSs (callF tab 199) B (E acc (.sh (pD part)) y z) := by
        simp [E, turn, bindT, setS, fx]
      rw [b]
      refine seq_loop (os := [.plc 7]) (ds := [pD part]) rfl rfl rfl e' ?_
      rw [List.foldl_append, hacc]
      rfl) ⟨.no, .no, .no, rfl, rfl, ⟨rfl, rfl⟩, rfl⟩
  have e : forLoop (.nm 7) (evSs (callF tab 199) B) ((partsT n ts (List.range n)).map pD) (E (List.replicate n 0) .no .no .no) = some (.nx (E (lowsT n ts hs) x y z)) := e
  refine ⟨false, [], run_def (ρ := E (lowsT n ts hs) x y z) rfl rfl (seq_take 4 (ρ1 := envK (.sh (.lst (ns.map .int))) (.ow d4) (.sh (wD n ts)) (.sh (nI n)) .no .no .no .no (.sh (hD hs)) (.sh (nI p)) (.sh (pD l)) .no .no) ?_ (seq_take 2 (ρ1 := envK (.sh (.lst (ns.map .int))) (.ow d4) (.sh (wD n ts)) (.sh (nI n)) (.ow (.lst ((tied ts p).map nI))) .no .no .no (.sh (hD hs)) (.sh (nI p)) (.sh (pD l)) .no .no) ?_
    (seq_take 2 (ρ1 := envK (.sh (.lst (ns.map .int))) (.ow d4) (.sh (wD n ts)) (.sh (nI n)) (.ow (.lst ((tied ts p).map nI))) (.sh (pD (lowerT ts hs p))) .no .no (.sh (hD hs)) (.sh (nI p)) (.sh (pD l)) .no .no) ?_ (seq_take 3 (ρ1 := E (List.replicate n 0) .no .no .no) ?_ (seq_loop (os := [.val true (.lst ((partsT n ts (List.range n)).map pD))]) (ds := [.lst ((partsT n ts (List.range n)).map pD)]) (ρ1 := E (List.replicate n 0) .no .no .no) ?_ rfl rfl e (seq_rt ?_)))))) rfl⟩
  · clear c5 c6 c7 c8 c9 c10 c11 c12 c13 c14 c15 c16 c17 c18 k1 k2 e nil
    simp only [fn27, b27, fullE]
    infer_instance
  · clear c1 c2 c3 c4 c8 c9 c10 c11 c12 c13 c14 c15 c16 c17 c18 k1 k2 e nil
    simp only [fn27, b27]
    infer_instance
  · clear c1 c2 c3 c4 c5 c6 c7 c10 c11 c12 c13 c14 c15 c16 c17 c18 k2 e nil
    simp only [fn27, b27]
    infer_instance
  · clear c1 c2 c3 c4 c5 c6 c7 c8 c9 c15 c16 c17 c18 k1 e
    simp only [fn27, b27, E]
    infer_instance
  · clear c1 c2 c3 c4 c5 c6 c7 c8 c9 c10 c11 c12 c13 c14 c16 c17 c18 k1 k2 e nil
    simp only [fn27, b27, E]
    infer_instance
  · clear c1 c2 c3 c4 c5 c6 c7 c8 c9 c10 c11 c12 c13 c14 c15 k1 k2 e nil
    simp only [fn27, b27, E]
    infer_instance
end Lw
end

section
/-! L5: which heights come of which, as the program reckons it. -/
namespace Lw
open PySem Ev
local macro_rules
  | `(tactic| infer_instance) => `(tactic| simp [finF, fullE, initE, outsE, evSs, evS, evE.eq_1, evE.eq_2, evE.eq_3, evE.eq_4, evE.eq_5, evE.eq_6, evE.eq_7, evE.eq_8, evE.eq_9, evE.eq_10, evE.eq_11, evE.eq_12, evE.eq_13, evE.eq_14, evE.eq_15, evE.eq_16, evE.eq_17, evE.eq_18, evE.eq_19, evE.eq_20, evE.eq_21, evE.eq_22, evE.eq_23, evE.eq_24, evE.eq_25, evL, evD, evC, parL, parS, toVal, toBl, toInt, rds, rd, getS, Sl.get, setS, putS, owS, isNop, itD, lockE, unlockE, unlockR, okD, flatD, flatDs, depD, depDs, isCol, isTup, isNon, bindT, bindTs, binD, addD, subD, modD, fdivD, cmpD, eqO, neO, eqD, eqDs, notinO, isO, isnotO, biD, isaB, isaD, lenB, tupleB, ioOk, ioPlaces, mutS, isMut, noTwice, backIo, turn, *])
section
variable {n : Nat} {ts : List (Nat × Nat)} {h g : List Int} {p q : Nat} {v : Int}
/-- who can have a height on the way -/
def openT (n : Nat) (h g : List Int) (v : Int) : List Nat := (List.range n).filter fun q => decide (v ≤ at_ h q) && decide (at_ g q ≤ v)
theorem mem_open : q ∈ openT n h g v ↔ q < n ∧ v ≤ at_ h q ∧ at_ g q ≤ v := by simp [openT]
theorem open_lot : Lot n (openT n h g v) := ⟨fun q hq => (mem_open.mp hq).1, (range_up n).sublist List.filter_sublist⟩
noncomputable def pieceT (n : Nat) (ts : List (Nat × Nat)) (h g : List Int) (p : Nat) : List Nat :=
  if p ∈ openT n h g (at_ g p) then comp n ts (fun q => decide (q ∈ openT n h g (at_ g p))) p else []
noncomputable def sourcesT (n : Nat) (ts : List (Nat × Nat)) (h g : List Int) (p : Nat) : List Nat := (pieceT n ts h g p).filter fun q => decide (at_ h q = at_ g p)
noncomputable def reachedT (n : Nat) (ts : List (Nat × Nat)) (h g : List Int) : Bool := (List.range n).all fun p => !decide (sourcesT n ts h g p = [])
theorem piece_lt (hq : q ∈ pieceT n ts h g p) : q < n := by
  unfold pieceT at hq
  split at hq
  · exact comp_lt hq
  · cases hq
theorem piece_len : (pieceT n ts h g p).length ≤ n := by
  unfold pieceT
  split
  · exact few_lt n _ (nodup_up linN comp_up) fun q hq => comp_lt hq
  · exact Nat.zero_le _
theorem run_open (k : Nat) (T : Hts n h) (G : Hts n g) (hn : n ≤ 1000) (v : Int) : callF tab (k + 1) 28 [hD h, hD g, .int v] = some (true, .lst ((openT n h g v).map nI), []) := by
  have rg : rngOk 0 (n : Int) = true := rng_ok n (by omega)
  have len := T.len
  have c := comp_map (C := callF tab k) (e := nI) (k := .range) (srcs := [.bi .len [.plc 0]]) (t := .nm 3) (own := [3]) (conds := [.chn .ge .ge (.ix (.plc 0) (.plc 3)) (.plc 2) (.ix (.plc 1) (.plc 3))]) (elt := .var 3) (xs := List.range n)
    (ρ := [.sh (hD h), .sh (hD g), .sh (.int v), .no]) (ρ1 := [.sh (hD h), .sh (hD g), .sh (.int v), .no]) (os := [.val false (nI n)]) (ds := [nI n]) (fun q => decide (v ≤ at_ h q) && decide (at_ g q ≤ v)) nI (by infer_instance) rfl (by simp only [itD, nI, rg, if_true, rng_nat]) rfl (by simp; omega) (fun q hq => by
      have hq' := List.mem_range.mp hq
      have e1 := h_at T hq'
      have e2 := h_at G hq'
      refine ⟨[.sh (hD h), .sh (hD g), .sh (.int v), .sh (nI q)], rfl, ?_, fun _ => ⟨false, rfl⟩, rfl⟩
      clear hq hq' len T G rg
      by_cases c1 : v ≤ at_ h q
      · by_cases c2 : at_ g q ≤ v <;> infer_instance
      · infer_instance)
  rw [callF]
  simp only [tab, fn28, b28]
  clear rg
  infer_instance
  rfl
theorem run_piece (k : Nat) (W : Web n ts) (T : Hts n h) (G : Hts n g) (hp : p < n) : callF tab (k + 3) 29 [wD n ts, hD h, hD g, nI p] = some (false, pD (pieceT n ts h g p), []) := by
  have e2 := h_at G hp
  have a1 := run_open (k + 1) T G (by have := W.hi; omega) (at_ g p)
  have a2 := run_hanging k n ts W p hp (.lst ((openT n h g (at_ g p)).map nI)) (fun q => decide (q ∈ openT n h g (at_ g p))) (fun q => in_nl q _)
  have len := G.len
  rw [callF]
  simp only [tab, fn29, b29]
  by_cases c : p ∈ openT n h g (at_ g p)
  · have e : pieceT n ts h g p = comp n ts (fun q => decide (q ∈ openT n h g (at_ g p))) p := by rw [pieceT, if_pos c]
    rw [e]
    clear hp len T G
    infer_instance
  · have e : pieceT n ts h g p = [] := by rw [pieceT, if_neg c]
    rw [e]
    clear hp len T G
    infer_instance
theorem run_sources (k : Nat) (W : Web n ts) (T : Hts n h) (G : Hts n g) (hp : p < n) : callF tab (k + 4) 30 [wD n ts, hD h, hD g, nI p] = some (false, pD (sourcesT n ts h g p), []) := by
  have a1 := run_piece k W T G hp
  have hn := W.hi
  have c := comp_map (C := callF tab (k + 3)) (e := nI) (k := .seq) (srcs := [.call 29 [false, false, false, false] [.var 0, .var 1, .var 2, .var 3]]) (t := .nm 4) (own := [4]) (conds := [.cmp .eq (.ix (.plc 1) (.plc 4)) (.ix (.plc 2) (.plc 3))]) (elt := .var 4) (xs := pieceT n ts h g p)
    (ρ := [.sh (wD n ts), .sh (hD h), .sh (hD g), .sh (nI p), .no]) (ρ1 := [.sh (wD n ts), .sh (hD h), .sh (hD g), .sh (nI p), .no]) (os := [.val false (pD (pieceT n ts h g p))]) (ds := [pD (pieceT n ts h g p)]) (fun q => decide (at_ h q = at_ g p)) nI (by infer_instance) rfl rfl rfl (by have := piece_len (n := n) (ts := ts) (h := h) (g := g) (p := p); omega) (fun q hq => by
      have e1 := h_at T (piece_lt hq)
      have e2 := h_at G hp
      refine ⟨[.sh (wD n ts), .sh (hD h), .sh (hD g), .sh (nI p), .sh (nI q)], rfl, ?_, fun _ => ⟨false, rfl⟩, rfl⟩
      clear hq hp T G a1
      by_cases c : at_ h q = at_ g p
      · infer_instance
      · have c' : (at_ h q == at_ g p) = false := by simpa using c
        infer_instance)
  rw [callF]
  simp only [tab, fn30, b30]
  clear a1
  infer_instance
  rfl
theorem run_need_both (k : Nat) (W : Web n ts) (T : Hts n h) (G : Hts n g) : callF tab (k + 5) 31 [wD n ts, hD h, hD g] = some (false, .non, []) := by
  have a1 := run_need_web k n ts W
  have a2 := run_need_heights k n ts h T
  have a3 := run_need_heights k n ts g G
  rw [callF]
  simp only [tab, fn31, b31]
  infer_instance
theorem run_reached (k : Nat) (W : Web n ts) (T : Hts n h) (G : Hts n g) : callF tab (k + 5) 32 [wD n ts, hD h, hD g] = some (false, .bl (reachedT n ts h g), []) := by
  have hn := W.hi
  have a1 := run_everybody (k + 3) n ts hn
  have c := comp_map (C := callF tab (k + 4)) (e := nI) (k := .seq) (srcs := [.call 13 [false] [.var 0]]) (t := .nm 3) (own := [3]) (conds := []) (elt := .cmp .ne (.call 30 [false, false, false, false] [.var 0, .var 1, .var 2, .var 3]) (.tup [] [])) (xs := List.range n)
    (ρ := [.sh (wD n ts), .sh (hD h), .sh (hD g), .no]) (ρ1 := [.sh (wD n ts), .sh (hD h), .sh (hD g), .no]) (os := [.val false (pD (List.range n))]) (ds := [pD (List.range n)]) (fun _ => true) (fun p => .bl (!decide (sourcesT n ts h g p = []))) (by infer_instance) rfl rfl rfl (by simp; omega) (fun p hp => by
      have a := run_sources k W T G (List.mem_range.mp hp)
      have e : eqDs ((sourcesT n ts h g p).map nI) [] = decide (sourcesT n ts h g p = []) := encN.eqs _ []
      refine ⟨[.sh (wD n ts), .sh (hD h), .sh (hD g), .sh (nI p)], rfl, rfl, fun _ => ⟨false, ?_⟩, rfl⟩
      clear hp T G a1
      infer_instance)
  rw [filter_all] at c
  have a := all_map (List.range n) fun p => !decide (sourcesT n ts h g p = [])
  have e : (List.range n).all (fun p => !decide (sourcesT n ts h g p = [])) = reachedT n ts h g := rfl
  rw [e] at a
  clear e
  rw [callF]
  simp only [tab, fn32, b32]
  infer_instance
theorem run_comes (k : Nat) (W : Web n ts) (T : Hts n h) (G : Hts n g) : callF tab (k + 6) 33 [wD n ts, hD h, hD g] = some (false, .bl (reachedT n ts h g), []) := by
  have a1 := run_need_both k W T G
  have a2 := run_reached k W T G
  rw [callF]
  simp only [tab, fn33, b33]
  infer_instance
theorem run_sources_any (k : Nat) (W : Web n ts) (T : Hts n h) (G : Hts n g) (hp : p < n) : callF tab (k + 6) 34 [wD n ts, hD h, hD g, nI p] = some (false, pD (sourcesT n ts h g p), []) := by
  have a1 := run_need_both k W T G
  have a2 := run_sources (k + 1) W T G hp
  have a3 := run_need_person (k + 2) n ts p hp
  rw [callF]
  simp only [tab, fn34, b34]
  infer_instance
theorem run_pieces (k : Nat) (W : Web n ts) (T : Hts n h) (G : Hts n g) (v : Int) (hv : -1000 ≤ v ∧ v ≤ 1000) : callF tab (k + 6) 36 [wD n ts, hD h, hD g, .int v] = some (false, .tup ((partsT n ts (openT n h g v)).map pD), []) := by
  have a1 := run_need_both k W T G
  have a2 := run_open (k + 4) T G (by have := W.hi; omega) v
  have a3 := run_parts_of (k + 2) n ts W (.lst ((openT n h g v).map nI)) (openT n h g v) open_lot.lt (by have := (open_lot (n := n) (h := h) (g := g) (v := v)).len; have := W.hi; omega) rfl
  have a4 := run_is_height (k + 2) v
  obtain ⟨h1, h2⟩ := hv
  rw [callF]
  simp only [tab, fn36, b36]
  infer_instance
/-- the first who cannot have its last height -/
noncomputable def blockD (n : Nat) (ts : List (Nat × Nat)) (h g : List Int) : D := match (List.range n).find? fun p => decide (sourcesT n ts h g p = []) with
  | some p => .tup [nI p, pD (pieceT n ts h g p)]
  | none => .non
theorem run_blocked (k : Nat) (W : Web n ts) (T : Hts n h) (G : Hts n g) : callF tab (k + 6) 35 [wD n ts, hD h, hD g] = some (false, blockD n ts h g, []) := by
  have hn := W.hi
  have a1 := run_need_both k W T G
  have a2 := run_everybody (k + 4) n ts hn
  have lp := loop_ret (e := nI) (t := .nm 3) (xs := List.range n) (body := evSs (callF tab (k + 5)) [.ifs (.cmp .eq (.call 30 [false, false, false, false] [.var 0, .var 1, .var 2, .var 3]) (.tup [] [])) [.ret (.tup [false, false] [.var 3, .call 29 [false, false, false, false] [.var 0, .var 1, .var 2, .var 3]])] []])
    (fun p => decide (sourcesT n ts h g p = [])) (fun ρ => ∃ x, isFree x = true ∧ ρ = [.sh (wD n ts), .sh (hD h), .sh (hD g), x]) (fun p r => ∃ ρ, r = .rt false (.tup [nI p, pD (pieceT n ts h g p)]) ρ ∧ ∃ x, ρ = [.sh (wD n ts), .sh (hD h), .sh (hD g), x])
    (fun p hp c ρ => by
      rintro ⟨x, fx, rfl⟩
      have a := run_sources (k + 1) W T G (List.mem_range.mp hp)
      have e : eqDs ((sourcesT n ts h g p).map nI) [] = decide (sourcesT n ts h g p = []) := encN.eqs _ []
      rw [c] at e
      refine ⟨[.sh (wD n ts), .sh (hD h), .sh (hD g), .sh (nI p)], .inl ?_, _, rfl, rfl⟩
      clear hp T G a1 a2 c
      infer_instance)
    (fun p hp c ρ => by
      rintro ⟨x, fx, rfl⟩
      have a := run_sources (k + 1) W T G (List.mem_range.mp hp)
      have a' := run_piece (k + 2) W T G (List.mem_range.mp hp)
      have e : eqDs ((sourcesT n ts h g p).map nI) [] = decide (sourcesT n ts h g p = []) := encN.eqs _ []
      rw [c] at e
      refine ⟨false, .tup [nI p, pD (pieceT n ts h g p)], [.sh (wD n ts), .sh (hD h), .sh (hD g), .sh (nI p)], ?_, _, rfl, _, rfl⟩
      clear hp T G a1 a2 c
      infer_instance)
    (ρ := [.sh (wD n ts), .sh (hD h), .sh (hD g), .no]) ⟨.no, rfl, rfl⟩
  obtain ⟨r, e, z⟩ := lp
  unfold blockD
  cases f : (List.range n).find? fun p => decide (sourcesT n ts h g p = []) with
  | some p =>
    rw [f] at z
    obtain ⟨ρ, rfl, x, rfl⟩ := z
    refine run_def (ρ := [.sh (wD n ts), .sh (hD h), .sh (hD g), x]) rfl rfl (seq_nx (ρ1 := [.sh (wD n ts), .sh (hD h), .sh (hD g), .no]) ?_ (seq_loop_rt (os := [.val false (pD (List.range n))]) (ds := [pD (List.range n)]) ?_ rfl rfl e)) rfl
    · clear e
      simp only [fn35, fullE]
      infer_instance
    · clear e
      infer_instance
  | none =>
    rw [f] at z
    obtain ⟨ρ, rfl, x, fx, rfl⟩ := z
    refine run_def (ρ := [.sh (wD n ts), .sh (hD h), .sh (hD g), x]) rfl rfl (seq_nx (ρ1 := [.sh (wD n ts), .sh (hD h), .sh (hD g), .no]) ?_ (seq_loop (os := [.val false (pD (List.range n))]) (ds := [pD (List.range n)]) ?_ rfl rfl e (seq_rt rfl))) rfl
    · clear e
      simp only [fn35, fullE]
      infer_instance
    · clear e
      infer_instance
end
end Lw
end

/-! L6: rows of stoops, and who comes to what. -/
namespace Lw
open PySem Ev
section
variable {n : Nat} {ts : List (Nat × Nat)} {h g k : List Int} {p q : Nat} {v : Int}
/-- the heights behind a stoop -/
def aft (h : List Int) (p q : Nat) : List Int := h.set p (at_ h q)
theorem aft_len : (aft h p q).length = h.length := by simp [aft]
theorem aft_at (hp : p < h.length) (r : Nat) : at_ (aft h p q) r = if r = p then at_ h q else at_ h r := by
  by_cases c : r = p
  · subst c
    simp [at_, aft, List.getD_eq_getElem?_getD, hp]
  · rw [if_neg c]
    simp [at_, aft, List.getD_eq_getElem?_getD, List.getElem?_set_ne (Ne.symm c)]
/-- a stoop that can be -/
def Can (n : Nat) (ts : List (Nat × Nat)) (h : List Int) (p q : Nat) : Prop := p < n ∧ Adj ts p q ∧ at_ h q < at_ h p
inductive Reach (n : Nat) (ts : List (Nat × Nat)) (h : List Int) : List Int → Prop
  | refl : Reach n ts h h
  | step {k : List Int} {p q : Nat} : Reach n ts h k → Can n ts k p q → Reach n ts h (aft k p q)
theorem Reach.trans (a : Reach n ts h g) (b : Reach n ts g k) : Reach n ts h k := by
  induction b with
  | refl => exact a
  | step _ c ih => exact .step ih c
theorem Reach.len (a : Reach n ts h g) : g.length = h.length := by
  induction a with
  | refl => rfl
  | step _ _ ih => rw [aft_len, ih]
theorem Hts.aft (W : Web n ts) (T : Hts n h) (c : Can n ts h p q) : Hts n (aft h p q) where
  len := by rw [aft_len]; exact T.len
  rng := fun x hx => by
    have hq : q < n := (W.lt c.2.1).2.1
    rcases List.mem_or_eq_of_mem_set hx with hx | rfl
    · exact T.rng x hx
    · exact T.rng _ (List.mem_of_getElem? (h_at T hq))
theorem Reach.hts (W : Web n ts) (T : Hts n h) (a : Reach n ts h g) : Hts n g := by
  induction a with
  | refl => exact T
  | step _ c ih => exact ih.aft W c
theorem Reach.le (T : Hts n h) (a : Reach n ts h g) : ∀ r, at_ g r ≤ at_ h r := by
  induction a with
  | refl => exact fun r => Int.le_refl _
  | @step k p q b c ih =>
    intro r
    have hl : p < k.length := by rw [b.len, T.len]; exact c.1
    have := ih r
    rw [aft_at hl]
    split
    · rename_i e
      subst e
      have := c.2.2
      omega
    · exact this
theorem Conn.mono {s s' : Nat → Bool} (i : ∀ q, s q = true → s' q = true) (c : Conn ts s p q) : Conn ts s' p q := by
  induction c with
  | refl => exact .refl
  | step _ a sr ih => exact .step ih a (i _ sr)
/-- who can have it on the way -/
abbrev opn (n : Nat) (h g : List Int) (v : Int) : Nat → Bool := fun q => decide (q < n ∧ v ≤ at_ h q ∧ at_ g q ≤ v)
/-- p has its last height of one who has it at first -/
def Src (n : Nat) (ts : List (Nat × Nat)) (h g : List Int) (p : Nat) : Prop := opn n h g (at_ g p) p = true ∧ ∃ q, at_ h q = at_ g p ∧ Conn ts (opn n h g (at_ g p)) p q
theorem src_iff (W : Web n ts) (hp : p < n) : sourcesT n ts h g p ≠ [] ↔ Src n ts h g p := by
  have o : (fun q => decide (q ∈ openT n h g (at_ g p))) = opn n h g (at_ g p) := by funext q; rw [decide_eq_decide]; exact mem_open
  have m : p ∈ openT n h g (at_ g p) ↔ opn n h g (at_ g p) p = true := by rw [mem_open]; simp [opn]
  unfold sourcesT pieceT Src
  rw [o]
  by_cases c : p ∈ openT n h g (at_ g p)
  · rw [if_pos c]
    constructor
    · intro ne
      refine ⟨m.mp c, ?_⟩
      obtain ⟨q, hq⟩ := List.exists_mem_of_ne_nil _ ne
      obtain ⟨h1, h2⟩ := List.mem_filter.mp hq
      exact ⟨q, of_decide_eq_true h2, (mem_comp W hp).mp h1⟩
    · rintro ⟨-, q, e, cn⟩ nil
      have : q ∈ (comp n ts (opn n h g (at_ g p)) p).filter fun q => decide (at_ h q = at_ g p) := List.mem_filter.mpr ⟨(mem_comp W hp).mpr cn, decide_eq_true e⟩
      rw [nil] at this
      cases this
  · rw [if_neg c]
    exact ⟨fun z => absurd rfl z, fun z => absurd (m.mpr z.1) c⟩
theorem reached_iff (W : Web n ts) : reachedT n ts h g = true ↔ ∀ p < n, Src n ts h g p := by
  unfold reachedT
  rw [List.all_eq_true]
  constructor
  · intro a p hp
    have := a p (List.mem_range.mpr hp)
    rw [← src_iff W hp]
    simpa using this
  · intro a p hp
    have := (src_iff W (List.mem_range.mp hp)).mpr (a p (List.mem_range.mp hp))
    simpa using this
theorem src_of_reach (W : Web n ts) (T : Hts n h) (a : Reach n ts h g) : ∀ p < n, Src n ts h g p := by
  induction a with
  | refl =>
    intro p hp
    exact ⟨by simp [opn, hp], p, rfl, .refl⟩
  | @step k a b r c ih =>
    have le := r.le T
    have hl : a < k.length := by rw [r.len, T.len]; exact c.1
    have hb : b < n := (W.lt c.2.1).2.1
    have ab : a ≠ b := fun e => by have := c.2.2; rw [e] at this; omega
    have le2 : ∀ q, at_ (aft k a b) q ≤ at_ k q := fun q => by
      rw [aft_at hl]
      split
      · rename_i e; subst e; have := c.2.2; omega
      · exact Int.le_refl _
    have wide : ∀ v q, opn n h k v q = true → opn n h (aft k a b) v q = true := fun v q z => by
      simp only [opn, decide_eq_true_eq] at z ⊢
      have := le2 q
      exact ⟨z.1, z.2.1, by omega⟩
    intro p hp
    by_cases e : p = a
    · subst e
      have ev : at_ (aft k p b) p = at_ k b := by rw [aft_at hl, if_pos rfl]
      obtain ⟨o, q, eq, cn⟩ := ih b hb
      have op : opn n h (aft k p b) (at_ k b) p = true := by
        simp only [opn, decide_eq_true_eq]
        have := c.2.2
        have := le p
        exact ⟨hp, by omega, by omega⟩
      unfold Src
      rw [ev]
      refine ⟨op, q, eq, ?_⟩
      exact (Conn.step .refl c.2.1 (wide _ _ o)).trans (cn.mono (wide _))
    · have ev : at_ (aft k a b) p = at_ k p := by rw [aft_at hl, if_neg e]
      obtain ⟨o, q, eq, cn⟩ := ih p hp
      unfold Src
      rw [ev]
      exact ⟨wide _ _ o, q, eq, cn.mono (wide _)⟩
/-- the edge of a piece: one who has the height, and a neighbor above it -/
theorem edge_of {s : Nat → Bool} (up : at_ h p ≠ v) (c : Conn ts s p q) (e : at_ h q = v) (sp : s p = true) : ∃ a b, Adj ts b a ∧ at_ h a = v ∧ at_ h b ≠ v ∧ s a = true ∧ s b = true := by
  induction c with
  | refl => exact absurd e up
  | @step m r c a sr ih =>
    by_cases z : at_ h m = v
    · exact ih z
    · exact ⟨r, m, a, e, z, sr, (c.symm sp).2⟩
def sumT (h : List Int) : Int := h.foldr (· + ·) 0
theorem sum_set : ∀ (h : List Int) (p : Nat) (x : Int), p < h.length → sumT (h.set p x) = sumT h - at_ h p + x
  | a :: h, 0, x, _ => by simp [sumT, at_]; omega
  | a :: h, p + 1, x, hp => by
    have := sum_set h p x (by simpa using hp)
    simp only [List.set_cons_succ, sumT, List.foldr_cons] at *
    have e : at_ (a :: h) (p + 1) = at_ h p := by simp [at_]
    rw [e, this]
    omega
theorem sum_le : ∀ (g h : List Int), g.length = h.length → (∀ r, at_ g r ≤ at_ h r) → sumT g ≤ sumT h
  | [], [], _, _ => Int.le_refl _
  | a :: g, b :: h, hl, le => by
    have := sum_le g h (by simpa using hl) fun r => by simpa [at_] using le (r + 1)
    have := le 0
    simp [at_] at this
    simp only [sumT, List.foldr_cons] at *
    omega
theorem at_ext (hl : g.length = h.length) (e : ∀ r < h.length, at_ g r = at_ h r) : g = h := by
  refine List.ext_getElem hl fun i h1 h2 => ?_
  have := e i h2
  simpa [at_, List.getD_eq_getElem?_getD, h1, h2] using this
theorem reach_of_src (W : Web n ts) (G : Hts n g) : ∀ (m : Nat) (h : List Int), Hts n h → (∀ p < n, Src n ts h g p) → sumT h - sumT g ≤ m → Reach n ts h g := by
  intro m
  induction m with
  | zero =>
    intro h T S hm
    have le : ∀ r, at_ g r ≤ at_ h r := fun r => by
      by_cases hr : r < n
      · have := (S r hr).1
        simp only [opn, decide_eq_true_eq] at this
        exact this.2.1
      · have h1 : at_ g r = 0 := by simp [at_, List.getD_eq_getElem?_getD, G.len, Nat.le_of_not_lt hr]
        have h2 : at_ h r = 0 := by simp [at_, List.getD_eq_getElem?_getD, T.len, Nat.le_of_not_lt hr]
        omega
    have e : g = h := at_ext (by rw [G.len, T.len]) fun r hr => by
      refine Int.le_antisymm (le r) (Int.not_lt.mp fun lt => ?_)
      have hr' : r < n := by rw [← T.len]; exact hr
      have := sum_le g (h.set r (at_ g r)) (by rw [G.len, List.length_set, T.len]) fun i => by
        by_cases c : i = r
        · subst c
          simp [at_, List.getD_eq_getElem?_getD, hr]
        · have := le i
          simpa [at_, List.getD_eq_getElem?_getD, List.getElem?_set_ne (Ne.symm c)] using this
      rw [sum_set h r _ hr] at this
      omega
    rw [e]
    exact .refl
  | succ m ih =>
    intro h T S hm
    by_cases all : ∀ r < n, at_ h r = at_ g r
    · have e : g = h := at_ext (by rw [G.len, T.len]) fun r hr => (all r (by rw [← T.len]; exact hr)).symm
      rw [e]
      exact .refl
    · -- the greatest last height of those who do not yet have theirs
      have ex : ∃ r ∈ (List.range n).filter fun r => decide (at_ h r ≠ at_ g r), ∀ i ∈ (List.range n).filter fun r => decide (at_ h r ≠ at_ g r), at_ g i ≤ at_ g r := by
        have ne : (List.range n).filter (fun r => decide (at_ h r ≠ at_ g r)) ≠ [] := fun nil => all fun r hr => by
          rw [List.filter_eq_nil_iff] at nil
          have := nil r (List.mem_range.mpr hr)
          simpa using this
        generalize (List.range n).filter (fun r => decide (at_ h r ≠ at_ g r)) = l at ne
        clear all
        induction l with
        | nil => exact absurd rfl ne
        | cons r l il =>
          cases l with
          | nil => exact ⟨r, List.mem_cons_self, fun i hi => by rw [List.mem_singleton.mp hi]; exact Int.le_refl _⟩
          | cons r' l =>
            obtain ⟨x, hx, mx⟩ := il (by simp)
            by_cases c : at_ g x ≤ at_ g r
            · refine ⟨r, List.mem_cons_self, fun i hi => ?_⟩
              rcases List.mem_cons.mp hi with rfl | hi
              · exact Int.le_refl _
              · have := mx i hi
                omega
            · refine ⟨x, List.mem_cons_of_mem _ hx, fun i hi => ?_⟩
              rcases List.mem_cons.mp hi with rfl | hi
              · omega
              · exact mx i hi
      obtain ⟨p, hp, mx⟩ := ex
      obtain ⟨hp1, hp2⟩ := List.mem_filter.mp hp
      have hpn := List.mem_range.mp hp1
      have up : at_ h p ≠ at_ g p := of_decide_eq_true hp2
      obtain ⟨o, q, eq, cn⟩ := S p hpn
      obtain ⟨a, b, ad, ea, eb, oa, ob⟩ := edge_of up cn eq o
      simp only [opn, decide_eq_true_eq] at oa ob
      have hl : b < h.length := by rw [T.len]; exact ob.1
      have can : Can n ts h b a := ⟨ob.1, ad, by omega⟩
      have at1 := fun r => aft_at (q := a) hl r
      have gb : at_ g b ≤ at_ g p := ob.2.2
      refine Reach.trans (.step .refl can) (ih _ (T.aft W can) ?_ ?_)
      · intro r hr
        by_cases c : at_ g r ≤ at_ g p
        · obtain ⟨o, q, eq, cn⟩ := S r hr
          have keep : ∀ i, opn n h g (at_ g r) i = true → opn n (aft h b a) g (at_ g r) i = true := fun i z => by
            simp only [opn, decide_eq_true_eq] at z ⊢
            refine ⟨z.1, ?_, z.2.2⟩
            rw [at1]
            split
            · omega
            · exact z.2.1
          refine ⟨keep _ o, q, ?_, cn.mono keep⟩
          rw [at1, if_neg]
          · exact eq
          · intro e
            subst e
            omega
        · have done : at_ h r = at_ g r := by
            by_cases z : at_ h r = at_ g r
            · exact z
            · exact absurd (mx r (List.mem_filter.mpr ⟨List.mem_range.mpr hr, decide_eq_true z⟩)) c
          have rb : r ≠ b := fun e => by subst e; omega
          have e : at_ (aft h b a) r = at_ g r := by rw [at1, if_neg rb, done]
          refine ⟨?_, r, e, .refl⟩
          simp only [opn, decide_eq_true_eq]
          exact ⟨hr, by omega, by omega⟩
      · have := sum_set h b (at_ h a) hl
        show sumT (h.set b (at_ h a)) - sumT g ≤ m
        omega
theorem reach_iff (W : Web n ts) (T : Hts n h) (G : Hts n g) : reachedT n ts h g = true ↔ Reach n ts h g := by
  rw [reached_iff W]
  exact ⟨fun S => reach_of_src W G (sumT h - sumT g).toNat h T S (by omega), fun r => src_of_reach W T r⟩
/-- whatever comes has heights that were there at first -/
theorem Reach.from (W : Web n ts) (a : Reach n ts h g) (T : Hts n h) : ∀ x ∈ g, x ∈ h := by
  induction a with
  | refl => exact fun x hx => hx
  | @step k p q b c ih =>
    intro x hx
    rcases List.mem_or_eq_of_mem_set hx with hx | rfl
    · exact ih x hx
    · exact ih _ (List.mem_of_getElem? (h_at (b.hts W T) (W.lt c.2.1).2.1))
end
end Lw

section
/-! L7: all that comes, by all rows of stoops. -/
namespace Lw
open PySem Ev
local macro_rules
  | `(tactic| infer_instance) => `(tactic| simp [finF, fullE, initE, outsE, evSs, evS, evE.eq_1, evE.eq_2, evE.eq_3, evE.eq_4, evE.eq_5, evE.eq_6, evE.eq_7, evE.eq_8, evE.eq_9, evE.eq_10, evE.eq_11, evE.eq_12, evE.eq_13, evE.eq_14, evE.eq_15, evE.eq_16, evE.eq_17, evE.eq_18, evE.eq_19, evE.eq_20, evE.eq_21, evE.eq_22, evE.eq_23, evE.eq_24, evE.eq_25, evL, evD, evC, parL, parS, toVal, toBl, toInt, rds, rd, getS, Sl.get, setS, putS, owS, isNop, itD, lockE, unlockE, unlockR, okD, flatD, flatDs, depD, depDs, isCol, isTup, isNon, bindT, bindTs, binD, addD, subD, modD, fdivD, cmpD, eqO, neO, eqD, eqDs, notinO, isO, isnotO, biD, isaB, isaD, lenB, tupleB, ioOk, ioPlaces, mutS, isMut, noTwice, backIo, turn, *])
/-! ### keys that are heights -/
theorem encH : Enc hD := encI.tup
theorem depH : Dep hD 1 := depI.tup
theorem keys_i : ∀ l : List Int, keyDs (l.map .int) = true
  | [] => rfl
  | x :: l => by simp [keyDs, keyD, keys_i l]
theorem keyOk_h (l : List (List Int)) (x : List Int) : keyOk (l.map hD) (hD x) = true := by
  have one : ∀ x : List Int, tupKey (hD x) = true := fun x => by simp [tupKey, keys_i, dep_i]
  have all : (l.map hD).all tupKey = true := List.all_eq_true.mpr fun d hd => by obtain ⟨a, -, rfl⟩ := List.mem_map.mp hd; exact one a
  simp only [keyOk, one, all, Bool.and_self, Bool.true_or]
theorem in_dct (x : List Int) (ks : List (List Int)) (vs : List D) (hl : vs.length = ks.length) : inO (hD x) (.dct (ks.map hD) vs) = some (decide (x ∈ ks)) := by
  simp only [inO, keyOk_h, if_true, dget]
  by_cases c : x ∈ ks
  · obtain ⟨j, e1, e2⟩ := fkey_some encH x ks c
    have hj : j < vs.length := by rw [hl]; exact (List.getElem?_eq_some_iff.mp e2).1
    rw [e1, decide_eq_true c]
    simp [List.getElem?_eq_getElem hj]
  · rw [fkey_none encH x ks c, decide_eq_false c]
    rfl
theorem put_new (x : List Int) (ks : List (List Int)) (vs : List D) (y : D) (c : x ∉ ks) (hz : ks.length < 16777216) : storeD (.dct (ks.map hD) vs) (hD x) y = some (.dct ((ks ++ [x]).map hD) (vs ++ [y])) := by
  simp only [storeD, keyOk_h, List.length_map, dput, fkey_none encH x ks c]
  rw [if_pos ⟨trivial, hz⟩, List.map_append]
  rfl
/-! ### how many at most -/
def codeL (h : List Int) : List Int → Nat
  | [] => 0
  | x :: g => h.idxOf x + h.length * codeL h g
theorem codeL_lt (h : List Int) : ∀ g : List Int, (∀ x ∈ g, x ∈ h) → codeL h g < h.length ^ g.length
  | [], _ => by simp [codeL]
  | x :: g, hx => by
    have a := codeL_lt h g fun y hy => hx y (List.mem_cons_of_mem _ hy)
    have b : h.idxOf x < h.length := List.idxOf_lt_length_of_mem (hx x List.mem_cons_self)
    simp only [codeL, List.length_cons, Nat.pow_succ]
    calc h.idxOf x + h.length * codeL h g < h.length + h.length * codeL h g := by omega
      _ = h.length * (codeL h g + 1) := by rw [Nat.mul_add, Nat.mul_one, Nat.add_comm]
      _ ≤ h.length * h.length ^ g.length := Nat.mul_le_mul_left _ a
      _ = h.length ^ g.length * h.length := Nat.mul_comm _ _
theorem codeL_inj (h : List Int) : ∀ g k : List Int, g.length = k.length → (∀ x ∈ g, x ∈ h) → (∀ x ∈ k, x ∈ h) → codeL h g = codeL h k → g = k
  | [], [], _, _, _, _ => rfl
  | x :: g, y :: k, hl, hx, hy, e => by
    have bx : h.idxOf x < h.length := List.idxOf_lt_length_of_mem (hx x List.mem_cons_self)
    have by' : h.idxOf y < h.length := List.idxOf_lt_length_of_mem (hy y List.mem_cons_self)
    have pos : 0 < h.length := by omega
    simp only [codeL] at e
    have e1 : h.idxOf x = h.idxOf y := by
      have := congrArg (· % h.length) e
      simpa [Nat.add_mul_mod_self_left, Nat.mod_eq_of_lt bx, Nat.mod_eq_of_lt by'] using this
    rw [e1] at e
    have e2 : codeL h g = codeL h k := Nat.eq_of_mul_eq_mul_left pos (Nat.add_left_cancel e)
    have e3 : x = y := by
      have p := List.getElem_idxOf bx
      have q := List.getElem_idxOf by'
      rw [← p, ← q]
      congr 1
    rw [e3, codeL_inj h g k (by simpa using hl) (fun z hz => hx z (List.mem_cons_of_mem _ hz)) (fun z hz => hy z (List.mem_cons_of_mem _ hz)) e2]
theorem five : ∀ n, n ≤ 5 → n ^ n ≤ 3125
  | 0, _ => by decide
  | 1, _ => by decide
  | 2, _ => by decide
  | 3, _ => by decide
  | 4, _ => by decide
  | 5, _ => by decide
  | n + 6, h => by omega
section
variable {n : Nat} {ts : List (Nat × Nat)} {h g : List Int} {p q : Nat}
theorem few_reach (W : Web n ts) (hn : n ≤ 5) (T : Hts n h) {ks : List (List Int)} (nd : ks.Nodup) (a : ∀ k ∈ ks, Reach n ts h k) : ks.length ≤ 3125 := by
  refine Nat.le_trans (few_of (codeL h) nd (fun x hx y hy e => codeL_inj h x y (by rw [(a x hx).len, (a y hy).len]) ((a x hx).from W T) ((a y hy).from W T) e) fun x hx => ?_) (five n hn)
  have := codeL_lt h x ((a x hx).from W T)
  rw [(a x hx).len, T.len] at this
  exact this
/-! ### stoops -/
def stoopsOf (ts : List (Nat × Nat)) (h : List Int) (p : Nat) : List (Nat × Nat) := ((tied ts p).filter fun q => decide (at_ h q < at_ h p)).map fun q => (p, q)
def stoopsT (n : Nat) (ts : List (Nat × Nat)) (h : List Int) : List (Nat × Nat) := (List.range n).flatMap (stoopsOf ts h)
theorem mem_stoops : (p, q) ∈ stoopsT n ts h ↔ Can n ts h p q := by
  unfold stoopsT Can
  rw [List.mem_flatMap]
  constructor
  · rintro ⟨r, hr, m⟩
    obtain ⟨x, hx, e⟩ := List.mem_map.mp m
    cases e
    obtain ⟨h1, h2⟩ := List.mem_filter.mp hx
    exact ⟨List.mem_range.mp hr, mem_tied.mp h1, of_decide_eq_true h2⟩
  · rintro ⟨h1, h2, h3⟩
    exact ⟨p, List.mem_range.mpr h1, List.mem_map.mpr ⟨q, List.mem_filter.mpr ⟨mem_tied.mpr h2, decide_eq_true h3⟩, rfl⟩⟩
theorem stoopsOf_len (W : Web n ts) : (stoopsOf ts h p).length ≤ 64 := by
  unfold stoopsOf
  rw [List.length_map]
  exact Nat.le_trans (List.length_filter_le _ _) (tied_len W p)
theorem flat_len {α β : Type} (f : α → List β) (m : Nat) (hf : ∀ a, (f a).length ≤ m) : ∀ l : List α, (l.flatMap f).length ≤ l.length * m
  | [] => Nat.zero_le _
  | a :: l => by
    have := flat_len f m hf l
    have := hf a
    simp only [List.flatMap_cons, List.length_append, List.length_cons, Nat.add_mul, Nat.one_mul]
    omega
theorem stoops_len (W : Web n ts) : (stoopsT n ts h).length ≤ 512 := by
  have := flat_len (stoopsOf ts h) 64 (fun p => stoopsOf_len W) (List.range n)
  have := W.hi
  rw [List.length_range] at *
  unfold stoopsT
  omega
theorem run_law_stoops (k : Nat) (W : Web n ts) (T : Hts n h) : callF tab (k + 2) 38 [wD n ts, hD h] = some (true, .lst ((stoopsT n ts h).map tD), []) := by
  have hn := W.hi
  have rg : rngOk 0 (n : Int) = true := rng_ok n (by omega)
  obtain ⟨ρ, e, x, y, -, -, rfl⟩ := loop_on (e := nI) (t := .nm 3) (xs := List.range n) (body := evSs (callF tab (k + 1)) [.asg 2 (.bin .add (.plc 2) (.comp .seq [.call 24 [false, false] [.var 0, .var 3]] (.nm 4) [4] [.cmp .lt (.ix (.plc 1) (.plc 4)) (.ix (.plc 1) (.plc 3))] (.tup [false, false] [.var 3, .var 4])))])
    (ρ := [.sh (wD n ts), .sh (hD h), .ow (.lst []), .no, .no]) (fun pre ρ => ∃ x y, isFree x = true ∧ (isFree y = true ∧ isOwn y = false) ∧ ρ = [.sh (wD n ts), .sh (hD h), .ow (.lst ((pre.flatMap (stoopsOf ts h)).map tD)), x, y])
    (fun pre p post hp ρ => by
      rintro ⟨x, y, fx, ⟨fy, oy⟩, rfl⟩
      have hpn : p < n := List.mem_range.mp (by rw [hp]; simp)
      have hpl : pre.length ≤ n := by
        have := congrArg List.length hp
        simp at this
        omega
      clear hp
      generalize ha : pre.flatMap (stoopsOf ts h) = acc
      have la : acc.length ≤ pre.length * 64 := ha ▸ flat_len (stoopsOf ts h) 64 (fun p => stoopsOf_len W) pre
      have a := run_law_ties k n ts W p
      have c := comp_map (C := callF tab (k + 1)) (e := nI) (k := .seq) (srcs := [.call 24 [false, false] [.var 0, .var 3]]) (t := .nm 4) (own := [4]) (conds := [.cmp .lt (.ix (.plc 1) (.plc 4)) (.ix (.plc 1) (.plc 3))]) (elt := .tup [false, false] [.var 3, .var 4]) (xs := tied ts p)
        (ρ := [.sh (wD n ts), .sh (hD h), .ow (.lst (acc.map tD)), .sh (nI p), y]) (ρ1 := [.sh (wD n ts), .sh (hD h), .ow (.lst (acc.map tD)), .sh (nI p), y]) (os := [.val true (.lst ((tied ts p).map nI))]) (ds := [.lst ((tied ts p).map nI)]) (fun q => decide (at_ h q < at_ h p)) (fun q => tD (p, q)) (by clear T; infer_instance) rfl rfl (by simp [ownS, oy]) (by have := tied_len W p; omega) (fun q hq => by
          have e1 := h_at T hpn
          have e2 := h_at T (tied_lt W hq)
          refine ⟨[.sh (wD n ts), .sh (hD h), .ow (.lst (acc.map tD)), .sh (nI p), .sh (nI q)], by simp [wipeE, lockE, bindT, setS], ?_, fun _ => ⟨false, rfl⟩, by simp [wipeE, lockE]⟩
          clear hq a hpn T
          by_cases c : at_ h q < at_ h p <;> infer_instance)
      have fe : ((tied ts p).filter fun q => decide (at_ h q < at_ h p)).map (fun q => tD (p, q)) = (stoopsOf ts h p).map tD := by simp [stoopsOf]
      rw [fe] at c
      have sl : (stoopsOf ts h p).length ≤ 64 := stoopsOf_len W
      have z : acc.length + (stoopsOf ts h p).length ≤ 16777216 := by omega
      refine ⟨[.sh (wD n ts), .sh (hD h), .ow (.lst ((acc ++ stoopsOf ts h p).map tD)), .sh (nI p), y], .inl ?_, .sh (nI p), y, rfl, ⟨fy, oy⟩, by rw [List.flatMap_append, ha]; simp⟩
      clear T fe a la sl hpl
      infer_instance) ⟨.no, .no, rfl, ⟨rfl, rfl⟩, rfl⟩
  refine run_def (ρ := [.sh (wD n ts), .sh (hD h), .no, x, y]) rfl rfl (seq_nx (ρ1 := [.sh (wD n ts), .sh (hD h), .ow (.lst []), .no, .no]) ?_ (seq_loop (os := [.val false (nI n)]) (ds := [nI n]) (ρ1 := [.sh (wD n ts), .sh (hD h), .ow (.lst []), .no, .no]) ?_ rfl (by simp only [itD, nI, rg, if_true, rng_nat]) e (seq_rt ?_))) rfl
  · clear e T
    simp only [fn38, fullE]
    infer_instance
  · clear e T
    infer_instance
  · clear e T
    show evS (callF tab (k + 1)) _ [.sh (wD n ts), .sh (hD h), .ow (.lst ((stoopsT n ts h).map tD)), x, y] = _
    infer_instance
theorem cut_to (l : List D) (i : Nat) (hi : i ≤ l.length) : slcD (.tup l) none (some (i : Int)) = some (false, .tup (l.take i)) := by
  have : ¬ (i : Int) < 0 := by omega
  simp [slcD, cutD, cutIx, this, Nat.min_eq_left hi]
theorem cut_from (l : List D) (i : Nat) (hi : i ≤ l.length) : slcD (.tup l) (some (i : Int)) none = some (false, .tup (l.drop i)) := by
  have h0 : ¬ (i : Int) < 0 := by omega
  have : (l.drop i).take (l.length - i) = l.drop i := List.take_of_length_le (by simp)
  simp [slcD, cutD, cutIx, h0, Nat.min_eq_left hi, this]
theorem run_law_after (k : Nat) (hn : n ≤ 8) (T : Hts n h) (hp : p < n) (hq : q < n) : callF tab (k + 1) 39 [hD h, tD (p, q)] = some (false, hD (aft h p q), []) := by
  have len := T.len
  have e1 := h_at T hq
  have c1 := cut_to (h.map .int) p (by simp; omega)
  have c2 := cut_from (h.map .int) (p + 1) (by simp; omega)
  have z1 : (h.take p).length + 1 ≤ 16777216 := by simp; omega
  have z2 : (h.take p).length + 1 + (h.drop (p + 1)).length ≤ 16777216 := by simp; omega
  have e : aft h p q = h.take p ++ [at_ h q] ++ h.drop (p + 1) := by
    rw [aft, List.set_eq_take_append_cons_drop, if_pos (by omega)]
    simp
  rw [e]
  rw [← List.map_take] at c1
  rw [← List.map_drop] at c2
  have c2' : slcD (.tup (h.map .int)) (some ((p : Int) + 1)) none = _ := c2
  generalize h.take p = A at *
  generalize h.drop (p + 1) = B at *
  rw [callF]
  simp only [tab, fn39, b39]
  clear T hp hq len e c2
  infer_instance
end
end Lw
end

section
/-! L8: the law's search by all rows of stoops. -/
namespace Lw
open PySem Ev
local macro_rules
  | `(tactic| infer_instance) => `(tactic| simp [finF, fullE, initE, outsE, evSs, evS, evE.eq_1, evE.eq_2, evE.eq_3, evE.eq_4, evE.eq_5, evE.eq_6, evE.eq_7, evE.eq_8, evE.eq_9, evE.eq_10, evE.eq_11, evE.eq_12, evE.eq_13, evE.eq_14, evE.eq_15, evE.eq_16, evE.eq_17, evE.eq_18, evE.eq_19, evE.eq_20, evE.eq_21, evE.eq_22, evE.eq_23, evE.eq_24, evE.eq_25, evL, evD, evC, parL, parS, toVal, toBl, toInt, rds, rd, getS, Sl.get, setS, putS, owS, isNop, itD, lockE, unlockE, unlockR, okD, flatD, flatDs, depD, depDs, isCol, isTup, isNon, bindT, bindTs, binD, addD, subD, modD, fdivD, cmpD, eqO, neO, eqD, eqDs, notinO, isO, isnotO, biD, isaB, isaD, lenB, tupleB, ioOk, ioPlaces, mutS, isMut, noTwice, backIo, turn, *])
section
variable {n : Nat} {ts : List (Nat × Nat)} {h g now : List Int} {p q : Nat}
/-- what one stoop makes of heights -/
def succ (n : Nat) (ts : List (Nat × Nat)) (k : List Int) : List (List Int) := (stoopsT n ts k).map fun pr => aft k pr.1 pr.2
theorem mem_succ {x : List Int} : x ∈ succ n ts g ↔ ∃ p q, Can n ts g p q ∧ x = aft g p q := by
  unfold succ
  rw [List.mem_map]
  constructor
  · rintro ⟨⟨p, q⟩, m, rfl⟩
    exact ⟨p, q, mem_stoops.mp m, rfl⟩
  · rintro ⟨p, q, c, rfl⟩
    exact ⟨(p, q), mem_stoops.mpr c, rfl⟩
/-- a search: the known ones, and those to be looked at -/
structure Bfs (n : Nat) (ts : List (Nat × Nat)) (h : List Int) (ks e : List (List Int)) : Prop where
  nd : ks.Nodup
  all : ∀ k ∈ ks, Reach n ts h k
  mem : h ∈ ks
  sub : ∀ k ∈ e, k ∈ ks
  shut : ∀ k ∈ ks, k ∉ e → ∀ x ∈ succ n ts k, x ∈ ks
theorem Bfs.zero : Bfs n ts h [h] [h] := ⟨by simp, fun k hk => by rw [List.mem_singleton.mp hk]; exact .refl, by simp, fun k hk => hk, fun k hk no => absurd hk no⟩
theorem Bfs.done {ks : List (List Int)} (B : Bfs n ts h ks []) (g : List Int) : g ∈ ks ↔ Reach n ts h g := by
  refine ⟨B.all g, fun r => ?_⟩
  induction r with
  | refl => exact B.mem
  | step _ c ih => exact B.shut _ ih (fun z => nomatch z) _ (mem_succ.mpr ⟨_, _, c, rfl⟩)
/-- new ones were found -/
structure Fnd (ks : List (List Int)) (xs : List (List Int)) (ks' new : List (List Int)) : Prop where
  app : ks' = ks ++ new
  nd : ks'.Nodup
  mem : ∀ x, x ∈ ks' ↔ x ∈ ks ∨ x ∈ xs
theorem Fnd.zero {ks : List (List Int)} (nd : ks.Nodup) : Fnd ks [] ks [] := ⟨by simp, nd, fun x => by simp⟩
theorem Fnd.old {ks xs ks' new : List (List Int)} (F : Fnd ks xs ks' new) {x : List Int} (m : x ∈ ks') : Fnd ks (xs ++ [x]) ks' new := ⟨F.app, F.nd, fun y => by
  rw [F.mem, List.mem_append, List.mem_singleton]
  constructor
  · rintro (a | a)
    · exact .inl a
    · exact .inr (.inl a)
  · rintro (a | a | rfl)
    · exact .inl a
    · exact .inr a
    · exact (F.mem _).mp m⟩
theorem Fnd.new {ks xs ks' new : List (List Int)} (F : Fnd ks xs ks' new) {x : List Int} (m : x ∉ ks') : Fnd ks (xs ++ [x]) (ks' ++ [x]) (new ++ [x]) := ⟨by rw [F.app, List.append_assoc], List.nodup_append.mpr ⟨F.nd, by simp, fun a ha b hb e => m (by rw [← List.mem_singleton.mp hb, ← e]; exact ha)⟩, fun y => by
  rw [List.mem_append, F.mem, List.mem_append, List.mem_singleton]
  exact or_assoc⟩
theorem Fnd.more {ks xs ks' new ys ks2 new2 : List (List Int)} (F : Fnd ks xs ks' new) (G : Fnd ks' ys ks2 new2) : Fnd ks (xs ++ ys) ks2 (new ++ new2) := ⟨by rw [G.app, F.app, List.append_assoc], G.nd, fun y => by
  rw [G.mem, F.mem, List.mem_append]
  exact or_assoc⟩
/-- a whole round: all of e are looked at, the new ones are the next to be looked at, with those that were not -/
theorem Bfs.round {ks e rest ks' new : List (List Int)} (B : Bfs n ts h ks (rest ++ e)) (F : Fnd ks (e.flatMap (succ n ts)) ks' new) : Bfs n ts h ks' (rest ++ new) where
  nd := F.nd
  all := fun k hk => by
    rcases (F.mem k).mp hk with a | a
    · exact B.all k a
    · obtain ⟨x, hx, m⟩ := List.mem_flatMap.mp a
      obtain ⟨p, q, c, rfl⟩ := mem_succ.mp m
      exact .step (B.all x (B.sub x (List.mem_append_right _ hx))) c
  mem := (F.mem h).mpr (.inl B.mem)
  sub := fun k hk => by
    rcases List.mem_append.mp hk with hk | hk
    · exact (F.mem k).mpr (.inl (B.sub k (List.mem_append_left _ hk)))
    · rw [F.app]; exact List.mem_append_right _ hk
  shut := fun k hk no x hx => by
    rw [F.app, List.mem_append] at hk
    rcases hk with hk | hk
    · by_cases c : k ∈ e
      · exact (F.mem x).mpr (.inr (List.mem_flatMap.mpr ⟨k, c, hx⟩))
      · refine (F.mem x).mpr (.inl (B.shut k hk (fun z => ?_) x hx))
        rcases List.mem_append.mp z with z | z
        · exact no (List.mem_append_left _ z)
        · exact c z
    · exact absurd (List.mem_append_right _ hk) no
/-- the slots of the law's search -/
abbrev envB (n : Nat) (ts : List (Nat × Nat)) (h : List Int) (ks : List (List Int)) (vs : List D) (x3 : Sl) (st : Nat) (x5 : Sl) (new : List (List Int)) (x7 x8 : Sl) : Ev.Env :=
  [.sh (wD n ts), .sh (hD h), .ow (.dct (ks.map hD) vs), x3, .sh (nI st), x5, .ow (.lst (new.map hD)), x7, x8]
theorem steps_in (k : Nat) (W : Web n ts) (hn : n ≤ 5) (T : Hts n h) (R : Reach n ts h now) {ks new : List (List Int)} (nd : ks.Nodup) (all : ∀ k ∈ ks, Reach n ts h k) (z0 : new.length ≤ ks.length) (vs : List D) (hv : vs.length = ks.length) (x3 : Sl) (st : Nat) (x7 x8 : Sl) (f7 : isFree x7 = true) (f8 : isFree x8 = true) :
    ∃ ρ', forLoop (.nm 7) (evSs (callF tab (k + 1)) [.asg 8 (.call 39 [false, false] [.var 5, .var 7]), .ifs (.cmp .notin (.plc 8) (.plc 2)) [.setix 2 (.var 8) (.var 4), .app 6 (.var 8)] []]) ((stoopsT n ts now).map tD) (envB n ts h ks vs x3 st (.sh (hD now)) new x7 x8) = some (.nx ρ') ∧
      ∃ ks' new' vs' x7' x8', isFree x7' = true ∧ isFree x8' = true ∧ Fnd ks (succ n ts now) ks' new' ∧ vs'.length = ks'.length ∧ ρ' = envB n ts h ks' vs' x3 st (.sh (hD now)) (new ++ new') x7' x8' := by
  have N := R.hts W T
  have n8 := W.hi
  obtain ⟨ρ', e, ks', new', vs', x7', x8', F7, F8, F, V, rfl⟩ := loop_on (e := tD) (t := .nm 7) (xs := stoopsT n ts now) (body := evSs (callF tab (k + 1)) [.asg 8 (.call 39 [false, false] [.var 5, .var 7]), .ifs (.cmp .notin (.plc 8) (.plc 2)) [.setix 2 (.var 8) (.var 4), .app 6 (.var 8)] []])
    (ρ := envB n ts h ks vs x3 st (.sh (hD now)) new x7 x8) (fun pre ρ => ∃ ks' new' vs' x7' x8', isFree x7' = true ∧ isFree x8' = true ∧ Fnd ks (pre.map fun pr => aft now pr.1 pr.2) ks' new' ∧ vs'.length = ks'.length ∧ ρ = envB n ts h ks' vs' x3 st (.sh (hD now)) (new ++ new') x7' x8')
    (fun pre pr post hp ρ => by
      rintro ⟨ks', new', vs', x7', x8', F7, F8, F, V, rfl⟩
      have sub : ∀ y ∈ pre, Can n ts now y.1 y.2 := fun y hy => mem_stoops.mp (by rw [hp]; exact List.mem_append_left _ hy)
      have cp : Can n ts now pr.1 pr.2 := mem_stoops.mp (by rw [hp]; simp)
      clear hp
      have cq : pr.2 < n := (W.lt cp.2.1).2.1
      have a := run_law_after k (h := now) n8 N cp.1 cq
      have few := few_reach W hn T F.nd (fun x hx => by
        rcases (F.mem x).mp hx with z | z
        · exact all x z
        · obtain ⟨y, hy, rfl⟩ := List.mem_map.mp z
          exact .step R (sub y hy))
      have apl : ks'.length = ks.length + new'.length := by rw [F.app, List.length_append]
      have i := in_dct (aft now pr.1 pr.2) ks' vs' V
      by_cases c : aft now pr.1 pr.2 ∈ ks'
      · refine ⟨_, .inl ?_, ks', new', vs', .sh (tD pr), .sh (hD (aft now pr.1 pr.2)), rfl, rfl, by rw [List.map_append]; exact F.old c, V, rfl⟩
        generalize aft now pr.1 pr.2 = w at *
        clear few apl F cp cq sub N T R all nd
        infer_instance
      · have z1 : ks'.length < 16777216 := by omega
        have z2 : new.length + new'.length < 16777216 := by omega
        have st' := put_new (aft now pr.1 pr.2) ks' vs' (nI st) c z1
        refine ⟨envB n ts h (ks' ++ [aft now pr.1 pr.2]) (vs' ++ [nI st]) x3 st (.sh (hD now)) (new ++ (new' ++ [aft now pr.1 pr.2])) (.sh (tD pr)) (.sh (hD (aft now pr.1 pr.2))), .inl ?_, _, _, _, .sh (tD pr), .sh (hD (aft now pr.1 pr.2)), rfl, rfl, by rw [List.map_append]; exact F.new c, by simp [V], rfl⟩
        generalize aft now pr.1 pr.2 = w at *
        clear few apl F cp cq sub N T R all nd
        infer_instance) ⟨ks, [], vs, x7, x8, f7, f8, .zero nd, hv, by rw [List.append_nil]⟩
  exact ⟨_, e, ks', new', vs', x7', x8', F7, F8, F, V, rfl⟩
theorem flatMap_snoc {α β : Type} (f : α → List β) (l : List α) (x : α) : (l ++ [x]).flatMap f = l.flatMap f ++ f x := by simp
theorem run_law_steps (k : Nat) (W : Web n ts) (hn : n ≤ 5) (T : Hts n h) : ∃ (ks : List (List Int)) (vs : List D), (∀ g, g ∈ ks ↔ Reach n ts h g) ∧ ks.Nodup ∧ vs.length = ks.length ∧ callF tab (k + 3) 40 [wD n ts, hD h] = some (true, .dct (ks.map hD) vs, []) := by
  obtain ⟨ρ', e, ks, vs, x3, st, x5, x6, x7, x8, BB, V, rfl⟩ := whl_on (c := fun ρ' => toBl (evE (callF tab (k + 2)) (.cmp .ne (.plc 3) (.lst [] [])) ρ'))
    (body := evSs (callF tab (k + 2)) [.par [6, 4] [.lst [] [], .bin .add (.plc 4) (.cst (.int 1))], .loop .seq [.plc 3] (.nm 5) [.loop .seq [.call 38 [false, false] [.var 0, .var 5]] (.nm 7) [.asg 8 (.call 39 [false, false] [.var 5, .var 7]), .ifs (.cmp .notin (.plc 8) (.plc 2)) [.setix 2 (.var 8) (.var 4), .app 6 (.var 8)] []]], .asg 3 (.var 6)])
    (fun m ρ => ∃ (ks : List (List Int)) (vs : List D) (ed : List (List Int)) (x3 : Sl) (st : Nat) (x5 x6 x7 x8 : Sl), (x3 = .ow (.lst (ed.map hD)) ∨ x3 = .sh (.lst (ed.map hD))) ∧ isFree x5 = true ∧ isFree x6 = true ∧ isFree x7 = true ∧ isFree x8 = true ∧ Bfs n ts h ks ed ∧ ed.length ≤ ks.length ∧ vs.length = ks.length ∧ ρ = [.sh (wD n ts), .sh (hD h), .ow (.dct (ks.map hD) vs), x3, .sh (nI st), x5, x6, x7, x8] ∧ 2 * (3125 - ks.length) + ed.length ≤ m)
    (fun ρ => ∃ (ks : List (List Int)) (vs : List D) (x3 : Sl) (st : Nat) (x5 x6 x7 x8 : Sl), Bfs n ts h ks [] ∧ vs.length = ks.length ∧ ρ = [.sh (wD n ts), .sh (hD h), .ow (.dct (ks.map hD) vs), x3, .sh (nI st), x5, x6, x7, x8])
    (fun m ρ => by
      rintro ⟨ks, vs, ed, x3, st, x5, x6, x7, x8, h3, f5, f6, f7, f8, BB, z, V, rfl, hm⟩
      have cm : eqDs (ed.map hD) [] = decide (ed = []) := encH.eqs ed []
      have fl : flatDs (ed.map hD) = true := encH.flats ed
      have dp : depDs (ed.map hD) ≤ 63 := Nat.le_trans (depH.deps ed) (by omega)
      have cond : ∀ y : Ev.Env, y = [.sh (wD n ts), .sh (hD h), .ow (.dct (ks.map hD) vs), x3, .sh (nI st), x5, x6, x7, x8] → toBl (evE (callF tab (k + 2)) (.cmp .ne (.plc 3) (.lst [] [])) y) = some (!decide (ed = []), y) := by
        rintro y rfl
        clear BB hm V z
        rcases h3 with rfl | rfl <;> infer_instance
      by_cases c : ed = []
      · subst c
        exact .inl ⟨_, by rw [cond _ rfl]; rfl, ks, vs, x3, st, x5, x6, x7, x8, BB, V, rfl⟩
      · have few := few_reach W hn T BB.nd BB.all
        -- one round
        obtain ⟨l3, hl3⟩ : ∃ l3, lockE [.sh (wD n ts), .sh (hD h), .ow (.dct (ks.map hD) vs), x3, .sh (nI (st + 1)), x5, .ow (.lst []), x7, x8] [.plc 3] = [.sh (wD n ts), .sh (hD h), .ow (.dct (ks.map hD) vs), l3, .sh (nI (st + 1)), x5, .ow (.lst []), x7, x8] ∧ (∀ (ks' : List (List Int)) (vs' : List D) (y5 y6 y7 y8 : Sl), unlockE [.sh (wD n ts), .sh (hD h), .ow (.dct (ks.map hD) vs), x3, .sh (nI (st + 1)), x5, .ow (.lst []), x7, x8] [.sh (wD n ts), .sh (hD h), .ow (.dct (ks'.map hD) vs'), l3, .sh (nI (st + 1)), y5, y6, y7, y8] [.plc 3] = [.sh (wD n ts), .sh (hD h), .ow (.dct (ks'.map hD) vs'), x3, .sh (nI (st + 1)), y5, y6, y7, y8]) := by
          rcases h3 with rfl | rfl
          · exact ⟨.lk (.lst (ed.map hD)), by simp [lockE], fun ks' vs' y5 y6 y7 y8 => by simp [unlockE]⟩
          · exact ⟨.sh (.lst (ed.map hD)), by simp [lockE], fun ks' vs' y5 y6 y7 y8 => by simp [unlockE]⟩
        obtain ⟨hl3, hu3⟩ := hl3
        obtain ⟨ρ2, e2, ks', new, vs', x5', x7', x8', F5, F7, F8, F, V', rfl⟩ := loop_on (e := hD) (t := .nm 5) (xs := ed) (body := evSs (callF tab (k + 2)) [.loop .seq [.call 38 [false, false] [.var 0, .var 5]] (.nm 7) [.asg 8 (.call 39 [false, false] [.var 5, .var 7]), .ifs (.cmp .notin (.plc 8) (.plc 2)) [.setix 2 (.var 8) (.var 4), .app 6 (.var 8)] []]])
          (ρ := envB n ts h ks vs l3 (st + 1) x5 [] x7 x8) (fun pre ρ => ∃ (ks' new : List (List Int)) (vs' : List D) (x5' x7' x8' : Sl), isFree x5' = true ∧ isFree x7' = true ∧ isFree x8' = true ∧ Fnd ks (pre.flatMap (succ n ts)) ks' new ∧ vs'.length = ks'.length ∧ ρ = envB n ts h ks' vs' l3 (st + 1) x5' new x7' x8')
          (fun pre now post hp ρ => by
            rintro ⟨ks', new, vs', x5', x7', x8', F5, F7, F8, F, V', rfl⟩
            have R : Reach n ts h now := BB.all now (BB.sub now (by rw [hp]; simp))
            have all : ∀ x ∈ ks', Reach n ts h x := fun x hx => by
              rcases (F.mem x).mp hx with y | y
              · exact BB.all x y
              · obtain ⟨w, hw, m⟩ := List.mem_flatMap.mp y
                obtain ⟨p, q, c, rfl⟩ := mem_succ.mp m
                exact .step (BB.all w (BB.sub w (by rw [hp]; exact List.mem_append_left _ hw))) c
            have apl : ks'.length = ks.length + new.length := by rw [F.app, List.length_append]
            obtain ⟨ρ3, e3, ks2, new2, vs2, y7, y8, G7, G8, G, V2, rfl⟩ := steps_in (new := new) (k + 1) W hn T R F.nd all (by omega) vs' V' l3 (st + 1) x7' x8' F7 F8
            have a := run_law_stoops k W (R.hts W T)
            refine ⟨envB n ts h ks2 vs2 l3 (st + 1) (.sh (hD now)) (new ++ new2) y7 y8, .inl ?_, ks2, new ++ new2, vs2, .sh (hD now), y7, y8, rfl, G7, G8, by rw [flatMap_snoc]; exact F.more G, V2, rfl⟩
            have b : turn (.nm 5) (evSs (callF tab (k + 2)) [.loop .seq [.call 38 [false, false] [.var 0, .var 5]] (.nm 7) [.asg 8 (.call 39 [false, false] [.var 5, .var 7]), .ifs (.cmp .notin (.plc 8) (.plc 2)) [.setix 2 (.var 8) (.var 4), .app 6 (.var 8)] []]]) (hD now) (envB n ts h ks' vs' l3 (st + 1) x5' new x7' x8') = evSs (callF tab (k + 2)) [.loop .seq [.call 38 [false, false] [.var 0, .var 5]] (.nm 7) [.asg 8 (.call 39 [false, false] [.var 5, .var 7]), .ifs (.cmp .notin (.plc 8) (.plc 2)) [.setix 2 (.var 8) (.var 4), .app 6 (.var 8)] []]] (envB n ts h ks' vs' l3 (st + 1) (.sh (hD now)) new x7' x8') := by
              simp [turn, bindT, setS, F5]
            rw [b]
            refine seq_loop (os := [.val true (.lst ((stoopsT n ts now).map tD))]) (ds := [.lst ((stoopsT n ts now).map tD)]) ?_ rfl rfl e3 rfl
            clear e3 b BB F G all R hp T few cond cm fl dp
            infer_instance) ⟨ks, [], vs, x5, x7, x8, f5, f7, f8, .zero BB.nd, V, rfl⟩
        have apl : ks'.length = ks.length + new.length := by rw [F.app, List.length_append]
        have BB' : Bfs n ts h ks' ([] ++ new) := BB.round (rest := []) F
        rw [List.nil_append] at BB'
        have few' := few_reach W hn T BB'.nd BB'.all
        have el : ed.length ≠ 0 := fun z => c (List.eq_nil_of_length_eq_zero z)
        refine .inr ⟨_, [.sh (wD n ts), .sh (hD h), .ow (.dct (ks'.map hD) vs'), .sh (.lst (new.map hD)), .sh (nI (st + 1)), x5', .sh (.lst (new.map hD)), x7', x8'], 2 * (3125 - ks'.length) + new.length, by rw [cond _ rfl, decide_eq_false c]; rfl, .inl ?_, by omega,
          ks', vs', new, _, st + 1, x5', _, x7', x8', .inr rfl, F5, rfl, F7, F8, BB', by omega, V', rfl, Nat.le_refl _⟩
        refine seq_nx (ρ1 := [.sh (wD n ts), .sh (hD h), .ow (.dct (ks.map hD) vs), x3, .sh (nI (st + 1)), x5, .ow (.lst []), x7, x8]) ?_ (seq_loop (os := [.plc 3]) (ds := [.lst (ed.map hD)]) (ρ1 := [.sh (wD n ts), .sh (hD h), .ow (.dct (ks.map hD) vs), x3, .sh (nI (st + 1)), x5, .ow (.lst []), x7, x8]) ?_ ?_ rfl (by rw [hl3]; exact e2) ?_)
        · clear cond hl3 hu3 e2 BB BB' F few few' apl T
          rcases h3 with rfl | rfl <;> infer_instance
        · clear cond hl3 hu3 e2 BB BB' F few few' apl T
          rcases h3 with rfl | rfl <;> infer_instance
        · clear cond hl3 hu3 e2 BB BB' F few few' apl T
          rcases h3 with rfl | rfl <;> infer_instance
        · rw [hu3]
          clear cond hl3 hu3 e2 BB BB' F few few' apl T
          rcases h3 with rfl | rfl <;> infer_instance) WF 6249 [.sh (wD n ts), .sh (hD h), .ow (.dct [hD h] [.int 0]), .ow (.lst [hD h]), .sh (nI 0), .no, .no, .no, .no]
    ⟨[h], [.int 0], [h], _, 0, .no, .no, .no, .no, .inl rfl, rfl, rfl, rfl, rfl, .zero, Nat.le_refl _, rfl, rfl, by simp⟩ (by unfold WF; omega)
  refine ⟨ks, vs, BB.done, BB.nd, V, ?_⟩
  have tk : tupKey (hD h) = true := by simp [tupKey, keys_i, dep_i]
  refine run_def (ρ := [.sh (wD n ts), .sh (hD h), .no, x3, .sh (nI st), x5, x6, x7, x8]) rfl rfl (seq_nx (ρ1 := [.sh (wD n ts), .sh (hD h), .ow (.dct [hD h] [.int 0]), .ow (.lst [hD h]), .sh (nI 0), .no, .no, .no, .no]) ?_ (seq_whl e (seq_rt ?_))) rfl
  · clear e
    simp only [fn40, fullE]
    infer_instance
  · clear e
    infer_instance
end
end Lw
end

section
/-! L9: goals that a law draws, and who comes as it reckons it. -/
namespace Lw
open PySem Ev
local macro_rules
  | `(tactic| infer_instance) => `(tactic| simp [finF, fullE, initE, outsE, evSs, evS, evE.eq_1, evE.eq_2, evE.eq_3, evE.eq_4, evE.eq_5, evE.eq_6, evE.eq_7, evE.eq_8, evE.eq_9, evE.eq_10, evE.eq_11, evE.eq_12, evE.eq_13, evE.eq_14, evE.eq_15, evE.eq_16, evE.eq_17, evE.eq_18, evE.eq_19, evE.eq_20, evE.eq_21, evE.eq_22, evE.eq_23, evE.eq_24, evE.eq_25, evL, evD, evC, parL, parS, toVal, toBl, toInt, rds, rd, getS, Sl.get, setS, putS, owS, isNop, itD, lockE, unlockE, unlockR, okD, flatD, flatDs, depD, depDs, isCol, isTup, isNon, bindT, bindTs, binD, addD, subD, modD, fdivD, cmpD, eqO, neO, eqD, eqDs, notinO, isO, isnotO, biD, isaB, isaD, lenB, tupleB, ioOk, ioPlaces, mutS, isMut, noTwice, backIo, turn, *])
theorem run_pick (k : Nat) {α : Type} {e : α → D} {d : D} (R : Row d) (xs : List α) (ne : xs ≠ []) (hz : xs.length ≤ 16777216) :
    (∃ x d', x ∈ xs ∧ Row d' ∧ callF tab (k + 2) 37 [d, .lst (xs.map e)] = some (false, e x, [d'])) ∧ ∃ x d', x ∈ xs ∧ Row d' ∧ callF tab (k + 2) 37 [d, .tup (xs.map e)] = some (false, e x, [d']) := by
  have pos : 1 ≤ xs.length := List.length_pos_iff.mpr ne
  obtain ⟨v, d', hv, R', t⟩ := run_taken k R xs.length pos (by omega)
  have at' : xs[v]? = some (xs[v]) := List.getElem?_eq_getElem hv
  have m : xs[v] ∈ xs := List.getElem_mem hv
  generalize xs[v] = x at at' m
  constructor
  · refine ⟨x, d', m, R', ?_⟩
    rw [callF]
    simp only [tab, fn37, b37]
    clear hv pos ne m
    infer_instance
  · refine ⟨x, d', m, R', ?_⟩
    rw [callF]
    simp only [tab, fn37, b37]
    clear hv pos ne m
    infer_instance
section
variable {n : Nat} {ts : List (Nat × Nat)} {h g : List Int} {p q : Nat}
theorem run_law_drawn (k : Nat) {d : D} (R : Row d) (W : Web n ts) (T : Hts n h) (m : Nat) (hm : m ≤ 100) : ∃ (l : List (Nat × Nat)) (g : List Int) (d' : D), Reach n ts h g ∧ Row d' ∧ callF tab (k + 3) 41 [d, wD n ts, hD h, nI m] = some (false, .tup [.tup (l.map tD), hD g], [d']) := by
  have n8 := W.hi
  have rg : rngOk 0 (m : Int) = true := rng_ok m (by omega)
  obtain ⟨ρ, e, l, g, d', x4, x7, x8, -, -, -, hl, G, R', rfl⟩ := loop_on (e := nI) (t := .nm 4) (xs := List.range m) (body := evSs (callF tab (k + 2)) [.asg 7 (.call 38 [false, false] [.var 1, .var 5]), .ifs (.cmp .ne (.plc 7) (.lst [] [])) [.asg 8 (.call 37 [true, false] [.plc 0, .var 7]), .par [5, 6] [.call 39 [false, false] [.var 5, .var 8], .bin .add (.plc 6) (.tup [false] [.var 8])]] []])
    (ρ := [.io d, .sh (wD n ts), .sh (hD h), .sh (nI m), .no, .sh (hD h), .sh (.tup []), .no, .no]) (fun pre ρ => ∃ (l : List (Nat × Nat)) (g : List Int) (d' : D) (x4 x7 x8 : Sl), isFree x4 = true ∧ isFree x7 = true ∧ isFree x8 = true ∧ l.length ≤ pre.length ∧ Reach n ts h g ∧ Row d' ∧ ρ = [.io d', .sh (wD n ts), .sh (hD h), .sh (nI m), x4, .sh (hD g), .sh (.tup (l.map tD)), x7, x8])
    (fun pre i post hp ρ => by
      rintro ⟨l, g, d', x4, x7, x8, f4, f7, f8, hl, G, R', rfl⟩
      have hpl : pre.length ≤ m := by
        have := congrArg List.length hp
        simp at this
        omega
      clear hp
      have GT := G.hts W T
      have a := run_law_stoops k W GT
      have sl := stoops_len (h := g) W
      by_cases c : stoopsT n ts g = []
      · rw [c] at a
        refine ⟨_, .inl ?_, l, g, d', .sh (nI i), .ow (.lst []), x8, rfl, rfl, f8, by rw [List.length_append]; omega, G, R', rfl⟩
        clear G GT R R' hl hpl rg c T sl
        infer_instance
      · obtain ⟨pr, d2, m2, R2, t⟩ := (run_pick k (e := tD) R' (stoopsT n ts g) c (by omega)).1
        have can : Can n ts g pr.1 pr.2 := mem_stoops.mp m2
        have a2 := run_law_after (k + 1) n8 GT can.1 (W.lt can.2.1).2.1
        have cm : eqDs ((stoopsT n ts g).map tD) [] = decide (stoopsT n ts g = []) := encT.eqs _ []
        rw [decide_eq_false c] at cm
        have fl : flatDs ((stoopsT n ts g).map tD) = true := encT.flats _
        have dp : depDs ((stoopsT n ts g).map tD) ≤ 63 := Nat.le_trans (dep_t _) (by omega)
        have z : l.length + 1 ≤ 16777216 := by omega
        refine ⟨[.io d2, .sh (wD n ts), .sh (hD h), .sh (nI m), .sh (nI i), .sh (hD (aft g pr.1 pr.2)), .sh (.tup ((l ++ [pr]).map tD)), .sh (.lst ((stoopsT n ts g).map tD)), .sh (tD pr)], .inl ?_, l ++ [pr], _, d2, .sh (nI i), _, _, rfl, rfl, rfl, by simp only [List.length_append, List.length_singleton]; omega, .step G can, R2, rfl⟩
        generalize aft g pr.1 pr.2 = w at *
        clear G GT R R' R2 hl hpl rg c T m2 can sl
        infer_instance) ⟨[], h, d, .no, .no, .no, rfl, rfl, rfl, Nat.le_refl _, .refl, R, rfl⟩
  refine ⟨l, g, d', G, R', ?_⟩
  refine run_def (ρ := [.io d', .sh (wD n ts), .sh (hD h), .sh (nI m), x4, .sh (hD g), .sh (.tup (l.map tD)), x7, x8]) rfl rfl (seq_nx (ρ1 := [.io d, .sh (wD n ts), .sh (hD h), .sh (nI m), .no, .sh (hD h), .sh (.tup []), .no, .no]) ?_ (seq_loop (os := [.plc 3]) (ds := [nI m]) (ρ1 := [.io d, .sh (wD n ts), .sh (hD h), .sh (nI m), .no, .sh (hD h), .sh (.tup []), .no, .no]) rfl rfl (by simp only [itD, nI, rg, if_true, rng_nat]) e (seq_rt rfl))) rfl
  clear e T G R R' rg
  simp only [fn41, fullE]
  infer_instance
theorem run_law_goal (k : Nat) {d : D} (R : Row d) (W : Web n ts) (T : Hts n h) : ∃ (g : List Int) (d' : D), Hts n g ∧ (∀ x ∈ g, x ∈ h) ∧ Row d' ∧ callF tab (k + 4) 44 [d, wD n ts, hD h] = some (false, hD g, [d']) := by
  have n8 := W.hi
  obtain ⟨v, d1, hv, R1, t1⟩ := taken_i (k + 2) R 3 3 rfl (by omega) (by omega)
  by_cases c : 0 < v
  · obtain ⟨u, d2, hu, R2, t2⟩ := taken_i (k + 2) R1 9 9 rfl (by omega) (by omega)
    obtain ⟨l, g, d3, G, R3, t3⟩ := run_law_drawn k R2 W T u (by omega)
    refine ⟨g, d3, G.hts W T, G.from W T, R3, ?_⟩
    rw [callF]
    simp only [tab, fn44, b44]
    clear G R R1 R2 R3 T hv hu
    infer_instance
  · have v0 : v = 0 := by omega
    subst v0
    have ne : h ≠ [] := fun e => by
      have := T.len
      rw [e] at this
      have := W.lo
      simp at *
      omega
    have len := T.len
    obtain ⟨acc, ρe, cc, g, d2, rfl, hg, sg, R2, x, ex, rfl⟩ := comp_on (C := callF tab (k + 3)) (e := D.int) (k := .seq) (srcs := [.plc 2]) (t := .nm 3) (own := [3]) (conds := []) (elt := .call 37 [true, false] [.plc 0, .var 2]) (xs := h)
      (ρ := [.io d1, .sh (wD n ts), .sh (hD h), .no]) (ρ1 := [.io d1, .sh (wD n ts), .sh (hD h), .no]) (os := [.plc 2]) (ds := [hD h])
      (fun pre acc ρ => ∃ (g : List Int) (d' : D), acc = g.map .int ∧ g.length = pre.length ∧ (∀ x ∈ g, x ∈ h) ∧ Row d' ∧ ∃ x, isFree x = true ∧ ρ = [.io d', .sh (wD n ts), .sh (hD h), x])
      rfl rfl rfl rfl (by omega) ⟨[], d1, rfl, rfl, fun x hx => (nomatch hx), R1, .no, rfl, rfl⟩
      (fun pre acc ρ => by
        rintro ⟨g, d', e1, e2, e3, e4, x, fx, rfl⟩
        exact ⟨g, d', e1, e2, e3, e4, .no, rfl, rfl⟩)
      (fun pre i post hp acc ρ => by
        rintro ⟨g, d', rfl, e2, e3, e4, x, fx, rfl⟩
        obtain ⟨y, d2, m, R2, t⟩ := (run_pick (k + 1) (e := D.int) e4 h ne (by omega)).2
        refine ⟨[.io d', .sh (wD n ts), .sh (hD h), .sh (.int i)], true, [.io d', .sh (wD n ts), .sh (hD h), .sh (.int i)], ?_, rfl, (fun z => nomatch z), fun _ => ⟨false, .int y, [.io d2, .sh (wD n ts), .sh (hD h), .sh (.int i)], ?_, g ++ [y], d2, by simp, by simp [e2], ?_, R2, _, rfl, rfl⟩⟩
        · simp [wipeE, bindT, setS]
        · clear e2 e3 e4 hp R2 T m
          infer_instance
        · intro z hz
          rcases List.mem_append.mp hz with hz | hz
          · exact e3 z hz
          · rw [List.mem_singleton.mp hz]; exact m)
    refine ⟨g, d2, ⟨by rw [hg, T.len], fun x hx => T.rng x (sg x hx)⟩, sg, R2, ?_⟩
    refine run_def (fn := fn44) (ρ := [.io d2, .sh (wD n ts), .sh (hD h), .no]) rfl rfl (seq_nx (ρ1 := [.io d1, .sh (wD n ts), .sh (hD h), .no]) ?_ (seq_rt ?_)) rfl
    · clear cc T R R1 R2 ex sg hg
      simp only [fn44, fullE]
      infer_instance
    · simp only [unlockE, backE] at cc
      clear T R R1 R2 ex sg hg t1 len
      infer_instance
theorem run_law_open (k : Nat) (T : Hts n h) (G : Hts n g) (hn : n ≤ 1000) (v : Int) : callF tab (k + 1) 42 [hD h, hD g, .int v] = some (false, pD (openT n h g v), []) := by
  have rg : rngOk 0 (n : Int) = true := rng_ok n (by omega)
  have len := T.len
  have c := comp_map (C := callF tab k) (e := nI) (k := .range) (srcs := [.bi .len [.plc 0]]) (t := .nm 3) (own := [3]) (conds := [.chn .ge .ge (.ix (.plc 0) (.plc 3)) (.plc 2) (.ix (.plc 1) (.plc 3))]) (elt := .var 3) (xs := List.range n)
    (ρ := [.sh (hD h), .sh (hD g), .sh (.int v), .no]) (ρ1 := [.sh (hD h), .sh (hD g), .sh (.int v), .no]) (os := [.val false (nI n)]) (ds := [nI n]) (fun q => decide (v ≤ at_ h q) && decide (at_ g q ≤ v)) nI (by infer_instance) rfl (by simp only [itD, nI, rg, if_true, rng_nat]) rfl (by simp; omega) (fun q hq => by
      have hq' := List.mem_range.mp hq
      have e1 := h_at T hq'
      have e2 := h_at G hq'
      refine ⟨[.sh (hD h), .sh (hD g), .sh (.int v), .sh (nI q)], rfl, ?_, fun _ => ⟨false, rfl⟩, rfl⟩
      clear hq hq' len T G rg
      by_cases c1 : v ≤ at_ h q
      · by_cases c2 : at_ g q ≤ v <;> infer_instance
      · infer_instance)
  rw [callF]
  simp only [tab, fn42, b42]
  clear rg
  infer_instance
  rfl
theorem parts_with (W : Web n ts) {s : Nat → Bool} (hp : p < n) : ∀ (k : Nat) (left : List Nat), Left ts s left → (∀ q ∈ left, q < n) → left.length ≤ k → (partsF n ts s k left).filter (fun c => decide (p ∈ c)) = if p ∈ left then [comp n ts s p] else []
  | 0, [], _, _, _ => by simp [partsF]
  | k + 1, [], _, _, _ => by simp [partsF]
  | k + 1, a :: l, L, hl, hk => by
    have ha := hl a List.mem_cons_self
    have rl := rest_len (s := s) W l ha
    have ih := parts_with W hp k _ (L.rest W ha) (fun q hq => hl q (List.mem_filter.mp hq).1) (by simp at hk; omega)
    simp only [partsF]
    by_cases c : p ∈ comp n ts s a
    · have ca := (mem_comp W ha).mp c
      have m : p ∈ a :: l := L.conn List.mem_cons_self ca
      rw [List.filter_cons_of_pos (by simpa using c), ih, if_neg (fun z => by simp [c] at z), if_pos m, comp_same (L.sub a List.mem_cons_self) ca]
    · rw [List.filter_cons_of_neg (by simpa using c), ih]
      by_cases m : p ∈ a :: l
      · rw [if_pos (List.mem_filter.mpr ⟨m, by simp [c]⟩), if_pos m]
      · rw [if_neg (fun z => m (List.mem_filter.mp z).1), if_neg m]
theorem left_lot {l : List Nat} : Left ts (fun q => decide (q ∈ l)) l := ⟨fun q hq => decide_eq_true hq, fun q hq r a sr => of_decide_eq_true sr⟩
/-- the part with p, if there is one -/
theorem part_of (W : Web n ts) (hp : p < n) : (partsT n ts (openT n h g (at_ g p))).filter (fun c => decide (p ∈ c)) = if p ∈ openT n h g (at_ g p) then [pieceT n ts h g p] else [] := by
  unfold partsT
  rw [parts_with W hp _ _ left_lot open_lot.lt (Nat.le_refl _)]
  by_cases c : p ∈ openT n h g (at_ g p)
  · rw [if_pos c, if_pos c, pieceT, if_pos c]
  · rw [if_neg c, if_neg c]
theorem open_len (W : Web n ts) (v : Int) : (openT n h g v).length ≤ 8 := Nat.le_trans (open_lot (n := n) (h := h) (g := g) (v := v)).len W.hi
theorem run_parts_open (k : Nat) (W : Web n ts) (v : Int) : callF tab (k + 1) 25 [wD n ts, pD (openT n h g v)] = some (true, .lst ((partsT n ts (openT n h g v)).map pD), []) :=
  run_law_parts k n ts W (pD (openT n h g v)) (openT n h g v) open_lot.lt (nodup_up linN open_lot.up) rfl (fun q => in_nt q _)
theorem partsT_len (W : Web n ts) (v : Int) : (partsT n ts (openT n h g v)).length ≤ 8 := Nat.le_trans (parts_len _ _) (open_len W v)
theorem run_law_comes (k : Nat) (W : Web n ts) (T : Hts n h) (G : Hts n g) : callF tab (k + 2) 43 [wD n ts, hD h, hD g] = some (false, .bl (reachedT n ts h g), []) := by
  have n8 := W.hi
  have rg : rngOk 0 (n : Int) = true := rng_ok n (by omega)
  have lp := loop_ret (e := nI) (t := .nm 3) (xs := List.range n) (body := evSs (callF tab (k + 1)) [.asg 4 (.comp .seq [.call 25 [false, false] [.var 0, .call 42 [false, false, false] [.var 1, .var 2, .ix (.plc 2) (.plc 3)]]] (.nm 5) [5] [.cmp .in_ (.plc 3) (.plc 5)] (.var 5)), .ifs (.or (.cmp .eq (.plc 4) (.lst [] [])) (.cmp .eq (.comp .seq [.ix (.plc 4) (.cst (.int 0))] (.nm 6) [6] [.cmp .eq (.ix (.plc 1) (.plc 6)) (.ix (.plc 2) (.plc 3))] (.var 6)) (.lst [] []))) [.ret (.cst (.bl false))] []])
    (fun p => decide (sourcesT n ts h g p = [])) (fun ρ => ∃ x y, isFree x = true ∧ isFree y = true ∧ ρ = [.sh (wD n ts), .sh (hD h), .sh (hD g), x, y, .no, .no]) (fun p r => ∃ ρ, r = .rt false (.bl false) ρ ∧ ∃ x y, ρ = [.sh (wD n ts), .sh (hD h), .sh (hD g), x, y, .no, .no])
    (fun p hp c ρ => by
      rintro ⟨x, y, fx, fy, rfl⟩
      have hpn := List.mem_range.mp hp
      have e1 := h_at G hpn
      have a1 := run_law_open k T G (by omega) (at_ g p)
      have a2 := run_parts_open (h := h) (g := g) k W (at_ g p)
      have po : p ∈ openT n h g (at_ g p) := by
        by_cases z : p ∈ openT n h g (at_ g p)
        · exact z
        · rw [sourcesT, pieceT, if_neg z] at c
          simp at c
      have ep := part_of (h := h) (g := g) W hpn
      rw [if_pos po] at ep
      have c1 := comp_map (C := callF tab (k + 1)) (e := pD) (k := .seq) (srcs := [.call 25 [false, false] [.var 0, .call 42 [false, false, false] [.var 1, .var 2, .ix (.plc 2) (.plc 3)]]]) (t := .nm 5) (own := [5]) (conds := [.cmp .in_ (.plc 3) (.plc 5)]) (elt := .var 5) (xs := partsT n ts (openT n h g (at_ g p)))
        (ρ := [.sh (wD n ts), .sh (hD h), .sh (hD g), .sh (nI p), y, .no, .no]) (ρ1 := [.sh (wD n ts), .sh (hD h), .sh (hD g), .sh (nI p), y, .no, .no]) (os := [.val true (.lst ((partsT n ts (openT n h g (at_ g p))).map pD))]) (ds := [.lst ((partsT n ts (openT n h g (at_ g p))).map pD)]) (fun c => decide (p ∈ c)) pD (by clear T G ep c po hp hpn rg; infer_instance) rfl rfl rfl (by have := partsT_len (h := h) (g := g) W (at_ g p); omega) (fun q hq => by
          refine ⟨[.sh (wD n ts), .sh (hD h), .sh (hD g), .sh (nI p), y, .sh (pD q), .no], by simp [wipeE, lockE, bindT, setS], ?_, fun _ => ⟨false, rfl⟩, by simp [wipeE, lockE]⟩
          clear hq T G ep c po hp hpn rg a1 a2 e1
          by_cases z : p ∈ q <;> infer_instance)
      rw [ep] at c1
      have c2 := comp_map (C := callF tab (k + 1)) (e := nI) (k := .seq) (srcs := [.ix (.plc 4) (.cst (.int 0))]) (t := .nm 6) (own := [6]) (conds := [.cmp .eq (.ix (.plc 1) (.plc 6)) (.ix (.plc 2) (.plc 3))]) (elt := .var 6) (xs := pieceT n ts h g p)
        (ρ := [.sh (wD n ts), .sh (hD h), .sh (hD g), .sh (nI p), .ow (.lst [pD (pieceT n ts h g p)]), .no, .no]) (ρ1 := [.sh (wD n ts), .sh (hD h), .sh (hD g), .sh (nI p), .ow (.lst [pD (pieceT n ts h g p)]), .no, .no]) (os := [.val false (pD (pieceT n ts h g p))]) (ds := [pD (pieceT n ts h g p)]) (fun q => decide (at_ h q = at_ g p)) nI (by clear T G ep c po hp hpn rg c1; infer_instance) rfl rfl rfl (by have := piece_len (n := n) (ts := ts) (h := h) (g := g) (p := p); omega) (fun q hq => by
          have e2 := h_at T (piece_lt hq)
          refine ⟨[.sh (wD n ts), .sh (hD h), .sh (hD g), .sh (nI p), .ow (.lst [pD (pieceT n ts h g p)]), .no, .sh (nI q)], rfl, ?_, fun _ => ⟨false, rfl⟩, rfl⟩
          clear hq T G ep c po hp hpn rg a1 a2 c1
          by_cases z : at_ h q = at_ g p
          · infer_instance
          · have z' : (at_ h q == at_ g p) = false := by simpa using z
            infer_instance)
      replace c2 : evE (callF tab (k + 1)) _ _ = some (OV.val true (.lst ((sourcesT n ts h g p).map nI)), _) := c2
      have cm : eqDs ((sourcesT n ts h g p).map nI) [] = decide (sourcesT n ts h g p = []) := encN.eqs _ []
      rw [c] at cm
      have d1 : depDs [pD (pieceT n ts h g p)] ≤ 63 := by simp [depDs, depD]
      refine ⟨[.sh (wD n ts), .sh (hD h), .sh (hD g), .sh (nI p), .ow (.lst [pD (pieceT n ts h g p)]), .no, .no], .inl ?_, _, _, rfl, rfl, rfl⟩
      clear T G ep c po hp hpn rg a1 a2 e1
      infer_instance)
    (fun p hp c ρ => by
      rintro ⟨x, y, fx, fy, rfl⟩
      have hpn := List.mem_range.mp hp
      have e1 := h_at G hpn
      have a1 := run_law_open k T G (by omega) (at_ g p)
      have a2 := run_parts_open (h := h) (g := g) k W (at_ g p)
      have ep := part_of (h := h) (g := g) W hpn
      have c1 := comp_map (C := callF tab (k + 1)) (e := pD) (k := .seq) (srcs := [.call 25 [false, false] [.var 0, .call 42 [false, false, false] [.var 1, .var 2, .ix (.plc 2) (.plc 3)]]]) (t := .nm 5) (own := [5]) (conds := [.cmp .in_ (.plc 3) (.plc 5)]) (elt := .var 5) (xs := partsT n ts (openT n h g (at_ g p)))
        (ρ := [.sh (wD n ts), .sh (hD h), .sh (hD g), .sh (nI p), y, .no, .no]) (ρ1 := [.sh (wD n ts), .sh (hD h), .sh (hD g), .sh (nI p), y, .no, .no]) (os := [.val true (.lst ((partsT n ts (openT n h g (at_ g p))).map pD))]) (ds := [.lst ((partsT n ts (openT n h g (at_ g p))).map pD)]) (fun c => decide (p ∈ c)) pD (by clear T G ep c hp hpn rg; infer_instance) rfl rfl rfl (by have := partsT_len (h := h) (g := g) W (at_ g p); omega) (fun q hq => by
          refine ⟨[.sh (wD n ts), .sh (hD h), .sh (hD g), .sh (nI p), y, .sh (pD q), .no], by simp [wipeE, lockE, bindT, setS], ?_, fun _ => ⟨false, rfl⟩, by simp [wipeE, lockE]⟩
          clear hq T G ep c hp hpn rg a1 a2 e1
          by_cases z : p ∈ q <;> infer_instance)
      rw [ep] at c1
      by_cases po : p ∈ openT n h g (at_ g p)
      · rw [if_pos po] at c1
        have c2 := comp_map (C := callF tab (k + 1)) (e := nI) (k := .seq) (srcs := [.ix (.plc 4) (.cst (.int 0))]) (t := .nm 6) (own := [6]) (conds := [.cmp .eq (.ix (.plc 1) (.plc 6)) (.ix (.plc 2) (.plc 3))]) (elt := .var 6) (xs := pieceT n ts h g p)
          (ρ := [.sh (wD n ts), .sh (hD h), .sh (hD g), .sh (nI p), .ow (.lst [pD (pieceT n ts h g p)]), .no, .no]) (ρ1 := [.sh (wD n ts), .sh (hD h), .sh (hD g), .sh (nI p), .ow (.lst [pD (pieceT n ts h g p)]), .no, .no]) (os := [.val false (pD (pieceT n ts h g p))]) (ds := [pD (pieceT n ts h g p)]) (fun q => decide (at_ h q = at_ g p)) nI (by clear T G ep c po hp hpn rg c1; infer_instance) rfl rfl rfl (by have := piece_len (n := n) (ts := ts) (h := h) (g := g) (p := p); omega) (fun q hq => by
            have e2 := h_at T (piece_lt hq)
            refine ⟨[.sh (wD n ts), .sh (hD h), .sh (hD g), .sh (nI p), .ow (.lst [pD (pieceT n ts h g p)]), .no, .sh (nI q)], rfl, ?_, fun _ => ⟨false, rfl⟩, rfl⟩
            clear hq T G ep c po hp hpn rg a1 a2 c1
            by_cases z : at_ h q = at_ g p
            · infer_instance
            · have z' : (at_ h q == at_ g p) = false := by simpa using z
              infer_instance)
        replace c2 : evE (callF tab (k + 1)) _ _ = some (OV.val true (.lst ((sourcesT n ts h g p).map nI)), _) := c2
        have cm : eqDs ((sourcesT n ts h g p).map nI) [] = decide (sourcesT n ts h g p = []) := encN.eqs _ []
        rw [c] at cm
        have d1 : depDs [pD (pieceT n ts h g p)] ≤ 63 := by simp [depDs, depD]
        refine ⟨false, .bl false, [.sh (wD n ts), .sh (hD h), .sh (hD g), .sh (nI p), .ow (.lst [pD (pieceT n ts h g p)]), .no, .no], ?_, _, rfl, _, _, rfl⟩
        clear T G ep c po hp hpn rg a1 a2 e1
        infer_instance
      · rw [if_neg po] at c1
        refine ⟨false, .bl false, [.sh (wD n ts), .sh (hD h), .sh (hD g), .sh (nI p), .ow (.lst []), .no, .no], ?_, _, rfl, _, _, rfl⟩
        clear T G ep c po hp hpn rg a1 a2 e1
        infer_instance)
    (ρ := [.sh (wD n ts), .sh (hD h), .sh (hD g), .no, .no, .no, .no]) ⟨.no, .no, rfl, rfl, rfl⟩
  obtain ⟨r, e, z⟩ := lp
  have re : reachedT n ts h g = ((List.range n).find? fun p => decide (sourcesT n ts h g p = [])).isNone := by
    unfold reachedT
    rw [Bool.eq_iff_iff, Option.isNone_iff_eq_none, List.find?_eq_none, List.all_eq_true]
    exact ⟨fun a x hx => by simpa using a x hx, fun a x hx => by simpa using a x hx⟩
  rw [re]
  cases f : (List.range n).find? fun p => decide (sourcesT n ts h g p = []) with
  | some p =>
    rw [f] at z
    obtain ⟨ρ, rfl, x, y, rfl⟩ := z
    refine run_def (ρ := [.sh (wD n ts), .sh (hD h), .sh (hD g), x, y, .no, .no]) rfl rfl (seq_loop_rt (ρ1 := [.sh (wD n ts), .sh (hD h), .sh (hD g), .no, .no, .no, .no]) (os := [.val false (nI n)]) (ds := [nI n]) ?_ rfl (by simp only [itD, nI, rg, if_true, rng_nat]) e) rfl
    clear e T G rg
    simp only [fn43, fullE]
    infer_instance
  | none =>
    rw [f] at z
    obtain ⟨ρ, rfl, x, y, fx, fy, rfl⟩ := z
    refine run_def (ρ := [.sh (wD n ts), .sh (hD h), .sh (hD g), x, y, .no, .no]) rfl rfl (seq_loop (ρ1 := [.sh (wD n ts), .sh (hD h), .sh (hD g), .no, .no, .no, .no]) (os := [.val false (nI n)]) (ds := [nI n]) ?_ rfl (by simp only [itD, nI, rg, if_true, rng_nat]) e (seq_rt rfl)) rfl
    clear e T G rg
    simp only [fn43, fullE]
    infer_instance
end
end Lw
end

section
/-! L10: all outcomes, as the program finds them. -/
namespace Lw
open PySem Ev
local macro_rules
  | `(tactic| infer_instance) => `(tactic| simp [finF, fullE, initE, outsE, evSs, evS, evE.eq_1, evE.eq_2, evE.eq_3, evE.eq_4, evE.eq_5, evE.eq_6, evE.eq_7, evE.eq_8, evE.eq_9, evE.eq_10, evE.eq_11, evE.eq_12, evE.eq_13, evE.eq_14, evE.eq_15, evE.eq_16, evE.eq_17, evE.eq_18, evE.eq_19, evE.eq_20, evE.eq_21, evE.eq_22, evE.eq_23, evE.eq_24, evE.eq_25, evL, evD, evC, parL, parS, toVal, toBl, toInt, rds, rd, getS, Sl.get, setS, putS, owS, isNop, itD, lockE, unlockE, unlockR, okD, flatD, flatDs, depD, depDs, isCol, isTup, isNon, bindT, bindTs, binD, addD, subD, modD, fdivD, cmpD, eqO, neO, eqD, eqDs, notinO, isO, isnotO, biD, isaB, isaD, lenB, tupleB, ioOk, ioPlaces, mutS, isMut, noTwice, backIo, turn, *])
/-! ### rising lists -/
section
variable {α : Type} [DecidableEq α] {lt : α → α → Bool}
theorem asc_eq (L : Lin lt) {l m : List α} (hl : l.Pairwise fun a b => lt a b = true) (hm : m.Pairwise fun a b => lt a b = true) (h : ∀ x, x ∈ l ↔ x ∈ m) : l = m :=
  sorted_one L ((List.perm_ext_iff_of_nodup (nodup_up L hl) (nodup_up L hm)).mpr h) (hl.imp fun q => L.asym q) (hm.imp fun q => L.asym q)
theorem sort_asc (L : Lin lt) {l : List α} (nd : l.Nodup) : (sortT lt l).Pairwise fun a b => lt a b = true := by
  have p := sortT_pair L l
  have nd' : (sortT lt l).Nodup := (sortT_perm l).nodup_iff.mpr nd
  refine (List.pairwise_and_iff.mpr ⟨p, nd'⟩).imp fun {a b} h => ?_
  cases q : lt a b with
  | true => rfl
  | false => exact absurd (L.tri a b q h.1) h.2
end
abbrev ltH : List Int → List Int → Bool := ltL ltI
theorem linH : Lin ltH := linL linI
theorem ordH : OrdE hD ltH := ordI.tup encI
theorem can_sortH {l : List (List Int)} (ne : ∀ h ∈ l, h ≠ []) (hl : l.length ≤ 16777216) : canSort (l.map hD) = true := by
  have al : allAlike (l.map hD) = true := by
    clear ne hl
    induction l with
    | nil => rfl
    | cons x l ih => simp [allAlike, ih, encH.alike]
  have z : (l.map hD).all neTup = true := List.all_eq_true.mpr fun x hx => by
    obtain ⟨a, ha, rfl⟩ := List.mem_map.mp hx
    cases a with
    | nil => exact absurd rfl (ne _ ha)
    | cons y a => rfl
  have o : (l.map hD).all Ev.okD = true := List.all_eq_true.mpr fun x hx => by obtain ⟨a, _, rfl⟩ := List.mem_map.mp hx; exact encH.okD depH (by omega) a
  unfold canSort
  rw [al, o, z]
  simp [hl]
theorem sorted_h {l : List (List Int)} (ne : ∀ h ∈ l, h ≠ []) (hl : l.length ≤ 16777216) : sortedB [.lst (l.map hD)] = some (true, .lst ((sortT ltH l).map hD)) := by
  simp only [sortedB, can_sortH ne hl, if_true, sortBy_map ordH]
theorem sorted_hd {l : List (List Int)} (vs : List D) (ne : ∀ h ∈ l, h ≠ []) (hl : l.length ≤ 16777216) : sortedB [.dct (l.map hD) vs] = some (true, .lst ((sortT ltH l).map hD)) := by
  simp only [sortedB, can_sortH ne hl, if_true, sortBy_map ordH]
section
variable {n : Nat} {ts : List (Nat × Nat)} {h g now : List Int} {p q : Nat}
/-- rising, and just what comes -/
def IsOuts (n : Nat) (ts : List (Nat × Nat)) (h : List Int) (l : List (List Int)) : Prop := (l.Pairwise fun a b => ltH a b = true) ∧ ∀ g, g ∈ l ↔ Reach n ts h g
open Classical in
/-- all outcomes, rising -/
noncomputable def outsT (n : Nat) (ts : List (Nat × Nat)) (h : List Int) : List (List Int) := if x : ∃ l, IsOuts n ts h l then x.choose else []
theorem IsOuts.eq {l : List (List Int)} (o : IsOuts n ts h l) : l = outsT n ts h := by
  have x : ∃ l, IsOuts n ts h l := ⟨l, o⟩
  rw [outsT, dif_pos x]
  have c := x.choose_spec
  exact asc_eq linH o.1 c.1 fun g => (o.2 g).trans (c.2 g).symm
theorem IsOuts.of {ks : List (List Int)} (nd : ks.Nodup) (m : ∀ g, g ∈ ks ↔ Reach n ts h g) : IsOuts n ts h (sortT ltH ks) := ⟨sort_asc linH nd, fun g => mem_sortT.trans (m g)⟩
theorem outs_is (W : Web n ts) (hn : n ≤ 5) (T : Hts n h) : IsOuts n ts h (outsT n ts h) := by
  obtain ⟨ks, vs, m, nd, -, -⟩ := run_law_steps 0 W hn T
  have := IsOuts.of nd m
  rw [← this.eq]
  exact this
theorem mem_outs (W : Web n ts) (hn : n ≤ 5) (T : Hts n h) : g ∈ outsT n ts h ↔ Reach n ts h g := (outs_is W hn T).2 g
theorem outs_len (W : Web n ts) (hn : n ≤ 5) (T : Hts n h) : (outsT n ts h).length ≤ 3125 := few_reach W hn T (nodup_up linH (outs_is W hn T).1) fun k hk => (mem_outs W hn T).mp hk
theorem run_next_of (k : Nat) (W : Web n ts) (T : Hts n h) : callF tab (k + 3) 46 [wD n ts, hD h] = some (false, .tup ((stoopsT n ts h).map tD), []) := by
  have hn := W.hi
  have a0 := run_everybody (k + 1) n ts hn
  obtain ⟨ρ, e, x, y, -, -, rfl⟩ := loop_on (e := nI) (t := .nm 3) (xs := List.range n) (body := evSs (callF tab (k + 2)) [.ext 2 (.comp .seq [.call 8 [false, false] [.var 0, .var 3]] (.nm 4) [4] [.cmp .lt (.ix (.plc 1) (.plc 4)) (.ix (.plc 1) (.plc 3))] (.tup [false, false] [.var 3, .var 4]))])
    (ρ := [.sh (wD n ts), .sh (hD h), .ow (.lst []), .no, .no]) (fun pre ρ => ∃ x y, isFree x = true ∧ (isFree y = true ∧ isOwn y = false) ∧ ρ = [.sh (wD n ts), .sh (hD h), .ow (.lst ((pre.flatMap (stoopsOf ts h)).map tD)), x, y])
    (fun pre p post hp ρ => by
      rintro ⟨x, y, fx, ⟨fy, oy⟩, rfl⟩
      have hpn : p < n := List.mem_range.mp (by rw [hp]; simp)
      have hpl : pre.length ≤ n := by
        have := congrArg List.length hp
        simp at this
        omega
      clear hp
      generalize ha : pre.flatMap (stoopsOf ts h) = acc
      have la : acc.length ≤ pre.length * 64 := ha ▸ flat_len (stoopsOf ts h) 64 (fun p => stoopsOf_len W) pre
      have a := run_tied (k + 1) n ts W p
      have c := comp_map (C := callF tab (k + 2)) (e := nI) (k := .seq) (srcs := [.call 8 [false, false] [.var 0, .var 3]]) (t := .nm 4) (own := [4]) (conds := [.cmp .lt (.ix (.plc 1) (.plc 4)) (.ix (.plc 1) (.plc 3))]) (elt := .tup [false, false] [.var 3, .var 4]) (xs := tied ts p)
        (ρ := [.sh (wD n ts), .sh (hD h), .ow (.lst (acc.map tD)), .sh (nI p), y]) (ρ1 := [.sh (wD n ts), .sh (hD h), .ow (.lst (acc.map tD)), .sh (nI p), y]) (os := [.val true (.lst ((tied ts p).map nI))]) (ds := [.lst ((tied ts p).map nI)]) (fun q => decide (at_ h q < at_ h p)) (fun q => tD (p, q)) (by clear T a0; infer_instance) rfl rfl (by simp [ownS, oy]) (by have := tied_len W p; omega) (fun q hq => by
          have e1 := h_at T hpn
          have e2 := h_at T (tied_lt W hq)
          refine ⟨[.sh (wD n ts), .sh (hD h), .ow (.lst (acc.map tD)), .sh (nI p), .sh (nI q)], by simp [wipeE, lockE, bindT, setS], ?_, fun _ => ⟨false, rfl⟩, by simp [wipeE, lockE]⟩
          clear hq a hpn T
          by_cases c : at_ h q < at_ h p <;> infer_instance)
      have fe : ((tied ts p).filter fun q => decide (at_ h q < at_ h p)).map (fun q => tD (p, q)) = (stoopsOf ts h p).map tD := by simp [stoopsOf]
      rw [fe] at c
      have sl : (stoopsOf ts h p).length ≤ 64 := stoopsOf_len W
      have z : acc.length + (stoopsOf ts h p).length ≤ 16777216 := by omega
      refine ⟨[.sh (wD n ts), .sh (hD h), .ow (.lst ((acc ++ stoopsOf ts h p).map tD)), .sh (nI p), y], .inl ?_, .sh (nI p), y, rfl, ⟨fy, oy⟩, by rw [List.flatMap_append, ha]; simp⟩
      clear T fe a la sl hpl a0
      infer_instance) ⟨.no, .no, rfl, ⟨rfl, rfl⟩, rfl⟩
  refine run_def (ρ := [.sh (wD n ts), .sh (hD h), .ow (.lst ((stoopsT n ts h).map tD)), x, y]) rfl rfl (seq_nx (ρ1 := [.sh (wD n ts), .sh (hD h), .ow (.lst []), .no, .no]) ?_ (seq_loop (os := [.val false (pD (List.range n))]) (ds := [pD (List.range n)]) (ρ1 := [.sh (wD n ts), .sh (hD h), .ow (.lst []), .no, .no]) ?_ rfl rfl e (seq_rt ?_))) rfl
  · clear e T
    simp only [fn46, fullE]
    infer_instance
  · clear e T
    infer_instance
  · clear e T
    show evS (callF tab (k + 2)) _ [.sh (wD n ts), .sh (hD h), .ow (.lst ((stoopsT n ts h).map tD)), x, y] = _
    infer_instance
theorem run_after (k : Nat) (hn : n ≤ 8) (T : Hts n h) (hp : p < n) (hq : q < n) : callF tab (k + 1) 47 [hD h, nI p, nI q] = some (false, hD (aft h p q), []) := by
  have len := T.len
  have e1 := h_at T hq
  have c1 := cut_to (h.map .int) p (by simp; omega)
  have c2 := cut_from (h.map .int) (p + 1) (by simp; omega)
  have z2 : (h.take p).length + ((h.drop (p + 1)).length + 1) ≤ 16777216 := by simp; omega
  have e : aft h p q = h.take p ++ [at_ h q] ++ h.drop (p + 1) := by
    rw [aft, List.set_eq_take_append_cons_drop, if_pos (by omega)]
    simp
  rw [e]
  rw [← List.map_take] at c1
  rw [← List.map_drop] at c2
  have c2' : slcD (.tup (h.map .int)) (some ((p : Int) + 1)) none = _ := c2
  generalize h.take p = A at *
  generalize h.drop (p + 1) = B at *
  rw [callF]
  simp only [tab, fn47, b47]
  clear T hp hq len e c2
  infer_instance
end
end Lw
end

section
/-! L11: the program's search of all outcomes, and what rests on it. -/
namespace Lw
open PySem Ev
local macro_rules
  | `(tactic| infer_instance) => `(tactic| simp [finF, fullE, initE, outsE, evSs, evS, evE.eq_1, evE.eq_2, evE.eq_3, evE.eq_4, evE.eq_5, evE.eq_6, evE.eq_7, evE.eq_8, evE.eq_9, evE.eq_10, evE.eq_11, evE.eq_12, evE.eq_13, evE.eq_14, evE.eq_15, evE.eq_16, evE.eq_17, evE.eq_18, evE.eq_19, evE.eq_20, evE.eq_21, evE.eq_22, evE.eq_23, evE.eq_24, evE.eq_25, evL, evD, evC, parL, parS, toVal, toBl, toInt, rds, rd, getS, Sl.get, setS, putS, owS, isNop, itD, lockE, unlockE, unlockR, okD, flatD, flatDs, depD, depDs, isCol, isTup, isNon, bindT, bindTs, binD, addD, subD, modD, fdivD, cmpD, eqO, neO, eqD, eqDs, notinO, isO, isnotO, biD, isaB, isaD, lenB, tupleB, ioOk, ioPlaces, mutS, isMut, noTwice, backIo, turn, *])
section
variable {n : Nat} {ts : List (Nat × Nat)} {h g now : List Int} {p q : Nat}
/-- the slots of all_of -/
abbrev envO (n : Nat) (ts : List (Nat × Nat)) (h : List Int) (ks : List (List Int)) (vs : List D) (ed : List (List Int)) (x4 x5 x6 x7 : Sl) : Ev.Env :=
  [.sh (wD n ts), .sh (hD h), .ow (.dct (ks.map hD) vs), .ow (.lst (ed.map hD)), x4, x5, x6, x7]
theorem outs_in (k : Nat) (W : Web n ts) (hn : n ≤ 5) (T : Hts n h) (R : Reach n ts h now) {ks rest : List (List Int)} (nd : ks.Nodup) (all : ∀ k ∈ ks, Reach n ts h k) (z0 : rest.length ≤ ks.length) (vs : List D) (hv : vs.length = ks.length) (x5 x6 x7 : Sl) (f5 : isFree x5 = true) (f6 : isFree x6 = true) (f7 : isFree x7 = true) :
    ∃ ρ', forLoop (.tp [.nm 5, .nm 6]) (evSs (callF tab (k + 1)) [.asg 7 (.call 47 [false, false, false] [.var 4, .var 5, .var 6]), .ifs (.cmp .notin (.plc 7) (.plc 2)) [.setix 2 (.var 7) (.cst (.bl true)), .app 3 (.var 7)] []]) ((stoopsT n ts now).map tD) (envO n ts h ks vs rest (.sh (hD now)) x5 x6 x7) = some (.nx ρ') ∧
      ∃ (ks' new : List (List Int)) (vs' : List D) (x5' x6' x7' : Sl), isFree x5' = true ∧ isFree x6' = true ∧ isFree x7' = true ∧ Fnd ks (succ n ts now) ks' new ∧ vs'.length = ks'.length ∧ ρ' = envO n ts h ks' vs' (rest ++ new) (.sh (hD now)) x5' x6' x7' := by
  have N := R.hts W T
  have n8 := W.hi
  obtain ⟨ρ', e, ks', new', vs', x5', x6', x7', F5, F6, F7, F, V, rfl⟩ := loop_on (e := tD) (t := .tp [.nm 5, .nm 6]) (xs := stoopsT n ts now) (body := evSs (callF tab (k + 1)) [.asg 7 (.call 47 [false, false, false] [.var 4, .var 5, .var 6]), .ifs (.cmp .notin (.plc 7) (.plc 2)) [.setix 2 (.var 7) (.cst (.bl true)), .app 3 (.var 7)] []])
    (ρ := envO n ts h ks vs rest (.sh (hD now)) x5 x6 x7) (fun pre ρ => ∃ (ks' new' : List (List Int)) (vs' : List D) (x5' x6' x7' : Sl), isFree x5' = true ∧ isFree x6' = true ∧ isFree x7' = true ∧ Fnd ks (pre.map fun pr => aft now pr.1 pr.2) ks' new' ∧ vs'.length = ks'.length ∧ ρ = envO n ts h ks' vs' (rest ++ new') (.sh (hD now)) x5' x6' x7')
    (fun pre pr post hp ρ => by
      rintro ⟨ks', new', vs', x5', x6', x7', F5, F6, F7, F, V, rfl⟩
      have sub : ∀ y ∈ pre, Can n ts now y.1 y.2 := fun y hy => mem_stoops.mp (by rw [hp]; exact List.mem_append_left _ hy)
      have cp : Can n ts now pr.1 pr.2 := mem_stoops.mp (by rw [hp]; simp)
      clear hp
      have cq : pr.2 < n := (W.lt cp.2.1).2.1
      have a := run_after k (h := now) n8 N cp.1 cq
      have few := few_reach W hn T F.nd (fun x hx => by
        rcases (F.mem x).mp hx with z | z
        · exact all x z
        · obtain ⟨y, hy, rfl⟩ := List.mem_map.mp z
          exact .step R (sub y hy))
      have apl : ks'.length = ks.length + new'.length := by rw [F.app, List.length_append]
      have i := in_dct (aft now pr.1 pr.2) ks' vs' V
      by_cases c : aft now pr.1 pr.2 ∈ ks'
      · refine ⟨_, .inl ?_, ks', new', vs', .sh (nI pr.1), .sh (nI pr.2), .sh (hD (aft now pr.1 pr.2)), rfl, rfl, rfl, by rw [List.map_append]; exact F.old c, V, rfl⟩
        generalize aft now pr.1 pr.2 = w at *
        clear few apl F cp cq sub N T R all nd
        infer_instance
      · have z1 : ks'.length < 16777216 := by omega
        have z2 : rest.length + new'.length < 16777216 := by omega
        have st' := put_new (aft now pr.1 pr.2) ks' vs' (.bl true) c z1
        refine ⟨envO n ts h (ks' ++ [aft now pr.1 pr.2]) (vs' ++ [.bl true]) (rest ++ (new' ++ [aft now pr.1 pr.2])) (.sh (hD now)) (.sh (nI pr.1)) (.sh (nI pr.2)) (.sh (hD (aft now pr.1 pr.2))), .inl ?_, _, _, _, .sh (nI pr.1), .sh (nI pr.2), .sh (hD (aft now pr.1 pr.2)), rfl, rfl, rfl, by rw [List.map_append]; exact F.new c, by simp [V], rfl⟩
        generalize aft now pr.1 pr.2 = w at *
        clear few apl F cp cq sub N T R all nd
        infer_instance) ⟨ks, [], vs, x5, x6, x7, f5, f6, f7, .zero nd, hv, by rw [List.append_nil]⟩
  exact ⟨_, e, ks', new', vs', x5', x6', x7', F5, F6, F7, F, V, rfl⟩
theorem run_all_of (k : Nat) (W : Web n ts) (hn : n ≤ 5) (T : Hts n h) : callF tab (k + 4) 48 [wD n ts, hD h] = some (true, .lst ((outsT n ts h).map hD), []) := by
  obtain ⟨ρ', e, ks, vs, x4, x5, x6, x7, BB, V, rfl⟩ := whl_on (c := fun ρ' => toBl (evE (callF tab (k + 3)) (.cmp .ne (.plc 3) (.lst [] [])) ρ'))
    (body := evSs (callF tab (k + 3)) [.asg 4 (.pop 3), .loop .seq [.call 46 [false, false] [.var 0, .var 4]] (.tp [.nm 5, .nm 6]) [.asg 7 (.call 47 [false, false, false] [.var 4, .var 5, .var 6]), .ifs (.cmp .notin (.plc 7) (.plc 2)) [.setix 2 (.var 7) (.cst (.bl true)), .app 3 (.var 7)] []], .ifs (.cmp .gt (.bi .len [.plc 2]) (.cst (.int 5000))) [.rais] []])
    (fun m ρ => ∃ (ks : List (List Int)) (vs : List D) (ed : List (List Int)) (x4 x5 x6 x7 : Sl), isFree x4 = true ∧ isFree x5 = true ∧ isFree x6 = true ∧ isFree x7 = true ∧ Bfs n ts h ks ed ∧ ed.length ≤ ks.length ∧ vs.length = ks.length ∧ ρ = envO n ts h ks vs ed x4 x5 x6 x7 ∧ 2 * (3125 - ks.length) + ed.length ≤ m)
    (fun ρ => ∃ (ks : List (List Int)) (vs : List D) (x4 x5 x6 x7 : Sl), Bfs n ts h ks [] ∧ vs.length = ks.length ∧ ρ = envO n ts h ks vs [] x4 x5 x6 x7)
    (fun m ρ => by
      rintro ⟨ks, vs, ed, x4, x5, x6, x7, f4, f5, f6, f7, BB, z, V, rfl, hm⟩
      have cm : eqDs (ed.map hD) [] = decide (ed = []) := encH.eqs ed []
      have fl : flatDs (ed.map hD) = true := encH.flats ed
      have dp : depDs (ed.map hD) ≤ 63 := Nat.le_trans (depH.deps ed) (by omega)
      have cond : toBl (evE (callF tab (k + 3)) (.cmp .ne (.plc 3) (.lst [] [])) (envO n ts h ks vs ed x4 x5 x6 x7)) = some (!decide (ed = []), envO n ts h ks vs ed x4 x5 x6 x7) := by
        clear BB hm V z
        infer_instance
      rcases List.eq_nil_or_concat ed with c | ⟨rest, now, c⟩
      · subst c
        exact .inl ⟨_, by rw [cond]; rfl, ks, vs, x4, x5, x6, x7, BB, V, rfl⟩
      · rw [List.concat_eq_append] at c
        subst c
        have R : Reach n ts h now := BB.all now (BB.sub now (by simp))
        have few := few_reach W hn T BB.nd BB.all
        rw [List.length_append, List.length_singleton] at z hm
        obtain ⟨ρ2, e2, ks', new, vs', x5', x6', x7', F5, F6, F7, F, V', rfl⟩ := outs_in (k + 2) W hn T R BB.nd BB.all (rest := rest) (by omega) vs V x5 x6 x7 f5 f6 f7
        have apl : ks'.length = ks.length + new.length := by rw [F.app, List.length_append]
        have BB' : Bfs n ts h ks' (rest ++ new) := BB.round (e := [now]) (by simpa using F)
        have few' := few_reach W hn T BB'.nd BB'.all
        have a := run_next_of k W (R.hts W T)
        refine .inr ⟨_, envO n ts h ks' vs' (rest ++ new) (.sh (hD now)) x5' x6' x7', 2 * (3125 - ks'.length) + (rest ++ new).length, by rw [cond, decide_eq_false (by simp)]; rfl, .inl ?_, by rw [List.length_append]; omega,
          ks', vs', rest ++ new, _, x5', x6', x7', rfl, F5, F6, F7, BB', by rw [List.length_append]; omega, V', rfl, Nat.le_refl _⟩
        refine seq_nx (ρ1 := envO n ts h ks vs rest (.sh (hD now)) x5 x6 x7) ?_ (seq_loop (os := [.val false (.tup ((stoopsT n ts now).map tD))]) (ds := [.tup ((stoopsT n ts now).map tD)]) (ρ1 := envO n ts h ks vs rest (.sh (hD now)) x5 x6 x7) ?_ rfl rfl e2 (seq_nx (ρ1 := envO n ts h ks' vs' (rest ++ new) (.sh (hD now)) x5' x6' x7') ?_ rfl))
        · clear cond e2 BB BB' F few few' apl T R a cm fl dp V V'
          infer_instance
        · clear cond e2 BB BB' F few few' apl T R cm fl dp V V'
          infer_instance
        · have no : ¬ (5000 : Int) < ks'.length := by omega
          clear cond e2 BB BB' F few few' apl T R cm fl dp V V' a
          show evS (callF tab (k + 3)) _ (envO n ts h ks' vs' (rest ++ new) (.sh (hD now)) x5' x6' x7') = _
          infer_instance) WF 6249 (envO n ts h [h] [.bl true] [h] .no .no .no .no)
    ⟨[h], [.bl true], [h], .no, .no, .no, .no, rfl, rfl, rfl, rfl, .zero, Nat.le_refl _, rfl, rfl, by simp⟩ (by unfold WF; omega)
  have tk : tupKey (hD h) = true := by simp [tupKey, keys_i, dep_i]
  have o := (IsOuts.of BB.nd BB.done).eq
  have sd := sorted_hd vs (fun k hk => by
    intro z
    have := ((BB.all k hk).hts W T).len
    rw [z] at this
    have := W.lo
    simp at *
    omega) (by have := few_reach W hn T BB.nd BB.all; omega)
  rw [o] at sd
  refine run_def (ρ := envO n ts h ks vs [] x4 x5 x6 x7) rfl rfl (seq_nx (ρ1 := envO n ts h [h] [.bl true] [h] .no .no .no .no) ?_ (seq_whl e (seq_rt ?_))) rfl
  · clear e
    simp only [fn48, fullE]
    infer_instance
  · clear e BB o
    infer_instance
theorem run_need_start (k : Nat) (W : Web n ts) (T : Hts n h) : callF tab (k + 5) 49 [wD n ts, hD h] = some (false, .non, []) := by
  have a1 := run_need_web k n ts W
  have a2 := run_need_heights k n ts h T
  rw [callF]
  simp only [tab, fn49, b49]
  infer_instance
/-- what comes of both -/
noncomputable def bothT (n : Nat) (ts : List (Nat × Nat)) (h g : List Int) : List (List Int) := (outsT n ts h).filter fun k => decide (k ∈ outsT n ts g)
theorem run_common (k : Nat) (W : Web n ts) (hn : n ≤ 5) (T : Hts n h) (G : Hts n g) : callF tab (k + 6) 50 [wD n ts, hD h, hD g] = some (true, .lst ((bothT n ts h g).map hD), []) := by
  have a1 := run_need_start k W T
  have a2 := run_need_heights (k + 1) n ts g G
  have a3 := run_all_of (k + 1) W hn G
  have a4 := run_all_of (k + 1) W hn T
  have c := comp_map (C := callF tab (k + 5)) (e := hD) (k := .seq) (srcs := [.call 48 [false, false] [.var 0, .var 1]]) (t := .nm 4) (own := [4]) (conds := [.cmp .in_ (.plc 4) (.plc 3)]) (elt := .var 4) (xs := outsT n ts h)
    (ρ := [.sh (wD n ts), .sh (hD h), .sh (hD g), .ow (.lst ((outsT n ts g).map hD)), .no]) (ρ1 := [.sh (wD n ts), .sh (hD h), .sh (hD g), .ow (.lst ((outsT n ts g).map hD)), .no]) (os := [.val true (.lst ((outsT n ts h).map hD))]) (ds := [.lst ((outsT n ts h).map hD)]) (fun k => decide (k ∈ outsT n ts g)) hD (by clear a1 a2 a3; infer_instance) rfl rfl rfl (by have := outs_len W hn T; omega) (fun x hx => by
      have i := in_lst encH depH (by omega) x (outsT n ts g)
      refine ⟨[.sh (wD n ts), .sh (hD h), .sh (hD g), .ow (.lst ((outsT n ts g).map hD)), .sh (hD x)], rfl, ?_, fun _ => ⟨false, rfl⟩, rfl⟩
      clear a1 a2 a3 a4 hx T G
      by_cases c : x ∈ outsT n ts g <;> infer_instance)
  replace c : evE (callF tab (k + 5)) _ _ = some (OV.val true (.lst ((bothT n ts h g).map hD)), _) := c
  rw [callF]
  simp only [tab, fn50, b50]
  clear a4
  infer_instance
theorem run_meets (k : Nat) (W : Web n ts) (hn : n ≤ 5) (T : Hts n h) (G : Hts n g) : callF tab (k + 7) 51 [wD n ts, hD h, hD g] = some (false, .bl (!decide (bothT n ts h g = [])), []) := by
  have a1 := run_need_start (k + 1) W T
  have a2 := run_need_heights (k + 2) n ts g G
  have a3 := run_common k W hn T G
  have cm : eqDs ((bothT n ts h g).map hD) [] = decide (bothT n ts h g = []) := encH.eqs _ []
  have fl : flatDs ((bothT n ts h g).map hD) = true := encH.flats _
  have dp : depDs ((bothT n ts h g).map hD) ≤ 63 := Nat.le_trans (depH.deps _) (by omega)
  rw [callF]
  simp only [tab, fn51, b51]
  infer_instance
end
end Lw
end

section
/-! L12: the highest of what comes of both; what stands between. -/
namespace Lw
open PySem Ev
local macro_rules
  | `(tactic| infer_instance) => `(tactic| simp [finF, fullE, initE, outsE, evSs, evS, evE.eq_1, evE.eq_2, evE.eq_3, evE.eq_4, evE.eq_5, evE.eq_6, evE.eq_7, evE.eq_8, evE.eq_9, evE.eq_10, evE.eq_11, evE.eq_12, evE.eq_13, evE.eq_14, evE.eq_15, evE.eq_16, evE.eq_17, evE.eq_18, evE.eq_19, evE.eq_20, evE.eq_21, evE.eq_22, evE.eq_23, evE.eq_24, evE.eq_25, evL, evD, evC, parL, parS, toVal, toBl, toInt, rds, rd, getS, Sl.get, setS, putS, owS, isNop, itD, lockE, unlockE, unlockR, okD, flatD, flatDs, depD, depDs, isCol, isTup, isNon, bindT, bindTs, binD, addD, subD, modD, fdivD, cmpD, eqO, neO, eqD, eqDs, notinO, isO, isnotO, biD, isaB, isaD, lenB, tupleB, ioOk, ioPlaces, mutS, isMut, noTwice, backIo, turn, *])
/-! ### greatest sums -/
def maxS : List (List Int) → Int
  | [] => 0
  | h :: l => (l.map List.sum).foldl max h.sum
def topsT (l : List (List Int)) : List (List Int) := l.filter fun h => decide (h.sum = maxS l)
def topD (l : List (List Int)) : D := match topsT l with
  | [] => .non
  | h :: _ => hD h
theorem sum_h (h : List Int) : sumB [hD h] = some (false, .int h.sum) := by simp only [sumB, ints_map]
theorem max_h (l : List (List Int)) (hl : l ≠ []) : maxB [.lst (l.map fun h => .int h.sum)] = some (false, .int (maxS l)) := by
  have : l.map (fun h => D.int h.sum) = (l.map List.sum).map .int := by simp
  rw [this]
  cases l with
  | nil => exact absurd rfl hl
  | cons h l =>
    simp only [maxB, ints_map]
    rfl
theorem max_in : ∀ (l : List Int) (a : Int), l.foldl max a = a ∨ l.foldl max a ∈ l
  | [], _ => .inl rfl
  | x :: l, a => by
    rw [List.foldl_cons]
    rcases max_in l (max a x) with e | e
    · rw [e]
      by_cases c : a ≤ x
      · exact .inr (by rw [Int.max_eq_right c]; exact List.mem_cons_self)
      · exact .inl (Int.max_eq_left (by omega))
    · exact .inr (List.mem_cons_of_mem _ e)
theorem tops_ne (l : List (List Int)) (hl : l ≠ []) : topsT l ≠ [] := fun nil => by
  rw [topsT, List.filter_eq_nil_iff] at nil
  cases l with
  | nil => exact hl rfl
  | cons h l =>
    rcases max_in (l.map List.sum) h.sum with e | e
    · exact nil h List.mem_cons_self (by simp [maxS, e])
    · obtain ⟨k, hk, ek⟩ := List.mem_map.mp e
      exact nil k (List.mem_cons_of_mem _ hk) (by simp [maxS, ek])
theorem top_mem {l : List (List Int)} (hl : l ≠ []) : ∃ h, h ∈ l ∧ topD l = hD h ∧ (topsT l)[0]? = some h := by
  cases e : topsT l with
  | nil => exact absurd e (tops_ne l hl)
  | cons h r =>
    have m : h ∈ topsT l := by rw [e]; exact List.mem_cons_self
    exact ⟨h, (List.mem_filter.mp m).1, by simp [topD, e], by simp⟩
theorem top_nil : topD [] = .non := rfl
theorem pl_hs (l : List (List Int)) (hz : l.length ≤ 16777216) (h : ∀ x ∈ l, x.length ≤ 16777216) : Pl 2 (.lst (l.map hD)) := .lst (fun d hd => by obtain ⟨a, ha, rfl⟩ := List.mem_map.mp hd; exact pl_h a (h a ha)) (by simpa using hz)
section
variable {n : Nat} {ts : List (Nat × Nat)} {h g m : List Int} {p q : Nat}
theorem both_sub {x : List Int} (hx : x ∈ bothT n ts h g) : x ∈ outsT n ts h := (List.mem_filter.mp hx).1
theorem both_len (W : Web n ts) (hn : n ≤ 5) (T : Hts n h) : (bothT n ts h g).length ≤ 3125 := Nat.le_trans (List.length_filter_le _ _) (outs_len W hn T)
theorem outs_hts (W : Web n ts) (hn : n ≤ 5) (T : Hts n h) {x : List Int} (hx : x ∈ outsT n ts h) : Hts n x := ((mem_outs W hn T).mp hx).hts W T
theorem run_highest (k : Nat) (W : Web n ts) (hn : n ≤ 5) (T : Hts n h) (G : Hts n g) : callF tab (k + 7) 52 [wD n ts, hD h, hD g] = some (false, topD (bothT n ts h g), []) := by
  have a1 := run_need_start (k + 1) W T
  have a2 := run_need_heights (k + 2) n ts g G
  have a3 := run_common k W hn T G
  have len := both_len (g := g) W hn T
  generalize bothT n ts h g = l at *
  have cm : eqDs (l.map hD) [] = decide (l = []) := encH.eqs _ []
  have fl : flatDs (l.map hD) = true := encH.flats _
  have dp : depDs (l.map hD) ≤ 63 := Nat.le_trans (depH.deps _) (by omega)
  by_cases c : l = []
  · subst c
    rw [callF]
    simp only [tab, fn52, b52, top_nil]
    clear T G W
    infer_instance
  · rw [decide_eq_false c] at cm
    have c1 := comp_map (C := callF tab (k + 6)) (e := hD) (k := .seq) (srcs := [.plc 3]) (t := .nm 5) (own := [5]) (conds := []) (elt := .bi .sum [.plc 5]) (xs := l)
      (ρ := [.sh (wD n ts), .sh (hD h), .sh (hD g), .ow (.lst (l.map hD)), .no, .no]) (ρ1 := [.sh (wD n ts), .sh (hD h), .sh (hD g), .ow (.lst (l.map hD)), .no, .no]) (os := [.plc 3]) (ds := [.lst (l.map hD)]) (fun _ => true) (fun k => .int k.sum) rfl rfl rfl rfl (by omega) (fun x hx => by
        have s := sum_h x
        refine ⟨[.sh (wD n ts), .sh (hD h), .sh (hD g), .lk (.lst (l.map hD)), .no, .sh (hD x)], rfl, rfl, fun _ => ⟨false, ?_⟩, rfl⟩
        clear a1 a2 a3 hx T G cm fl dp
        infer_instance)
    rw [filter_all] at c1
    have mx := max_h l c
    have c2 := comp_map (C := callF tab (k + 6)) (e := hD) (k := .seq) (srcs := [.plc 3]) (t := .nm 5) (own := [5]) (conds := [.cmp .eq (.bi .sum [.plc 5]) (.plc 4)]) (elt := .var 5) (xs := l)
      (ρ := [.sh (wD n ts), .sh (hD h), .sh (hD g), .ow (.lst (l.map hD)), .sh (.int (maxS l)), .no]) (ρ1 := [.sh (wD n ts), .sh (hD h), .sh (hD g), .ow (.lst (l.map hD)), .sh (.int (maxS l)), .no]) (os := [.plc 3]) (ds := [.lst (l.map hD)]) (fun k => decide (k.sum = maxS l)) hD rfl rfl rfl rfl (by omega) (fun x hx => by
        have s := sum_h x
        refine ⟨[.sh (wD n ts), .sh (hD h), .sh (hD g), .lk (.lst (l.map hD)), .sh (.int (maxS l)), .sh (hD x)], rfl, ?_, fun _ => ⟨false, rfl⟩, rfl⟩
        clear a1 a2 a3 hx T G cm fl dp c1 mx
        by_cases z : x.sum = maxS l
        · infer_instance
        · have z' : (x.sum == maxS l) = false := by simpa using z
          infer_instance)
    replace c2 : evE (callF tab (k + 6)) _ _ = some (OV.val true (.lst ((topsT l).map hD)), _) := c2
    obtain ⟨t, -, e, e0⟩ := top_mem c
    rw [e]
    have e0' : ((topsT l).map hD)[0]? = some (hD t) := by rw [List.getElem?_map, e0]; rfl
    rw [callF]
    simp only [tab, fn52, b52]
    clear T G W c e
    infer_instance
theorem run_between (k : Nat) (W : Web n ts) (T : Hts n h) (G : Hts n g) (M : Hts n m) : callF tab (k + 6) 53 [wD n ts, hD h, hD g, hD m] = some (false, .bl (reachedT n ts h m && reachedT n ts m g), []) := by
  have a1 := run_need_start k W T
  have a2 := run_need_heights (k + 1) n ts g G
  have a3 := run_need_heights (k + 1) n ts m M
  have a4 := run_reached k W T M
  have a5 := run_reached k W M G
  rw [callF]
  simp only [tab, fn53, b53]
  generalize reachedT n ts h m = b at *
  cases b <;> infer_instance
end
/-- heights picked out of others -/
theorem picks (k : Nat) {d : D} (R : Row d) {n : Nat} {h : List Int} (hn : 1 ≤ n ∧ n ≤ 8) (T : Hts n h) (i j : Nat) (ρ : D → Sl → Ev.Env) (hρ1 : ∀ d x, (ρ d x)[i]? = some x) (e1 : ∀ d x, evL (callF tab (k + 2)) [.plc j] (ρ d x) = some ([.plc j], ρ d x)) (e2 : ∀ d x, rds (ρ d x) [.plc j] = some [hD h])
    (el : ∀ d x y, lockE (ρ d x) [.plc j] = ρ d x ∧ wipeE (ρ d x) [i] = ρ d .no ∧ bindT (.nm i) (.int y) (ρ d .no) = some (ρ d (.sh (.int y)))) (eu : ∀ d x d' x', unlockE (ρ d x) (backE (ρ d' x') (ρ d x) [i]) [.plc j] = ρ d' x) (eo : ∀ d, [i].all (fun i => !ownS (ρ d .no) i) = true)
    (pick : ∀ d d' y z, callF tab (k + 2) 37 [d, hD h] = some (false, .int z, [d']) → evE (callF tab (k + 2)) (.call 37 [true, false] [.plc 1, .var j]) (ρ d (.sh (.int y))) = some (.val false (.int z), ρ d' (.sh (.int y)))) :
    ∃ (g : List Int) (d' : D), Hts n g ∧ Row d' ∧ evE (callF tab (k + 2)) (.comp .seq [.plc j] (.nm i) [i] [] (.call 37 [true, false] [.plc 1, .var j])) (ρ d .no) = some (.val true (.lst (g.map .int)), ρ d' .no) := by
  have len := T.len
  have ne : h ≠ [] := fun e => by
    rw [e] at len
    simp at len
    omega
  obtain ⟨acc, ρe, cc, g, d2, rfl, hg, sg, R2, x, rfl⟩ := comp_on (C := callF tab (k + 2)) (e := D.int) (k := .seq) (srcs := [.plc j]) (t := .nm i) (own := [i]) (conds := []) (elt := .call 37 [true, false] [.plc 1, .var j]) (xs := h)
    (ρ := ρ d .no) (ρ1 := ρ d .no) (os := [.plc j]) (ds := [hD h])
    (fun pre acc ρ' => ∃ (g : List Int) (d' : D), acc = g.map .int ∧ g.length = pre.length ∧ (∀ x ∈ g, x ∈ h) ∧ Row d' ∧ ∃ x, ρ' = ρ d' x)
    (e1 d .no) (e2 d .no) rfl (eo d) (by omega) ⟨[], d, rfl, rfl, fun x hx => (nomatch hx), R, .no, by rw [(el d .no 0).1]⟩
    (fun pre acc ρ' => by
      rintro ⟨g, d', e1, e2, e3, e4, x, rfl⟩
      exact ⟨g, d', e1, e2, e3, e4, .no, (el d' x 0).2.1⟩)
    (fun pre y post hp acc ρ' => by
      rintro ⟨g, d', rfl, e2, e3, e4, x, rfl⟩
      obtain ⟨z, d2, m, R2, t⟩ := (run_pick k (e := D.int) e4 h ne (by omega)).2
      refine ⟨ρ d' (.sh (.int y)), true, ρ d' (.sh (.int y)), by rw [(el d' x y).2.1]; exact (el d' x y).2.2, rfl, (fun z => nomatch z), fun _ => ⟨false, .int z, ρ d2 (.sh (.int y)), pick d' d2 y z t, g ++ [z], d2, by simp, by simp [e2], ?_, R2, _, rfl⟩⟩
      intro w hw
      rcases List.mem_append.mp hw with hw | hw
      · exact e3 w hw
      · rw [List.mem_singleton.mp hw]; exact m)
  refine ⟨g, d2, ⟨by rw [hg, len], fun x hx => T.rng x (sg x hx)⟩, R2, ?_⟩
  rw [cc, eu]
theorem hts_ne {n : Nat} {h : List Int} (hn : 1 ≤ n) (T : Hts n h) : h ≠ [] := fun e => by
  have := T.len
  rw [e] at this
  simp at this
  omega
end Lw
end

section
/-! L13: least heights come, and stay as they are; lesser heights. -/
namespace Lw
open PySem Ev
local macro_rules
  | `(tactic| infer_instance) => `(tactic| simp [finF, fullE, initE, outsE, evSs, evS, evE.eq_1, evE.eq_2, evE.eq_3, evE.eq_4, evE.eq_5, evE.eq_6, evE.eq_7, evE.eq_8, evE.eq_9, evE.eq_10, evE.eq_11, evE.eq_12, evE.eq_13, evE.eq_14, evE.eq_15, evE.eq_16, evE.eq_17, evE.eq_18, evE.eq_19, evE.eq_20, evE.eq_21, evE.eq_22, evE.eq_23, evE.eq_24, evE.eq_25, evL, evD, evC, parL, parS, toVal, toBl, toInt, rds, rd, getS, Sl.get, setS, putS, owS, isNop, itD, lockE, unlockE, unlockR, okD, flatD, flatDs, depD, depDs, isCol, isTup, isNon, bindT, bindTs, binD, addD, subD, modD, fdivD, cmpD, eqO, neO, eqD, eqDs, notinO, isO, isnotO, biD, isaB, isaD, lenB, tupleB, ioOk, ioPlaces, mutS, isMut, noTwice, backIo, turn, *])
section
variable {n : Nat} {ts : List (Nat × Nat)} {h g k : List Int} {p q : Nat}
/-! ### least heights of rows of stoops -/
theorem minL_le : ∀ {l : List Nat}, q ∈ l → minL h l ≤ at_ h q := fun {l} hq => by
  have fold : ∀ (l : List Nat) (a : Int), (l.map (at_ h)).foldl min a ≤ a ∧ ∀ r ∈ l, (l.map (at_ h)).foldl min a ≤ at_ h r := by
    intro l
    induction l with
    | nil => exact fun a => ⟨Int.le_refl _, fun r hr => nomatch hr⟩
    | cons x l ih =>
      intro a
      rw [List.map_cons, List.foldl_cons]
      obtain ⟨i1, i2⟩ := ih (min a (at_ h x))
      refine ⟨by omega, fun r hr => ?_⟩
      rcases List.mem_cons.mp hr with rfl | hr
      · omega
      · exact i2 r hr
  cases l with
  | nil => cases hq
  | cons x l =>
    obtain ⟨f1, f2⟩ := fold l (at_ h x)
    rcases List.mem_cons.mp hq with rfl | hq
    · exact f1
    · exact f2 q hq
theorem minL_at : ∀ {l : List Nat}, l ≠ [] → ∃ q ∈ l, at_ h q = minL h l := fun {l} hl => by
  have fold : ∀ (l : List Nat) (a : Int), (l.map (at_ h)).foldl min a = a ∨ ∃ r ∈ l, at_ h r = (l.map (at_ h)).foldl min a := by
    intro l
    induction l with
    | nil => exact fun a => .inl rfl
    | cons x l ih =>
      intro a
      rw [List.map_cons, List.foldl_cons]
      rcases ih (min a (at_ h x)) with e | ⟨r, hr, e⟩
      · rw [e]
        by_cases c : a ≤ at_ h x
        · exact .inl (Int.min_eq_left c)
        · exact .inr ⟨x, List.mem_cons_self, (Int.min_eq_right (by omega)).symm⟩
      · exact .inr ⟨r, List.mem_cons_of_mem _ hr, e⟩
  cases l with
  | nil => exact absurd rfl hl
  | cons x l =>
    rcases fold l (at_ h x) with e | ⟨r, hr, e⟩
    · exact ⟨x, List.mem_cons_self, e.symm⟩
    · exact ⟨r, List.mem_cons_of_mem _ hr, e⟩
theorem minL_eq {l : List Nat} (hl : l ≠ []) {v : Int} (all : ∀ q ∈ l, v ≤ at_ h q) (one : ∃ q ∈ l, at_ h q = v) : minL h l = v := by
  obtain ⟨r, hr, e⟩ := minL_at (h := h) hl
  obtain ⟨q, hq, e'⟩ := one
  have a := all r hr
  have b := minL_le (h := h) hq
  omega
theorem comp_self (W : Web n ts) (hp : p < n) : p ∈ comp n ts (allS n) p := (mem_comp W hp).mpr .refl
/-- a stoop leaves the least heights as they are -/
theorem lows_can (W : Web n ts) (T : Hts n h) (c : Can n ts h p q) : lowsT n ts (aft h p q) = lowsT n ts h := by
  refine at_ext (by rw [lowsT_len, lowsT_len]) fun i hi => ?_
  rw [lowsT_len] at hi
  rw [lows_at W _ hi, lows_at W _ hi]
  have hl : p < h.length := by rw [T.len]; exact c.1
  have hq : q < n := (W.lt c.2.1).2.1
  have at1 := fun r => aft_at (q := q) hl r
  refine minL_eq (comp_ne W hi) (fun r hr => ?_) ?_
  · rw [at1]
    split
    · rename_i e
      subst e
      have : q ∈ comp n ts (allS n) i := (mem_comp W hi).mpr (.step ((mem_comp W hi).mp hr) c.2.1 (allS_lt.mpr hq))
      exact minL_le this
    · exact minL_le hr
  · obtain ⟨r, hr, e⟩ := minL_at (h := h) (comp_ne (s := allS n) W hi)
    refine ⟨r, hr, ?_⟩
    rw [at1, if_neg]
    · exact e
    · intro z
      subst z
      have m : q ∈ comp n ts (allS n) i := (mem_comp W hi).mpr (.step ((mem_comp W hi).mp hr) c.2.1 (allS_lt.mpr hq))
      have := minL_le (h := h) m
      have := c.2.2
      omega
theorem lows_reach (W : Web n ts) (T : Hts n h) (r : Reach n ts h g) : lowsT n ts g = lowsT n ts h := by
  induction r with
  | refl => rfl
  | step r c ih => rw [lows_can W (r.hts W T) c, ih]
/-- the least heights come -/
theorem reach_lows (W : Web n ts) (T : Hts n h) : Reach n ts h (lowsT n ts h) := by
  rw [← reach_iff W T (lows_hts W T), reached_iff W]
  intro p hp
  have lp := lows_at W h hp
  have inside : ∀ r, Conn ts (allS n) p r → opn n h (lowsT n ts h) (at_ (lowsT n ts h) p) r = true := fun r c => by
    have hr : r < n := c.lt W hp
    have same : at_ (lowsT n ts h) r = at_ (lowsT n ts h) p := by rw [lows_at W h hr, lp, comp_same (allS_lt.mpr hp) c]
    simp only [opn, decide_eq_true_eq]
    refine ⟨hr, ?_, Int.le_of_eq same⟩
    rw [lp]
    exact minL_le ((mem_comp W hp).mpr c)
  refine ⟨inside p .refl, ?_⟩
  obtain ⟨q, hq, e⟩ := minL_at (h := h) (comp_ne (s := allS n) W hp)
  refine ⟨q, by rw [e, lp], ?_⟩
  have c := (mem_comp W hp).mp hq
  clear hq e
  induction c with
  | refl => exact .refl
  | step c a sr ih => exact .step ih a (inside _ (.step c a sr))
theorem meet_iff (W : Web n ts) (hn : n ≤ 5) (T : Hts n h) (G : Hts n g) : bothT n ts h g ≠ [] ↔ lowsT n ts h = lowsT n ts g := by
  constructor
  · intro ne
    obtain ⟨x, hx⟩ := List.exists_mem_of_ne_nil _ ne
    obtain ⟨h1, h2⟩ := List.mem_filter.mp hx
    rw [decide_eq_true_eq] at h2
    rw [← lows_reach W T ((mem_outs W hn T).mp h1), ← lows_reach W G ((mem_outs W hn G).mp h2)]
  · intro e nil
    have : lowsT n ts h ∈ bothT n ts h g := List.mem_filter.mpr ⟨(mem_outs W hn T).mpr (reach_lows W T), decide_eq_true ((mem_outs W hn G).mpr (by rw [e]; exact reach_lows W G))⟩
    rw [nil] at this
    cases this
theorem lows_both (W : Web n ts) (hn : n ≤ 5) (T : Hts n h) (G : Hts n g) (e : lowsT n ts h = lowsT n ts g) : lowsT n ts h ∈ bothT n ts h g :=
  List.mem_filter.mpr ⟨(mem_outs W hn T).mpr (reach_lows W T), decide_eq_true ((mem_outs W hn G).mpr (by rw [e]; exact reach_lows W G))⟩
/-! ### lesser heights -/
def lessT (g k : List Int) : List Int := (g.zip k).map fun p => if p.2 < p.1 then p.2 else p.1
theorem less_len (G : Hts n g) (K : Hts n k) : (lessT g k).length = n := by simp [lessT, G.len, K.len]
theorem less_at (G : Hts n g) (K : Hts n k) (hp : p < n) : at_ (lessT g k) p = if at_ k p < at_ g p then at_ k p else at_ g p := by
  have h1 : p < g.length := by rw [G.len]; exact hp
  have h2 : p < k.length := by rw [K.len]; exact hp
  have h3 : p < (g.zip k).length := by rw [List.length_zip]; omega
  simp [at_, lessT, List.getD_eq_getElem?_getD, h1, h2, List.getElem?_eq_getElem h3]
theorem less_hts (G : Hts n g) (K : Hts n k) : Hts n (lessT g k) where
  len := less_len G K
  rng := fun x hx => by
    obtain ⟨⟨a, b⟩, m, rfl⟩ := List.mem_map.mp hx
    have m1 := G.rng a (List.of_mem_zip m).1
    have m2 := K.rng b (List.of_mem_zip m).2
    dsimp only
    split <;> omega
theorem reach_less (W : Web n ts) (T : Hts n h) (a : Reach n ts h g) (b : Reach n ts h k) : Reach n ts h (lessT g k) := by
  have G := a.hts W T
  have K := b.hts W T
  rw [← reach_iff W T (less_hts G K), reached_iff W]
  intro p hp
  have wide : ∀ v r, (opn n h g v r = true → opn n h (lessT g k) v r = true) ∧ (opn n h k v r = true → opn n h (lessT g k) v r = true) := fun v r => by
    constructor <;>
    · intro z
      simp only [opn, decide_eq_true_eq] at z ⊢
      refine ⟨z.1, z.2.1, ?_⟩
      rw [less_at G K z.1]
      split <;> omega
  by_cases c : at_ k p < at_ g p
  · have e : at_ (lessT g k) p = at_ k p := by rw [less_at G K hp, if_pos c]
    obtain ⟨o, q, eq, cn⟩ := src_of_reach W T b p hp
    unfold Src
    rw [e]
    exact ⟨(wide _ _).2 o, q, eq, cn.mono fun r => (wide _ r).2⟩
  · have e : at_ (lessT g k) p = at_ g p := by rw [less_at G K hp, if_neg c]
    obtain ⟨o, q, eq, cn⟩ := src_of_reach W T a p hp
    unfold Src
    rw [e]
    exact ⟨(wide _ _).1 o, q, eq, cn.mono fun r => (wide _ r).1⟩
theorem less_both (W : Web n ts) (hn : n ≤ 5) (T : Hts n h) {o : List Int} (O : Hts n o) (hg : g ∈ bothT n ts h o) (hk : k ∈ bothT n ts h o) : lessT g k ∈ bothT n ts h o := by
  obtain ⟨g1, g2⟩ := List.mem_filter.mp hg
  obtain ⟨k1, k2⟩ := List.mem_filter.mp hk
  rw [decide_eq_true_eq] at g2 k2
  exact List.mem_filter.mpr ⟨(mem_outs W hn T).mpr (reach_less W T ((mem_outs W hn T).mp g1) ((mem_outs W hn T).mp k1)), decide_eq_true ((mem_outs W hn O).mpr (reach_less W O ((mem_outs W hn O).mp g2) ((mem_outs W hn O).mp k2)))⟩
theorem run_lesser (j : Nat) (W : Web n ts) (T : Hts n h) (G : Hts n g) (K : Hts n k) (a : Reach n ts h g) (b : Reach n ts h k) : callF tab (j + 6) 74 [wD n ts, hD h, hD g, hD k] = some (false, hD (lessT g k), []) := by
  have a1 := run_need_start j W T
  have a2 := run_need_heights (j + 1) n ts g G
  have a3 := run_need_heights (j + 1) n ts k K
  have a4 := run_reached j W T G
  have a5 := run_reached j W T K
  rw [(reach_iff W T G).mpr a] at a4
  rw [(reach_iff W T K).mpr b] at a5
  have n8 := W.hi
  have c := comp_map (C := callF tab (j + 5)) (e := fun p : Int × Int => D.tup [.int p.1, .int p.2]) (k := .zip) (srcs := [.plc 2, .plc 3]) (t := .tp [.nm 4, .nm 5]) (own := [4, 5]) (conds := []) (elt := .bi .min [.plc 4, .plc 5]) (xs := g.zip k)
    (ρ := [.sh (wD n ts), .sh (hD h), .sh (hD g), .sh (hD k), .no, .no]) (ρ1 := [.sh (wD n ts), .sh (hD h), .sh (hD g), .sh (hD k), .no, .no]) (os := [.plc 2, .plc 3]) (ds := [hD g, hD k]) (fun _ => true) (fun p => .int (if p.2 < p.1 then p.2 else p.1)) rfl rfl (by rw [← zip_map]; rfl) rfl (by simp [G.len, K.len]; omega) (fun x hx => ⟨[.sh (wD n ts), .sh (hD h), .sh (hD g), .sh (hD k), .sh (.int x.1), .sh (.int x.2)], rfl, rfl, fun _ => ⟨false, rfl⟩, rfl⟩)
  rw [filter_all] at c
  have e : (g.zip k).map (fun p => D.int (if p.2 < p.1 then p.2 else p.1)) = (lessT g k).map .int := by simp [lessT]
  rw [e] at c
  clear e
  rw [callF]
  simp only [tab, fn74, b74]
  clear T G K a b W
  infer_instance
theorem run_outcomes (j : Nat) (W : Web n ts) (hn : n ≤ 5) (T : Hts n h) : callF tab (j + 6) 63 [wD n ts, hD h] = some (true, .lst ((outsT n ts h).map hD), []) := by
  have a1 := run_need_start j W T
  have a2 := run_all_of (j + 1) W hn T
  rw [callF]
  simp only [tab, fn63, b63]
  infer_instance
/-! ### sums -/
theorem sumT_eq (h : List Int) : h.sum = sumT h := rfl
theorem sum_can (T : Hts n h) (c : Can n ts h p q) : (aft h p q).sum < h.sum := by
  have := sum_set h p (at_ h q) (by rw [T.len]; exact c.1)
  have := c.2.2
  show sumT (h.set p (at_ h q)) < sumT h
  omega
theorem sum_reach (W : Web n ts) (T : Hts n h) (r : Reach n ts h g) : g = h ∨ g.sum < h.sum := by
  induction r with
  | refl => exact .inl rfl
  | step r c ih =>
    have := sum_can (r.hts W T) c
    rcases ih with e | e
    · subst e; exact .inr this
    · exact .inr (by omega)
theorem max_ge : ∀ (l : List Int) (a : Int), a ≤ l.foldl max a ∧ ∀ x ∈ l, x ≤ l.foldl max a
  | [], a => ⟨Int.le_refl _, fun x hx => nomatch hx⟩
  | y :: l, a => by
    obtain ⟨i1, i2⟩ := max_ge l (max a y)
    rw [List.foldl_cons]
    refine ⟨by omega, fun x hx => ?_⟩
    rcases List.mem_cons.mp hx with rfl | hx
    · omega
    · exact i2 x hx
theorem maxS_ge {l : List (List Int)} {x : List Int} (hx : x ∈ l) : x.sum ≤ maxS l := by
  cases l with
  | nil => cases hx
  | cons h l =>
    obtain ⟨i1, i2⟩ := max_ge (l.map List.sum) h.sum
    rcases List.mem_cons.mp hx with rfl | hx
    · exact i1
    · exact i2 _ (List.mem_map.mpr ⟨x, hx, rfl⟩)
theorem top_sum {l : List (List Int)} {t : List Int} (e : (topsT l)[0]? = some t) : t.sum = maxS l := by
  have := List.mem_of_getElem? e
  exact of_decide_eq_true (List.mem_filter.mp this).2
/-- of all outcomes the greatest sum is that of the heights themselves -/
theorem top_self (W : Web n ts) (hn : n ≤ 5) (T : Hts n h) : topD (outsT n ts h) = hD h := by
  have m : h ∈ outsT n ts h := (mem_outs W hn T).mpr .refl
  obtain ⟨t, tm, e, e0⟩ := top_mem (l := outsT n ts h) (fun z => by rw [z] at m; cases m)
  have ts' := top_sum e0
  have ge := maxS_ge m
  rcases sum_reach W T ((mem_outs W hn T).mp tm) with q | q
  · rw [e, q]
  · omega
theorem both_self (W : Web n ts) : bothT n ts h h = outsT n ts h := by
  unfold bothT
  exact List.filter_eq_self.mpr fun x hx => decide_eq_true hx
/-! ### one part alone -/
theorem range_at (T : Hts n h) : (List.range n).map (at_ h) = h := by
  refine List.ext_getElem (by simp [T.len]) fun i h1 h2 => ?_
  simp [at_, List.getD_eq_getElem?_getD, h2]
theorem lows_one (W : Web n ts) (T : Hts n h) {c : List Nat} (hc : c ∈ partsT n ts (List.range n)) (len : c.length = n) {x : Int} {r : List Int} (e : h = x :: r) : ∀ i < n, at_ (lowsT n ts h) i = r.foldl min x := fun i hi => by
  obtain ⟨p, hp, rfl⟩ := partsF_mem _ _ c (fun q hq => List.mem_range.mp hq) hc
  have whole : comp n ts (fun q => decide (q ∈ List.range n)) p = List.range n := by
    have s : (comp n ts (fun q => decide (q ∈ List.range n)) p).Sublist (List.range n) := by unfold comp; exact List.filter_sublist
    exact s.eq_of_length (by rw [len, List.length_range])
  have ip : i ∈ comp n ts (allS n) p := by
    show i ∈ comp n ts (fun q => decide (q ∈ List.range n)) p
    rw [whole]
    exact List.mem_range.mpr hi
  have pn := List.mem_range.mp hp
  rw [lows_at W h hi, comp_same (allS_lt.mpr pn) ((mem_comp W pn).mp ip)]
  show minL h (comp n ts (fun q => decide (q ∈ List.range n)) p) = _
  rw [whole]
  have ra := range_at T
  subst e
  have nl : n = r.length + 1 := by rw [← T.len]; rfl
  subst nl
  rw [List.range_succ_eq_map] at ra ⊢
  rw [List.map_cons] at ra
  injection ra with r1 r2
  show ((List.map Nat.succ (List.range r.length)).map (at_ (x :: r))).foldl min (at_ (x :: r) 0) = _
  rw [r2, r1]
theorem one_meets (W : Web n ts) (hn : n ≤ 5) (T : Hts n h) {o : List Int} (O : Hts n o) {c : List Nat} (hc : c ∈ partsT n ts (List.range n)) (len : c.length = n) {x y : Int} {r s : List Int} (e : h = x :: r) (f : o = y :: s) (same : r.foldl min x = s.foldl min y) : bothT n ts h o ≠ [] := by
  refine (meet_iff W hn T O).mpr (at_ext (by rw [lowsT_len, lowsT_len]) fun i hi => ?_)
  rw [lowsT_len] at hi
  rw [lows_one W T hc len e i hi, lows_one W O hc len f i hi, same]
theorem both_len2 (W : Web n ts) (hn : n ≤ 5) (T : Hts n h) : (bothT n ts h g).length ≤ (outsT n ts h).length ∧ (bothT n ts h g).length ≤ (outsT n ts g).length :=
  ⟨List.length_filter_le _ _, sub_len _ _ ((nodup_up linH (outs_is W hn T).1).sublist List.filter_sublist) fun x hx => of_decide_eq_true (List.mem_filter.mp hx).2⟩
end
theorem cut_lst (l : List D) (i : Nat) : slcD (.lst l) none (some (i : Int)) = some (true, .lst (l.take i)) := by
  have h0 : ¬ (i : Int) < 0 := by omega
  have e : l.take (min i l.length) = l.take i := by
    by_cases c : i ≤ l.length
    · rw [Nat.min_eq_left c]
    · rw [Nat.min_eq_right (by omega), List.take_of_length_le (Nat.le_refl _), List.take_of_length_le (by omega)]
  simp [slcD, cutD, cutIx, h0, e]
end Lw
end

section
/-! L16: all heights among some, and which of them come to others. -/
namespace Lw
open PySem Ev
local macro_rules
  | `(tactic| infer_instance) => `(tactic| simp [finF, fullE, initE, outsE, evSs, evS, evE.eq_1, evE.eq_2, evE.eq_3, evE.eq_4, evE.eq_5, evE.eq_6, evE.eq_7, evE.eq_8, evE.eq_9, evE.eq_10, evE.eq_11, evE.eq_12, evE.eq_13, evE.eq_14, evE.eq_15, evE.eq_16, evE.eq_17, evE.eq_18, evE.eq_19, evE.eq_20, evE.eq_21, evE.eq_22, evE.eq_23, evE.eq_24, evE.eq_25, evL, evD, evC, parL, parS, toVal, toBl, toInt, rds, rd, getS, Sl.get, setS, putS, owS, isNop, itD, lockE, unlockE, unlockR, okD, flatD, flatDs, depD, depDs, isCol, isTup, isNon, bindT, bindTs, binD, addD, subD, modD, fdivD, cmpD, eqO, neO, eqD, eqDs, notinO, isO, isnotO, biD, isaB, isaD, lenB, tupleB, ioOk, ioPlaces, mutS, isMut, noTwice, backIo, turn, *])
/-- all rows of so many of some values -/
def allT (vs : List Int) : Nat → List (List Int)
  | 0 => [[]]
  | n + 1 => (allT vs n).flatMap fun t => vs.map fun v => t ++ [v]
theorem mem_all {vs : List Int} : ∀ {n : Nat} {x : List Int}, x ∈ allT vs n → x.length = n ∧ ∀ y ∈ x, y ∈ vs
  | 0, x, h => by
    rw [List.mem_singleton.mp h]
    exact ⟨rfl, fun y hy => nomatch hy⟩
  | n + 1, x, h => by
    obtain ⟨t, ht, m⟩ := List.mem_flatMap.mp h
    obtain ⟨v, hv, rfl⟩ := List.mem_map.mp m
    obtain ⟨h1, h2⟩ := mem_all ht
    refine ⟨by simp [h1], fun y hy => ?_⟩
    rcases List.mem_append.mp hy with hy | hy
    · exact h2 y hy
    · rw [List.mem_singleton.mp hy]; exact hv
theorem all_mem {vs : List Int} : ∀ {n : Nat} {x : List Int}, x.length = n → (∀ y ∈ x, y ∈ vs) → x ∈ allT vs n
  | 0, x, h, _ => by
    rw [List.eq_nil_of_length_eq_zero h]
    exact List.mem_singleton.mpr rfl
  | n + 1, x, h, hv => by
    rcases List.eq_nil_or_concat x with e | ⟨r, z, e⟩
    · subst e; simp at h
    · rw [List.concat_eq_append] at e
      subst e
      refine List.mem_flatMap.mpr ⟨r, all_mem (by simpa using h) fun y hy => hv y (List.mem_append_left _ hy), List.mem_map.mpr ⟨z, hv z (by simp), rfl⟩⟩
theorem all_len (vs : List Int) (hv : vs.length ≤ 4) : ∀ n, (allT vs n).length ≤ 4 ^ n
  | 0 => Nat.le_refl _
  | n + 1 => by
    have := flat_len (fun t => vs.map fun v => t ++ [v]) 4 (fun t => by simpa using hv) (allT vs n)
    have := all_len vs hv n
    rw [Nat.pow_succ]
    show ((allT vs n).flatMap _).length ≤ _
    omega
theorem pow4 : ∀ n, n ≤ 5 → 4 ^ n ≤ 1024
  | 0, _ => by decide
  | 1, _ => by decide
  | 2, _ => by decide
  | 3, _ => by decide
  | 4, _ => by decide
  | 5, _ => by decide
  | n + 6, h => by omega
theorem run_all_heights (k n : Nat) (h1 : 1 ≤ n) (hn : n ≤ 5) (vs : List Int) (hv : vs.length ≤ 4) : callF tab (k + 1) 66 [nI n, hD vs] = some (false, .lst ((allT vs n).map hD), []) := by
  have rg : rngOk 0 (n : Int) = true := rng_ok n (by omega)
  let B1 : List RS := [.ext 4 (.comp .seq [.plc 1] (.nm 6) [6] [] (.tup [true, false] [.plc 5, .var 6]))]
  let B : List RS := [.asg 4 (.lst [] []), .loop .seq [.plc 2] (.nm 5) B1, .asg 2 (.var 4)]
  obtain ⟨ρ', e, x2, x3, x4, x5, hx2, -, -, -, rfl⟩ := loop_on (e := nI) (t := .nm 3) (xs := List.range n) (body := evSs (callF tab k) B) (ρ := [.sh (nI n), .sh (hD vs), .ow (.lst [hD []]), .no, .no, .no, .no])
    (fun pre ρ => ∃ x2 x3 x4 x5, ((pre = [] ∧ x2 = .ow (.lst ((allT vs pre.length).map hD))) ∨ (pre ≠ [] ∧ x2 = .sh (.lst ((allT vs pre.length).map hD)))) ∧ isFree x3 = true ∧ isFree x4 = true ∧ isFree x5 = true ∧ ρ = [.sh (nI n), .sh (hD vs), x2, x3, x4, x5, .no])
    (fun pre q post hp ρ => by
      rintro ⟨x2, x3, x4, x5, hx2, f3, f4, f5, rfl⟩
      have hpl : pre.length < n := by
        have := congrArg List.length hp
        simp at this
        omega
      have al := all_len vs hv pre.length
      have al2 := pow4 pre.length (by omega)
      have x2' : x2 = .ow (.lst ((allT vs pre.length).map hD)) ∨ x2 = .sh (.lst ((allT vs pre.length).map hD)) := hx2.elim (fun z => .inl z.2) (fun z => .inr z.2)
      have step : allT vs (pre ++ [q]).length = (allT vs pre.length).flatMap fun t => vs.map fun v => t ++ [v] := by simp [allT]
      have wid : ∀ t ∈ allT vs pre.length, t.length ≤ 5 := fun t ht => by have := (mem_all ht).1; omega
      clear hx2
      generalize allT vs pre.length = A at *
      -- the lock of slot 2
      obtain ⟨l2, hl2, hu2⟩ : ∃ l2, lockE [.sh (nI n), .sh (hD vs), x2, .sh (nI q), .ow (.lst []), x5, .no] [.plc 2] = [.sh (nI n), .sh (hD vs), l2, .sh (nI q), .ow (.lst []), x5, .no] ∧ ∀ y4 y5 : Sl, unlockE [.sh (nI n), .sh (hD vs), x2, .sh (nI q), .ow (.lst []), x5, .no] [.sh (nI n), .sh (hD vs), l2, .sh (nI q), y4, y5, .no] [.plc 2] = [.sh (nI n), .sh (hD vs), x2, .sh (nI q), y4, y5, .no] := by
        rcases x2' with rfl | rfl
        · exact ⟨.lk (.lst (A.map hD)), by simp [lockE], fun y4 y5 => by simp [unlockE]⟩
        · exact ⟨.sh (.lst (A.map hD)), by simp [lockE], fun y4 y5 => by simp [unlockE]⟩
      obtain ⟨ρ2, e2, y5, f5', rfl⟩ := loop_on (e := hD) (t := .nm 5) (xs := A) (body := evSs (callF tab k) B1) (ρ := [.sh (nI n), .sh (hD vs), l2, .sh (nI q), .ow (.lst []), x5, .no])
        (fun pre2 ρ => ∃ x5, isFree x5 = true ∧ ρ = [.sh (nI n), .sh (hD vs), l2, .sh (nI q), .ow (.lst ((pre2.flatMap fun t => vs.map fun v => t ++ [v]).map hD)), x5, .no])
        (fun pre2 t post2 hp2 ρ => by
          rintro ⟨x5, f5, rfl⟩
          have hp2l : pre2.length ≤ A.length := by rw [hp2]; simp
          have tl := wid t (by rw [hp2]; simp)
          have gl := flat_len (fun t : List Int => vs.map fun v => t ++ [v]) 4 (fun t => by simpa using hv) pre2
          have c := comp_map (C := callF tab k) (e := D.int) (k := .seq) (srcs := [.plc 1]) (t := .nm 6) (own := [6]) (conds := []) (elt := .tup [true, false] [.plc 5, .var 6]) (xs := vs)
            (ρ := [.sh (nI n), .sh (hD vs), l2, .sh (nI q), .ow (.lst ((pre2.flatMap fun t => vs.map fun v => t ++ [v]).map hD)), .sh (hD t), .no]) (ρ1 := [.sh (nI n), .sh (hD vs), l2, .sh (nI q), .ow (.lst ((pre2.flatMap fun t => vs.map fun v => t ++ [v]).map hD)), .sh (hD t), .no]) (os := [.plc 1]) (ds := [hD vs]) (fun _ => true) (fun v => hD (t ++ [v])) rfl rfl rfl rfl (by omega) (fun v _ => by
              refine ⟨[.sh (nI n), .sh (hD vs), l2, .sh (nI q), .ow (.lst ((pre2.flatMap fun t => vs.map fun v => t ++ [v]).map hD)), .sh (hD t), .sh (.int v)], rfl, rfl, fun _ => ⟨false, ?_⟩, rfl⟩
              have z : t.length + 1 ≤ 16777216 := by omega
              generalize (pre2.flatMap fun t => vs.map fun v => t ++ [v]).map hD = M
              clear hp hp2 gl tl step wid x2' al al2 hl2 hu2 hv
              infer_instance)
          rw [filter_all] at c
          have e : vs.map (fun v => hD (t ++ [v])) = (vs.map fun v => t ++ [v]).map hD := by simp
          rw [e] at c
          refine ⟨[.sh (nI n), .sh (hD vs), l2, .sh (nI q), .ow (.lst (((pre2 ++ [t]).flatMap fun t => vs.map fun v => t ++ [v]).map hD)), .sh (hD t), .no], .inl ?_, .sh (hD t), rfl, rfl⟩
          rw [flatMap_snoc, List.map_append]
          have z : ((pre2.flatMap fun t => vs.map fun v => t ++ [v]).map hD).length + ((vs.map fun v => t ++ [v]).map hD).length ≤ 16777216 := by simp only [List.length_map]; omega
          generalize (pre2.flatMap fun t => vs.map fun v => t ++ [v]).map hD = M at *
          generalize (vs.map fun v => t ++ [v]).map hD = N at *
          clear hp hp2 gl tl step wid x2' al al2 hl2 hu2 hv e
          simp only [B1]
          infer_instance) ⟨x5, f5, rfl⟩
      refine ⟨[.sh (nI n), .sh (hD vs), .sh (.lst ((A.flatMap fun t => vs.map fun v => t ++ [v]).map hD)), .sh (nI q), .sh (.lst ((A.flatMap fun t => vs.map fun v => t ++ [v]).map hD)), y5, .no], .inl ?_, _, _, _, y5, .inr ⟨by simp, by rw [step]⟩, rfl, rfl, f5', rfl⟩
      have b : turn (.nm 3) (evSs (callF tab k) B) (nI q) [.sh (nI n), .sh (hD vs), x2, x3, x4, x5, .no] = evSs (callF tab k) B [.sh (nI n), .sh (hD vs), x2, .sh (nI q), x4, x5, .no] := by
        simp [turn, bindT, setS, f3]
      rw [b]
      refine seq_nx (ρ1 := [.sh (nI n), .sh (hD vs), x2, .sh (nI q), .ow (.lst []), x5, .no]) ?_ (seq_loop (os := [.plc 2]) (ds := [.lst (A.map hD)]) (ρ1 := [.sh (nI n), .sh (hD vs), x2, .sh (nI q), .ow (.lst []), x5, .no]) ?_ ?_ rfl (by rw [hl2]; exact e2) (seq_nx (ρ1 := [.sh (nI n), .sh (hD vs), .sh (.lst ((A.flatMap fun t => vs.map fun v => t ++ [v]).map hD)), .sh (nI q), .sh (.lst ((A.flatMap fun t => vs.map fun v => t ++ [v]).map hD)), y5, .no]) ?_ rfl))
      · clear e2 b hp step wid hl2 hu2
        infer_instance
      · clear e2 b hp step wid hl2 hu2
        rcases x2' with rfl | rfl <;> infer_instance
      · clear e2 b hp step wid hl2 hu2
        rcases x2' with rfl | rfl <;> infer_instance
      · rw [hu2]
        generalize (A.flatMap fun t => vs.map fun v => t ++ [v]).map hD = M at *
        clear e2 b hp step wid hl2 hu2
        rcases x2' with rfl | rfl <;> infer_instance) ⟨_, .no, .no, .no, .inl ⟨rfl, rfl⟩, rfl, rfl, rfl, rfl⟩
  rw [List.length_range] at hx2
  have x2e : x2 = .sh (.lst ((allT vs n).map hD)) := by
    rcases hx2 with ⟨z, -⟩ | ⟨-, z⟩
    · have := congrArg List.length z
      simp at this
      omega
    · exact z
  subst x2e
  refine run_def (ρ := [.sh (nI n), .sh (hD vs), .sh (.lst ((allT vs n).map hD)), x3, x4, x5, .no]) rfl rfl (seq_nx (ρ1 := [.sh (nI n), .sh (hD vs), .ow (.lst [hD []]), .no, .no, .no, .no]) ?_ (seq_loop (os := [.plc 0]) (ds := [nI n]) (ρ1 := [.sh (nI n), .sh (hD vs), .ow (.lst [hD []]), .no, .no, .no, .no]) rfl rfl (by simp only [itD, nI, rg, if_true, rng_nat]) e (seq_rt ?_))) rfl
  · clear e hx2
    simp only [fn66, fullE]
    infer_instance
  · clear e hx2
    generalize (allT vs n).map hD = M at *
    infer_instance
end Lw
end

section
/-! L17: which heights come to others, first heights, covers. -/
namespace Lw
open PySem Ev
local macro_rules
  | `(tactic| infer_instance) => `(tactic| simp [finF, fullE, initE, outsE, evSs, evS, evE.eq_1, evE.eq_2, evE.eq_3, evE.eq_4, evE.eq_5, evE.eq_6, evE.eq_7, evE.eq_8, evE.eq_9, evE.eq_10, evE.eq_11, evE.eq_12, evE.eq_13, evE.eq_14, evE.eq_15, evE.eq_16, evE.eq_17, evE.eq_18, evE.eq_19, evE.eq_20, evE.eq_21, evE.eq_22, evE.eq_23, evE.eq_24, evE.eq_25, evL, evD, evC, parL, parS, toVal, toBl, toInt, rds, rd, getS, Sl.get, setS, putS, owS, isNop, itD, lockE, unlockE, unlockR, okD, flatD, flatDs, depD, depDs, isCol, isTup, isNon, bindT, bindTs, binD, addD, subD, modD, fdivD, cmpD, eqO, neO, eqD, eqDs, notinO, isO, isnotO, biD, isaB, isaD, lenB, tupleB, ioOk, ioPlaces, mutS, isMut, noTwice, backIo, turn, *])
/-- values of heights that a law names -/
structure Vs (vs : List Int) : Prop where
  len : vs.length ≤ 4
  rng : ∀ x ∈ vs, -1 ≤ x ∧ x ≤ 3
  need : ∀ k, callF tab (k + 5) 65 [hD vs] = some (false, .non, [])
noncomputable def befT (n : Nat) (ts : List (Nat × Nat)) (vs g : List Int) : List (List Int) := (allT vs n).filter fun t => reachedT n ts t g
noncomputable def firstB (n : Nat) (ts : List (Nat × Nat)) (vs g : List Int) : Bool := (befT n ts vs g).all fun t => decide (t = g)
section
variable {n : Nat} {ts : List (Nat × Nat)} {h g vs : List Int} {p q : Nat}
theorem row_hts (V : Vs vs) (m : h ∈ allT vs n) : Hts n h := ⟨(mem_all m).1, fun x hx => by
  have := V.rng x ((mem_all m).2 x hx)
  omega⟩
theorem rows_len (V : Vs vs) (hn : n ≤ 5) : (allT vs n).length ≤ 1024 := Nat.le_trans (all_len vs V.len n) (pow4 n hn)
theorem bef_len (V : Vs vs) (hn : n ≤ 5) : (befT n ts vs g).length ≤ 1024 := Nat.le_trans (List.length_filter_le _ _) (rows_len V hn)
theorem run_befores_of (k : Nat) (W : Web n ts) (hn : n ≤ 5) (G : Hts n g) (V : Vs vs) : callF tab (k + 6) 67 [wD n ts, hD g, hD vs] = some (true, .lst ((befT n ts vs g).map hD), []) := by
  have a1 := run_all_heights (k + 4) n W.lo hn vs V.len
  have c := comp_map (C := callF tab (k + 5)) (e := hD) (k := .seq) (srcs := [.call 66 [false, false] [.ix (.plc 0) (.cst (.int 0)), .var 2]]) (t := .nm 3) (own := [3]) (conds := [.call 32 [false, false, false] [.var 0, .var 3, .var 1]]) (elt := .var 3) (xs := allT vs n)
    (ρ := [.sh (wD n ts), .sh (hD g), .sh (hD vs), .no]) (ρ1 := [.sh (wD n ts), .sh (hD g), .sh (hD vs), .no]) (os := [.val false (.lst ((allT vs n).map hD))]) (ds := [.lst ((allT vs n).map hD)]) (fun t => reachedT n ts t g) hD (by infer_instance) rfl rfl rfl (by have := rows_len (n := n) V hn; omega) (fun t ht => by
      have a := run_reached k W (row_hts V ht) G
      refine ⟨[.sh (wD n ts), .sh (hD g), .sh (hD vs), .sh (hD t)], rfl, ?_, fun _ => ⟨false, rfl⟩, rfl⟩
      clear ht a1 G V W
      generalize reachedT n ts t g = b at *
      cases b <;> infer_instance)
  replace c : evE (callF tab (k + 5)) _ _ = some (OV.val true (.lst ((befT n ts vs g).map hD)), _) := c
  rw [callF]
  simp only [tab, fn67, b67]
  clear a1
  infer_instance
theorem run_need_before (k : Nat) (W : Web n ts) (hn : n ≤ 5) (G : Hts n g) (V : Vs vs) : callF tab (k + 6) 68 [wD n ts, hD g, hD vs] = some (false, .non, []) := by
  have a1 := run_need_web (k + 1) n ts W
  have a2 := run_need_heights (k + 1) n ts g G
  have a3 := V.need k
  have no : ¬ (5 : Int) < n := by omega
  rw [callF]
  simp only [tab, fn68, b68]
  clear G hn
  infer_instance
theorem run_befores (k : Nat) (W : Web n ts) (hn : n ≤ 5) (G : Hts n g) (V : Vs vs) : callF tab (k + 7) 69 [wD n ts, hD g, hD vs] = some (true, .lst ((befT n ts vs g).map hD), []) := by
  have a1 := run_need_before k W hn G V
  have a2 := run_befores_of k W hn G V
  rw [callF]
  simp only [tab, fn69, b69]
  infer_instance
theorem run_is_first (k : Nat) (W : Web n ts) (hn : n ≤ 5) (G : Hts n g) (V : Vs vs) : callF tab (k + 7) 70 [wD n ts, hD g, hD vs] = some (false, .bl (firstB n ts vs g), []) := by
  have a1 := run_need_before k W hn G V
  have a2 := run_befores_of k W hn G V
  have c := comp_map (C := callF tab (k + 6)) (e := hD) (k := .seq) (srcs := [.call 67 [false, false, false] [.var 0, .var 1, .var 2]]) (t := .nm 3) (own := [3]) (conds := []) (elt := .cmp .eq (.plc 3) (.plc 1)) (xs := befT n ts vs g)
    (ρ := [.sh (wD n ts), .sh (hD g), .sh (hD vs), .no]) (ρ1 := [.sh (wD n ts), .sh (hD g), .sh (hD vs), .no]) (os := [.val true (.lst ((befT n ts vs g).map hD))]) (ds := [.lst ((befT n ts vs g).map hD)]) (fun _ => true) (fun t => .bl (decide (t = g))) (by clear a1; infer_instance) rfl rfl rfl (by have := bef_len (ts := ts) (g := g) V hn; omega) (fun t ht => by
      have e : eqDs (t.map .int) (g.map .int) = decide (t = g) := encI.eqs _ _
      refine ⟨[.sh (wD n ts), .sh (hD g), .sh (hD vs), .sh (hD t)], rfl, rfl, fun _ => ⟨false, ?_⟩, rfl⟩
      clear ht a1 a2 G V W
      infer_instance)
  rw [filter_all] at c
  have a := all_map (befT n ts vs g) fun t => decide (t = g)
  have e : (befT n ts vs g).all (fun t => decide (t = g)) = firstB n ts vs g := rfl
  rw [e] at a
  clear e
  rw [callF]
  simp only [tab, fn70, b70]
  clear a2
  infer_instance
theorem run_count_firsts (k : Nat) (W : Web n ts) (hn : n ≤ 5) (V : Vs vs) : callF tab (k + 7) 71 [wD n ts, hD vs] = some (false, nI ((allT vs n).filter (firstB n ts vs)).length, []) := by
  have a1 := run_need_web (k + 2) n ts W
  have a2 := V.need (k + 1)
  have a3 := run_all_heights (k + 5) n W.lo hn vs V.len
  have no : ¬ (5 : Int) < n := by omega
  let B : List RS := [.ifs (.bi .all [.comp .seq [.call 67 [false, false, false] [.var 0, .var 3, .var 1]] (.nm 4) [4] [] (.cmp .eq (.plc 4) (.plc 3))]) [.aug 2 .add (.cst (.int 1))] []]
  obtain ⟨ρ', e, x3, -, rfl⟩ := loop_on (e := hD) (t := .nm 3) (xs := allT vs n) (body := evSs (callF tab (k + 6)) B) (ρ := [.sh (wD n ts), .sh (hD vs), .sh (nI 0), .no, .no])
    (fun pre ρ => ∃ x3, isFree x3 = true ∧ ρ = [.sh (wD n ts), .sh (hD vs), .sh (nI (pre.filter (firstB n ts vs)).length), x3, .no])
    (fun pre x post hp ρ => by
      rintro ⟨x3, f3, rfl⟩
      have X := row_hts (n := n) V (show x ∈ allT vs n by rw [hp]; simp)
      have b2 := run_befores_of k W hn X V
      generalize hc : (pre.filter (firstB n ts vs)).length = m
      have c := comp_map (C := callF tab (k + 6)) (e := hD) (k := .seq) (srcs := [.call 67 [false, false, false] [.var 0, .var 3, .var 1]]) (t := .nm 4) (own := [4]) (conds := []) (elt := .cmp .eq (.plc 4) (.plc 3)) (xs := befT n ts vs x)
        (ρ := [.sh (wD n ts), .sh (hD vs), .sh (nI m), .sh (hD x), .no]) (ρ1 := [.sh (wD n ts), .sh (hD vs), .sh (nI m), .sh (hD x), .no]) (os := [.val true (.lst ((befT n ts vs x).map hD))]) (ds := [.lst ((befT n ts vs x).map hD)]) (fun _ => true) (fun t => .bl (decide (t = x))) (by clear a1 a2 a3 hp; infer_instance) rfl rfl rfl (by have := bef_len (ts := ts) (g := x) V hn; omega) (fun t ht => by
          have e : eqDs (t.map .int) (x.map .int) = decide (t = x) := encI.eqs _ _
          refine ⟨[.sh (wD n ts), .sh (hD vs), .sh (nI m), .sh (hD x), .sh (hD t)], rfl, rfl, fun _ => ⟨false, ?_⟩, rfl⟩
          clear ht a1 a2 a3 b2 X V W hp
          infer_instance)
      rw [filter_all] at c
      have a := all_map (befT n ts vs x) fun t => decide (t = x)
      have e : (befT n ts vs x).all (fun t => decide (t = x)) = firstB n ts vs x := rfl
      rw [e] at a
      clear e
      cases q : firstB n ts vs x with
      | true =>
        have fl : ((pre ++ [x]).filter (firstB n ts vs)).length = m + 1 := by rw [List.filter_append]; simp [q, hc]
        rw [q] at a
        refine ⟨[.sh (wD n ts), .sh (hD vs), .sh (nI (m + 1)), .sh (hD x), .no], .inl ?_, .sh (hD x), rfl, by rw [fl]⟩
        clear b2 hp X V W a1 a2 a3 no hc fl q
        simp only [B]
        infer_instance
      | false =>
        have fl : ((pre ++ [x]).filter (firstB n ts vs)).length = m := by rw [List.filter_append]; simp [q, hc]
        rw [q] at a
        refine ⟨[.sh (wD n ts), .sh (hD vs), .sh (nI m), .sh (hD x), .no], .inl ?_, .sh (hD x), rfl, by rw [fl]⟩
        clear b2 hp X V W a1 a2 a3 no hc fl q
        simp only [B]
        infer_instance) ⟨.no, rfl, rfl⟩
  refine run_def (ρ := [.sh (wD n ts), .sh (hD vs), .sh (nI ((allT vs n).filter (firstB n ts vs)).length), x3, .no]) rfl rfl (seq_take 4 (ρ1 := [.sh (wD n ts), .sh (hD vs), .sh (nI 0), .no, .no]) ?_ (seq_loop (os := [.val false (.lst ((allT vs n).map hD))]) (ds := [.lst ((allT vs n).map hD)]) (ρ1 := [.sh (wD n ts), .sh (hD vs), .sh (nI 0), .no, .no]) ?_ rfl rfl e (seq_rt ?_))) rfl
  · clear e a3 V hn
    simp only [fn71, b71, fullE]
    infer_instance
  · clear e a1 a2 V hn
    infer_instance
  · clear e a1 a2 a3 V hn
    infer_instance
theorem run_highest_before (k : Nat) (W : Web n ts) (hn : n ≤ 5) (G : Hts n g) (V : Vs vs) (ne : befT n ts vs g ≠ []) : callF tab (k + 7) 72 [wD n ts, hD g, hD vs] = some (false, topD (befT n ts vs g), []) := by
  have a1 := run_need_before k W hn G V
  have a3 := run_befores_of k W hn G V
  have len := bef_len (ts := ts) (g := g) V hn
  generalize befT n ts vs g = l at *
  have cm : eqDs (l.map hD) [] = decide (l = []) := encH.eqs _ []
  have fl : flatDs (l.map hD) = true := encH.flats _
  have dp : depDs (l.map hD) ≤ 63 := Nat.le_trans (depH.deps _) (by omega)
  rw [decide_eq_false ne] at cm
  have c1 := comp_map (C := callF tab (k + 6)) (e := hD) (k := .seq) (srcs := [.plc 3]) (t := .nm 5) (own := [5]) (conds := []) (elt := .bi .sum [.plc 5]) (xs := l)
    (ρ := [.sh (wD n ts), .sh (hD g), .sh (hD vs), .ow (.lst (l.map hD)), .no, .no]) (ρ1 := [.sh (wD n ts), .sh (hD g), .sh (hD vs), .ow (.lst (l.map hD)), .no, .no]) (os := [.plc 3]) (ds := [.lst (l.map hD)]) (fun _ => true) (fun k => .int k.sum) rfl rfl rfl rfl (by omega) (fun x hx => by
      have s := sum_h x
      refine ⟨[.sh (wD n ts), .sh (hD g), .sh (hD vs), .lk (.lst (l.map hD)), .no, .sh (hD x)], rfl, rfl, fun _ => ⟨false, ?_⟩, rfl⟩
      clear a1 a3 hx G cm fl dp V W ne
      infer_instance)
  rw [filter_all] at c1
  have mx := max_h l ne
  have c2 := comp_map (C := callF tab (k + 6)) (e := hD) (k := .seq) (srcs := [.plc 3]) (t := .nm 5) (own := [5]) (conds := [.cmp .eq (.bi .sum [.plc 5]) (.plc 4)]) (elt := .var 5) (xs := l)
    (ρ := [.sh (wD n ts), .sh (hD g), .sh (hD vs), .ow (.lst (l.map hD)), .sh (.int (maxS l)), .no]) (ρ1 := [.sh (wD n ts), .sh (hD g), .sh (hD vs), .ow (.lst (l.map hD)), .sh (.int (maxS l)), .no]) (os := [.plc 3]) (ds := [.lst (l.map hD)]) (fun k => decide (k.sum = maxS l)) hD rfl rfl rfl rfl (by omega) (fun x hx => by
      have s := sum_h x
      refine ⟨[.sh (wD n ts), .sh (hD g), .sh (hD vs), .lk (.lst (l.map hD)), .sh (.int (maxS l)), .sh (hD x)], rfl, ?_, fun _ => ⟨false, rfl⟩, rfl⟩
      clear a1 a3 hx G cm fl dp c1 mx V W ne
      by_cases z : x.sum = maxS l
      · infer_instance
      · have z' : (x.sum == maxS l) = false := by simpa using z
        infer_instance)
  replace c2 : evE (callF tab (k + 6)) _ _ = some (OV.val true (.lst ((topsT l).map hD)), _) := c2
  obtain ⟨t, -, e, e0⟩ := top_mem ne
  rw [e]
  have e0' : ((topsT l).map hD)[0]? = some (hD t) := by rw [List.getElem?_map, e0]; rfl
  rw [callF]
  simp only [tab, fn72, b72]
  clear G W V e ne
  infer_instance
end
theorem need0 (k : Nat) : callF tab (k + 5) 65 [hD [0]] = some (false, .non, []) := rfl
theorem need1 (k : Nat) : callF tab (k + 5) 65 [hD [0, 1]] = some (false, .non, []) := rfl
theorem need2 (k : Nat) : callF tab (k + 5) 65 [hD [0, 1, 2]] = some (false, .non, []) := rfl
theorem vs_cut (v : Nat) (h : v < 3) : Vs (([0, 1, 2] : List Int).take (1 + v)) ∧ (0 : Int) ∈ ([0, 1, 2] : List Int).take (1 + v) ∧ ∀ x ∈ ([0, 1, 2] : List Int).take (1 + v), 0 ≤ x ∧ x ≤ 2 := by
  have c : v = 0 ∨ v = 1 ∨ v = 2 := by omega
  rcases c with rfl | rfl | rfl
  · exact ⟨⟨by decide, by decide, need0⟩, by decide, by decide⟩
  · exact ⟨⟨by decide, by decide, need1⟩, by decide, by decide⟩
  · exact ⟨⟨by decide, by decide, need2⟩, by decide, by decide⟩
end Lw
end

section
/-! L18: sorted(set(x)); values that a law draws; which heights come to a goal. -/
namespace Lw
open PySem Ev
local macro_rules
  | `(tactic| infer_instance) => `(tactic| simp [finF, fullE, initE, outsE, evSs, evS, evE.eq_1, evE.eq_2, evE.eq_3, evE.eq_4, evE.eq_5, evE.eq_6, evE.eq_7, evE.eq_8, evE.eq_9, evE.eq_10, evE.eq_11, evE.eq_12, evE.eq_13, evE.eq_14, evE.eq_15, evE.eq_16, evE.eq_17, evE.eq_18, evE.eq_19, evE.eq_20, evE.eq_21, evE.eq_22, evE.eq_23, evE.eq_24, evE.eq_25, evL, evD, evC, parL, parS, toVal, toBl, toInt, rds, rd, getS, Sl.get, setS, putS, owS, isNop, itD, lockE, unlockE, unlockR, okD, flatD, flatDs, depD, depDs, isCol, isTup, isNon, bindT, bindTs, binD, addD, subD, modD, fdivD, cmpD, eqO, neO, eqD, eqDs, notinO, isO, isnotO, biD, isaB, isaD, lenB, tupleB, ioOk, ioPlaces, mutS, isMut, noTwice, backIo, turn, *])
theorem ddup_len {α : Type} [DecidableEq α] : ∀ l : List α, (ddup l).length ≤ l.length
  | [] => Nat.le_refl _
  | x :: l => by
    have := ddup_len l
    unfold ddup
    split <;> simp <;> omega
/-- each whole number once, rising -/
def upI (l : List Int) : List Int := sortT ltI (ddup l)
theorem upI_asc (l : List Int) : (upI l).Pairwise fun a b => ltI a b = true := sort_asc linI (ddup_once l)
theorem mem_upI {l : List Int} {x : Int} : x ∈ upI l ↔ x ∈ l := mem_sortT.trans ddup_mem
theorem upI_len (l : List Int) : (upI l).length ≤ l.length := by
  unfold upI
  rw [length_sortT]
  exact ddup_len l
theorem sset_i {l : List Int} (h : l.length < 4000) : ssetI l = some ((upI l).map .int) := by
  have z := ddup_len l
  unfold ssetI
  rw [if_pos ⟨h, can_sort encI depI (by omega) (.inr fun _ => rfl) (by omega)⟩, sortBy_map ordI]
  rfl
theorem sset_l {l : List Int} (h : l.length < 4000) : ssetB [.lst (l.map .int)] = some (true, .lst ((upI l).map .int)) := by
  simp only [ssetB, ints_map, sset_i h, Option.map_some]
theorem sset_t {l : List Int} (h : l.length < 4000) : ssetB [hD l] = some (true, .lst ((upI l).map .int)) := by
  simp only [ssetB, ints_map, sset_i h, Option.map_some]
theorem tup_i (l : List Int) : tupleB [.lst (l.map .int)] = some (false, hD l) := rfl
theorem run_need_values (k : Nat) {vs : List Int} (ne : vs ≠ []) (few : vs.length ≤ 4) (r : ∀ x ∈ vs, -1000 ≤ x ∧ x ≤ 1000) (up : vs.Pairwise fun a b => ltI a b = true) : callF tab (k + 5) 65 [hD vs] = some (false, .non, []) := by
  have c1 := comp_map (C := callF tab (k + 4)) (e := D.int) (k := .seq) (srcs := [.plc 0]) (t := .nm 1) (own := [1]) (conds := []) (elt := .call 2 [false] [.var 1]) (xs := vs) (ρ := [.sh (hD vs), .no, .no, .no]) (ρ1 := [.sh (hD vs), .no, .no, .no]) (os := [.plc 0]) (ds := [hD vs])
    (fun _ => true) (fun x => .bl (decide (-1000 ≤ x) && decide (x ≤ 1000))) rfl rfl rfl rfl (by omega) (fun x hx => by
      have a := run_is_height (k + 1) x
      refine ⟨[.sh (hD vs), .sh (.int x), .no, .no], rfl, rfl, fun _ => ⟨false, ?_⟩, rfl⟩
      clear r hx up ne
      infer_instance)
  rw [filter_all] at c1
  have a1 := all_map vs fun x => decide (-1000 ≤ x) && decide (x ≤ 1000)
  have t1 : vs.all (fun x => decide (-1000 ≤ x) && decide (x ≤ 1000)) = true := List.all_eq_true.mpr fun x hx => by simp [r x hx]
  rw [t1] at a1
  have hc := cut_tail (vs.map .int)
  rw [tail_map] at hc
  have lt := List.length_tail (l := vs)
  have c2 := comp_map (C := callF tab (k + 4)) (e := fun p : Int × Int => D.tup [.int p.1, .int p.2]) (k := .zip) (srcs := [.plc 0, .slc (.plc 0) (.cst (.int 1)) .nop]) (t := .tp [.nm 2, .nm 3]) (own := [2, 3]) (conds := []) (elt := .cmp .ge (.plc 2) (.plc 3)) (xs := vs.zip vs.tail)
    (ρ := [.sh (hD vs), .no, .no, .no]) (ρ1 := [.sh (hD vs), .no, .no, .no]) (os := [.plc 0, .val false (hD vs.tail)]) (ds := [hD vs, hD vs.tail])
    (fun _ => true) (fun p => .bl (decide (p.2 ≤ p.1))) (by clear c1 r up ne a1; infer_instance) rfl (by simp only [itD, zip_map]) rfl (by simp; omega) (fun p hp => by
      refine ⟨[.sh (hD vs), .no, .sh (.int p.1), .sh (.int p.2)], rfl, rfl, fun _ => ⟨false, ?_⟩, rfl⟩
      clear r hp up ne c1 a1 hc
      infer_instance)
  rw [filter_all] at c2
  have a2 := any_map (vs.zip vs.tail) fun p => decide (p.2 ≤ p.1)
  have t2 : (vs.zip vs.tail).any (fun p => decide (p.2 ≤ p.1)) = false := by
    have go : ∀ l : List Int, (l.Pairwise fun a b => ltI a b = true) → ∀ p ∈ l.zip l.tail, p.1 < p.2 := by
      intro l
      induction l with
      | nil => intro _ p hp; simp at hp
      | cons x l ih =>
        intro h p hp
        cases l with
        | nil => simp at hp
        | cons y l =>
          have h' := List.pairwise_cons.mp h
          rcases List.mem_cons.mp hp with e | hp
          · rw [e]; exact of_decide_eq_true (h'.1 y List.mem_cons_self)
          · exact ih h'.2 p hp
    rw [List.any_eq_false]
    intro p hp
    have := go vs up p hp
    simp only [decide_eq_true_eq]
    omega
  rw [t2] at a2
  have l1 : (1 : Int) ≤ vs.length := by
    have := List.length_pos_iff.mpr ne
    omega
  have l4 : (vs.length : Int) ≤ 4 := by omega
  rw [callF]
  simp only [tab, fn65, b65]
  clear r up ne few t1 t2
  infer_instance
section
variable {n : Nat} {ts : List (Nat × Nat)} {h g vs : List Int} {p q : Nat}
theorem run_count_befores (k : Nat) (W : Web n ts) (hn : n ≤ 5) (G : Hts n g) (V : Vs vs) : callF tab (k + 7) 76 [wD n ts, hD g, hD vs] = some (false, nI (befT n ts vs g).length, []) := by
  have a1 := run_need_before k W hn G V
  have a2 := run_befores_of k W hn G V
  rw [callF]
  simp only [tab, fn76, b76]
  infer_instance
/-- where two are unlike -/
def unlT (n : Nat) (h g : List Int) : List Nat := (List.range n).filter fun p => !decide (at_ h p = at_ g p)
noncomputable def nearT (n : Nat) (ts : List (Nat × Nat)) (vs g : List Int) : List (List Int) := (allT vs n).filter fun t => decide ((unlT n t g).length = 1) && reachedT n ts t g
theorem run_steps_before (k : Nat) (W : Web n ts) (hn : n ≤ 5) (G : Hts n g) (V : Vs vs) : callF tab (k + 7) 77 [wD n ts, hD g, hD vs] = some (true, .lst ((nearT n ts vs g).map hD), []) := by
  have a1 := run_need_before k W hn G V
  have a3 := run_all_heights (k + 5) n W.lo hn vs V.len
  have al := rows_len (n := n) V hn
  let B : List RS := [.asg 5 (.comp .seq [.call 13 [false] [.var 0]] (.nm 6) [6] [.cmp .ne (.ix (.plc 4) (.plc 6)) (.ix (.plc 1) (.plc 6))] (.var 6)), .ifs (.and (.cmp .eq (.bi .len [.plc 5]) (.cst (.int 1))) (.call 32 [false, false, false] [.var 0, .var 4, .var 1])) [.app 3 (.var 4)] []]
  let E := fun (F : List (List Int)) (x4 x5 x6 : Sl) => ([.sh (wD n ts), .sh (hD g), .sh (hD vs), .ow (.lst (F.map hD)), x4, x5, x6] : Ev.Env)
  let f := fun t => decide ((unlT n t g).length = 1) && reachedT n ts t g
  obtain ⟨ρ', e, x4, x5, x6, -, -, -, rfl⟩ := loop_on (e := hD) (t := .nm 4) (xs := allT vs n) (body := evSs (callF tab (k + 6)) B) (ρ := E [] .no .no .no)
    (fun pre ρ => ∃ x4 x5 x6, isFree x4 = true ∧ isFree x5 = true ∧ (isFree x6 = true ∧ isOwn x6 = false) ∧ ρ = E (pre.filter f) x4 x5 x6)
    (fun pre x post hp ρ => by
      rintro ⟨x4, x5, x6, f4, f5, ⟨f6, o6⟩, rfl⟩
      have X := row_hts (n := n) V (show x ∈ allT vs n by rw [hp]; simp)
      have pl : pre.length < 16777216 := by
        have := congrArg List.length hp
        simp at this
        omega
      have fl : (pre.filter f).length < 16777216 := Nat.lt_of_le_of_lt (List.length_filter_le _ _) pl
      have b1 := run_everybody (k + 5) n ts W.hi
      have b2 := run_reached (k + 1) W X G
      have c := comp_map (C := callF tab (k + 6)) (e := nI) (k := .seq) (srcs := [.call 13 [false] [.var 0]]) (t := .nm 6) (own := [6]) (conds := [.cmp .ne (.ix (.plc 4) (.plc 6)) (.ix (.plc 1) (.plc 6))]) (elt := .var 6) (xs := List.range n)
        (ρ := E (pre.filter f) (.sh (hD x)) x5 x6) (ρ1 := E (pre.filter f) (.sh (hD x)) x5 x6) (os := [.val false (pD (List.range n))]) (ds := [pD (List.range n)]) (fun q => !decide (at_ x q = at_ g q)) nI (by clear G X a1 a3 hp; simp only [E]; infer_instance) rfl rfl (by simp [E, ownS, o6]) (by simp; omega) (fun q hq => by
          have hq := List.mem_range.mp hq
          have e1 := h_at X hq
          have e2 := h_at G hq
          refine ⟨E (pre.filter f) (.sh (hD x)) x5 (.sh (nI q)), by simp [E, wipeE, lockE, bindT, setS], ?_, fun _ => ⟨false, rfl⟩, by simp [E, wipeE, lockE]⟩
          clear hq G X a1 a3 b1 b2 hp pl fl V W hn
          simp only [E]
          generalize (pre.filter f).map hD = M
          by_cases z : at_ x q = at_ g q
          · infer_instance
          · have z' : (at_ x q == at_ g q) = false := by simpa using z
            infer_instance)
      replace c : evE (callF tab (k + 6)) _ _ = some (OV.val true (.lst ((unlT n x g).map nI)), _) := c
      have fe : (pre ++ [x]).filter f = pre.filter f ++ if f x = true then [x] else [] := by rw [List.filter_append]; by_cases z : f x = true <;> simp [z]
      rw [fe]
      have fx : f x = (decide ((unlT n x g).length = 1) && reachedT n ts x g) := rfl
      generalize unlT n x g = U at *
      generalize f x = b at *
      refine ⟨E (pre.filter f ++ if b = true then [x] else []) (.sh (hD x)) (.ow (.lst (U.map nI))) x6, .inl ?_, _, _, x6, rfl, rfl, ⟨f6, o6⟩, rfl⟩
      generalize pre.filter f = F at *
      clear X G hp a1 a3 fe pl b1 V W
      simp only [E, B] at c ⊢
      by_cases z : U.length = 1
      · rw [decide_eq_true z, Bool.true_and] at fx
        have z' : (U.length : Int) = 1 := by omega
        rw [← fx] at b2
        clear z fx
        cases b <;> infer_instance
      · rw [decide_eq_false z, Bool.false_and] at fx
        have z' : ((U.length : Int) == 1) = false := by
          have : ¬ (U.length : Int) = 1 := by omega
          simpa using this
        subst fx
        clear z
        infer_instance) ⟨.no, .no, .no, rfl, rfl, ⟨rfl, rfl⟩, rfl⟩
  replace e : forLoop _ _ _ _ = some (.nx (E (nearT n ts vs g) x4 x5 x6)) := e
  refine run_def (ρ := [.sh (wD n ts), .sh (hD g), .sh (hD vs), .no, x4, x5, x6]) rfl rfl (seq_take 2 (ρ1 := E [] .no .no .no) ?_ (seq_loop (os := [.val false (.lst ((allT vs n).map hD))]) (ds := [.lst ((allT vs n).map hD)]) (ρ1 := E [] .no .no .no) ?_ rfl rfl e (seq_rt ?_))) rfl
  · clear e a3 V G hn
    simp only [fn77, b77, fullE, E]
    infer_instance
  · clear e a1 V G hn
    simp only [E]
    infer_instance
  · clear e a1 a3 V G hn
    simp only [E]
    infer_instance
theorem run_could_be (k : Nat) (W : Web n ts) (hn : n ≤ 5) (G : Hts n g) (V : Vs vs) (hp : p < n) : callF tab (k + 7) 78 [wD n ts, hD g, nI p, hD vs] = some (false, hD (upI ((befT n ts vs g).map fun t => at_ t p)), []) := by
  have a1 := run_need_web (k + 2) n ts W
  have a2 := run_need_heights (k + 2) n ts g G
  have a3 := run_need_person (k + 3) n ts p hp
  have a4 := V.need (k + 1)
  have a5 := run_befores_of k W hn G V
  have len := bef_len (ts := ts) (g := g) V hn
  have no : ¬ (5 : Int) < n := by omega
  have c := comp_map (C := callF tab (k + 6)) (e := hD) (k := .seq) (srcs := [.call 67 [false, false, false] [.var 0, .var 1, .var 3]]) (t := .nm 4) (own := [4]) (conds := []) (elt := .ix (.plc 4) (.plc 2)) (xs := befT n ts vs g)
    (ρ := [.sh (wD n ts), .sh (hD g), .sh (nI p), .sh (hD vs), .no]) (ρ1 := [.sh (wD n ts), .sh (hD g), .sh (nI p), .sh (hD vs), .no]) (os := [.val true (.lst ((befT n ts vs g).map hD))]) (ds := [.lst ((befT n ts vs g).map hD)]) (fun _ => true) (fun t => .int (at_ t p)) (by clear a1 a2 a3 a4 G hn; infer_instance) rfl rfl rfl (by omega) (fun t ht => by
      have e := h_at (row_hts V (List.mem_filter.mp ht).1) hp
      refine ⟨[.sh (wD n ts), .sh (hD g), .sh (nI p), .sh (hD vs), .sh (hD t)], rfl, rfl, fun _ => ⟨false, ?_⟩, rfl⟩
      clear ht a1 a2 a3 a4 a5 G V W hp
      infer_instance)
  rw [filter_all] at c
  have me : (befT n ts vs g).map (fun t => D.int (at_ t p)) = ((befT n ts vs g).map fun t => at_ t p).map .int := by simp
  rw [me] at c
  have s := sset_l (l := (befT n ts vs g).map fun t => at_ t p) (by simp; omega)
  generalize (befT n ts vs g).map (fun t => at_ t p) = l at *
  rw [callF]
  simp only [tab, fn78, b78]
  clear a5 me G V W hn len
  infer_instance
end
end Lw
end

section
/-! R10: the run of the law of befores. -/
namespace Lw
open PySem Ev
local macro_rules
  | `(tactic| infer_instance) => `(tactic| simp [finF, fullE, initE, outsE, evSs, evS, evE.eq_1, evE.eq_2, evE.eq_3, evE.eq_4, evE.eq_5, evE.eq_6, evE.eq_7, evE.eq_8, evE.eq_9, evE.eq_10, evE.eq_11, evE.eq_12, evE.eq_13, evE.eq_14, evE.eq_15, evE.eq_16, evE.eq_17, evE.eq_18, evE.eq_19, evE.eq_20, evE.eq_21, evE.eq_22, evE.eq_23, evE.eq_24, evE.eq_25, evL, evD, evC, parL, parS, toVal, toBl, toInt, rds, rd, getS, Sl.get, setS, putS, owS, isNop, itD, lockE, unlockE, unlockR, okD, flatD, flatDs, depD, depDs, isCol, isTup, isNon, bindT, bindTs, binD, addD, subD, modD, fdivD, cmpD, eqO, neO, eqD, eqDs, notinO, isO, isnotO, biD, isaB, isaD, lenB, tupleB, ioOk, ioPlaces, mutS, isMut, noTwice, backIo, turn, *])
/-- the law makes the same rows -/
theorem law_rows10 (k n : Nat) (h1 : 1 ≤ n) (hn : n ≤ 5) (vs : List Int) (hv : vs.length ≤ 4) (sc row ww : Sl) :
    ∃ ρ', forLoop (.nm 6) (evSs (callF tab k) [.asg 15 (.lst [] []), .loop .seq [.plc 5] (.nm 12) [.asg 15 (.bin .add (.plc 15) (.comp .seq [.plc 4] (.nm 16) [16] [] (.bin .add (.plc 12) (.tup [false] [.var 16]))))], .asg 5 (.var 15)]) ((List.range n).map nI) ([sc, row, ww, .sh (nI n), .sh (hD vs), .ow (.lst [hD []]), .no, .no, .no, .no, .no, .no, .no, .no, .no, .no, .no, .no, .no] : Ev.Env) = some (.nx ρ') ∧
      ∃ x4 x6 x13, isFree x4 = true ∧ (isFree x6 = true ∧ isOwn x6 = false) ∧ isFree x13 = true ∧ ρ' = [sc, row, ww, .sh (nI n), .sh (hD vs), .sh (.lst ((allT vs n).map hD)), x4, .no, .no, .no, .no, .no, x6, .no, .no, x13, .no, .no, .no] := by
  let B1 : List RS := [.asg 15 (.bin .add (.plc 15) (.comp .seq [.plc 4] (.nm 16) [16] [] (.bin .add (.plc 12) (.tup [false] [.var 16]))))]
  let B : List RS := [.asg 15 (.lst [] []), .loop .seq [.plc 5] (.nm 12) B1, .asg 5 (.var 15)]
  let E := fun (x3 x4 x6 x13 : Sl) => ([sc, row, ww, .sh (nI n), .sh (hD vs), x3, x4, .no, .no, .no, .no, .no, x6, .no, .no, x13, .no, .no, .no] : Ev.Env)
  obtain ⟨ρ', e, x3, x4, x6, x13, hx3, f4, f6, f13, rfl⟩ := loop_on (e := nI) (t := .nm 6) (xs := List.range n) (body := evSs (callF tab k) B) (ρ := E (.ow (.lst [hD []])) .no .no .no)
    (fun pre ρ => ∃ x3 x4 x6 x13, ((pre = [] ∧ x3 = .ow (.lst ((allT vs pre.length).map hD))) ∨ (pre ≠ [] ∧ x3 = .sh (.lst ((allT vs pre.length).map hD)))) ∧ isFree x4 = true ∧ (isFree x6 = true ∧ isOwn x6 = false) ∧ isFree x13 = true ∧ ρ = E x3 x4 x6 x13)
    (fun pre q post hp ρ => by
      rintro ⟨x3, x4, x6, x13, hx3, f4, ⟨f6, o6⟩, f13, rfl⟩
      have hpl : pre.length < n := by
        have := congrArg List.length hp
        simp at this
        omega
      have al := all_len vs hv pre.length
      have al2 := pow4 pre.length (by omega)
      have x3' : x3 = .ow (.lst ((allT vs pre.length).map hD)) ∨ x3 = .sh (.lst ((allT vs pre.length).map hD)) := hx3.elim (fun z => .inl z.2) (fun z => .inr z.2)
      have step : allT vs (pre ++ [q]).length = (allT vs pre.length).flatMap fun t => vs.map fun v => t ++ [v] := by simp [allT]
      have wid : ∀ t ∈ allT vs pre.length, t.length ≤ 5 := fun t ht => by have := (mem_all ht).1; omega
      clear hx3
      generalize allT vs pre.length = A at *
      obtain ⟨l3, hl3, hu3⟩ : ∃ l3, lockE (E x3 (.sh (nI q)) x6 (.ow (.lst []))) [.plc 5] = E l3 (.sh (nI q)) x6 (.ow (.lst [])) ∧ ∀ y6 y13 : Sl, unlockE (E x3 (.sh (nI q)) x6 (.ow (.lst []))) (E l3 (.sh (nI q)) y6 y13) [.plc 5] = E x3 (.sh (nI q)) y6 y13 := by
        rcases x3' with rfl | rfl
        · exact ⟨.lk (.lst (A.map hD)), by simp [E, lockE], fun y6 y13 => by simp [E, unlockE]⟩
        · exact ⟨.sh (.lst (A.map hD)), by simp [E, lockE], fun y6 y13 => by simp [E, unlockE]⟩
      obtain ⟨ρ2, e2, y6, ⟨f6', o6'⟩, rfl⟩ := loop_on (e := hD) (t := .nm 12) (xs := A) (body := evSs (callF tab k) B1) (ρ := E l3 (.sh (nI q)) x6 (.ow (.lst [])))
        (fun pre2 ρ => ∃ x6, (isFree x6 = true ∧ isOwn x6 = false) ∧ ρ = E l3 (.sh (nI q)) x6 (.ow (.lst ((pre2.flatMap fun t => vs.map fun v => t ++ [v]).map hD))))
        (fun pre2 t post2 hp2 ρ => by
          rintro ⟨x6, ⟨f6, o6⟩, rfl⟩
          have hp2l : pre2.length ≤ A.length := by rw [hp2]; simp
          have tl := wid t (by rw [hp2]; simp)
          have gl := flat_len (fun t : List Int => vs.map fun v => t ++ [v]) 4 (fun t => by simpa using hv) pre2
          have c := comp_map (C := callF tab k) (e := D.int) (k := .seq) (srcs := [.plc 4]) (t := .nm 16) (own := [16]) (conds := []) (elt := .bin .add (.plc 12) (.tup [false] [.var 16])) (xs := vs)
            (ρ := E l3 (.sh (nI q)) (.sh (hD t)) (.ow (.lst ((pre2.flatMap fun t => vs.map fun v => t ++ [v]).map hD)))) (ρ1 := E l3 (.sh (nI q)) (.sh (hD t)) (.ow (.lst ((pre2.flatMap fun t => vs.map fun v => t ++ [v]).map hD)))) (os := [.plc 4]) (ds := [hD vs]) (fun _ => true) (fun v => hD (t ++ [v])) rfl rfl rfl rfl (by omega) (fun v _ => by
              refine ⟨[sc, row, ww, .sh (nI n), .sh (hD vs), l3, .sh (nI q), .no, .no, .no, .no, .no, .sh (hD t), .no, .no, .ow (.lst ((pre2.flatMap fun t => vs.map fun v => t ++ [v]).map hD)), .sh (.int v), .no, .no], rfl, rfl, fun _ => ⟨false, ?_⟩, rfl⟩
              have z : t.length + 1 ≤ 16777216 := by omega
              generalize (pre2.flatMap fun t => vs.map fun v => t ++ [v]).map hD = M
              clear hp hp2 gl tl step wid x3' al al2 hl3 hu3 hv
              infer_instance)
          rw [filter_all] at c
          have e : vs.map (fun v => hD (t ++ [v])) = (vs.map fun v => t ++ [v]).map hD := by simp
          rw [e] at c
          refine ⟨E l3 (.sh (nI q)) (.sh (hD t)) (.ow (.lst (((pre2 ++ [t]).flatMap fun t => vs.map fun v => t ++ [v]).map hD))), .inl ?_, .sh (hD t), ⟨rfl, rfl⟩, rfl⟩
          rw [flatMap_snoc, List.map_append]
          have z : ((pre2.flatMap fun t => vs.map fun v => t ++ [v]).map hD).length + ((vs.map fun v => t ++ [v]).map hD).length ≤ 16777216 := by simp only [List.length_map]; omega
          generalize (pre2.flatMap fun t => vs.map fun v => t ++ [v]).map hD = M at *
          generalize (vs.map fun v => t ++ [v]).map hD = N at *
          clear hp hp2 gl tl step wid x3' al al2 hl3 hu3 hv e
          simp only [B1, E] at c ⊢
          infer_instance) ⟨x6, ⟨f6, o6⟩, rfl⟩
      refine ⟨E (.sh (.lst ((A.flatMap fun t => vs.map fun v => t ++ [v]).map hD))) (.sh (nI q)) y6 (.sh (.lst ((A.flatMap fun t => vs.map fun v => t ++ [v]).map hD))), .inl ?_, _, _, y6, _, .inr ⟨by simp, by rw [step]⟩, rfl, ⟨f6', o6'⟩, rfl, rfl⟩
      have b : turn (.nm 6) (evSs (callF tab k) B) (nI q) (E x3 x4 x6 x13) = evSs (callF tab k) B (E x3 (.sh (nI q)) x6 x13) := by
        simp [E, turn, bindT, setS, f4]
      rw [b]
      refine seq_nx (ρ1 := E x3 (.sh (nI q)) x6 (.ow (.lst []))) ?_ (seq_loop (os := [.plc 5]) (ds := [.lst (A.map hD)]) (ρ1 := E x3 (.sh (nI q)) x6 (.ow (.lst []))) ?_ ?_ rfl (by rw [hl3]; exact e2) (seq_nx (ρ1 := E (.sh (.lst ((A.flatMap fun t => vs.map fun v => t ++ [v]).map hD))) (.sh (nI q)) y6 (.sh (.lst ((A.flatMap fun t => vs.map fun v => t ++ [v]).map hD)))) ?_ rfl))
      · clear e2 b hp step wid hl3 hu3
        simp only [E]
        infer_instance
      · clear e2 b hp step wid hl3 hu3
        simp only [E]
        rcases x3' with rfl | rfl <;> infer_instance
      · clear e2 b hp step wid hl3 hu3
        simp only [E]
        rcases x3' with rfl | rfl <;> infer_instance
      · rw [hu3]
        generalize (A.flatMap fun t => vs.map fun v => t ++ [v]).map hD = M at *
        clear e2 b hp step wid hl3 hu3
        simp only [E]
        rcases x3' with rfl | rfl <;> infer_instance) ⟨_, .no, .no, .no, .inl ⟨rfl, rfl⟩, rfl, ⟨rfl, rfl⟩, rfl, rfl⟩
  rw [List.length_range] at hx3
  have x3e : x3 = .sh (.lst ((allT vs n).map hD)) := by
    rcases hx3 with ⟨z, -⟩ | ⟨-, z⟩
    · have := congrArg List.length z
      simp at this
      omega
    · exact z
  subst x3e
  exact ⟨_, e, x4, x6, x13, f4, f6, f13, rfl⟩
section
variable {n : Nat} {ts : List (Nat × Nat)} {h g vs : List Int} {p q : Nat}
theorem run_highest_nil (k : Nat) (W : Web n ts) (hn : n ≤ 5) (G : Hts n g) (V : Vs vs) (no : befT n ts vs g = []) : callF tab (k + 7) 72 [wD n ts, hD g, hD vs] = some (false, .non, []) := by
  have a1 := run_need_before k W hn G V
  have a3 := run_befores_of k W hn G V
  rw [no] at a3
  rw [callF]
  simp only [tab, fn72, b72]
  clear G hn no
  infer_instance
theorem run_highest_all (k : Nat) (W : Web n ts) (hn : n ≤ 5) (G : Hts n g) (V : Vs vs) : callF tab (k + 7) 72 [wD n ts, hD g, hD vs] = some (false, topD (befT n ts vs g), []) := by
  by_cases no : befT n ts vs g = []
  · rw [no, top_nil]
    exact run_highest_nil k W hn G V no
  · exact run_highest_before k W hn G V no
theorem vals_ok {l : List Int} (ne : l ≠ []) (few : l.length ≤ 4) (r : ∀ x ∈ l, -1 ≤ x ∧ x ≤ 3) : Vs (upI l) where
  len := Nat.le_trans (upI_len l) few
  rng := fun x hx => r x (mem_upI.mp hx)
  need := fun k => run_need_values k (fun z => by
    cases l with
    | nil => exact ne rfl
    | cons x l =>
      have : x ∈ upI (x :: l) := mem_upI.mpr List.mem_cons_self
      rw [z] at this
      cases this) (Nat.le_trans (upI_len l) few) (fun x hx => by have := r x (mem_upI.mp hx); omega) (upI_asc l)
theorem due_iff (W : Web n ts) (G : Hts n g) (V : Vs vs) {t : List Int} (ht : t ∈ allT vs n) {ks : List (List Int)} (m : ∀ x, x ∈ ks ↔ Reach n ts t x) : decide (g ∈ ks) = reachedT n ts t g := by
  rw [Bool.eq_iff_iff, decide_eq_true_eq, m, reach_iff W (row_hts V ht) G]
theorem near_eq : (befT n ts vs g).filter (fun t => decide ((unlT n t g).length = 1)) = nearT n ts vs g := by
  unfold befT nearT
  rw [List.filter_filter]
theorem first_eq : (!decide ((befT n ts vs g).filter (fun t => !decide (t = g)) = [])) = !firstB n ts vs g := by
  congr 1
  rw [Bool.eq_iff_iff, decide_eq_true_eq, List.filter_eq_nil_iff]
  unfold firstB
  rw [List.all_eq_true]
  simp
theorem first_eq2 : decide ((allT vs n).filter (fun t => !decide (t = g) && reachedT n ts t g) = []) = firstB n ts vs g := by
  rw [Bool.eq_iff_iff, decide_eq_true_eq, List.filter_eq_nil_iff]
  unfold firstB befT
  rw [List.all_eq_true]
  constructor
  · intro h t ht
    obtain ⟨m, r⟩ := List.mem_filter.mp ht
    have := h t m
    rw [r] at this
    simpa using this
  · intro h t m
    cases r : reachedT n ts t g with
    | false => simp
    | true =>
      have := h t (List.mem_filter.mpr ⟨m, r⟩)
      simpa using this
end
theorem runs10 : ∀ ns : List Int, ns.length ≤ 63 → ∃ fr outs, callF tab 200 79 [.lst (ns.map .int)] = some (fr, .bl true, outs) := by
  intro ns hns
  have R0 : Row (rowD ns 0 4910 0) := ⟨_, _, _, _, rfl⟩
  obtain ⟨n, ts, d1, hn, W, R1, c1⟩ := run_law_web 197 R0 4 3 (by omega) (by omega) (by omega)
  replace c1 : callF tab 199 22 [.lst [.lst (ns.map .int), .int 0, .int 4910, .int 0], .int 4, .int 3] = some (_, _, [d1]) := c1
  have n5 : n ≤ 5 := by omega
  obtain ⟨v, d2, hv, R2, c2⟩ := taken_i 198 R1 3 3 rfl (by omega) (by omega)
  let P := fun (d : D) (x4 x6 : Sl) => ([.sh (.lst (ns.map .int)), .ow d, .sh (wD n ts), .sh (nI n), x4, .no, x6, .no, .no, .no, .no, .no, .no, .no, .no, .no, .no, .no, .no] : Ev.Env)
  have rg : rngOk 0 ((1 + v : Nat) : Int) = true := rng_ok (1 + v) (by omega)
  -- the values
  obtain ⟨acc, ρe, k3, l, d3, rfl, ll, lr, R3, x, fx, rfl⟩ := comp_on (C := callF tab 199) (e := nI) (k := .range) (srcs := [.bin .add (.cst (.int 1)) (.call 19 [true, false] [.plc 1, .cst (.int 3)])]) (t := .nm 6) (own := [6]) (conds := []) (elt := .bin .sub (.call 19 [true, false] [.plc 1, .cst (.int 5)]) (.cst (.int 1))) (xs := List.range (1 + v))
    (ρ := P d1 .no .no) (ρ1 := P d2 .no .no) (os := [.val false (nI (1 + v))]) (ds := [nI (1 + v)])
    (fun pre acc ρ => ∃ l d', acc = l.map .int ∧ l.length = pre.length ∧ (∀ x ∈ l, -1 ≤ x ∧ x ≤ 3) ∧ Row d' ∧ ∃ x, (isFree x = true) ∧ ρ = P d' .no x)
    (by
      have e : nI (1 + v) = .int (1 + (v : Int)) := by simp [nI]
      rw [e]
      clear c1
      simp only [P]
      infer_instance) rfl (by simp only [itD, nI, rg, if_true, rng_nat]) rfl (by simp; omega) ⟨[], d2, rfl, rfl, by simp, R2, .no, rfl, rfl⟩
    (fun pre acc ρ => by
      rintro ⟨l, d', e1, e2, e3, e4, x, fx, rfl⟩
      exact ⟨l, d', e1, e2, e3, e4, .no, rfl, rfl⟩)
    (fun pre q post hp acc ρ => by
      rintro ⟨l, d', rfl, e2, e3, e4, x, fx, rfl⟩
      obtain ⟨u, d'', hu, R', t⟩ := taken_i 198 e4 5 5 rfl (by omega) (by omega)
      refine ⟨P d' .no (.sh (nI q)), true, P d' .no (.sh (nI q)), rfl, rfl, (fun z => nomatch z), fun _ => ⟨false, .int ((u : Int) - 1), P d'' .no (.sh (nI q)), ?_, l ++ [(u : Int) - 1], d'', by simp, by simp [e2], ?_, R', _, rfl, rfl⟩⟩
      · clear c1 c2 e2 e3 e4 hp rg
        simp only [P]
        infer_instance
      · intro y hy
        rcases List.mem_append.mp hy with hy | hy
        · exact e3 y hy
        · have := List.mem_singleton.mp hy
          omega)
  have ue : unlockE (P d2 .no .no) (backE (P d3 .no x) (P d2 .no .no) [6]) [.val false (nI (1 + v))] = P d3 .no .no := rfl
  rw [ue] at k3
  rw [List.length_range] at ll
  have lne : l ≠ [] := fun z => by rw [z] at ll; simp at ll; omega
  have V : Vs (upI l) := vals_ok lne (by omega) lr
  have s3 := sset_l (l := l) (by omega)
  generalize upI l = vs at *
  obtain ⟨ρ1, e1, x6, x12, x15, f6, ⟨f12, o12⟩, f15, rfl⟩ := law_rows10 199 n W.lo n5 vs V.len (.sh (.lst (ns.map .int))) (.ow d3) (.sh (wD n ts))
  have rl := rows_len (n := n) V n5
  have rgn : rngOk 0 (n : Int) = true := rng_ok n (by omega)
  have rne : allT vs n ≠ [] := fun z => by
    cases hvs : vs with
    | nil =>
      have := V.need 0
      rw [hvs] at this
      have no : callF tab 5 65 [hD []] = none := by decide +kernel
      rw [no] at this
      cases this
    | cons y r =>
      have : List.replicate n y ∈ allT vs n := all_mem (by simp) fun b hb => by rw [(List.mem_replicate.mp hb).2, hvs]; exact List.mem_cons_self
      rw [z] at this
      cases this
  let E := fun (d : D) (x7 x8 x9 x10 x11 x12 x13 x14 : Sl) => ([.sh (.lst (ns.map .int)), .ow d, .sh (wD n ts), .sh (nI n), .sh (hD vs), .sh (.lst ((allT vs n).map hD)), x6, x7, x8, x9, x10, x11, x12, x13, x14, x15, .no, .no, .no] : Ev.Env)
  -- the goal
  obtain ⟨t4, d4, ht4, R4, c4⟩ := taken_i 198 R3 4 4 rfl (by omega) (by omega)
  have goal : ∃ g d5, Hts n g ∧ Row d5 ∧ evE (callF tab 199) (.ife (.cmp .gt (.call 19 [true, false] [.plc 1, .cst (.int 4)]) (.cst (.int 0))) (.call 37 [true, false] [.plc 1, .var 5]) (.call 23 [true, false, false] [.plc 1, .var 3, .cst (.int 4)])) (E d3 .no .no .no .no .no x12 .no .no) = some (.val false (hD g), E d5 .no .no .no .no .no x12 .no .no) := by
    by_cases z : (0 : Int) < t4
    · obtain ⟨g, d5, mg, R5, c5⟩ := (run_pick 197 (e := hD) R4 (allT vs n) rne (by omega)).1
      replace c5 : callF tab 199 37 _ = _ := c5
      refine ⟨g, d5, row_hts V mg, R5, ?_⟩
      have z' : 0 < t4 := by omega
      simp only [E]
      generalize (allT vs n).map hD = M at *
      clear c1 c2 e1 k3 s3 V W rl rgn rg z
      infer_instance
    · obtain ⟨g, d5, gl, gr, R5, c5⟩ := run_law_heights 197 R4 n 4 (by omega) (by omega) (by omega)
      replace c5 : callF tab 199 23 _ = _ := c5
      refine ⟨g, d5, ⟨gl, fun x hx => by obtain ⟨v, hv, e⟩ := gr x hx; omega⟩, R5, ?_⟩
      have z' : t4 = 0 := by omega
      have e4 : nI 4 = .int 4 := rfl
      rw [e4] at c5
      simp only [E]
      generalize (allT vs n).map hD = M at *
      clear c1 c2 e1 k3 s3 V W rl rgn rg gr gl z
      infer_instance
  obtain ⟨g, d5, G, R5, c6⟩ := goal
  -- what comes to it
  have k7 := comp_map (C := callF tab 199) (e := hD) (k := .seq) (srcs := [.plc 5]) (t := .nm 12) (own := [12]) (conds := [.cmp .in_ (.plc 7) (.call 40 [false, false] [.var 2, .var 12])]) (elt := .var 12) (xs := allT vs n)
    (ρ := E d5 (.sh (hD g)) .no .no .no .no x12 .no .no) (ρ1 := E d5 (.sh (hD g)) .no .no .no .no x12 .no .no) (os := [.plc 5]) (ds := [.lst ((allT vs n).map hD)]) (fun t => reachedT n ts t g) hD rfl rfl rfl (by simp [E, ownS, o12]) (by omega) (fun t ht => by
      obtain ⟨ks, us, mk, nd, lk, a⟩ := run_law_steps 196 W n5 (row_hts V ht)
      replace a : callF tab 199 40 _ = _ := a
      have i := in_dct g ks us lk
      rw [due_iff W G V ht mk] at i
      refine ⟨E d5 (.sh (hD g)) .no .no .no .no (.sh (hD t)) .no .no, by simp [E, wipeE, lockE, bindT, setS], ?_, fun _ => ⟨false, rfl⟩, by simp [E, wipeE, lockE]⟩
      simp only [E]
      generalize reachedT n ts t g = b at *
      generalize (allT vs n).map hD = M at *
      generalize ks.map hD = N at *
      clear c1 c2 e1 k3 s3 V W rl rgn rg c4 c6 ht mk nd lk G
      cases b <;> infer_instance)
  replace k7 : evE (callF tab 199) _ _ = some (.val true (.lst ((befT n ts vs g).map hD)), _) := k7
  have bl := bef_len (ts := ts) (g := g) V n5
  have blen : ∀ x ∈ befT n ts vs g, x.length ≤ 16777216 := fun x hx => by
    have := (mem_all (List.mem_filter.mp hx).1).1
    omega
  have c69 : callF tab 199 69 _ = _ := run_befores 192 W n5 G V
  have c76 : callF tab 199 76 _ = _ := run_count_befores 192 W n5 G V
  have c70 : callF tab 199 70 _ = _ := run_is_first 192 W n5 G V
  have c72 : callF tab 199 72 _ = _ := run_highest_all 192 W n5 G V
  have c77 : callF tab 199 77 _ = _ := run_steps_before 192 W n5 G V
  have c71 : callF tab 199 71 _ = _ := run_count_firsts 192 W n5 V
  have pb : Pl 2 (.lst ((befT n ts vs g).map hD)) := pl_hs _ (by omega) blen
  have a8 : callF tab 199 20 [.lst [.lst ((befT n ts vs g).map hD), nI (befT n ts vs g).length], .lst [.lst ((befT n ts vs g).map hD), nI (befT n ts vs g).length]] = _ := alike_self (k := 3) (.lst (fun d hd => by
    rcases List.mem_cons.mp hd with e | hd
    · rw [e]; exact pb
    · rw [List.mem_singleton.mp hd]; exact .int _) (by simp)) 195
  -- the first ones
  have k9 := comp_map (C := callF tab 199) (e := hD) (k := .seq) (srcs := [.plc 8]) (t := .nm 12) (own := [12]) (conds := [.cmp .ne (.plc 12) (.plc 7)]) (elt := .var 12) (xs := befT n ts vs g)
    (ρ := E d5 (.sh (hD g)) (.sh (.lst ((befT n ts vs g).map hD))) .no .no .no x12 .no .no) (ρ1 := E d5 (.sh (hD g)) (.sh (.lst ((befT n ts vs g).map hD))) .no .no .no x12 .no .no) (os := [.plc 8]) (ds := [.lst ((befT n ts vs g).map hD)]) (fun t => !decide (t = g)) hD rfl rfl rfl (by simp [E, ownS, o12]) (by omega) (fun t ht => by
      have q : eqDs (t.map .int) (g.map .int) = decide (t = g) := encI.eqs _ _
      refine ⟨E d5 (.sh (hD g)) (.sh (.lst ((befT n ts vs g).map hD))) .no .no .no (.sh (hD t)) .no .no, by simp [E, wipeE, lockE, bindT, setS], ?_, fun _ => ⟨false, rfl⟩, by simp [E, wipeE, lockE]⟩
      simp only [E]
      generalize decide (t = g) = b at *
      generalize (allT vs n).map hD = M at *
      generalize (befT n ts vs g).map hD = N at *
      clear c1 c2 e1 k3 s3 V W rl rgn rg c4 c6 ht G k7 c69 c76 c70 c72 c77 c71 a8
      cases b <;> infer_instance)
  have q9 : eqDs (((befT n ts vs g).filter (fun t => !decide (t = g))).map hD) [] = firstB n ts vs g := by
    have e := encH.eqs ((befT n ts vs g).filter (fun t => !decide (t = g))) []
    have f := first_eq (n := n) (ts := ts) (vs := vs) (g := g)
    rw [List.map_nil] at e
    rw [e]
    simpa using f
  have f9 : flatDs (((befT n ts vs g).filter (fun t => !decide (t = g))).map hD) = true := encH.flats _
  have p9 : depDs (((befT n ts vs g).filter (fun t => !decide (t = g))).map hD) ≤ 63 := Nat.le_trans (depH.deps _) (by omega)
  have a9 : callF tab 199 21 _ = _ := run_is 198 (firstB n ts vs g) (firstB n ts vs g)
  let S8 : Sl := .sh (.lst ((befT n ts vs g).map hD))
  let G7 : Sl := .sh (hD g)
  -- the highest
  let best : Int := if befT n ts vs g = [] then 0 else maxS (befT n ts vs g)
  have k10 := comp_map (C := callF tab 199) (e := hD) (k := .seq) (srcs := [.plc 8]) (t := .nm 12) (own := [12]) (conds := []) (elt := .bi .sum [.plc 12]) (xs := befT n ts vs g)
    (ρ := E d5 G7 S8 .no .no .no x12 .no .no) (ρ1 := E d5 G7 S8 .no .no .no x12 .no .no) (os := [.plc 8]) (ds := [.lst ((befT n ts vs g).map hD)]) (fun _ => true) (fun t => .int t.sum) rfl rfl rfl (by simp [E, ownS, o12]) (by omega) (fun t ht => by
      have q := sum_h t
      refine ⟨E d5 G7 S8 .no .no .no (.sh (hD t)) .no .no, by simp [E, wipeE, lockE, bindT, setS], rfl, fun _ => ⟨false, ?_⟩, by simp [E, wipeE, lockE]⟩
      simp only [E, G7, S8]
      generalize (allT vs n).map hD = M at *
      generalize (befT n ts vs g).map hD = N at *
      clear c1 c2 e1 k3 s3 V W rl rgn rg c4 c6 ht G k7 c69 c76 c70 c72 c77 c71 a8 k9 q9 f9 p9 a9
      infer_instance)
  rw [filter_all] at k10
  have c10 : evE (callF tab 199) (.ife (.cmp .ne (.plc 8) (.lst [] [])) (.bi .max [.comp .seq [.plc 8] (.nm 12) [12] [] (.bi .sum [.plc 12])]) (.cst (.int 0))) (E d5 G7 S8 .no .no .no x12 .no .no) = some (.val false (.int best), E d5 G7 S8 .no .no .no x12 .no .no) := by
    have cm : eqDs ((befT n ts vs g).map hD) [] = decide (befT n ts vs g = []) := encH.eqs _ []
    have fl : flatDs ((befT n ts vs g).map hD) = true := encH.flats _
    have dp : depDs ((befT n ts vs g).map hD) ≤ 63 := Nat.le_trans (depH.deps _) (by omega)
    clear c1 c2 e1 k3 s3 V W rl rgn rg c4 c6 G k7 c69 c76 c70 c72 c77 c71 a8 k9 q9 f9 p9 a9
    simp only [best]
    by_cases z : befT n ts vs g = []
    · rw [decide_eq_true z] at cm
      rw [if_pos z]
      simp only [E, G7, S8] at k10 ⊢
      clear k10 z
      infer_instance
    · have mx := max_h _ z
      rw [decide_eq_false z] at cm
      rw [if_neg z]
      simp only [E, G7, S8] at k10 ⊢
      clear z
      infer_instance
  have k11 := comp_map (C := callF tab 199) (e := hD) (k := .seq) (srcs := [.plc 8]) (t := .nm 12) (own := [12]) (conds := [.cmp .eq (.bi .sum [.plc 12]) (.plc 9)]) (elt := .var 12) (xs := befT n ts vs g)
    (ρ := E d5 G7 S8 (.sh (.int best)) .no .no x12 .no .no) (ρ1 := E d5 G7 S8 (.sh (.int best)) .no .no x12 .no .no) (os := [.plc 8]) (ds := [.lst ((befT n ts vs g).map hD)]) (fun t => decide (t.sum = best)) hD rfl rfl rfl (by simp [E, ownS, o12]) (by omega) (fun t ht => by
      have q := sum_h t
      refine ⟨E d5 G7 S8 (.sh (.int best)) .no .no (.sh (hD t)) .no .no, by simp [E, wipeE, lockE, bindT, setS], ?_, fun _ => ⟨false, rfl⟩, by simp [E, wipeE, lockE]⟩
      generalize best = b at *
      simp only [E, G7, S8]
      generalize (allT vs n).map hD = M at *
      generalize (befT n ts vs g).map hD = N at *
      clear c1 c2 e1 k3 s3 V W rl rgn rg c4 c6 ht G k7 c69 c76 c70 c72 c77 c71 a8 k9 q9 f9 p9 a9 k10 c10
      by_cases z : t.sum = b
      · infer_instance
      · have z' : (t.sum == b) = false := by simpa using z
        infer_instance)
  have c11 : evE (callF tab 199) (.ife (.cmp .ne (.plc 8) (.lst [] [])) (.ix (.comp .seq [.plc 8] (.nm 12) [12] [.cmp .eq (.bi .sum [.plc 12]) (.plc 9)] (.var 12)) (.cst (.int 0))) (.cst .non)) (E d5 G7 S8 (.sh (.int best)) .no .no x12 .no .no) = some (.val false (topD (befT n ts vs g)), E d5 G7 S8 (.sh (.int best)) .no .no x12 .no .no) := by
    have cm : eqDs ((befT n ts vs g).map hD) [] = decide (befT n ts vs g = []) := encH.eqs _ []
    have fl : flatDs ((befT n ts vs g).map hD) = true := encH.flats _
    have dp : depDs ((befT n ts vs g).map hD) ≤ 63 := Nat.le_trans (depH.deps _) (by omega)
    clear c1 c2 e1 k3 s3 V W rl rgn rg c4 c6 G k7 c69 c76 c70 c72 c77 c71 a8 k9 q9 f9 p9 a9 k10 c10
    by_cases z : befT n ts vs g = []
    · rw [decide_eq_true z] at cm
      rw [z, top_nil]
      rw [z] at cm fl dp
      simp only [E, G7, S8, z]
      clear k11 z
      infer_instance
    · rw [decide_eq_false z] at cm
      obtain ⟨t, -, e, e0⟩ := top_mem z
      rw [e]
      have be : best = maxS (befT n ts vs g) := if_neg z
      have e0' : ((topsT (befT n ts vs g)).map hD)[0]? = some (hD t) := by rw [List.getElem?_map, e0]; rfl
      have te : (befT n ts vs g).filter (fun t => decide (t.sum = best)) = topsT (befT n ts vs g) := by rw [be]; rfl
      rw [te] at k11
      generalize best = b at *
      simp only [E, G7, S8] at k11 ⊢
      clear z e e0 te be
      infer_instance
  have pt : Pl 1 (topD (befT n ts vs g)) := by
    by_cases z : befT n ts vs g = []
    · rw [z, top_nil]; exact .non
    · obtain ⟨t, tm, e, -⟩ := top_mem z
      rw [e]
      exact pl_h t (blen t tm)
  have a12 : callF tab 199 20 [topD (befT n ts vs g), topD (befT n ts vs g)] = _ := alike_self pt 197
  -- one step before
  let S9 : Sl := .sh (.int best)
  let S10 : Sl := .sh (topD (befT n ts vs g))
  let f1 := fun t => decide ((unlT n t g).length = 1)
  obtain ⟨ρ2, e2, y12, ⟨f12', o12'⟩, rfl⟩ := loop_on (e := hD) (t := .nm 12) (xs := befT n ts vs g) (body := evSs (callF tab 199) [.asg 11 (.bin .add (.plc 11) (.ife (.cmp .eq (.bi .len [.comp .range [.plc 3] (.nm 18) [18] [.cmp .ne (.ix (.plc 12) (.plc 18)) (.ix (.plc 7) (.plc 18))] (.var 18)]) (.cst (.int 1))) (.lst [false] [.var 12]) (.lst [] [])))]) (ρ := E d5 G7 S8 S9 S10 (.ow (.lst [])) x12 .no .no)
    (fun pre ρ => ∃ x12, (isFree x12 = true ∧ isOwn x12 = false) ∧ ρ = E d5 G7 S8 S9 S10 (.ow (.lst ((pre.filter f1).map hD))) x12 .no .no)
    (fun pre t post hp ρ => by
      rintro ⟨x12, ⟨f12, o12⟩, rfl⟩
      have T := row_hts (n := n) V (List.mem_filter.mp (show t ∈ befT n ts vs g by rw [hp]; simp)).1
      have pl : pre.length ≤ 1024 := by
        have := congrArg List.length hp
        simp at this
        omega
      have fl := List.length_filter_le f1 pre
      have c := comp_map (C := callF tab 199) (e := nI) (k := .range) (srcs := [.plc 3]) (t := .nm 18) (own := [18]) (conds := [.cmp .ne (.ix (.plc 12) (.plc 18)) (.ix (.plc 7) (.plc 18))]) (elt := .var 18) (xs := List.range n)
        (ρ := E d5 G7 S8 S9 S10 (.ow (.lst ((pre.filter f1).map hD))) (.sh (hD t)) .no .no) (ρ1 := E d5 G7 S8 S9 S10 (.ow (.lst ((pre.filter f1).map hD))) (.sh (hD t)) .no .no) (os := [.plc 3]) (ds := [nI n]) (fun q => !decide (at_ t q = at_ g q)) nI rfl rfl (by simp only [itD, nI, rgn, if_true, rng_nat]) rfl (by simp; omega) (fun q hq => by
          have hq := List.mem_range.mp hq
          have e1 := h_at T hq
          have e2 := h_at G hq
          refine ⟨[.sh (.lst (ns.map .int)), .ow d5, .sh (wD n ts), .sh (nI n), .sh (hD vs), .sh (.lst ((allT vs n).map hD)), x6, G7, S8, S9, S10, .ow (.lst ((pre.filter f1).map hD)), .sh (hD t), .no, .no, x15, .no, .no, .sh (nI q)], rfl, ?_, fun _ => ⟨false, rfl⟩, rfl⟩
          simp only [G7, S8, S9, S10]
          generalize (allT vs n).map hD = M at *
          generalize (befT n ts vs g).map hD = N at *
          generalize (pre.filter f1).map hD = K
          clear c1 c2 e1 k3 s3 V W rl rgn rg c4 c6 G k7 c69 c76 c70 c72 c77 c71 a8 k9 q9 f9 p9 a9 k10 c10 k11 c11 pt a12 hq T hp
          by_cases z : at_ t q = at_ g q
          · infer_instance
          · have z' : (at_ t q == at_ g q) = false := by simpa using z
            infer_instance)
      replace c : evE (callF tab 199) _ _ = some (OV.val true (.lst ((unlT n t g).map nI)), _) := c
      have fe : (pre ++ [t]).filter f1 = pre.filter f1 ++ if f1 t = true then [t] else [] := by rw [List.filter_append]; by_cases z : f1 t = true <;> simp [z]
      have z1 : (pre.filter f1).length + 1 ≤ 16777216 := by omega
      have z0 : (pre.filter f1).length ≤ 16777216 := by omega
      refine ⟨E d5 G7 S8 S9 S10 (.ow (.lst (((pre ++ [t]).filter f1).map hD))) (.sh (hD t)) .no .no, .inl ?_, _, ⟨rfl, rfl⟩, rfl⟩
      rw [fe]
      have ft : f1 t = decide ((unlT n t g).length = 1) := rfl
      rw [ft]
      generalize unlT n t g = U at *
      generalize pre.filter f1 = F at *
      clear c1 c2 e1 k3 s3 V W rl rgn rg c4 c6 G k7 c69 c76 c70 c72 c77 c71 a8 k9 q9 f9 p9 a9 k10 c10 k11 c11 pt a12 T hp fe ft
      simp only [E, G7, S8, S9, S10] at c ⊢
      by_cases z : U.length = 1
      · have z' : (U.length : Int) = 1 := by omega
        clear z0
        infer_instance
      · have z' : ((U.length : Int) == 1) = false := by
          have : ¬ (U.length : Int) = 1 := by omega
          simpa using this
        infer_instance) ⟨x12, ⟨f12, o12⟩, rfl⟩
  replace e2 : forLoop _ _ _ _ = some (.nx (E d5 G7 S8 S9 S10 (.ow (.lst (((befT n ts vs g).filter f1).map hD))) y12 .no .no)) := e2
  have ne : (befT n ts vs g).filter f1 = nearT n ts vs g := near_eq
  rw [ne] at e2
  have nl : (nearT n ts vs g).length ≤ 1024 := Nat.le_trans (List.length_filter_le _ _) rl
  have a15 : callF tab 199 20 [.lst ((nearT n ts vs g).map hD), .lst ((nearT n ts vs g).map hD)] = _ := alike_self (pl_hs _ (by omega) (fun x hx => by have := (mem_all (List.mem_filter.mp hx).1).1; omega)) 196
  let S11 : Sl := .sh (.lst ((nearT n ts vs g).map hD))
  -- a person
  obtain ⟨p, d6, hp, R6, c16⟩ := run_taken 198 R5 n W.lo (by omega)
  have c78 : callF tab 199 78 _ = _ := run_could_be 192 W n5 G V hp
  have k17 := comp_map (C := callF tab 199) (e := hD) (k := .seq) (srcs := [.plc 8]) (t := .nm 12) (own := [12]) (conds := []) (elt := .ix (.plc 12) (.plc 13)) (xs := befT n ts vs g)
    (ρ := E d6 G7 S8 S9 S10 S11 y12 (.sh (nI p)) .no) (ρ1 := E d6 G7 S8 S9 S10 S11 y12 (.sh (nI p)) .no) (os := [.plc 8]) (ds := [.lst ((befT n ts vs g).map hD)]) (fun _ => true) (fun t => .int (at_ t p)) rfl rfl rfl (by simp [E, ownS, o12']) (by omega) (fun t ht => by
      have q := h_at (row_hts V (List.mem_filter.mp ht).1) hp
      refine ⟨E d6 G7 S8 S9 S10 S11 (.sh (hD t)) (.sh (nI p)) .no, by simp [E, wipeE, lockE, bindT, setS], rfl, fun _ => ⟨false, ?_⟩, by simp [E, wipeE, lockE]⟩
      simp only [E, G7, S8, S9, S10, S11]
      generalize (allT vs n).map hD = M at *
      generalize (befT n ts vs g).map hD = N at *
      clear c1 c2 e1 k3 s3 V W rl rgn rg c4 c6 ht G k7 c69 c76 c70 c72 c77 c71 a8 k9 q9 f9 p9 a9 k10 c10 k11 c11 e2 ne nl a15 c78 c16 hp
      infer_instance)
  rw [filter_all] at k17
  have me : (befT n ts vs g).map (fun t => D.int (at_ t p)) = ((befT n ts vs g).map fun t => at_ t p).map .int := by simp
  rw [me] at k17
  have s17 := sset_l (l := (befT n ts vs g).map fun t => at_ t p) (by simp; omega)
  have a17 : callF tab 199 20 [hD (upI ((befT n ts vs g).map fun t => at_ t p)), hD (upI ((befT n ts vs g).map fun t => at_ t p))] = _ := alike_self (pl_h _ (Nat.le_trans (upI_len _) (by simp; omega))) 197
  let S13 : Sl := .sh (nI p)
  -- the first ones, counted
  let B20 : List RS := [.asg 14 (.bin .add (.plc 14) (.ife (.cmp .eq (.comp .seq [.plc 5] (.nm 17) [17] [.and (.cmp .ne (.plc 17) (.plc 12)) (.cmp .in_ (.plc 12) (.call 40 [false, false] [.var 2, .var 17]))] (.var 17)) (.lst [] [])) (.cst (.int 1)) (.cst (.int 0))))]
  obtain ⟨ρ3, e3, z12, -, rfl⟩ := loop_on (e := hD) (t := .nm 12) (xs := allT vs n) (body := evSs (callF tab 199) B20) (ρ := E d6 G7 S8 S9 S10 S11 y12 S13 (.sh (nI 0)))
    (fun pre ρ => ∃ x12, (isFree x12 = true ∧ isOwn x12 = false) ∧ ρ = E d6 G7 S8 S9 S10 S11 x12 S13 (.sh (nI (pre.filter (firstB n ts vs)).length)))
    (fun pre t post hp ρ => by
      rintro ⟨x12, ⟨f12, o12⟩, rfl⟩
      have T := row_hts (n := n) V (show t ∈ allT vs n by rw [hp]; simp)
      generalize hc : (pre.filter (firstB n ts vs)).length = m
      have c := comp_map (C := callF tab 199) (e := hD) (k := .seq) (srcs := [.plc 5]) (t := .nm 17) (own := [17]) (conds := [.and (.cmp .ne (.plc 17) (.plc 12)) (.cmp .in_ (.plc 12) (.call 40 [false, false] [.var 2, .var 17]))]) (elt := .var 17) (xs := allT vs n)
        (ρ := E d6 G7 S8 S9 S10 S11 (.sh (hD t)) S13 (.sh (nI m))) (ρ1 := E d6 G7 S8 S9 S10 S11 (.sh (hD t)) S13 (.sh (nI m))) (os := [.plc 5]) (ds := [.lst ((allT vs n).map hD)]) (fun x => !decide (x = t) && reachedT n ts x t) hD rfl rfl rfl rfl (by omega) (fun x hx => by
          obtain ⟨ks, us, mk, nd, lk, a⟩ := run_law_steps 196 W n5 (row_hts V hx)
          replace a : callF tab 199 40 _ = _ := a
          have i := in_dct t ks us lk
          rw [due_iff W T V hx mk] at i
          have q : eqDs (x.map .int) (t.map .int) = decide (x = t) := encI.eqs _ _
          refine ⟨[.sh (.lst (ns.map .int)), .ow d6, .sh (wD n ts), .sh (nI n), .sh (hD vs), .sh (.lst ((allT vs n).map hD)), x6, G7, S8, S9, S10, S11, .sh (hD t), S13, .sh (nI m), x15, .no, .sh (hD x), .no], rfl, ?_, fun _ => ⟨false, rfl⟩, rfl⟩
          simp only [G7, S8, S9, S10, S11, S13]
          generalize reachedT n ts x t = b at *
          generalize (allT vs n).map hD = M at *
          generalize (befT n ts vs g).map hD = N at *
          generalize (nearT n ts vs g).map hD = K at *
          generalize ks.map hD = L at *
          clear c1 c2 e1 k3 s3 V W rl rgn rg c4 c6 G k7 c69 c76 c70 c72 c77 c71 a8 k9 q9 f9 p9 a9 k10 c10 k11 c11 pt a12 e2 ne nl a15 c78 c16 hp k17 me s17 a17 hx mk nd lk T hc
          by_cases z : x = t
          · rw [decide_eq_true z] at q ⊢
            clear z
            infer_instance
          · rw [decide_eq_false z] at q ⊢
            clear z
            cases b <;> infer_instance)
      have q := encH.eqs ((allT vs n).filter (fun x => !decide (x = t) && reachedT n ts x t)) []
      rw [first_eq2, List.map_nil] at q
      have fl : flatDs (((allT vs n).filter (fun x => !decide (x = t) && reachedT n ts x t)).map hD) = true := encH.flats _
      have dp : depDs (((allT vs n).filter (fun x => !decide (x = t) && reachedT n ts x t)).map hD) ≤ 63 := Nat.le_trans (depH.deps _) (by omega)
      have fe : ((pre ++ [t]).filter (firstB n ts vs)).length = if firstB n ts vs t = true then m + 1 else m := by
        rw [List.filter_append, List.length_append, hc]
        by_cases z : firstB n ts vs t = true <;> simp [z]
      refine ⟨E d6 G7 S8 S9 S10 S11 (.sh (hD t)) S13 (.sh (nI ((pre ++ [t]).filter (firstB n ts vs)).length)), .inl ?_, _, ⟨rfl, rfl⟩, rfl⟩
      rw [fe]
      generalize ((allT vs n).filter (fun x => !decide (x = t) && reachedT n ts x t)).map hD = Z at *
      generalize firstB n ts vs t = b at *
      simp only [E, G7, S8, S9, S10, S11, S13] at c
      simp only [B20, E, G7, S8, S9, S10, S11, S13]
      clear c1 c2 e1 k3 s3 V W rl rgn rg c4 c6 G k7 c69 c76 c70 c72 c77 c71 a8 k9 q9 f9 p9 a9 k10 c10 k11 c11 pt a12 e2 ne nl a15 c78 c16 hp k17 me s17 a17 T hc fe
      generalize (allT vs n).map hD = M at *
      generalize (befT n ts vs g).map hD = N at *
      generalize (nearT n ts vs g).map hD = K at *
      cases b <;> infer_instance) ⟨y12, ⟨f12', o12'⟩, rfl⟩
  have a21 : callF tab 199 20 [nI ((allT vs n).filter (firstB n ts vs)).length, nI ((allT vs n).filter (firstB n ts vs)).length] = _ := alike_self (k := 0) (.int _) 198
  have lb : ((befT n ts vs g).map hD).length = (befT n ts vs g).length := List.length_map _
  -- the whole
  have head : ∀ {r : Option SR}, evSs (callF tab 199) (b79.drop 18) (E d6 G7 S8 S9 S10 S11 y12 S13 .no) = r → evSs (callF tab 199) b79 (fullE fn79 [.lst (ns.map .int)]) = r := fun {r} tl => by
    refine seq_take 5 (ρ1 := [.sh (.lst (ns.map .int)), .ow d3, .sh (wD n ts), .sh (nI n), .sh (hD vs), .ow (.lst [hD []]), .no, .no, .no, .no, .no, .no, .no, .no, .no, .no, .no, .no, .no]) ?_
      (seq_loop (os := [.plc 3]) (ds := [nI n]) (ρ1 := [.sh (.lst (ns.map .int)), .ow d3, .sh (wD n ts), .sh (nI n), .sh (hD vs), .ow (.lst [hD []]), .no, .no, .no, .no, .no, .no, .no, .no, .no, .no, .no, .no, .no]) rfl rfl (by simp only [itD, nI, rgn, if_true, rng_nat]) e1
      (seq_take 2 (ρ1 := E d5 G7 (.ow (.lst ((befT n ts vs g).map hD))) .no .no .no x12 .no .no) ?_ (seq_take 2 (ρ1 := E d5 G7 S8 .no .no .no x12 .no .no) ?_ (seq_take 4 (ρ1 := E d5 G7 S8 S9 S10 (.ow (.lst [])) x12 .no .no) ?_
      (seq_loop (os := [.plc 8]) (ds := [.lst ((befT n ts vs g).map hD)]) (ρ1 := E d5 G7 S8 S9 S10 (.ow (.lst [])) x12 .no .no) rfl rfl rfl e2 (seq_take 3 (ρ1 := E d6 G7 S8 S9 S10 S11 y12 S13 .no) ?_ tl))))))
    · clear e1 V W rl rgn rg c4 c6 G k7 c69 c76 c70 c72 c77 c71 a8 k9 q9 f9 p9 a9 k10 c10 k11 c11 pt a12 e2 ne nl a15 c78 c16 hp k17 me s17 a17 e3 a21 lb tl pb blen bl rne
      simp only [b79, fn79, fullE]
      simp only [P] at k3
      infer_instance
    · clear c1 c2 e1 k3 s3 V W rl rgn rg c4 G c69 c76 c70 c72 c77 c71 a8 k9 q9 f9 p9 a9 k10 c10 k11 c11 pt a12 e2 ne nl a15 c78 c16 hp k17 me s17 a17 e3 a21 lb tl pb blen bl rne
      simp only [b79, E, G7, S8] at c6 k7 ⊢
      generalize (allT vs n).map hD = M at *
      generalize (befT n ts vs g).map hD = N at *
      infer_instance
    · clear c1 c2 e1 k3 s3 V W rl rgn rg c4 c6 G k7 c72 c77 c71 k10 c10 k11 c11 pt a12 e2 ne nl a15 c78 c16 hp k17 me s17 a17 e3 a21 tl pb blen bl rne
      simp only [b79, E, G7, S8] at k9 ⊢
      generalize (allT vs n).map hD = M at *
      generalize ((befT n ts vs g).filter (fun t => !decide (t = g))).map hD = Z at *
      generalize (befT n ts vs g).map hD = N at *
      generalize firstB n ts vs g = b at *
      cases b <;> infer_instance
    · clear c1 c2 e1 k3 s3 V W rl rgn rg c4 c6 G k7 c69 c76 c70 c77 c71 a8 k9 q9 f9 p9 a9 k10 k11 pt e2 ne nl a15 c78 c16 hp k17 me s17 a17 e3 a21 lb tl pb blen bl rne
      simp only [b79, E, G7, S8, S9, S10] at c10 c11 ⊢
      generalize best = b at *
      generalize (allT vs n).map hD = M at *
      generalize (befT n ts vs g).map hD = N at *
      infer_instance
    · clear c1 c2 e1 k3 s3 V W rl rgn rg c4 c6 G k7 c69 c76 c70 c72 c71 a8 k9 q9 f9 p9 a9 k10 c10 k11 c11 pt a12 e2 ne nl hp me e3 a21 lb tl pb blen bl rne
      simp only [b79, E, G7, S8, S9, S10, S11, S13] at k17 ⊢
      generalize (nearT n ts vs g).map hD = K at *
      generalize (allT vs n).map hD = M at *
      generalize upI ((befT n ts vs g).map fun t => at_ t p) = U at *
      generalize ((befT n ts vs g).map fun t => at_ t p).map D.int = Z at *
      generalize (befT n ts vs g).map hD = N at *
      infer_instance
  by_cases n3 : n ≤ 3
  · refine ⟨false, [], run_def (ρ := E d6 G7 S8 S9 S10 S11 z12 S13 (.sh (nI ((allT vs n).filter (firstB n ts vs)).length))) rfl rfl (head (seq_take 2 (ρ1 := E d6 G7 S8 S9 S10 S11 y12 S13 (.sh (nI 0))) ?_ (seq_loop (os := [.plc 5]) (ds := [.lst ((allT vs n).map hD)]) (ρ1 := E d6 G7 S8 S9 S10 S11 y12 S13 (.sh (nI 0))) rfl rfl rfl e3 (seq_rt ?_)))) rfl⟩
    · clear c1 c2 e1 k3 s3 V W rl rgn rg c4 c6 G k7 c69 c76 c70 c72 c77 c71 a8 k9 q9 f9 p9 a9 k10 c10 k11 c11 pt a12 e2 ne nl a15 c78 c16 hp k17 me s17 a17 e3 a21 lb pb blen bl rne
      have z' : ¬ (3 : Int) < n := by omega
      simp only [b79, E, G7, S8, S9, S10, S11, S13]
      generalize (nearT n ts vs g).map hD = K at *
      generalize (allT vs n).map hD = M at *
      generalize (befT n ts vs g).map hD = N at *
      infer_instance
    · clear c1 c2 e1 k3 s3 V W rl rgn rg c4 c6 G k7 c69 c76 c70 c72 c77 a8 k9 q9 f9 p9 a9 k10 c10 k11 c11 pt a12 e2 ne nl a15 c78 c16 hp k17 me s17 a17 e3 lb pb blen bl rne
      simp only [b79, E, G7, S8, S9, S10, S11, S13]
      generalize (nearT n ts vs g).map hD = K at *
      generalize (allT vs n).map hD = M at *
      generalize (befT n ts vs g).map hD = N at *
      generalize ((allT vs n).filter (firstB n ts vs)).length = m at *
      infer_instance
  · refine ⟨false, [], run_def (ρ := E d6 G7 S8 S9 S10 S11 y12 S13 .no) rfl rfl (head (seq_rt ?_)) rfl⟩
    clear c1 c2 e1 k3 s3 V W rl rgn rg c4 c6 G k7 c69 c76 c70 c72 c77 c71 a8 k9 q9 f9 p9 a9 k10 c10 k11 c11 pt a12 e2 ne nl a15 c78 c16 hp k17 me s17 a17 e3 a21 lb pb blen bl rne
    have z' : (3 : Int) < n := by omega
    simp only [b79, E, G7, S8, S9, S10, S11, S13]
    generalize (nearT n ts vs g).map hD = K at *
    generalize (allT vs n).map hD = M at *
    generalize (befT n ts vs g).map hD = N at *
    infer_instance
end Lw
end

namespace Lw
open PySem PySem.Spec PyProof.Rows L2 Ev
def top (i : Nat) : Stmt := PySem.Challenge.pw_stoopers_k10_whole_befores.main.body.getD i (.Pass ⟨0, 0, 0, 0⟩)
def fns : List (Str × Nat × List Bool) := [(("is_int" : Str), 0, [false]), (("is_from" : Str), 1, [false, false, false]), (("is_height" : Str), 2, [false]), (("is_tie" : Str), 3, [false, false]), (("need_web" : Str), 4, [false]), (("need_heights" : Str), 5, [false, false]), (("need_person" : Str), 6, [false, false]), (("tied_to" : Str), 8, [false, false]), (("hanging" : Str), 10, [false, false, false]), (("everybody" : Str), 13, [false]), (("open_at" : Str), 28, [false, false, false]), (("piece_of" : Str), 29, [false, false, false, false]), (("sources_of" : Str), 30, [false, false, false, false]), (("is_reached" : Str), 32, [false, false, false]), (("need_values" : Str), 65, [false]), (("all_heights" : Str), 66, [false, false]), (("befores_of" : Str), 67, [false, false, false]), (("need_before" : Str), 68, [false, false, false]), (("befores" : Str), 69, [false, false, false]), (("count_befores" : Str), 76, [false, false, false]), (("is_first" : Str), 70, [false, false, false]), (("count_firsts" : Str), 71, [false, false]), (("highest_before" : Str), 72, [false, false, false]), (("steps_before" : Str), 77, [false, false, false]), (("could_be" : Str), 78, [false, false, false, false]), (("_law_taken" : Str), 19, [true, false]), (("_law_pick" : Str), 37, [true, false]), (("_law_alike" : Str), 20, [false, false]), (("_law_is" : Str), 21, [false, false]), (("_law_web" : Str), 22, [true, false, false]), (("_law_heights" : Str), 23, [true, false, false]), (("_law_ties" : Str), 24, [false, false]), (("_law_stoops" : Str), 38, [false, false]), (("_law_after" : Str), 39, [false, false]), (("_law_steps" : Str), 40, [false, false]), (("law" : Str), 79, [false])]
def cst : List (Str × Int) := [(("MOST_PERSONS" : Str), 8), (("MOST_HEIGHT" : Str), 1000), (("MOST_BEFORE" : Str), 5), (("MOST_VALUES" : Str), 4)]
def blt : List Str := [("all" : Str), ("any" : Str), ("bool" : Str), ("enumerate" : Str), ("int" : Str), ("isinstance" : Str), ("len" : Str), ("list" : Str), ("max" : Str), ("range" : Str), ("set" : Str), ("sorted" : Str), ("str" : Str), ("sum" : Str), ("tuple" : Str), ("zip" : Str)]
def N0 : List Str := [("value" : Str)]
def st0 : Stmt := top 10
theorem cc0 : cDef fns cst blt N0 st0 = some fn0.body := by kernel_rfl
def N1 : List Str := [("value" : Str), ("least" : Str), ("most" : Str)]
def st1 : Stmt := top 11
theorem cc1 : cDef fns cst blt N1 st1 = some fn1.body := by kernel_rfl
def N2 : List Str := [("value" : Str)]
def st2 : Stmt := top 12
theorem cc2 : cDef fns cst blt N2 st2 = some fn2.body := by kernel_rfl
def N3 : List Str := [("value" : Str), ("many" : Str)]
def st3 : Stmt := top 13
theorem cc3 : cDef fns cst blt N3 st3 = some fn3.body := by kernel_rfl
def N4 : List Str := [("value" : Str), ("many" : Str), ("ties" : Str), ("index" : Str), ("tie" : Str)]
def st4 : Stmt := top 14
theorem cc4 : cDef fns cst blt N4 st4 = some fn4.body := by kernel_rfl
def N5 : List Str := [("web" : Str), ("value" : Str), ("index" : Str), ("height" : Str)]
def st5 : Stmt := top 15
theorem cc5 : cDef fns cst blt N5 st5 = some fn5.body := by kernel_rfl
def N6 : List Str := [("web" : Str), ("value" : Str)]
def st6 : Stmt := top 16
theorem cc6 : cDef fns cst blt N6 st6 = some fn6.body := by kernel_rfl
def N8 : List Str := [("web" : Str), ("person" : Str), ("found" : Str), ("one" : Str), ("other" : Str)]
def st8 : Stmt := top 17
theorem cc8 : cDef fns cst blt N8 st8 = some fn8.body := by kernel_rfl
def N10 : List Str := [("web" : Str), ("person" : Str), ("lot" : Str), ("found" : Str), ("edge" : Str), ("here" : Str), ("other" : Str)]
def st10 : Stmt := top 18
theorem cc10 : cDef fns cst blt N10 st10 = some fn10.body := by kernel_rfl
def N13 : List Str := [("web" : Str)]
def st13 : Stmt := top 19
theorem cc13 : cDef fns cst blt N13 st13 = some fn13.body := by kernel_rfl
def N28 : List Str := [("heights" : Str), ("goal" : Str), ("height" : Str), ("one" : Str)]
def st28 : Stmt := top 21
theorem cc28 : cDef fns cst blt N28 st28 = some fn28.body := by kernel_rfl
def N29 : List Str := [("web" : Str), ("heights" : Str), ("goal" : Str), ("person" : Str), ("some" : Str)]
def st29 : Stmt := top 23
theorem cc29 : cDef fns cst blt N29 st29 = some fn29.body := by kernel_rfl
def N30 : List Str := [("web" : Str), ("heights" : Str), ("goal" : Str), ("person" : Str), ("one" : Str)]
def st30 : Stmt := top 24
theorem cc30 : cDef fns cst blt N30 st30 = some fn30.body := by kernel_rfl
def N32 : List Str := [("web" : Str), ("heights" : Str), ("goal" : Str), ("person" : Str)]
def st32 : Stmt := top 25
theorem cc32 : cDef fns cst blt N32 st32 = some fn32.body := by kernel_rfl
def N65 : List Str := [("value" : Str), ("one" : Str), ("a" : Str), ("b" : Str)]
def st65 : Stmt := top 29
theorem cc65 : cDef fns cst blt N65 st65 = some fn65.body := by kernel_rfl
def N66 : List Str := [("many" : Str), ("values" : Str), ("found" : Str), ("turn" : Str), ("later" : Str), ("told" : Str), ("height" : Str)]
def st66 : Stmt := top 30
theorem cc66 : cDef fns cst blt N66 st66 = some fn66.body := by kernel_rfl
def N67 : List Str := [("web" : Str), ("goal" : Str), ("values" : Str), ("told" : Str)]
def st67 : Stmt := top 31
theorem cc67 : cDef fns cst blt N67 st67 = some fn67.body := by kernel_rfl
def N68 : List Str := [("web" : Str), ("goal" : Str), ("values" : Str)]
def st68 : Stmt := top 32
theorem cc68 : cDef fns cst blt N68 st68 = some fn68.body := by kernel_rfl
def N69 : List Str := [("web" : Str), ("goal" : Str), ("values" : Str)]
def st69 : Stmt := top 33
theorem cc69 : cDef fns cst blt N69 st69 = some fn69.body := by kernel_rfl
def N76 : List Str := [("web" : Str), ("goal" : Str), ("values" : Str)]
def st76 : Stmt := top 34
theorem cc76 : cDef fns cst blt N76 st76 = some fn76.body := by kernel_rfl
def N70 : List Str := [("web" : Str), ("goal" : Str), ("values" : Str), ("told" : Str)]
def st70 : Stmt := top 35
theorem cc70 : cDef fns cst blt N70 st70 = some fn70.body := by kernel_rfl
def N71 : List Str := [("web" : Str), ("values" : Str), ("found" : Str), ("goal" : Str), ("told" : Str)]
def st71 : Stmt := top 36
theorem cc71 : cDef fns cst blt N71 st71 = some fn71.body := by kernel_rfl
def N72 : List Str := [("web" : Str), ("goal" : Str), ("values" : Str), ("some" : Str), ("best" : Str), ("told" : Str)]
def st72 : Stmt := top 37
theorem cc72 : cDef fns cst blt N72 st72 = some fn72.body := by kernel_rfl
def N77 : List Str := [("web" : Str), ("goal" : Str), ("values" : Str), ("found" : Str), ("told" : Str), ("unlike" : Str), ("one" : Str)]
def st77 : Stmt := top 38
theorem cc77 : cDef fns cst blt N77 st77 = some fn77.body := by kernel_rfl
def N78 : List Str := [("web" : Str), ("goal" : Str), ("person" : Str), ("values" : Str), ("told" : Str)]
def st78 : Stmt := top 39
theorem cc78 : cDef fns cst blt N78 st78 = some fn78.body := by kernel_rfl
def N19 : List Str := [("_law_row" : Str), ("_law_many" : Str), ("_law_cell" : Str), ("_law_found" : Str)]
def st19 : Stmt := top 41
theorem cc19 : cDef fns cst blt N19 st19 = some fn19.body := by kernel_rfl
def N37 : List Str := [("_law_row" : Str), ("_law_things" : Str)]
def st37 : Stmt := top 42
theorem cc37 : cDef fns cst blt N37 st37 = some fn37.body := by kernel_rfl
def N20 : List Str := [("_law_found" : Str), ("_law_due" : Str), ("_law_k" : Str)]
def st20 : Stmt := top 43
theorem cc20 : cDef fns cst blt N20 st20 = some fn20.body := by kernel_rfl
def N21 : List Str := [("_law_found" : Str), ("_law_due" : Str)]
def st21 : Stmt := top 44
theorem cc21 : cDef fns cst blt N21 st21 = some fn21.body := by kernel_rfl
def N22 : List Str := [("_law_row" : Str), ("_law_most" : Str), ("_law_more" : Str), ("_law_many" : Str), ("_law_ties_here" : Str), ("_law_person" : Str), ("_law_turn" : Str), ("_law_one" : Str)]
def st22 : Stmt := top 45
theorem cc22 : cDef fns cst blt N22 st22 = some fn22.body := by kernel_rfl
def N23 : List Str := [("_law_row" : Str), ("_law_many" : Str), ("_law_high" : Str), ("_law_one" : Str)]
def st23 : Stmt := top 46
theorem cc23 : cDef fns cst blt N23 st23 = some fn23.body := by kernel_rfl
def N24 : List Str := [("_law_web_here" : Str), ("_law_person" : Str), ("_law_one" : Str), ("_law_other" : Str)]
def st24 : Stmt := top 47
theorem cc24 : cDef fns cst blt N24 st24 = some fn24.body := by kernel_rfl
def N38 : List Str := [("_law_web_here" : Str), ("_law_heights_here" : Str), ("_law_found" : Str), ("_law_person" : Str), ("_law_one" : Str)]
def st38 : Stmt := top 48
theorem cc38 : cDef fns cst blt N38 st38 = some fn38.body := by kernel_rfl
def N39 : List Str := [("_law_heights_here" : Str), ("_law_pair" : Str)]
def st39 : Stmt := top 49
theorem cc39 : cDef fns cst blt N39 st39 = some fn39.body := by kernel_rfl
def N40 : List Str := [("_law_web_here" : Str), ("_law_heights_here" : Str), ("_law_found" : Str), ("_law_edge" : Str), ("_law_steps_here" : Str), ("_law_now" : Str), ("_law_later" : Str), ("_law_pair" : Str), ("_law_told" : Str)]
def st40 : Stmt := top 50
theorem cc40 : cDef fns cst blt N40 st40 = some fn40.body := by kernel_rfl
def N79 : List Str := [("_law_script" : Str), ("_law_row" : Str), ("_law_web_here" : Str), ("_law_many" : Str), ("_law_values" : Str), ("_law_rows" : Str), ("_law_turn" : Str), ("_law_goal" : Str), ("_law_due" : Str), ("_law_best" : Str), ("_law_top" : Str), ("_law_near" : Str), ("_law_told" : Str), ("_law_person" : Str), ("_law_firsts" : Str), ("_law_later" : Str), ("_law_height" : Str), ("_law_one" : Str), ("_law_at" : Str)]
def st79 : Stmt := top 51
theorem cc79 : cDef fns cst blt N79 st79 = some fn79.body := by kernel_rfl
set_option maxHeartbeats 0 in
theorem all {K : PySem.W.Frag} {h : Heap} {mg : Str → Option Value} {fa : Addr} (KX : K.In h) (G : h.Ns mainGlobals mg) (hfa : mg "law" = some (.ref fa))
    {oc0 kV0 dc0 pm0 cd0 ct0 : Value} {od0 an0 : Option Addr} {sl0 : Array (Option Value)} {f0 : Addr}
    (a0 : PySem.W.nsIn K mainGlobals ("is_int" : Str) = some (some (.ref f0)))
    (l0 : K.lookup f0 = some ⟨oc0, od0, .func (PySem.W.fnOf ("is_int" : Str) ("is_int" : Str) (C8.fnArgs st0) (C8.fnBody st0) (C8.fnScope st0) .none kV0 dc0 pm0 an0 cd0 ct0), sl0⟩)
    (c0 : PySem.W.codeIn K cd0 ("is_int" : Str) = true) (k0 : PySem.W.keepIn K (.ref f0) = true)
    {oc1 kV1 dc1 pm1 cd1 ct1 : Value} {od1 an1 : Option Addr} {sl1 : Array (Option Value)} {f1 : Addr}
    (a1 : PySem.W.nsIn K mainGlobals ("is_from" : Str) = some (some (.ref f1)))
    (l1 : K.lookup f1 = some ⟨oc1, od1, .func (PySem.W.fnOf ("is_from" : Str) ("is_from" : Str) (C8.fnArgs st1) (C8.fnBody st1) (C8.fnScope st1) .none kV1 dc1 pm1 an1 cd1 ct1), sl1⟩)
    (c1 : PySem.W.codeIn K cd1 ("is_from" : Str) = true) (k1 : PySem.W.keepIn K (.ref f1) = true)
    {oc2 kV2 dc2 pm2 cd2 ct2 : Value} {od2 an2 : Option Addr} {sl2 : Array (Option Value)} {f2 : Addr}
    (a2 : PySem.W.nsIn K mainGlobals ("is_height" : Str) = some (some (.ref f2)))
    (l2 : K.lookup f2 = some ⟨oc2, od2, .func (PySem.W.fnOf ("is_height" : Str) ("is_height" : Str) (C8.fnArgs st2) (C8.fnBody st2) (C8.fnScope st2) .none kV2 dc2 pm2 an2 cd2 ct2), sl2⟩)
    (c2 : PySem.W.codeIn K cd2 ("is_height" : Str) = true) (k2 : PySem.W.keepIn K (.ref f2) = true)
    {oc3 kV3 dc3 pm3 cd3 ct3 : Value} {od3 an3 : Option Addr} {sl3 : Array (Option Value)} {f3 : Addr}
    (a3 : PySem.W.nsIn K mainGlobals ("is_tie" : Str) = some (some (.ref f3)))
    (l3 : K.lookup f3 = some ⟨oc3, od3, .func (PySem.W.fnOf ("is_tie" : Str) ("is_tie" : Str) (C8.fnArgs st3) (C8.fnBody st3) (C8.fnScope st3) .none kV3 dc3 pm3 an3 cd3 ct3), sl3⟩)
    (c3 : PySem.W.codeIn K cd3 ("is_tie" : Str) = true) (k3 : PySem.W.keepIn K (.ref f3) = true)
    {oc4 kV4 dc4 pm4 cd4 ct4 : Value} {od4 an4 : Option Addr} {sl4 : Array (Option Value)} {f4 : Addr}
    (a4 : PySem.W.nsIn K mainGlobals ("need_web" : Str) = some (some (.ref f4)))
    (l4 : K.lookup f4 = some ⟨oc4, od4, .func (PySem.W.fnOf ("need_web" : Str) ("need_web" : Str) (C8.fnArgs st4) (C8.fnBody st4) (C8.fnScope st4) .none kV4 dc4 pm4 an4 cd4 ct4), sl4⟩)
    (c4 : PySem.W.codeIn K cd4 ("need_web" : Str) = true) (k4 : PySem.W.keepIn K (.ref f4) = true)
    {oc5 kV5 dc5 pm5 cd5 ct5 : Value} {od5 an5 : Option Addr} {sl5 : Array (Option Value)} {f5 : Addr}
    (a5 : PySem.W.nsIn K mainGlobals ("need_heights" : Str) = some (some (.ref f5)))
    (l5 : K.lookup f5 = some ⟨oc5, od5, .func (PySem.W.fnOf ("need_heights" : Str) ("need_heights" : Str) (C8.fnArgs st5) (C8.fnBody st5) (C8.fnScope st5) .none kV5 dc5 pm5 an5 cd5 ct5), sl5⟩)
    (c5 : PySem.W.codeIn K cd5 ("need_heights" : Str) = true) (k5 : PySem.W.keepIn K (.ref f5) = true)
    {oc6 kV6 dc6 pm6 cd6 ct6 : Value} {od6 an6 : Option Addr} {sl6 : Array (Option Value)} {f6 : Addr}
    (a6 : PySem.W.nsIn K mainGlobals ("need_person" : Str) = some (some (.ref f6)))
    (l6 : K.lookup f6 = some ⟨oc6, od6, .func (PySem.W.fnOf ("need_person" : Str) ("need_person" : Str) (C8.fnArgs st6) (C8.fnBody st6) (C8.fnScope st6) .none kV6 dc6 pm6 an6 cd6 ct6), sl6⟩)
    (c6 : PySem.W.codeIn K cd6 ("need_person" : Str) = true) (k6 : PySem.W.keepIn K (.ref f6) = true)
    {oc8 kV8 dc8 pm8 cd8 ct8 : Value} {od8 an8 : Option Addr} {sl8 : Array (Option Value)} {f8 : Addr}
    (a8 : PySem.W.nsIn K mainGlobals ("tied_to" : Str) = some (some (.ref f8)))
    (l8 : K.lookup f8 = some ⟨oc8, od8, .func (PySem.W.fnOf ("tied_to" : Str) ("tied_to" : Str) (C8.fnArgs st8) (C8.fnBody st8) (C8.fnScope st8) .none kV8 dc8 pm8 an8 cd8 ct8), sl8⟩)
    (c8 : PySem.W.codeIn K cd8 ("tied_to" : Str) = true) (k8 : PySem.W.keepIn K (.ref f8) = true)
    {oc10 kV10 dc10 pm10 cd10 ct10 : Value} {od10 an10 : Option Addr} {sl10 : Array (Option Value)} {f10 : Addr}
    (a10 : PySem.W.nsIn K mainGlobals ("hanging" : Str) = some (some (.ref f10)))
    (l10 : K.lookup f10 = some ⟨oc10, od10, .func (PySem.W.fnOf ("hanging" : Str) ("hanging" : Str) (C8.fnArgs st10) (C8.fnBody st10) (C8.fnScope st10) .none kV10 dc10 pm10 an10 cd10 ct10), sl10⟩)
    (c10 : PySem.W.codeIn K cd10 ("hanging" : Str) = true) (k10 : PySem.W.keepIn K (.ref f10) = true)
    {oc13 kV13 dc13 pm13 cd13 ct13 : Value} {od13 an13 : Option Addr} {sl13 : Array (Option Value)} {f13 : Addr}
    (a13 : PySem.W.nsIn K mainGlobals ("everybody" : Str) = some (some (.ref f13)))
    (l13 : K.lookup f13 = some ⟨oc13, od13, .func (PySem.W.fnOf ("everybody" : Str) ("everybody" : Str) (C8.fnArgs st13) (C8.fnBody st13) (C8.fnScope st13) .none kV13 dc13 pm13 an13 cd13 ct13), sl13⟩)
    (c13 : PySem.W.codeIn K cd13 ("everybody" : Str) = true) (k13 : PySem.W.keepIn K (.ref f13) = true)
    {oc28 kV28 dc28 pm28 cd28 ct28 : Value} {od28 an28 : Option Addr} {sl28 : Array (Option Value)} {f28 : Addr}
    (a28 : PySem.W.nsIn K mainGlobals ("open_at" : Str) = some (some (.ref f28)))
    (l28 : K.lookup f28 = some ⟨oc28, od28, .func (PySem.W.fnOf ("open_at" : Str) ("open_at" : Str) (C8.fnArgs st28) (C8.fnBody st28) (C8.fnScope st28) .none kV28 dc28 pm28 an28 cd28 ct28), sl28⟩)
    (c28 : PySem.W.codeIn K cd28 ("open_at" : Str) = true) (k28 : PySem.W.keepIn K (.ref f28) = true)
    {oc29 kV29 dc29 pm29 cd29 ct29 : Value} {od29 an29 : Option Addr} {sl29 : Array (Option Value)} {f29 : Addr}
    (a29 : PySem.W.nsIn K mainGlobals ("piece_of" : Str) = some (some (.ref f29)))
    (l29 : K.lookup f29 = some ⟨oc29, od29, .func (PySem.W.fnOf ("piece_of" : Str) ("piece_of" : Str) (C8.fnArgs st29) (C8.fnBody st29) (C8.fnScope st29) .none kV29 dc29 pm29 an29 cd29 ct29), sl29⟩)
    (c29 : PySem.W.codeIn K cd29 ("piece_of" : Str) = true) (k29 : PySem.W.keepIn K (.ref f29) = true)
    {oc30 kV30 dc30 pm30 cd30 ct30 : Value} {od30 an30 : Option Addr} {sl30 : Array (Option Value)} {f30 : Addr}
    (a30 : PySem.W.nsIn K mainGlobals ("sources_of" : Str) = some (some (.ref f30)))
    (l30 : K.lookup f30 = some ⟨oc30, od30, .func (PySem.W.fnOf ("sources_of" : Str) ("sources_of" : Str) (C8.fnArgs st30) (C8.fnBody st30) (C8.fnScope st30) .none kV30 dc30 pm30 an30 cd30 ct30), sl30⟩)
    (c30 : PySem.W.codeIn K cd30 ("sources_of" : Str) = true) (k30 : PySem.W.keepIn K (.ref f30) = true)
    {oc32 kV32 dc32 pm32 cd32 ct32 : Value} {od32 an32 : Option Addr} {sl32 : Array (Option Value)} {f32 : Addr}
    (a32 : PySem.W.nsIn K mainGlobals ("is_reached" : Str) = some (some (.ref f32)))
    (l32 : K.lookup f32 = some ⟨oc32, od32, .func (PySem.W.fnOf ("is_reached" : Str) ("is_reached" : Str) (C8.fnArgs st32) (C8.fnBody st32) (C8.fnScope st32) .none kV32 dc32 pm32 an32 cd32 ct32), sl32⟩)
    (c32 : PySem.W.codeIn K cd32 ("is_reached" : Str) = true) (k32 : PySem.W.keepIn K (.ref f32) = true)
    {oc65 kV65 dc65 pm65 cd65 ct65 : Value} {od65 an65 : Option Addr} {sl65 : Array (Option Value)} {f65 : Addr}
    (a65 : PySem.W.nsIn K mainGlobals ("need_values" : Str) = some (some (.ref f65)))
    (l65 : K.lookup f65 = some ⟨oc65, od65, .func (PySem.W.fnOf ("need_values" : Str) ("need_values" : Str) (C8.fnArgs st65) (C8.fnBody st65) (C8.fnScope st65) .none kV65 dc65 pm65 an65 cd65 ct65), sl65⟩)
    (c65 : PySem.W.codeIn K cd65 ("need_values" : Str) = true) (k65 : PySem.W.keepIn K (.ref f65) = true)
    {oc66 kV66 dc66 pm66 cd66 ct66 : Value} {od66 an66 : Option Addr} {sl66 : Array (Option Value)} {f66 : Addr}
    (a66 : PySem.W.nsIn K mainGlobals ("all_heights" : Str) = some (some (.ref f66)))
    (l66 : K.lookup f66 = some ⟨oc66, od66, .func (PySem.W.fnOf ("all_heights" : Str) ("all_heights" : Str) (C8.fnArgs st66) (C8.fnBody st66) (C8.fnScope st66) .none kV66 dc66 pm66 an66 cd66 ct66), sl66⟩)
    (c66 : PySem.W.codeIn K cd66 ("all_heights" : Str) = true) (k66 : PySem.W.keepIn K (.ref f66) = true)
    {oc67 kV67 dc67 pm67 cd67 ct67 : Value} {od67 an67 : Option Addr} {sl67 : Array (Option Value)} {f67 : Addr}
    (a67 : PySem.W.nsIn K mainGlobals ("befores_of" : Str) = some (some (.ref f67)))
    (l67 : K.lookup f67 = some ⟨oc67, od67, .func (PySem.W.fnOf ("befores_of" : Str) ("befores_of" : Str) (C8.fnArgs st67) (C8.fnBody st67) (C8.fnScope st67) .none kV67 dc67 pm67 an67 cd67 ct67), sl67⟩)
    (c67 : PySem.W.codeIn K cd67 ("befores_of" : Str) = true) (k67 : PySem.W.keepIn K (.ref f67) = true)
    {oc68 kV68 dc68 pm68 cd68 ct68 : Value} {od68 an68 : Option Addr} {sl68 : Array (Option Value)} {f68 : Addr}
    (a68 : PySem.W.nsIn K mainGlobals ("need_before" : Str) = some (some (.ref f68)))
    (l68 : K.lookup f68 = some ⟨oc68, od68, .func (PySem.W.fnOf ("need_before" : Str) ("need_before" : Str) (C8.fnArgs st68) (C8.fnBody st68) (C8.fnScope st68) .none kV68 dc68 pm68 an68 cd68 ct68), sl68⟩)
    (c68 : PySem.W.codeIn K cd68 ("need_before" : Str) = true) (k68 : PySem.W.keepIn K (.ref f68) = true)
    {oc69 kV69 dc69 pm69 cd69 ct69 : Value} {od69 an69 : Option Addr} {sl69 : Array (Option Value)} {f69 : Addr}
    (a69 : PySem.W.nsIn K mainGlobals ("befores" : Str) = some (some (.ref f69)))
    (l69 : K.lookup f69 = some ⟨oc69, od69, .func (PySem.W.fnOf ("befores" : Str) ("befores" : Str) (C8.fnArgs st69) (C8.fnBody st69) (C8.fnScope st69) .none kV69 dc69 pm69 an69 cd69 ct69), sl69⟩)
    (c69 : PySem.W.codeIn K cd69 ("befores" : Str) = true) (k69 : PySem.W.keepIn K (.ref f69) = true)
    {oc76 kV76 dc76 pm76 cd76 ct76 : Value} {od76 an76 : Option Addr} {sl76 : Array (Option Value)} {f76 : Addr}
    (a76 : PySem.W.nsIn K mainGlobals ("count_befores" : Str) = some (some (.ref f76)))
    (l76 : K.lookup f76 = some ⟨oc76, od76, .func (PySem.W.fnOf ("count_befores" : Str) ("count_befores" : Str) (C8.fnArgs st76) (C8.fnBody st76) (C8.fnScope st76) .none kV76 dc76 pm76 an76 cd76 ct76), sl76⟩)
    (c76 : PySem.W.codeIn K cd76 ("count_befores" : Str) = true) (k76 : PySem.W.keepIn K (.ref f76) = true)
    {oc70 kV70 dc70 pm70 cd70 ct70 : Value} {od70 an70 : Option Addr} {sl70 : Array (Option Value)} {f70 : Addr}
    (a70 : PySem.W.nsIn K mainGlobals ("is_first" : Str) = some (some (.ref f70)))
    (l70 : K.lookup f70 = some ⟨oc70, od70, .func (PySem.W.fnOf ("is_first" : Str) ("is_first" : Str) (C8.fnArgs st70) (C8.fnBody st70) (C8.fnScope st70) .none kV70 dc70 pm70 an70 cd70 ct70), sl70⟩)
    (c70 : PySem.W.codeIn K cd70 ("is_first" : Str) = true) (k70 : PySem.W.keepIn K (.ref f70) = true)
    {oc71 kV71 dc71 pm71 cd71 ct71 : Value} {od71 an71 : Option Addr} {sl71 : Array (Option Value)} {f71 : Addr}
    (a71 : PySem.W.nsIn K mainGlobals ("count_firsts" : Str) = some (some (.ref f71)))
    (l71 : K.lookup f71 = some ⟨oc71, od71, .func (PySem.W.fnOf ("count_firsts" : Str) ("count_firsts" : Str) (C8.fnArgs st71) (C8.fnBody st71) (C8.fnScope st71) .none kV71 dc71 pm71 an71 cd71 ct71), sl71⟩)
    (c71 : PySem.W.codeIn K cd71 ("count_firsts" : Str) = true) (k71 : PySem.W.keepIn K (.ref f71) = true)
    {oc72 kV72 dc72 pm72 cd72 ct72 : Value} {od72 an72 : Option Addr} {sl72 : Array (Option Value)} {f72 : Addr}
    (a72 : PySem.W.nsIn K mainGlobals ("highest_before" : Str) = some (some (.ref f72)))
    (l72 : K.lookup f72 = some ⟨oc72, od72, .func (PySem.W.fnOf ("highest_before" : Str) ("highest_before" : Str) (C8.fnArgs st72) (C8.fnBody st72) (C8.fnScope st72) .none kV72 dc72 pm72 an72 cd72 ct72), sl72⟩)
    (c72 : PySem.W.codeIn K cd72 ("highest_before" : Str) = true) (k72 : PySem.W.keepIn K (.ref f72) = true)
    {oc77 kV77 dc77 pm77 cd77 ct77 : Value} {od77 an77 : Option Addr} {sl77 : Array (Option Value)} {f77 : Addr}
    (a77 : PySem.W.nsIn K mainGlobals ("steps_before" : Str) = some (some (.ref f77)))
    (l77 : K.lookup f77 = some ⟨oc77, od77, .func (PySem.W.fnOf ("steps_before" : Str) ("steps_before" : Str) (C8.fnArgs st77) (C8.fnBody st77) (C8.fnScope st77) .none kV77 dc77 pm77 an77 cd77 ct77), sl77⟩)
    (c77 : PySem.W.codeIn K cd77 ("steps_before" : Str) = true) (k77 : PySem.W.keepIn K (.ref f77) = true)
    {oc78 kV78 dc78 pm78 cd78 ct78 : Value} {od78 an78 : Option Addr} {sl78 : Array (Option Value)} {f78 : Addr}
    (a78 : PySem.W.nsIn K mainGlobals ("could_be" : Str) = some (some (.ref f78)))
    (l78 : K.lookup f78 = some ⟨oc78, od78, .func (PySem.W.fnOf ("could_be" : Str) ("could_be" : Str) (C8.fnArgs st78) (C8.fnBody st78) (C8.fnScope st78) .none kV78 dc78 pm78 an78 cd78 ct78), sl78⟩)
    (c78 : PySem.W.codeIn K cd78 ("could_be" : Str) = true) (k78 : PySem.W.keepIn K (.ref f78) = true)
    {oc19 kV19 dc19 pm19 cd19 ct19 : Value} {od19 an19 : Option Addr} {sl19 : Array (Option Value)} {f19 : Addr}
    (a19 : PySem.W.nsIn K mainGlobals ("_law_taken" : Str) = some (some (.ref f19)))
    (l19 : K.lookup f19 = some ⟨oc19, od19, .func (PySem.W.fnOf ("_law_taken" : Str) ("_law_taken" : Str) (C8.fnArgs st19) (C8.fnBody st19) (C8.fnScope st19) .none kV19 dc19 pm19 an19 cd19 ct19), sl19⟩)
    (c19 : PySem.W.codeIn K cd19 ("_law_taken" : Str) = true) (k19 : PySem.W.keepIn K (.ref f19) = true)
    {oc37 kV37 dc37 pm37 cd37 ct37 : Value} {od37 an37 : Option Addr} {sl37 : Array (Option Value)} {f37 : Addr}
    (a37 : PySem.W.nsIn K mainGlobals ("_law_pick" : Str) = some (some (.ref f37)))
    (l37 : K.lookup f37 = some ⟨oc37, od37, .func (PySem.W.fnOf ("_law_pick" : Str) ("_law_pick" : Str) (C8.fnArgs st37) (C8.fnBody st37) (C8.fnScope st37) .none kV37 dc37 pm37 an37 cd37 ct37), sl37⟩)
    (c37 : PySem.W.codeIn K cd37 ("_law_pick" : Str) = true) (k37 : PySem.W.keepIn K (.ref f37) = true)
    {oc20 kV20 dc20 pm20 cd20 ct20 : Value} {od20 an20 : Option Addr} {sl20 : Array (Option Value)} {f20 : Addr}
    (a20 : PySem.W.nsIn K mainGlobals ("_law_alike" : Str) = some (some (.ref f20)))
    (l20 : K.lookup f20 = some ⟨oc20, od20, .func (PySem.W.fnOf ("_law_alike" : Str) ("_law_alike" : Str) (C8.fnArgs st20) (C8.fnBody st20) (C8.fnScope st20) .none kV20 dc20 pm20 an20 cd20 ct20), sl20⟩)
    (c20 : PySem.W.codeIn K cd20 ("_law_alike" : Str) = true) (k20 : PySem.W.keepIn K (.ref f20) = true)
    {oc21 kV21 dc21 pm21 cd21 ct21 : Value} {od21 an21 : Option Addr} {sl21 : Array (Option Value)} {f21 : Addr}
    (a21 : PySem.W.nsIn K mainGlobals ("_law_is" : Str) = some (some (.ref f21)))
    (l21 : K.lookup f21 = some ⟨oc21, od21, .func (PySem.W.fnOf ("_law_is" : Str) ("_law_is" : Str) (C8.fnArgs st21) (C8.fnBody st21) (C8.fnScope st21) .none kV21 dc21 pm21 an21 cd21 ct21), sl21⟩)
    (c21 : PySem.W.codeIn K cd21 ("_law_is" : Str) = true) (k21 : PySem.W.keepIn K (.ref f21) = true)
    {oc22 kV22 dc22 pm22 cd22 ct22 : Value} {od22 an22 : Option Addr} {sl22 : Array (Option Value)} {f22 : Addr}
    (a22 : PySem.W.nsIn K mainGlobals ("_law_web" : Str) = some (some (.ref f22)))
    (l22 : K.lookup f22 = some ⟨oc22, od22, .func (PySem.W.fnOf ("_law_web" : Str) ("_law_web" : Str) (C8.fnArgs st22) (C8.fnBody st22) (C8.fnScope st22) .none kV22 dc22 pm22 an22 cd22 ct22), sl22⟩)
    (c22 : PySem.W.codeIn K cd22 ("_law_web" : Str) = true) (k22 : PySem.W.keepIn K (.ref f22) = true)
    {oc23 kV23 dc23 pm23 cd23 ct23 : Value} {od23 an23 : Option Addr} {sl23 : Array (Option Value)} {f23 : Addr}
    (a23 : PySem.W.nsIn K mainGlobals ("_law_heights" : Str) = some (some (.ref f23)))
    (l23 : K.lookup f23 = some ⟨oc23, od23, .func (PySem.W.fnOf ("_law_heights" : Str) ("_law_heights" : Str) (C8.fnArgs st23) (C8.fnBody st23) (C8.fnScope st23) .none kV23 dc23 pm23 an23 cd23 ct23), sl23⟩)
    (c23 : PySem.W.codeIn K cd23 ("_law_heights" : Str) = true) (k23 : PySem.W.keepIn K (.ref f23) = true)
    {oc24 kV24 dc24 pm24 cd24 ct24 : Value} {od24 an24 : Option Addr} {sl24 : Array (Option Value)} {f24 : Addr}
    (a24 : PySem.W.nsIn K mainGlobals ("_law_ties" : Str) = some (some (.ref f24)))
    (l24 : K.lookup f24 = some ⟨oc24, od24, .func (PySem.W.fnOf ("_law_ties" : Str) ("_law_ties" : Str) (C8.fnArgs st24) (C8.fnBody st24) (C8.fnScope st24) .none kV24 dc24 pm24 an24 cd24 ct24), sl24⟩)
    (c24 : PySem.W.codeIn K cd24 ("_law_ties" : Str) = true) (k24 : PySem.W.keepIn K (.ref f24) = true)
    {oc38 kV38 dc38 pm38 cd38 ct38 : Value} {od38 an38 : Option Addr} {sl38 : Array (Option Value)} {f38 : Addr}
    (a38 : PySem.W.nsIn K mainGlobals ("_law_stoops" : Str) = some (some (.ref f38)))
    (l38 : K.lookup f38 = some ⟨oc38, od38, .func (PySem.W.fnOf ("_law_stoops" : Str) ("_law_stoops" : Str) (C8.fnArgs st38) (C8.fnBody st38) (C8.fnScope st38) .none kV38 dc38 pm38 an38 cd38 ct38), sl38⟩)
    (c38 : PySem.W.codeIn K cd38 ("_law_stoops" : Str) = true) (k38 : PySem.W.keepIn K (.ref f38) = true)
    {oc39 kV39 dc39 pm39 cd39 ct39 : Value} {od39 an39 : Option Addr} {sl39 : Array (Option Value)} {f39 : Addr}
    (a39 : PySem.W.nsIn K mainGlobals ("_law_after" : Str) = some (some (.ref f39)))
    (l39 : K.lookup f39 = some ⟨oc39, od39, .func (PySem.W.fnOf ("_law_after" : Str) ("_law_after" : Str) (C8.fnArgs st39) (C8.fnBody st39) (C8.fnScope st39) .none kV39 dc39 pm39 an39 cd39 ct39), sl39⟩)
    (c39 : PySem.W.codeIn K cd39 ("_law_after" : Str) = true) (k39 : PySem.W.keepIn K (.ref f39) = true)
    {oc40 kV40 dc40 pm40 cd40 ct40 : Value} {od40 an40 : Option Addr} {sl40 : Array (Option Value)} {f40 : Addr}
    (a40 : PySem.W.nsIn K mainGlobals ("_law_steps" : Str) = some (some (.ref f40)))
    (l40 : K.lookup f40 = some ⟨oc40, od40, .func (PySem.W.fnOf ("_law_steps" : Str) ("_law_steps" : Str) (C8.fnArgs st40) (C8.fnBody st40) (C8.fnScope st40) .none kV40 dc40 pm40 an40 cd40 ct40), sl40⟩)
    (c40 : PySem.W.codeIn K cd40 ("_law_steps" : Str) = true) (k40 : PySem.W.keepIn K (.ref f40) = true)
    {oc79 kV79 dc79 pm79 cd79 ct79 : Value} {od79 an79 : Option Addr} {sl79 : Array (Option Value)} {f79 : Addr}
    (a79 : PySem.W.nsIn K mainGlobals ("law" : Str) = some (some (.ref f79)))
    (l79 : K.lookup f79 = some ⟨oc79, od79, .func (PySem.W.fnOf ("law" : Str) ("law" : Str) (C8.fnArgs st79) (C8.fnBody st79) (C8.fnScope st79) .none kV79 dc79 pm79 an79 cd79 ct79), sl79⟩)
    (c79 : PySem.W.codeIn K cd79 ("law" : Str) = true) (k79 : PySem.W.keepIn K (.ref f79) = true)
    {t0 : Tok} (m0 : PySem.W.nsIn K mainGlobals ("MOST_PERSONS" : Str) = some (some (.int (8) t0)))
    {t1 : Tok} (m1 : PySem.W.nsIn K mainGlobals ("MOST_HEIGHT" : Str) = some (some (.int (1000) t1)))
    {t2 : Tok} (m2 : PySem.W.nsIn K mainGlobals ("MOST_BEFORE" : Str) = some (some (.int (5) t2)))
    {t3 : Tok} (m3 : PySem.W.nsIn K mainGlobals ("MOST_VALUES" : Str) = some (some (.int (4) t3)))
    (z0 : PySem.W.nsIn K mainGlobals ("all" : Str) = some none)
    (z1 : PySem.W.nsIn K mainGlobals ("any" : Str) = some none)
    (z2 : PySem.W.nsIn K mainGlobals ("bool" : Str) = some none)
    (z3 : PySem.W.nsIn K mainGlobals ("enumerate" : Str) = some none)
    (z4 : PySem.W.nsIn K mainGlobals ("int" : Str) = some none)
    (z5 : PySem.W.nsIn K mainGlobals ("isinstance" : Str) = some none)
    (z6 : PySem.W.nsIn K mainGlobals ("len" : Str) = some none)
    (z7 : PySem.W.nsIn K mainGlobals ("list" : Str) = some none)
    (z8 : PySem.W.nsIn K mainGlobals ("max" : Str) = some none)
    (z9 : PySem.W.nsIn K mainGlobals ("range" : Str) = some none)
    (z10 : PySem.W.nsIn K mainGlobals ("set" : Str) = some none)
    (z11 : PySem.W.nsIn K mainGlobals ("sorted" : Str) = some none)
    (z12 : PySem.W.nsIn K mainGlobals ("str" : Str) = some none)
    (z13 : PySem.W.nsIn K mainGlobals ("sum" : Str) = some none)
    (z14 : PySem.W.nsIn K mainGlobals ("tuple" : Str) = some none)
    (z15 : PySem.W.nsIn K mainGlobals ("zip" : Str) = some none)
    (nl : noLst K = true) :
    TopI K mg fns cst blt tab 79 ("_law_script" : Str) fa := by
  have e := hfa.symm.trans (PySem.W.mg_of KX G a79)
  cases e
  have D0 := def_mk (fns := fns) (cst := cst) (blt := blt) (tab := tab) (j := 0) (N := N0) (ps := [("value" : Str)]) (fn := fn0) KX G a0 l0 c0 k0 (fun _ _ _ _ _ _ us hl => match us, hl with | [_], _ => rfl) (by decide +kernel) rfl (by decide +kernel) cc0
  have D1 := def_mk (fns := fns) (cst := cst) (blt := blt) (tab := tab) (j := 1) (N := N1) (ps := [("value" : Str), ("least" : Str), ("most" : Str)]) (fn := fn1) KX G a1 l1 c1 k1 (fun _ _ _ _ _ _ us hl => match us, hl with | [_, _, _], _ => rfl) (by decide +kernel) rfl (by decide +kernel) cc1
  have D2 := def_mk (fns := fns) (cst := cst) (blt := blt) (tab := tab) (j := 2) (N := N2) (ps := [("value" : Str)]) (fn := fn2) KX G a2 l2 c2 k2 (fun _ _ _ _ _ _ us hl => match us, hl with | [_], _ => rfl) (by decide +kernel) rfl (by decide +kernel) cc2
  have D3 := def_mk (fns := fns) (cst := cst) (blt := blt) (tab := tab) (j := 3) (N := N3) (ps := [("value" : Str), ("many" : Str)]) (fn := fn3) KX G a3 l3 c3 k3 (fun _ _ _ _ _ _ us hl => match us, hl with | [_, _], _ => rfl) (by decide +kernel) rfl (by decide +kernel) cc3
  have D4 := def_mk (fns := fns) (cst := cst) (blt := blt) (tab := tab) (j := 4) (N := N4) (ps := [("value" : Str)]) (fn := fn4) KX G a4 l4 c4 k4 (fun _ _ _ _ _ _ us hl => match us, hl with | [_], _ => rfl) (by decide +kernel) rfl (by decide +kernel) cc4
  have D5 := def_mk (fns := fns) (cst := cst) (blt := blt) (tab := tab) (j := 5) (N := N5) (ps := [("web" : Str), ("value" : Str)]) (fn := fn5) KX G a5 l5 c5 k5 (fun _ _ _ _ _ _ us hl => match us, hl with | [_, _], _ => rfl) (by decide +kernel) rfl (by decide +kernel) cc5
  have D6 := def_mk (fns := fns) (cst := cst) (blt := blt) (tab := tab) (j := 6) (N := N6) (ps := [("web" : Str), ("value" : Str)]) (fn := fn6) KX G a6 l6 c6 k6 (fun _ _ _ _ _ _ us hl => match us, hl with | [_, _], _ => rfl) (by decide +kernel) rfl (by decide +kernel) cc6
  have D8 := def_mk (fns := fns) (cst := cst) (blt := blt) (tab := tab) (j := 8) (N := N8) (ps := [("web" : Str), ("person" : Str)]) (fn := fn8) KX G a8 l8 c8 k8 (fun _ _ _ _ _ _ us hl => match us, hl with | [_, _], _ => rfl) (by decide +kernel) rfl (by decide +kernel) cc8
  have D10 := def_mk (fns := fns) (cst := cst) (blt := blt) (tab := tab) (j := 10) (N := N10) (ps := [("web" : Str), ("person" : Str), ("lot" : Str)]) (fn := fn10) KX G a10 l10 c10 k10 (fun _ _ _ _ _ _ us hl => match us, hl with | [_, _, _], _ => rfl) (by decide +kernel) rfl (by decide +kernel) cc10
  have D13 := def_mk (fns := fns) (cst := cst) (blt := blt) (tab := tab) (j := 13) (N := N13) (ps := [("web" : Str)]) (fn := fn13) KX G a13 l13 c13 k13 (fun _ _ _ _ _ _ us hl => match us, hl with | [_], _ => rfl) (by decide +kernel) rfl (by decide +kernel) cc13
  have D28 := def_mk (fns := fns) (cst := cst) (blt := blt) (tab := tab) (j := 28) (N := N28) (ps := [("heights" : Str), ("goal" : Str), ("height" : Str)]) (fn := fn28) KX G a28 l28 c28 k28 (fun _ _ _ _ _ _ us hl => match us, hl with | [_, _, _], _ => rfl) (by decide +kernel) rfl (by decide +kernel) cc28
  have D29 := def_mk (fns := fns) (cst := cst) (blt := blt) (tab := tab) (j := 29) (N := N29) (ps := [("web" : Str), ("heights" : Str), ("goal" : Str), ("person" : Str)]) (fn := fn29) KX G a29 l29 c29 k29 (fun _ _ _ _ _ _ us hl => match us, hl with | [_, _, _, _], _ => rfl) (by decide +kernel) rfl (by decide +kernel) cc29
  have D30 := def_mk (fns := fns) (cst := cst) (blt := blt) (tab := tab) (j := 30) (N := N30) (ps := [("web" : Str), ("heights" : Str), ("goal" : Str), ("person" : Str)]) (fn := fn30) KX G a30 l30 c30 k30 (fun _ _ _ _ _ _ us hl => match us, hl with | [_, _, _, _], _ => rfl) (by decide +kernel) rfl (by decide +kernel) cc30
  have D32 := def_mk (fns := fns) (cst := cst) (blt := blt) (tab := tab) (j := 32) (N := N32) (ps := [("web" : Str), ("heights" : Str), ("goal" : Str)]) (fn := fn32) KX G a32 l32 c32 k32 (fun _ _ _ _ _ _ us hl => match us, hl with | [_, _, _], _ => rfl) (by decide +kernel) rfl (by decide +kernel) cc32
  have D65 := def_mk (fns := fns) (cst := cst) (blt := blt) (tab := tab) (j := 65) (N := N65) (ps := [("value" : Str)]) (fn := fn65) KX G a65 l65 c65 k65 (fun _ _ _ _ _ _ us hl => match us, hl with | [_], _ => rfl) (by decide +kernel) rfl (by decide +kernel) cc65
  have D66 := def_mk (fns := fns) (cst := cst) (blt := blt) (tab := tab) (j := 66) (N := N66) (ps := [("many" : Str), ("values" : Str)]) (fn := fn66) KX G a66 l66 c66 k66 (fun _ _ _ _ _ _ us hl => match us, hl with | [_, _], _ => rfl) (by decide +kernel) rfl (by decide +kernel) cc66
  have D67 := def_mk (fns := fns) (cst := cst) (blt := blt) (tab := tab) (j := 67) (N := N67) (ps := [("web" : Str), ("goal" : Str), ("values" : Str)]) (fn := fn67) KX G a67 l67 c67 k67 (fun _ _ _ _ _ _ us hl => match us, hl with | [_, _, _], _ => rfl) (by decide +kernel) rfl (by decide +kernel) cc67
  have D68 := def_mk (fns := fns) (cst := cst) (blt := blt) (tab := tab) (j := 68) (N := N68) (ps := [("web" : Str), ("goal" : Str), ("values" : Str)]) (fn := fn68) KX G a68 l68 c68 k68 (fun _ _ _ _ _ _ us hl => match us, hl with | [_, _, _], _ => rfl) (by decide +kernel) rfl (by decide +kernel) cc68
  have D69 := def_mk (fns := fns) (cst := cst) (blt := blt) (tab := tab) (j := 69) (N := N69) (ps := [("web" : Str), ("goal" : Str), ("values" : Str)]) (fn := fn69) KX G a69 l69 c69 k69 (fun _ _ _ _ _ _ us hl => match us, hl with | [_, _, _], _ => rfl) (by decide +kernel) rfl (by decide +kernel) cc69
  have D76 := def_mk (fns := fns) (cst := cst) (blt := blt) (tab := tab) (j := 76) (N := N76) (ps := [("web" : Str), ("goal" : Str), ("values" : Str)]) (fn := fn76) KX G a76 l76 c76 k76 (fun _ _ _ _ _ _ us hl => match us, hl with | [_, _, _], _ => rfl) (by decide +kernel) rfl (by decide +kernel) cc76
  have D70 := def_mk (fns := fns) (cst := cst) (blt := blt) (tab := tab) (j := 70) (N := N70) (ps := [("web" : Str), ("goal" : Str), ("values" : Str)]) (fn := fn70) KX G a70 l70 c70 k70 (fun _ _ _ _ _ _ us hl => match us, hl with | [_, _, _], _ => rfl) (by decide +kernel) rfl (by decide +kernel) cc70
  have D71 := def_mk (fns := fns) (cst := cst) (blt := blt) (tab := tab) (j := 71) (N := N71) (ps := [("web" : Str), ("values" : Str)]) (fn := fn71) KX G a71 l71 c71 k71 (fun _ _ _ _ _ _ us hl => match us, hl with | [_, _], _ => rfl) (by decide +kernel) rfl (by decide +kernel) cc71
  have D72 := def_mk (fns := fns) (cst := cst) (blt := blt) (tab := tab) (j := 72) (N := N72) (ps := [("web" : Str), ("goal" : Str), ("values" : Str)]) (fn := fn72) KX G a72 l72 c72 k72 (fun _ _ _ _ _ _ us hl => match us, hl with | [_, _, _], _ => rfl) (by decide +kernel) rfl (by decide +kernel) cc72
  have D77 := def_mk (fns := fns) (cst := cst) (blt := blt) (tab := tab) (j := 77) (N := N77) (ps := [("web" : Str), ("goal" : Str), ("values" : Str)]) (fn := fn77) KX G a77 l77 c77 k77 (fun _ _ _ _ _ _ us hl => match us, hl with | [_, _, _], _ => rfl) (by decide +kernel) rfl (by decide +kernel) cc77
  have D78 := def_mk (fns := fns) (cst := cst) (blt := blt) (tab := tab) (j := 78) (N := N78) (ps := [("web" : Str), ("goal" : Str), ("person" : Str), ("values" : Str)]) (fn := fn78) KX G a78 l78 c78 k78 (fun _ _ _ _ _ _ us hl => match us, hl with | [_, _, _, _], _ => rfl) (by decide +kernel) rfl (by decide +kernel) cc78
  have D19 := def_mk (fns := fns) (cst := cst) (blt := blt) (tab := tab) (j := 19) (N := N19) (ps := [("_law_row" : Str), ("_law_many" : Str)]) (fn := fn19) KX G a19 l19 c19 k19 (fun _ _ _ _ _ _ us hl => match us, hl with | [_, _], _ => rfl) (by decide +kernel) rfl (by decide +kernel) cc19
  have D37 := def_mk (fns := fns) (cst := cst) (blt := blt) (tab := tab) (j := 37) (N := N37) (ps := [("_law_row" : Str), ("_law_things" : Str)]) (fn := fn37) KX G a37 l37 c37 k37 (fun _ _ _ _ _ _ us hl => match us, hl with | [_, _], _ => rfl) (by decide +kernel) rfl (by decide +kernel) cc37
  have D20 := def_mk (fns := fns) (cst := cst) (blt := blt) (tab := tab) (j := 20) (N := N20) (ps := [("_law_found" : Str), ("_law_due" : Str)]) (fn := fn20) KX G a20 l20 c20 k20 (fun _ _ _ _ _ _ us hl => match us, hl with | [_, _], _ => rfl) (by decide +kernel) rfl (by decide +kernel) cc20
  have D21 := def_mk (fns := fns) (cst := cst) (blt := blt) (tab := tab) (j := 21) (N := N21) (ps := [("_law_found" : Str), ("_law_due" : Str)]) (fn := fn21) KX G a21 l21 c21 k21 (fun _ _ _ _ _ _ us hl => match us, hl with | [_, _], _ => rfl) (by decide +kernel) rfl (by decide +kernel) cc21
  have D22 := def_mk (fns := fns) (cst := cst) (blt := blt) (tab := tab) (j := 22) (N := N22) (ps := [("_law_row" : Str), ("_law_most" : Str), ("_law_more" : Str)]) (fn := fn22) KX G a22 l22 c22 k22 (fun _ _ _ _ _ _ us hl => match us, hl with | [_, _, _], _ => rfl) (by decide +kernel) rfl (by decide +kernel) cc22
  have D23 := def_mk (fns := fns) (cst := cst) (blt := blt) (tab := tab) (j := 23) (N := N23) (ps := [("_law_row" : Str), ("_law_many" : Str), ("_law_high" : Str)]) (fn := fn23) KX G a23 l23 c23 k23 (fun _ _ _ _ _ _ us hl => match us, hl with | [_, _, _], _ => rfl) (by decide +kernel) rfl (by decide +kernel) cc23
  have D24 := def_mk (fns := fns) (cst := cst) (blt := blt) (tab := tab) (j := 24) (N := N24) (ps := [("_law_web_here" : Str), ("_law_person" : Str)]) (fn := fn24) KX G a24 l24 c24 k24 (fun _ _ _ _ _ _ us hl => match us, hl with | [_, _], _ => rfl) (by decide +kernel) rfl (by decide +kernel) cc24
  have D38 := def_mk (fns := fns) (cst := cst) (blt := blt) (tab := tab) (j := 38) (N := N38) (ps := [("_law_web_here" : Str), ("_law_heights_here" : Str)]) (fn := fn38) KX G a38 l38 c38 k38 (fun _ _ _ _ _ _ us hl => match us, hl with | [_, _], _ => rfl) (by decide +kernel) rfl (by decide +kernel) cc38
  have D39 := def_mk (fns := fns) (cst := cst) (blt := blt) (tab := tab) (j := 39) (N := N39) (ps := [("_law_heights_here" : Str), ("_law_pair" : Str)]) (fn := fn39) KX G a39 l39 c39 k39 (fun _ _ _ _ _ _ us hl => match us, hl with | [_, _], _ => rfl) (by decide +kernel) rfl (by decide +kernel) cc39
  have D40 := def_mk (fns := fns) (cst := cst) (blt := blt) (tab := tab) (j := 40) (N := N40) (ps := [("_law_web_here" : Str), ("_law_heights_here" : Str)]) (fn := fn40) KX G a40 l40 c40 k40 (fun _ _ _ _ _ _ us hl => match us, hl with | [_, _], _ => rfl) (by decide +kernel) rfl (by decide +kernel) cc40
  have D79 := def_mk (fns := fns) (cst := cst) (blt := blt) (tab := tab) (j := 79) (N := N79) (ps := [("_law_script" : Str)]) (fn := fn79) KX G a79 l79 c79 k79 (fun _ _ _ _ _ _ us hl => match us, hl with | [_], _ => rfl) (by decide +kernel) rfl (by decide +kernel) cc79
  exact ⟨nl, (all_cons (P := fun (p : Str × Int) => ∃ u, mg p.1 = some u ∧ RelV (.int p.2) u) ⟨_, PySem.W.mg_of KX G m0, ⟨_, rfl⟩⟩ (all_cons (P := fun (p : Str × Int) => ∃ u, mg p.1 = some u ∧ RelV (.int p.2) u) ⟨_, PySem.W.mg_of KX G m1, ⟨_, rfl⟩⟩ (all_cons (P := fun (p : Str × Int) => ∃ u, mg p.1 = some u ∧ RelV (.int p.2) u) ⟨_, PySem.W.mg_of KX G m2, ⟨_, rfl⟩⟩ (all_cons (P := fun (p : Str × Int) => ∃ u, mg p.1 = some u ∧ RelV (.int p.2) u) ⟨_, PySem.W.mg_of KX G m3, ⟨_, rfl⟩⟩ all_nil)))), (all_cons (P := fun (p : Str) => mg p = none) (PySem.W.mg_none_of KX G z0) (all_cons (P := fun (p : Str) => mg p = none) (PySem.W.mg_none_of KX G z1) (all_cons (P := fun (p : Str) => mg p = none) (PySem.W.mg_none_of KX G z2) (all_cons (P := fun (p : Str) => mg p = none) (PySem.W.mg_none_of KX G z3) (all_cons (P := fun (p : Str) => mg p = none) (PySem.W.mg_none_of KX G z4) (all_cons (P := fun (p : Str) => mg p = none) (PySem.W.mg_none_of KX G z5) (all_cons (P := fun (p : Str) => mg p = none) (PySem.W.mg_none_of KX G z6) (all_cons (P := fun (p : Str) => mg p = none) (PySem.W.mg_none_of KX G z7) (all_cons (P := fun (p : Str) => mg p = none) (PySem.W.mg_none_of KX G z8) (all_cons (P := fun (p : Str) => mg p = none) (PySem.W.mg_none_of KX G z9) (all_cons (P := fun (p : Str) => mg p = none) (PySem.W.mg_none_of KX G z10) (all_cons (P := fun (p : Str) => mg p = none) (PySem.W.mg_none_of KX G z11) (all_cons (P := fun (p : Str) => mg p = none) (PySem.W.mg_none_of KX G z12) (all_cons (P := fun (p : Str) => mg p = none) (PySem.W.mg_none_of KX G z13) (all_cons (P := fun (p : Str) => mg p = none) (PySem.W.mg_none_of KX G z14) (all_cons (P := fun (p : Str) => mg p = none) (PySem.W.mg_none_of KX G z15) all_nil)))))))))))))))), (all_cons (P := fun (p : Str × Nat × List Bool) => ∃ f fd ps, DefI K mg fns cst blt tab p.1 p.2.1 p.2.2 f fd ps) ⟨_, _, _, D0⟩ (all_cons (P := fun (p : Str × Nat × List Bool) => ∃ f fd ps, DefI K mg fns cst blt tab p.1 p.2.1 p.2.2 f fd ps) ⟨_, _, _, D1⟩ (all_cons (P := fun (p : Str × Nat × List Bool) => ∃ f fd ps, DefI K mg fns cst blt tab p.1 p.2.1 p.2.2 f fd ps) ⟨_, _, _, D2⟩ (all_cons (P := fun (p : Str × Nat × List Bool) => ∃ f fd ps, DefI K mg fns cst blt tab p.1 p.2.1 p.2.2 f fd ps) ⟨_, _, _, D3⟩ (all_cons (P := fun (p : Str × Nat × List Bool) => ∃ f fd ps, DefI K mg fns cst blt tab p.1 p.2.1 p.2.2 f fd ps) ⟨_, _, _, D4⟩ (all_cons (P := fun (p : Str × Nat × List Bool) => ∃ f fd ps, DefI K mg fns cst blt tab p.1 p.2.1 p.2.2 f fd ps) ⟨_, _, _, D5⟩ (all_cons (P := fun (p : Str × Nat × List Bool) => ∃ f fd ps, DefI K mg fns cst blt tab p.1 p.2.1 p.2.2 f fd ps) ⟨_, _, _, D6⟩ (all_cons (P := fun (p : Str × Nat × List Bool) => ∃ f fd ps, DefI K mg fns cst blt tab p.1 p.2.1 p.2.2 f fd ps) ⟨_, _, _, D8⟩ (all_cons (P := fun (p : Str × Nat × List Bool) => ∃ f fd ps, DefI K mg fns cst blt tab p.1 p.2.1 p.2.2 f fd ps) ⟨_, _, _, D10⟩ (all_cons (P := fun (p : Str × Nat × List Bool) => ∃ f fd ps, DefI K mg fns cst blt tab p.1 p.2.1 p.2.2 f fd ps) ⟨_, _, _, D13⟩ (all_cons (P := fun (p : Str × Nat × List Bool) => ∃ f fd ps, DefI K mg fns cst blt tab p.1 p.2.1 p.2.2 f fd ps) ⟨_, _, _, D28⟩ (all_cons (P := fun (p : Str × Nat × List Bool) => ∃ f fd ps, DefI K mg fns cst blt tab p.1 p.2.1 p.2.2 f fd ps) ⟨_, _, _, D29⟩ (all_cons (P := fun (p : Str × Nat × List Bool) => ∃ f fd ps, DefI K mg fns cst blt tab p.1 p.2.1 p.2.2 f fd ps) ⟨_, _, _, D30⟩ (all_cons (P := fun (p : Str × Nat × List Bool) => ∃ f fd ps, DefI K mg fns cst blt tab p.1 p.2.1 p.2.2 f fd ps) ⟨_, _, _, D32⟩ (all_cons (P := fun (p : Str × Nat × List Bool) => ∃ f fd ps, DefI K mg fns cst blt tab p.1 p.2.1 p.2.2 f fd ps) ⟨_, _, _, D65⟩ (all_cons (P := fun (p : Str × Nat × List Bool) => ∃ f fd ps, DefI K mg fns cst blt tab p.1 p.2.1 p.2.2 f fd ps) ⟨_, _, _, D66⟩ (all_cons (P := fun (p : Str × Nat × List Bool) => ∃ f fd ps, DefI K mg fns cst blt tab p.1 p.2.1 p.2.2 f fd ps) ⟨_, _, _, D67⟩ (all_cons (P := fun (p : Str × Nat × List Bool) => ∃ f fd ps, DefI K mg fns cst blt tab p.1 p.2.1 p.2.2 f fd ps) ⟨_, _, _, D68⟩ (all_cons (P := fun (p : Str × Nat × List Bool) => ∃ f fd ps, DefI K mg fns cst blt tab p.1 p.2.1 p.2.2 f fd ps) ⟨_, _, _, D69⟩ (all_cons (P := fun (p : Str × Nat × List Bool) => ∃ f fd ps, DefI K mg fns cst blt tab p.1 p.2.1 p.2.2 f fd ps) ⟨_, _, _, D76⟩ (all_cons (P := fun (p : Str × Nat × List Bool) => ∃ f fd ps, DefI K mg fns cst blt tab p.1 p.2.1 p.2.2 f fd ps) ⟨_, _, _, D70⟩ (all_cons (P := fun (p : Str × Nat × List Bool) => ∃ f fd ps, DefI K mg fns cst blt tab p.1 p.2.1 p.2.2 f fd ps) ⟨_, _, _, D71⟩ (all_cons (P := fun (p : Str × Nat × List Bool) => ∃ f fd ps, DefI K mg fns cst blt tab p.1 p.2.1 p.2.2 f fd ps) ⟨_, _, _, D72⟩ (all_cons (P := fun (p : Str × Nat × List Bool) => ∃ f fd ps, DefI K mg fns cst blt tab p.1 p.2.1 p.2.2 f fd ps) ⟨_, _, _, D77⟩ (all_cons (P := fun (p : Str × Nat × List Bool) => ∃ f fd ps, DefI K mg fns cst blt tab p.1 p.2.1 p.2.2 f fd ps) ⟨_, _, _, D78⟩ (all_cons (P := fun (p : Str × Nat × List Bool) => ∃ f fd ps, DefI K mg fns cst blt tab p.1 p.2.1 p.2.2 f fd ps) ⟨_, _, _, D19⟩ (all_cons (P := fun (p : Str × Nat × List Bool) => ∃ f fd ps, DefI K mg fns cst blt tab p.1 p.2.1 p.2.2 f fd ps) ⟨_, _, _, D37⟩ (all_cons (P := fun (p : Str × Nat × List Bool) => ∃ f fd ps, DefI K mg fns cst blt tab p.1 p.2.1 p.2.2 f fd ps) ⟨_, _, _, D20⟩ (all_cons (P := fun (p : Str × Nat × List Bool) => ∃ f fd ps, DefI K mg fns cst blt tab p.1 p.2.1 p.2.2 f fd ps) ⟨_, _, _, D21⟩ (all_cons (P := fun (p : Str × Nat × List Bool) => ∃ f fd ps, DefI K mg fns cst blt tab p.1 p.2.1 p.2.2 f fd ps) ⟨_, _, _, D22⟩ (all_cons (P := fun (p : Str × Nat × List Bool) => ∃ f fd ps, DefI K mg fns cst blt tab p.1 p.2.1 p.2.2 f fd ps) ⟨_, _, _, D23⟩ (all_cons (P := fun (p : Str × Nat × List Bool) => ∃ f fd ps, DefI K mg fns cst blt tab p.1 p.2.1 p.2.2 f fd ps) ⟨_, _, _, D24⟩ (all_cons (P := fun (p : Str × Nat × List Bool) => ∃ f fd ps, DefI K mg fns cst blt tab p.1 p.2.1 p.2.2 f fd ps) ⟨_, _, _, D38⟩ (all_cons (P := fun (p : Str × Nat × List Bool) => ∃ f fd ps, DefI K mg fns cst blt tab p.1 p.2.1 p.2.2 f fd ps) ⟨_, _, _, D39⟩ (all_cons (P := fun (p : Str × Nat × List Bool) => ∃ f fd ps, DefI K mg fns cst blt tab p.1 p.2.1 p.2.2 f fd ps) ⟨_, _, _, D40⟩ (all_cons (P := fun (p : Str × Nat × List Bool) => ∃ f fd ps, DefI K mg fns cst blt tab p.1 p.2.1 p.2.2 f fd ps) ⟨_, _, _, D79⟩ all_nil)))))))))))))))))))))))))))))))))))), _, D79, fun s u => .of_eq rfl⟩
end Lw
open PySem PySem.W PyProof.Rows
set_option maxRecDepth 100000 in
set_option maxHeartbeats 0 in
theorem PySem.Challenge.cw_stoopers_k10_whole_befores_holds : PySem.Challenge.rw_stoopers_k10_whole_befores.Holds := by
  w_on; o_law; k_head; (case hw => w_witness2)
  k_fill
  refine Ev.walkEv (l := PySem.Challenge.rw_stoopers_k10_whole_befores) (fns := Lw.fns) (cst := Lw.cst) (blt := Lw.blt) (tab := Lw.tab) (j := 79) (x := ("_law_script" : Str)) Lw.runs10 rfl rfl (fun w h Y => PySem.W.kIn_of Y) ?F
  case F =>
    intro w mg fa h KX G hmg
    refine' Lw.all KX G hmg ?a0 ?l0 ?c0 ?k0 ?a1 ?l1 ?c1 ?k1 ?a2 ?l2 ?c2 ?k2 ?a3 ?l3 ?c3 ?k3 ?a4 ?l4 ?c4 ?k4 ?a5 ?l5 ?c5 ?k5 ?a6 ?l6 ?c6 ?k6 ?a8 ?l8 ?c8 ?k8 ?a10 ?l10 ?c10 ?k10 ?a13 ?l13 ?c13 ?k13 ?a28 ?l28 ?c28 ?k28 ?a29 ?l29 ?c29 ?k29 ?a30 ?l30 ?c30 ?k30 ?a32 ?l32 ?c32 ?k32 ?a65 ?l65 ?c65 ?k65 ?a66 ?l66 ?c66 ?k66 ?a67 ?l67 ?c67 ?k67 ?a68 ?l68 ?c68 ?k68 ?a69 ?l69 ?c69 ?k69 ?a76 ?l76 ?c76 ?k76 ?a70 ?l70 ?c70 ?k70 ?a71 ?l71 ?c71 ?k71 ?a72 ?l72 ?c72 ?k72 ?a77 ?l77 ?c77 ?k77 ?a78 ?l78 ?c78 ?k78 ?a19 ?l19 ?c19 ?k19 ?a37 ?l37 ?c37 ?k37 ?a20 ?l20 ?c20 ?k20 ?a21 ?l21 ?c21 ?k21 ?a22 ?l22 ?c22 ?k22 ?a23 ?l23 ?c23 ?k23 ?a24 ?l24 ?c24 ?k24 ?a38 ?l38 ?c38 ?k38 ?a39 ?l39 ?c39 ?k39 ?a40 ?l40 ?c40 ?k40 ?a79 ?l79 ?c79 ?k79 ?m0 ?m1 ?m2 ?m3 ?z0 ?z1 ?z2 ?z3 ?z4 ?z5 ?z6 ?z7 ?z8 ?z9 ?z10 ?z11 ?z12 ?z13 ?z14 ?z15 ?nl
    (case a0 => k_is)
    (case l0 => k_is)
    (case c0 => k_is)
    (case k0 => k_is)
    (case a1 => k_is)
    (case l1 => k_is)
    (case c1 => k_is)
    (case k1 => k_is)
    (case a2 => k_is)
    (case l2 => k_is)
    (case c2 => k_is)
    (case k2 => k_is)
    (case a3 => k_is)
    (case l3 => k_is)
    (case c3 => k_is)
    (case k3 => k_is)
    (case a4 => k_is)
    (case l4 => k_is)
    (case c4 => k_is)
    (case k4 => k_is)
    (case a5 => k_is)
    (case l5 => k_is)
    (case c5 => k_is)
    (case k5 => k_is)
    (case a6 => k_is)
    (case l6 => k_is)
    (case c6 => k_is)
    (case k6 => k_is)
    (case a8 => k_is)
    (case l8 => k_is)
    (case c8 => k_is)
    (case k8 => k_is)
    (case a10 => k_is)
    (case l10 => k_is)
    (case c10 => k_is)
    (case k10 => k_is)
    (case a13 => k_is)
    (case l13 => k_is)
    (case c13 => k_is)
    (case k13 => k_is)
    (case a28 => k_is)
    (case l28 => k_is)
    (case c28 => k_is)
    (case k28 => k_is)
    (case a29 => k_is)
    (case l29 => k_is)
    (case c29 => k_is)
    (case k29 => k_is)
    (case a30 => k_is)
    (case l30 => k_is)
    (case c30 => k_is)
    (case k30 => k_is)
    (case a32 => k_is)
    (case l32 => k_is)
    (case c32 => k_is)
    (case k32 => k_is)
    (case a65 => k_is)
    (case l65 => k_is)
    (case c65 => k_is)
    (case k65 => k_is)
    (case a66 => k_is)
    (case l66 => k_is)
    (case c66 => k_is)
    (case k66 => k_is)
    (case a67 => k_is)
    (case l67 => k_is)
    (case c67 => k_is)
    (case k67 => k_is)
    (case a68 => k_is)
    (case l68 => k_is)
    (case c68 => k_is)
    (case k68 => k_is)
    (case a69 => k_is)
    (case l69 => k_is)
    (case c69 => k_is)
    (case k69 => k_is)
    (case a76 => k_is)
    (case l76 => k_is)
    (case c76 => k_is)
    (case k76 => k_is)
    (case a70 => k_is)
    (case l70 => k_is)
    (case c70 => k_is)
    (case k70 => k_is)
    (case a71 => k_is)
    (case l71 => k_is)
    (case c71 => k_is)
    (case k71 => k_is)
    (case a72 => k_is)
    (case l72 => k_is)
    (case c72 => k_is)
    (case k72 => k_is)
    (case a77 => k_is)
    (case l77 => k_is)
    (case c77 => k_is)
    (case k77 => k_is)
    (case a78 => k_is)
    (case l78 => k_is)
    (case c78 => k_is)
    (case k78 => k_is)
    (case a19 => k_is)
    (case l19 => k_is)
    (case c19 => k_is)
    (case k19 => k_is)
    (case a37 => k_is)
    (case l37 => k_is)
    (case c37 => k_is)
    (case k37 => k_is)
    (case a20 => k_is)
    (case l20 => k_is)
    (case c20 => k_is)
    (case k20 => k_is)
    (case a21 => k_is)
    (case l21 => k_is)
    (case c21 => k_is)
    (case k21 => k_is)
    (case a22 => k_is)
    (case l22 => k_is)
    (case c22 => k_is)
    (case k22 => k_is)
    (case a23 => k_is)
    (case l23 => k_is)
    (case c23 => k_is)
    (case k23 => k_is)
    (case a24 => k_is)
    (case l24 => k_is)
    (case c24 => k_is)
    (case k24 => k_is)
    (case a38 => k_is)
    (case l38 => k_is)
    (case c38 => k_is)
    (case k38 => k_is)
    (case a39 => k_is)
    (case l39 => k_is)
    (case c39 => k_is)
    (case k39 => k_is)
    (case a40 => k_is)
    (case l40 => k_is)
    (case c40 => k_is)
    (case k40 => k_is)
    (case a79 => k_is)
    (case l79 => k_is)
    (case c79 => k_is)
    (case k79 => k_is)
    (case m0 => k_is)
    (case m1 => k_is)
    (case m2 => k_is)
    (case m3 => k_is)
    (case z0 => k_is)
    (case z1 => k_is)
    (case z2 => k_is)
    (case z3 => k_is)
    (case z4 => k_is)
    (case z5 => k_is)
    (case z6 => k_is)
    (case z7 => k_is)
    (case z8 => k_is)
    (case z9 => k_is)
    (case z10 => k_is)
    (case z11 => k_is)
    (case z12 => k_is)
    (case z13 => k_is)
    (case z14 => k_is)
    (case z15 => k_is)
    (case nl => first | rfl | decide +kernel)

