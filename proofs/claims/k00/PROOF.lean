import PyProof.Rows.All
import PySem.PyData
import Wide.All
import OpenK.AllK
import Wide.FinOn
import HandS.Base
import HandS.Call
import HandS.Exc
import HandS.Words
import HandS.List
import HandS.TupAny
import HandS.TupMul
import HandS.Wide
import HandS.Flow
import HandS.Style
import HandS.IsInst
import HandS.Dict
import HandS.SortInts
import HandS.Conv
import HandS.Deep
import KE.SortData
import HandS.Zip
import HandS.Walk
import HandS.Rev
import HandS.DictTup
import HandS.ExcOwn
import KE.GoesZip
import KE.GoesMore
import HandS.WordsExc
import HandS.Ends
import HandS.HeadEnd
import KE.KStateDown
import HandS.More
import HandS.Defaults
import HandS.Head0
import HandS.Head1
import HandS.Head2
import HandS.HeadHook1
import HandS.HeadHook2
import HandS.HeadNt
import PySem.Challenge.RW_polywhole_k00_whole_areas_and_stairs
set_option Elab.async false
section
set_option autoImplicit false
set_option linter.all false
namespace PX
open PySem (Str)

inductive D where
  | non | bl (b : Bool) | int (i : Int) | str (s : Str)
  | tup (xs : List D) | lst (xs : List D)
  | dic (t : Bool) (kvs : List (D × D))
  | obj (c : Nat) (fs : List (Str × D))
  | exc (c : Nat) (d : D)
  | scr (ns : List Int)
  deriving Inhabited

abbrev Env := List (Option D)
def gt : Env → Nat → Option D
  | [], _ => none
  | x :: _, 0 => x
  | _ :: r, n + 1 => gt r n
def st : Env → Nat → Option D → Env
  | [], _, _ => []
  | _ :: r, 0, v => v :: r
  | x :: r, n + 1, v => x :: st r n v
def wipe : List Nat → Env → Env
  | [], ρ => ρ
  | i :: is, ρ => wipe is (st ρ i none)
def rest : List Nat → Env → Env → Env
  | [], _, ρ => ρ
  | i :: is, ρ0, ρ => rest is ρ0 (st ρ i (gt ρ0 i))

inductive R (α : Type) where
  | ok (a : α) (ρ : Env)
  | exc (c : Nat) (d : D) (ρ : Env)
  | fail
def R.bind {α β : Type} (r : R α) (f : α → Env → R β) : R β := match r with
  | .ok a ρ => f a ρ
  | .exc c d ρ => .exc c d ρ
  | .fail => .fail
def R.noex {α : Type} (r : R α) : R α := match r with
  | .ok a ρ => .ok a ρ
  | _ => .fail
def optR {α : Type} (o : Option α) (ρ : Env) : R α := match o with
  | some a => .ok a ρ
  | none => .fail
inductive RF where
  | ok (d : D) (io : List D)
  | exc (c : Nat) (d : D) (io : List D)
  | fail

inductive Bop where | add | sub | mul | fdiv | mod | pow
  deriving DecidableEq
inductive Cop where | eq | ne | lt | le | gt | ge | isin | notin | is | isnot
  deriving DecidableEq
/-- built-ins by name -/
inductive Bi where
  | abs | max2 | min2 | max1 | min1 | tupleOf | listOf | sum | len | any | all
  | isTup | isList | isBool | isInt | isStr | intOf | sorted
  | rev
  deriving DecidableEq
/-- what a loop walks -/
inductive IK where | seq | zip | enum | range | keys | items
  deriving DecidableEq
inductive Tg where
  | nm (i : Nat)
  | tp (ts : List Tg)

inductive E where
  | con (d : D)
  | var (i : Nat) | pk (i : Nat) | io (i : Nat) | tmp (e : E)
  | gl (k : Nat)
  | bin (op : Bop) (a b : E)
  | neg (a : E) | not (a : E)
  | cmp (op : Cop) (a b : E)
  | chn (o1 o2 : Cop) (a b c : E)
  | and (a b : E) | or (a b : E)
  | ite (c a b : E)
  | tup (es : List E) | lst (es : List E) | dic (t : Bool) (ks vs : List E)
  | ix (a i : E) | slc (a lo hi : E)
  | get2 (a k x : E)
  | call (f : Nat) (es : List E)
  | callF (f : Nat) (es : List E)
  | bi (b : Bi) (es : List E)
  | comp (own : List Nat) (tg : Tg) (ik : IK) (its : List E) (ifs : List E) (elt : E)
  | pop (i : Nat) (es : List E)

inductive S where
  | set (i : Nat) (e : E)
  | tset (ts : List Tg) (e : E)
  | par (i j : Nat) (a b : E)
  | setix (i : Nat) (k e : E)
  | swap (i : Nat) (k1 : E) (j : Nat) (k2 : E) (a b : E)
  | app (i : Nat) (e : E)
  | frz (i : Nat)
  | ext (i : Nat) (e : E)
  | drop (e : E)
  | ifs (c : E) (a b : List S)
  | loop (kill : List Nat) (tg : Tg) (ik : IK) (its : List E) (body : List S)
  | whl (kill : List Nat) (c : E) (body : List S)
  | ret (e : E)
  | pass

inductive Out where | next | ret (d : D)

def sizeLine : Nat := 16777216
def b2i (b : Bool) : Int := if b then 1 else 0
def truth : D → Option Bool
  | .non => some false
  | .bl b => some b
  | .int i => some (decide (i ≠ 0))
  | .str s => if s.length ≤ sizeLine then some (decide (s.length ≠ 0)) else none
  | .tup xs => some (!xs.isEmpty)
  | .lst xs => some (!xs.isEmpty)
  | _ => none
def small (i : Int) : Bool := decide (i.natAbs < 2 ^ 64)
def mulOk (i j : Int) : Bool := decide (i.natAbs < 2 ^ 64) || decide (j.natAbs < 2 ^ 64) || decide (i.natAbs < 2 ^ 400000 ∧ j.natAbs < 2 ^ 400000)
def divOk (j : Int) : Bool := decide (j ≠ 0 ∧ j.natAbs < 2 ^ 9000)
def fits (n : Nat) : Bool := decide (n ≤ sizeLine)
def addD : D → D → Option D
  | .int i, .int j => some (.int (i + j))
  | .lst xs, .lst ys => if fits (xs.length + ys.length) then some (.lst (xs ++ ys)) else none
  | .tup xs, .tup ys => if fits (xs.length + ys.length) then some (.tup (xs ++ ys)) else none
  | .str x, .str y => if fits (x.length + y.length) then some (.str (x ++ y)) else none
  | _, _ => none
def subD : D → D → Option D
  | .int i, .int j => some (.int (i - j))
  | _, _ => none
def mulD : D → D → Option D
  | .int i, .int j => if mulOk i j then some (.int (i * j)) else none
  | .lst xs, .int k => if decide (k < 2 ^ 62) && decide (-(2 ^ 62) < k) && fits (xs.length * k.toNat) then some (.lst (List.replicate k.toNat xs).flatten) else none
  | _, _ => none
def fdivD : D → D → Option D
  | .int i, .int j => if divOk j then some (.int (i.fdiv j)) else none
  | _, _ => none
def modD : D → D → Option D
  | .int i, .int j => if j = 0 then none else some (.int (i.fmod j))
  | _, _ => none
def powD : D → D → Option D
  | .int i, .int j => if decide (0 ≤ j ∧ j ≤ 1000000 ∧ i.natAbs < 2 ^ 64) then some (.int (i ^ j.toNat)) else none
  | _, _ => none
def binD : Bop → D → D → Option D
  | .add => addD | .sub => subD | .mul => mulD | .fdiv => fdivD | .mod => modD | .pow => powD
def negD : D → Option D
  | .int i => some (.int (-i))
  | _ => none

def stok (s : Str) : Bool := s.cps.toList.all fun c => decide (c < 1114112)
/-- plain data of at most so many levels -/
def shp : Nat → D → Bool
  | _, .non => true
  | _, .bl _ => true
  | _, .int _ => true
  | _, .str s => stok s
  | n + 1, .tup xs => xs.all (shp n)
  | n + 1, .lst xs => xs.all (shp n)
  | _, _ => false
mutual
/-- == -/
def eqB : D → D → Bool
  | .non, y => (match y with | .non => true | _ => false)
  | .bl a, y => (match y with | .bl b => a == b | .int j => b2i a == j | _ => false)
  | .int i, y => (match y with | .bl b => i == b2i b | .int j => i == j | _ => false)
  | .str a, y => (match y with | .str b => decide (a = b) | _ => false)
  | .tup xs, y => (match y with | .tup ys => eqBs xs ys | _ => false)
  | .lst xs, y => (match y with | .lst ys => eqBs xs ys | _ => false)
  | .dic _ _, _ => false
  | .obj _ _, _ => false
  | .exc _ _, _ => false
  | .scr _, _ => false
def eqBs : List D → List D → Bool
  | [], ys => (match ys with | [] => true | _ :: _ => false)
  | x :: xs, ys => (match ys with | y :: ys => eqB x y && eqBs xs ys | [] => false)
end
def eqD (x y : D) : Option Bool := if shp 40 x && shp 40 y then some (eqB x y) else none
def inD (x : D) (ys : List D) : Option Bool := if shp 40 x && ys.all (shp 39) then some (ys.any fun y => eqB y x) else none
def ltInts : List Int → List Int → Bool
  | [], [] => false
  | [], _ :: _ => true
  | _ :: _, [] => false
  | x :: xs, y :: ys => if x = y then ltInts xs ys else decide (x < y)
def nums : List D → Option (List Int)
  | [] => some []
  | .int i :: r => (nums r).map (i :: ·)
  | _ :: _ => none
def ltD : D → D → Option Bool
  | .int a, .int b => some (decide (a < b))
  | .tup xs, .tup ys => match nums xs, nums ys with
    | some a, some b => some (ltInts a b)
    | _, _ => none
  | _, _ => none
def leI : D → D → Option Bool
  | .int a, .int b => some (decide (a ≤ b))
  | _, _ => none
def cmpD : Cop → D → D → Option Bool
  | .eq, x, y => eqD x y
  | .ne, x, y => (eqD x y).map (!·)
  | .lt, x, y => ltD x y
  | .gt, x, y => match x, y with
    | .int a, .int b => some (decide (b < a))
    | _, _ => none
  | .le, x, y => leI x y
  | .ge, x, y => leI y x
  | .isin, x, y => match y with
    | .tup ys => inD x ys
    | .lst ys => inD x ys
    | _ => none
  | .notin, x, y => match y with
    | .tup ys => (inD x ys).map (!·)
    | .lst ys => (inD x ys).map (!·)
    | _ => none
  | .is, x, y => match y with
    | .non => some (match x with | .non => true | _ => false)
    | .bl b => (match x with | .bl a => some (a == b) | _ => none)
    | _ => none
  | .isnot, x, y => match y with
    | .non => some (match x with | .non => false | _ => true)
    | _ => none

/-- a place among n, from either end -/
def plc (n : Nat) (i : Int) : Option Nat := if 0 ≤ i then (if i.toNat < n then some i.toNat else none) else (if 0 ≤ i + n then some (i + n).toNat else none)
def atD {α : Type} (xs : List α) (i : Int) : Option α := (plc xs.length i).bind fun k => xs[k]?
def look (k : D) : List (D × D) → Option D
  | [] => none
  | (a, v) :: r => if eqB a k then some v else look k r
def isKey (t : Bool) : D → Bool
  | .int _ => !t
  | .str _ => !t
  | .tup xs => t && (nums xs).isSome
  | _ => false
def ixD : D → D → Option D
  | .tup xs, .int i => atD xs i
  | .lst xs, .int i => atD xs i
  | .scr ns, .int i => (atD ns i).map .int
  | .dic t kvs, k => if isKey t k then look k kvs else none
  | _, _ => none
def six (n d : Nat) : Option Int → Nat
  | none => d
  | some v => if v < 0 then (v + (n : Int)).toNat else min v.toNat n
def cutD {α : Type} (xs : List α) (lo hi : Option Int) : List α := (xs.drop (six xs.length 0 lo)).take (six xs.length xs.length hi - six xs.length 0 lo)
def partD : D → Option (Option Int)
  | .non => some none
  | .int i => some (some i)
  | _ => none
def partR (x : D) (ρ : Env) : R D := (optR (partD x) ρ).bind fun _ ρ2 => .ok x ρ2
def slcD (x lo hi : D) : Option D := (partD lo).bind fun l => (partD hi).bind fun h => match x with
  | .tup xs => some (.tup (cutD xs l h))
  | .lst xs => some (.lst (cutD xs l h))
  | _ => none
def bls : List D → Option (List Bool)
  | [] => some []
  | .bl b :: r => (bls r).map (b :: ·)
  | _ :: _ => none
def maxI : List Int → Option Int
  | [] => none
  | x :: xs => some (xs.foldl (fun a b => if a < b then b else a) x)
def minI : List Int → Option Int
  | [] => none
  | x :: xs => some (xs.foldl (fun a b => if b < a then b else a) x)
def seqD : D → Option (List D)
  | .tup xs => some xs
  | .lst xs => some xs
  | _ => none
def absD : List D → Option D
  | [.int i] => some (.int (if i < 0 then -i else i))
  | _ => none
def max2D : List D → Option D
  | [.int i, .int j] => some (.int (if i < j then j else i))
  | _ => none
def min2D : List D → Option D
  | [.int i, .int j] => some (.int (if j < i then j else i))
  | _ => none
def max1D : List D → Option D
  | [.lst xs] => (nums xs).bind fun ns => (maxI ns).map .int
  | _ => none
def min1D : List D → Option D
  | [.lst xs] => (nums xs).bind fun ns => (minI ns).map .int
  | _ => none
def tupD : List D → Option D
  | [.tup xs] => some (.tup xs)
  | [.lst xs] => some (.tup xs)
  | _ => none
def lstD : List D → Option D
  | [.tup xs] => some (.lst xs)
  | [.lst xs] => some (.lst xs)
  | _ => none
def sumD : List D → Option D
  | [.lst xs] => (nums xs).map fun ns => .int ns.sum
  | _ => none
def lenD : List D → Option D
  | [.tup xs] => some (.int xs.length)
  | [.lst xs] => some (.int xs.length)
  | [.scr ns] => some (.int ns.length)
  | _ => none
def anyD : List D → Option D
  | [.lst xs] => (bls xs).map fun bs => .bl (bs.any id)
  | _ => none
def allD : List D → Option D
  | [.lst xs] => (bls xs).map fun bs => .bl (bs.all id)
  | _ => none
def tagD : D → Nat
  | .non => 0 | .bl _ => 1 | .int _ => 2 | .str _ => 3 | .tup _ => 4 | .lst _ => 5 | .dic _ _ => 6 | .obj _ _ => 7 | .exc _ _ => 8 | .scr _ => 5
def isD (f : Nat → Bool) : List D → Option D
  | [x] => if tagD x < 6 then some (.bl (f (tagD x))) else none
  | _ => none
def intD : List D → Option D
  | [.int i] => some (.int i)
  | [.bl b] => some (.int (b2i b))
  | _ => none
mutual
/-- the two can be ordered, place by place -/
def alk : D → D → Bool
  | .non, y => (match y with | .non => true | _ => false)
  | .bl _, y => (match y with | .bl _ => true | _ => false)
  | .int _, y => (match y with | .int _ => true | _ => false)
  | .str _, y => (match y with | .str _ => true | _ => false)
  | .tup xs, y => (match y with | .tup ys => alks xs ys | _ => false)
  | .lst xs, y => (match y with | .lst ys => alks xs ys | _ => false)
  | .dic _ _, _ => false
  | .obj _ _, _ => false
  | .exc _ _, _ => false
  | .scr _, _ => false
def alks : List D → List D → Bool
  | [], _ => true
  | x :: xs, ys => (match ys with | y :: ys => alk x y && alks xs ys | [] => true)
end
mutual
/-- the order of such -/
def ltB : D → D → Bool
  | .non, _ => false
  | .bl a, y => (match y with | .bl b => decide (b2i a < b2i b) | _ => false)
  | .int a, y => (match y with | .int b => decide (a < b) | _ => false)
  | .str a, y => (match y with | .str b => decide (a.cps.toList < b.cps.toList) | _ => false)
  | .tup xs, y => (match y with | .tup ys => ltBs xs ys | _ => false)
  | .lst xs, y => (match y with | .lst ys => ltBs xs ys | _ => false)
  | .dic _ _, _ => false
  | .obj _ _, _ => false
  | .exc _ _, _ => false
  | .scr _, _ => false
def ltBs : List D → List D → Bool
  | [], ys => (match ys with | [] => false | _ :: _ => true)
  | x :: xs, ys => (match ys with | y :: ys => if eqB x y then ltBs xs ys else ltB x y | [] => false)
end
def isTupNE : D → Bool
  | .tup (_ :: _) => true
  | _ => false
def isPl : D → Bool
  | .non => false
  | .tup _ => false
  | _ => true
def sortOk (xs : List D) : Bool := xs.all (shp 39) && (xs.all fun x => xs.all fun y => alk x y) && (xs.all isTupNE || xs.all isPl)
def sortL (xs : List D) : List D := xs.mergeSort fun a b => !ltB b a
def sortedD : List D → Option D
  | [.lst xs] => if sortOk xs then some (.lst (sortL xs)) else none
  | [.tup xs] => if sortOk xs then some (.lst (sortL xs)) else none
  | _ => none
def getD2 (d k x : D) : Option D := match d with
  | .dic t kvs => if isKey t k then some ((look k kvs).getD x) else none
  | _ => none
def isDic2 : D → Bool
  | .dic _ _ => true
  | _ => false
def revD : List D → Option D
  | [.tup xs] => some (.lst xs.reverse)
  | [.lst xs] => some (.lst xs.reverse)
  | _ => none
def biD : Bi → List D → Option D
  | .abs => absD | .max2 => max2D | .min2 => min2D | .max1 => max1D | .min1 => min1D | .tupleOf => tupD | .listOf => lstD
  | .sum => sumD | .len => lenD | .any => anyD | .all => allD
  | .isTup => isD (· == 4) | .isList => isD (· == 5) | .isBool => isD (· == 1) | .isInt => isD (fun t => t == 1 || t == 2) | .isStr => isD (· == 3)
  | .intOf => intD | .sorted => sortedD | .rev => revD
def rangeD (lo : Int) (n : Nat) : List D := (List.range n).map fun (k : Nat) => D.int (lo + (k : Int))
def big : Int := 2 ^ 60
def zipD : List D → List D → List D
  | x :: xs, y :: ys => .tup [x, y] :: zipD xs ys
  | _, _ => []
def zip3D : List D → List D → List D → List D
  | x :: xs, y :: ys, z :: zs => .tup [x, y, z] :: zip3D xs ys zs
  | _, _, _ => []
def enumD : Nat → List D → List D
  | _, [] => []
  | k, x :: xs => .tup [.int k, x] :: enumD (k + 1) xs
def itD : IK → List D → Option (List D)
  | .seq, [x] => seqD x
  | .zip, [x, y] => (seqD x).bind fun xs => (seqD y).map fun ys => zipD xs ys
  | .zip, [x, y, z] => (seqD x).bind fun xs => (seqD y).bind fun ys => (seqD z).map fun zs => zip3D xs ys zs
  | .enum, [.lst xs] => some (enumD 0 xs)
  | .range, [.int n] => if -big < n ∧ n < big then some (rangeD 0 n.toNat) else none
  | .range, [.int a, .int b] => if -big < a ∧ a < big ∧ -big < b ∧ b < big then some (rangeD a (b - a).toNat) else none
  | .keys, [.dic _ kvs] => some (kvs.map (·.1))
  | _, _ => none

mutual
def asg : Tg → D → Env → Option Env
  | .nm i, d, ρ => some (st ρ i (some d))
  | .tp ts, d, ρ => match d with
    | .tup xs => asgs ts xs ρ
    | _ => none
def asgs : List Tg → List D → Env → Option Env
  | [], [], ρ => some ρ
  | t :: ts, x :: xs, ρ => (asg t x ρ).bind fun ρ1 => asgs ts xs ρ1
  | [], _ :: _, _ => none
  | _ :: _, [], _ => none
end

def compL (own : List Nat) (tg : D → Env → Option Env) (test : Env → R Bool) (elt : Env → R D) : List D → Env → R (List D)
  | [], ρ => .ok [] ρ
  | x :: xs, ρ => match tg x (wipe own ρ) with
    | none => .fail
    | some ρ1 => (test ρ1).bind fun b ρ2 => if b then (elt ρ2).bind fun y ρ3 => (compL own tg test elt xs ρ3).bind fun ys ρ4 => .ok (y :: ys) ρ4
        else compL own tg test elt xs ρ2
def forL (kill : List Nat) (tg : D → Env → Option Env) (body : Env → R Out) : List D → Env → R Out
  | [], ρ => .ok .next (wipe kill ρ)
  | x :: xs, ρ => match tg x (wipe kill ρ) with
    | none => .fail
    | some ρ1 => (body ρ1).bind (fun o ρ2 => match o with
      | .next => forL kill tg body xs ρ2
      | .ret d => .ok (.ret d) ρ2)
def whlN (kill : List Nat) (c : Env → R Bool) (body : Env → R Out) : Nat → Env → R Out
  | 0, _ => .fail
  | n + 1, ρ => (c (wipe kill ρ)).bind fun b ρ1 => if b then (body ρ1).bind (fun o ρ2 => match o with
      | .next => whlN kill c body n ρ2
      | .ret d => .ok (.ret d) ρ2)
    else .ok .next ρ1
open Classical in
noncomputable def whlR (kill : List Nat) (c : Env → R Bool) (body : Env → R Out) (ρ : Env) : R Out :=
  if h : ∃ n, whlN kill c body n ρ ≠ .fail then whlN kill c body (Classical.choose h) ρ else .fail

def onlyNext : R Out → R Out
  | .ok .next ρ => .ok .next ρ
  | _ => .fail
/-- a dict's walk: no return, no exception -/
def nox (ik : IK) (r : R Out) : R Out := match ik with
  | .keys => onlyNext r
  | .items => onlyNext r
  | _ => r
abbrev Fns := Nat → List D → RF
/-- the in-out arguments' new contents, back into their slots -/
def setIos : List E → List D → Env → Env
  | .io i :: es, x :: xs, ρ => setIos es xs (st ρ i (some x))
  | .tmp _ :: es, _ :: xs, ρ => setIos es xs ρ
  | .io _ :: es, [], ρ => setIos es [] ρ
  | .tmp _ :: es, [], ρ => setIos es [] ρ
  | _ :: es, xs, ρ => setIos es xs ρ
  | [], _, ρ => ρ
def callR (r : RF) (es : List E) (ρ : Env) : R D := match r with
  | .ok d io => .ok d (setIos es io ρ)
  | .exc c d io => .exc c d (setIos es io ρ)
  | .fail => .fail
def truR (x : D) (ρ : Env) : R Bool := optR (truth x) ρ
def putK (k v : D) : List (D × D) → List (D × D)
  | [] => [(k, v)]
  | (a, b) :: r => if eqB a k then (a, v) :: r else (a, b) :: putK k v r
def setD (x k v : D) : Option D := match x with
  | .lst xs => (match k with
    | .int i => (plc xs.length i).map fun j => .lst (xs.set j v)
    | _ => none)
  | .dic t kvs => if isKey t k && decide (kvs.length < sizeLine) then some (.dic t (putK k v kvs)) else none
  | _ => none
def dicD : List D → List D → List (D × D) → List (D × D)
  | k :: ks, v :: vs, acc => dicD ks vs (putK k v acc)
  | _, _, acc => acc
def popD (x : D) (is : List D) : Option (D × D) := match x with
  | .lst xs => (match is with
    | [] => (xs.getLast?).map fun y => (y, .lst xs.dropLast)
    | [.int i] => (plc xs.length i).bind fun k => (xs[k]?).map fun y => (y, .lst (xs.eraseIdx k))
    | _ => none)
  | _ => none
def appD (x y : D) : Option D := match x with
  | .lst xs => if decide (xs.length < sizeLine) then some (.lst (xs ++ [y])) else none
  | _ => none
def extD (x y : D) : Option D := match x, y with
  | .lst xs, .lst ys => if fits (xs.length + ys.length) then some (.lst (xs ++ ys)) else none
  | _, _ => none
def lstAt (ρ : Env) (i : Nat) : R Unit := match gt ρ i with
  | some (.lst _) => .ok () ρ
  | _ => .fail
def hasAt (ρ : Env) (i : Nat) : R Unit := match gt ρ i with
  | some _ => .ok () ρ
  | none => .fail
section
variable (Φ : Fns) (gl : Nat → D)
mutual
def evE : E → Env → R D
  | .con d, ρ => .ok d ρ
  | .var i, ρ => optR (gt ρ i) ρ
  | .pk i, ρ => optR (gt ρ i) ρ
  | .io i, ρ => optR (gt ρ i) ρ
  | .tmp e, ρ => evE e ρ
  | .gl k, ρ => .ok (gl k) ρ
  | .bin op a b, ρ => (evE a ρ).bind fun x ρ1 => (evE b ρ1).bind fun y ρ2 => optR (binD op x y) ρ2
  | .neg a, ρ => (evE a ρ).bind fun x ρ1 => optR (negD x) ρ1
  | .not a, ρ => (evE a ρ).bind fun x ρ1 => (truR x ρ1).bind fun b ρ2 => .ok (.bl (!b)) ρ2
  | .cmp op a b, ρ => (evE a ρ).bind fun x ρ1 => (evE b ρ1).bind fun y ρ2 => (optR (cmpD op x y) ρ2).bind fun k ρ3 => .ok (.bl k) ρ3
  | .chn o1 o2 a b c, ρ => (evE a ρ).bind fun x ρ1 => (evE b ρ1).bind fun y ρ2 => (optR (cmpD o1 x y) ρ2).bind fun k ρ3 =>
      if k then (evE c ρ3).bind fun z ρ4 => (optR (cmpD o2 y z) ρ4).bind fun k2 ρ5 => .ok (.bl k2) ρ5 else .ok (.bl false) ρ3
  | .and a b, ρ => (evE a ρ).bind fun x ρ1 => (truR x ρ1).bind fun k ρ2 => if k then evE b ρ2 else .ok x ρ2
  | .or a b, ρ => (evE a ρ).bind fun x ρ1 => (truR x ρ1).bind fun k ρ2 => if k then .ok x ρ2 else evE b ρ2
  | .ite c a b, ρ => (evE c ρ).bind fun x ρ1 => (truR x ρ1).bind fun k ρ2 => if k then evE a ρ2 else evE b ρ2
  | .tup es, ρ => (evEs es ρ).bind fun xs ρ1 => .ok (.tup xs) ρ1
  | .lst es, ρ => (evEs es ρ).bind fun xs ρ1 => .ok (.lst xs) ρ1
  | .dic t ks vs, ρ => (evEs ks ρ).bind fun xs ρ1 => (evEs vs ρ1).bind fun ys ρ2 => if xs.all (isKey t) then .ok (.dic t (dicD xs ys [])) ρ2 else .fail
  | .ix a i, ρ => (evE a ρ).bind fun x ρ1 => (evE i ρ1).bind fun y ρ2 => optR (ixD x y) ρ2
  | .get2 a k x, ρ => (evE a ρ).bind fun d ρ1 => if isDic2 d then (evE k ρ1).bind fun kv ρ2 => (evE x ρ2).bind fun xv ρ3 => optR (getD2 d kv xv) ρ3 else .fail
  | .slc a lo hi, ρ => (evE a ρ).bind fun x ρ1 => ((evE lo ρ1).bind partR).bind fun l ρ2 => ((evE hi ρ2).bind partR).bind fun h ρ3 => optR (slcD x l h) ρ3
  | .call f es, ρ => (evEs es ρ).bind fun ds ρ1 => callR (Φ f ds) es ρ1
  | .callF f es, ρ => (evEs es ρ).bind fun ds ρ1 => callR (Φ f ds) es ρ1
  | .bi b es, ρ => (evEs es ρ).bind fun ds ρ1 => optR (biD b ds) ρ1
  | .comp own tg ik its ifs elt, ρ => (evEs its ρ).bind fun ds ρ1 => (optR (itD ik ds) ρ1).bind fun xs ρ2 =>
      (compL own (asg tg) (evIfs ifs) (evE elt) xs ρ2).noex.bind fun ys ρ3 => if fits ys.length then .ok (.lst ys) (rest own ρ2 ρ3) else .fail
  | .pop i es, ρ => (lstAt ρ i).bind fun _ ρ => (evEs es ρ).bind fun is ρ1 => match gt ρ1 i with
      | none => .fail
      | some x => (optR (popD x is) ρ1).bind fun p ρ2 => .ok p.1 (st ρ2 i (some p.2))
def evEs : List E → Env → R (List D)
  | [], ρ => .ok [] ρ
  | e :: es, ρ => (evE e ρ).bind fun x ρ1 => (evEs es ρ1).bind fun xs ρ2 => .ok (x :: xs) ρ2
def evIfs : List E → Env → R Bool
  | [], ρ => .ok true ρ
  | e :: es, ρ => (evE e ρ).bind fun x ρ1 => (truR x ρ1).bind fun k ρ2 => if k then evIfs es ρ2 else .ok false ρ2
end
def evC (e : E) (ρ : Env) : R Bool := (evE Φ gl e ρ).bind fun x ρ1 => truR x ρ1
mutual
noncomputable def evS : S → Env → R Out
  | .set i e, ρ => (evE Φ gl e ρ).bind fun x ρ1 => .ok .next (st ρ1 i (some x))
  | .tset ts e, ρ => (evE Φ gl e ρ).bind fun x ρ1 => (optR (asg (.tp ts) x ρ1) ρ1).bind fun ρ2 _ => .ok .next ρ2
  | .par i j a b, ρ => (evE Φ gl a ρ).bind fun x ρ1 => (evE Φ gl b ρ1).bind fun y ρ2 => .ok .next (st (st ρ2 i (some x)) j (some y))
  | .setix i k e, ρ => (hasAt ρ i).bind fun _ ρ => (evE Φ gl e ρ).bind fun v ρ1 => (evE Φ gl k ρ1).bind fun kv ρ2 => match gt ρ2 i with
      | none => .fail
      | some x => (optR (setD x kv v) ρ2).bind fun y ρ3 => .ok .next (st ρ3 i (some y))
  | .swap i k1 j k2 a b, ρ => (lstAt ρ i).bind fun _ ρ => (lstAt ρ j).bind fun _ ρ => (evE Φ gl a ρ).bind fun x ρ1 => (evE Φ gl b ρ1).bind fun y ρ2 => (evE Φ gl k1 ρ2).bind fun kv ρ3 => match gt ρ3 i with
      | none => .fail
      | some u => (optR (setD u kv x) ρ3).bind fun u' ρ4 => (evE Φ gl k2 (st ρ4 i (some u'))).bind fun lv ρ5 => match gt ρ5 j with
        | none => .fail
        | some z => (optR (setD z lv y) ρ5).bind fun z' ρ6 => .ok .next (st ρ6 j (some z'))
  | .app i e, ρ => (lstAt ρ i).bind fun _ ρ => (evE Φ gl e ρ).bind fun y ρ1 => match gt ρ1 i with
      | none => .fail
      | some x => (optR (appD x y) ρ1).bind fun z ρ2 => .ok .next (st ρ2 i (some z))
  | .ext i e, ρ => (lstAt ρ i).bind fun _ ρ => (evE Φ gl e ρ).bind fun y ρ1 => match gt ρ1 i with
      | none => .fail
      | some x => (optR (extD x y) ρ1).bind fun z ρ2 => .ok .next (st ρ2 i (some z))
  | .frz _, ρ => .ok .next ρ
  | .drop e, ρ => (evE Φ gl e ρ).bind fun _ ρ1 => .ok .next ρ1
  | .ifs c a b, ρ => (evC Φ gl c ρ).bind fun k ρ1 => if k then evSs a ρ1 else evSs b ρ1
  | .loop kill tg ik its body, ρ => (evEs Φ gl its ρ).bind fun ds ρ1 => (optR (itD ik ds) ρ1).bind fun xs ρ2 => nox ik (forL kill (asg tg) (evSs body) xs ρ2)
  | .whl kill c body, ρ => whlR kill (evC Φ gl c) (evSs body) ρ
  | .ret e, ρ => (evE Φ gl e ρ).bind fun x ρ1 => .ok (.ret x) ρ1
  | .pass, ρ => .ok .next ρ
noncomputable def evSs : List S → Env → R Out
  | [], ρ => .ok .next ρ
  | s :: ss, ρ => (evS s ρ).bind fun o ρ1 => match o with
    | .next => evSs ss ρ1
    | .ret d => .ok (.ret d) ρ1
end
end

structure Fn where
  n : Nat           -- how many names
  ps : Nat          -- how many parameters
  io : List Nat     -- the parameters that it changes, ascending
  body : List S
def pick (is : List Nat) (ρ : Env) : Option (List D) := match is with
  | [] => some []
  | i :: r => (gt ρ i).bind fun d => (pick r ρ).map (d :: ·)
noncomputable def runFn (Φ : Fns) (gl : Nat → D) (F : Fn) (ds : List D) : RF :=
  if ds.length = F.ps then match evSs Φ gl F.body (ds.map some ++ List.replicate (F.n - F.ps) none) with
    | .ok o ρ => (match pick F.io ρ with
      | none => .fail
      | some io => (match o with
        | .next => .ok .non io
        | .ret d => .ok d io))
    | .exc c d ρ => (match pick F.io ρ with
      | none => .fail
      | some io => .exc c d io)
    | .fail => .fail
  else .fail
noncomputable def Phi (fns : Nat → Option Fn) (gl : Nat → D) : Nat → Fns
  | 0, _, _ => .fail
  | n + 1, f, ds => match fns f with
    | none => .fail
    | some F => runFn (Phi fns gl n) gl F ds
end PX
end
section
set_option Elab.async false
set_option linter.all false
set_option maxRecDepth 100000
set_option maxHeartbeats 4000000
namespace PX
open PySem L2

def keyV : D → Option L2.Key
  | .int i => some (.inl i)
  | .str s => some (.inr s)
  | _ => none
mutual
inductive Rep (K : PySem.W.Frag) (F : Hp) : D → V → Prop
  | non : Rep K F .non .non
  | bl (b : Bool) : Rep K F (.bl b) (.bl b)
  | int (i : Int) : Rep K F (.int i) (.int i)
  | str (s : Str) : Rep K F (.str s) (.str s)
  | tup {a : Addr} {vs : List V} {ds : List D} : F a = some (.tup vs) → ds.length ≤ PX.sizeLine → RepL K F ds vs → Rep K F (.tup ds) (.ref a)
  | lst {a : Addr} {vs : List V} {ds : List D} : F a = some (.lst vs) → ds.length ≤ PX.sizeLine → RepL K F ds vs → Rep K F (.lst ds) (.ref a)
  | scr {a : Addr} {ns : List Int} : SqL K F a (ns.map V.int) → Rep K F (.scr ns) (.ref a)
  | dK {a : Addr} {kvs : List (L2.Key × V)} {es : List (D × D)} : F a = some (.dK kvs) → RepK K F es kvs → Rep K F (.dic false es) (.ref a)
  | dT {a : Addr} {kvs : List (List L2.Key × V)} {es : List (D × D)} : F a = some (.dT kvs) → RepT K F es kvs → Rep K F (.dic true es) (.ref a)
inductive RepL (K : PySem.W.Frag) (F : Hp) : List D → List V → Prop
  | nil : RepL K F [] []
  | cons {d : D} {ds : List D} {v : V} {vs : List V} : Rep K F d v → RepL K F ds vs → RepL K F (d :: ds) (v :: vs)
/-- a dict's pairs, keys ints and texts -/
inductive RepK (K : PySem.W.Frag) (F : Hp) : List (D × D) → List (L2.Key × V) → Prop
  | nil : RepK K F [] []
  | cons {k d : D} {es : List (D × D)} {q : L2.Key} {v : V} {kvs : List (L2.Key × V)} : keyV k = some q → (∀ p ∈ kvs, p.1 ≠ q) → Rep K F d v → RepK K F es kvs → RepK K F ((k, d) :: es) ((q, v) :: kvs)
/-- .. keys tuples of ints -/
inductive RepT (K : PySem.W.Frag) (F : Hp) : List (D × D) → List (List L2.Key × V) → Prop
  | nil : RepT K F [] []
  | cons {ns : List Int} {d : D} {es : List (D × D)} {v : V} {kvs : List (List L2.Key × V)} : ns.length ≤ PX.sizeLine → (∀ p ∈ kvs, p.1 ≠ ns.map Sum.inl) → Rep K F d v → RepT K F es kvs → RepT K F ((.tup (ns.map .int), d) :: es) ((ns.map Sum.inl, v) :: kvs)
end

/-- F only grows -/
def Grow (F F' : Hp) : Prop := ∀ a u, F a = some u → F' a = some u
theorem Grow.refl (F : Hp) : Grow F F := fun _ _ h => h
theorem Grow.trans {F F1 F2 : Hp} (a : Grow F F1) (b : Grow F1 F2) : Grow F F2 := fun c u h => b c u (a c u h)
theorem Grow.seq {K : PySem.W.Frag} {F F' : Hp} (g : Grow F F') {a : Addr} {xs : List V} (h : SqL K F a xs) : SqL K F' a xs := by
  rcases h with (h | ⟨o, h⟩) | h
  · exact .inl (.inl (g _ _ h))
  · exact .inl (.inr ⟨o, g _ _ h⟩)
  · exact .inr h
theorem Grow.upd {F : Hp} {a : Addr} {u : HO} (h : F a = none) : Grow F (upd F a u) := fun b w e => by
  rw [upd_ne (ne_of_none e h)]; exact e

section
variable {K : PySem.W.Frag} {F F' : Hp}
mutual
theorem Rep.grow (g : Grow F F') : ∀ {d : D} {v : V}, Rep K F d v → Rep K F' d v
  | _, _, .non => .non
  | _, _, .bl b => .bl b
  | _, _, .int i => .int i
  | _, _, .str s => .str s
  | _, _, .tup h l r => .tup (g _ _ h) l (RepL.grow g r)
  | _, _, .lst h l r => .lst (g _ _ h) l (RepL.grow g r)
  | _, _, .scr h => .scr (g.seq h)
  | _, _, .dK h r => .dK (g _ _ h) (RepK.grow g r)
  | _, _, .dT h r => .dT (g _ _ h) (RepT.grow g r)
theorem RepL.grow (g : Grow F F') : ∀ {ds : List D} {vs : List V}, RepL K F ds vs → RepL K F' ds vs
  | _, _, .nil => .nil
  | _, _, .cons r t => .cons (Rep.grow g r) (RepL.grow g t)
theorem RepK.grow (g : Grow F F') : ∀ {es : List (D × D)} {kvs : List (L2.Key × V)}, RepK K F es kvs → RepK K F' es kvs
  | _, _, .nil => .nil
  | _, _, .cons k n r t => .cons k n (Rep.grow g r) (RepK.grow g t)
theorem RepT.grow (g : Grow F F') : ∀ {es : List (D × D)} {kvs : List (List L2.Key × V)}, RepT K F es kvs → RepT K F' es kvs
  | _, _, .nil => .nil
  | _, _, .cons l n r t => .cons l n (Rep.grow g r) (RepT.grow g t)
end
theorem RepL.length : ∀ {ds : List D} {vs : List V}, RepL K F ds vs → ds.length = vs.length
  | _, _, .nil => rfl
  | _, _, .cons _ t => by rw [List.length_cons, List.length_cons, RepL.length t]
theorem RepL.app : ∀ {ds es : List D} {vs ws : List V}, RepL K F ds vs → RepL K F es ws → RepL K F (ds ++ es) (vs ++ ws)
  | _, _, _, _, .nil, s => s
  | _, _, _, _, .cons r t, s => .cons r (RepL.app t s)
theorem RepL.at : ∀ {ds : List D} {vs : List V} {i : Nat} {d : D}, RepL K F ds vs → ds[i]? = some d → ∃ v, vs[i]? = some v ∧ Rep K F d v
  | _, _, _, _, .nil, e => by simp at e
  | _, _, 0, _, .cons r _, e => by simp at e; subst e; exact ⟨_, by simp, r⟩
  | _, _, i + 1, d, .cons _ t, e => by
    obtain ⟨v, h1, h2⟩ := RepL.at (i := i) (d := d) t (by simpa using e)
    exact ⟨v, by simpa using h1, h2⟩
theorem RepL.atV : ∀ {ds : List D} {vs : List V} {i : Nat} {v : V}, RepL K F ds vs → vs[i]? = some v → ∃ d, ds[i]? = some d ∧ Rep K F d v
  | _, _, _, _, .nil, e => by simp at e
  | _, _, 0, _, .cons r _, e => by simp at e; subst e; exact ⟨_, by simp, r⟩
  | _, _, i + 1, v, .cons _ t, e => by
    obtain ⟨d, h1, h2⟩ := RepL.atV (i := i) (v := v) t (by simpa using e)
    exact ⟨d, by simpa using h1, h2⟩
theorem RepL.set {d : D} {v : V} (r : Rep K F d v) : ∀ {ds : List D} {vs : List V} (i : Nat), RepL K F ds vs → RepL K F (ds.set i d) (vs.set i v)
  | _, _, _, .nil => .nil
  | _, _, 0, .cons _ t => .cons r t
  | _, _, i + 1, .cons q t => .cons q (RepL.set r i t)
theorem RepL.take : ∀ {ds : List D} {vs : List V} (n : Nat), RepL K F ds vs → RepL K F (ds.take n) (vs.take n)
  | _, _, 0, _ => .nil
  | _, _, _ + 1, .nil => .nil
  | _, _, n + 1, .cons r t => .cons r (RepL.take n t)
theorem RepL.drop : ∀ {ds : List D} {vs : List V} (n : Nat), RepL K F ds vs → RepL K F (ds.drop n) (vs.drop n)
  | _, _, 0, r => r
  | _, _, _ + 1, .nil => .nil
  | _, _, n + 1, .cons _ t => RepL.drop n t
theorem RepL.rev : ∀ {ds : List D} {vs : List V}, RepL K F ds vs → RepL K F ds.reverse vs.reverse
  | _, _, .nil => .nil
  | _, _, .cons r t => by
    rw [List.reverse_cons, List.reverse_cons]
    exact (RepL.rev t).app (.cons r .nil)
theorem RepL.erase : ∀ {ds : List D} {vs : List V} (i : Nat), RepL K F ds vs → RepL K F (ds.eraseIdx i) (vs.eraseIdx i)
  | _, _, _, .nil => .nil
  | _, _, 0, .cons _ t => t
  | _, _, i + 1, .cons q t => .cons q (RepL.erase i t)
theorem RepL.dropLast : ∀ {ds : List D} {vs : List V}, RepL K F ds vs → RepL K F ds.dropLast vs.dropLast
  | _, _, .nil => .nil
  | _, _, .cons _ .nil => .nil
  | _, _, .cons q (.cons r t) => .cons q (RepL.dropLast (.cons r t))
theorem RepL.repl {ds : List D} {vs : List V} (r : RepL K F ds vs) : ∀ n : Nat, RepL K F (List.replicate n ds).flatten (List.replicate n vs).flatten
  | 0 => .nil
  | n + 1 => by
    rw [List.replicate_succ, List.replicate_succ, List.flatten_cons, List.flatten_cons]
    exact r.app (RepL.repl r n)
theorem RepL.nums : ∀ {ds : List D} {vs : List V} {ns : List Int}, RepL K F ds vs → PX.nums ds = some ns → vs = ns.map V.int
  | _, _, ns, .nil, e => by
    have e' : ns = [] := (Option.some.inj e).symm
    subst e'; rfl
  | .int i :: ds, _, ns, .cons r t, e => by
    cases r
    have e' : (PX.nums ds).map (i :: ·) = some ns := e
    cases q : PX.nums ds with
    | none => rw [q] at e'; cases e'
    | some ms =>
      rw [q] at e'
      have e2 : i :: ms = ns := Option.some.inj e'
      subst e2
      rw [List.map_cons, RepL.nums t q]
  | .non :: _, _, _, .cons _ _, e => by cases e
  | .bl _ :: _, _, _, .cons _ _, e => by cases e
  | .str _ :: _, _, _, .cons _ _, e => by cases e
  | .tup _ :: _, _, _, .cons _ _, e => by cases e
  | .lst _ :: _, _, _, .cons _ _, e => by cases e
  | .dic _ _ :: _, _, _, .cons _ _, e => by cases e
  | .obj _ _ :: _, _, _, .cons _ _, e => by cases e
  | .exc _ _ :: _, _, _, .cons _ _, e => by cases e
  | .scr _ :: _, _, _, .cons _ _, e => by cases e
theorem RepL.bls : ∀ {ds : List D} {vs : List V} {ns : List Bool}, RepL K F ds vs → PX.bls ds = some ns → vs = ns.map V.bl
  | _, _, ns, .nil, e => by
    have e' : ns = [] := (Option.some.inj e).symm
    subst e'; rfl
  | .bl i :: ds, _, ns, .cons r t, e => by
    cases r
    have e' : (PX.bls ds).map (i :: ·) = some ns := e
    cases q : PX.bls ds with
    | none => rw [q] at e'; cases e'
    | some ms =>
      rw [q] at e'
      have e2 : i :: ms = ns := Option.some.inj e'
      subst e2
      rw [List.map_cons, RepL.bls t q]
  | .non :: _, _, _, .cons _ _, e => by cases e
  | .int _ :: _, _, _, .cons _ _, e => by cases e
  | .str _ :: _, _, _, .cons _ _, e => by cases e
  | .tup _ :: _, _, _, .cons _ _, e => by cases e
  | .lst _ :: _, _, _, .cons _ _, e => by cases e
  | .dic _ _ :: _, _, _, .cons _ _, e => by cases e
  | .obj _ _ :: _, _, _, .cons _ _, e => by cases e
  | .exc _ _ :: _, _, _, .cons _ _, e => by cases e
  | .scr _ :: _, _, _, .cons _ _, e => by cases e
theorem RepL.ofInts (K : PySem.W.Frag) (F : Hp) : ∀ ns : List Int, RepL K F (ns.map D.int) (ns.map V.int)
  | [] => .nil
  | n :: ns => .cons (.int n) (RepL.ofInts K F ns)
end

def isMut : D → Bool
  | .lst _ => true
  | .dic _ _ => true
  | .obj _ _ => true
  | _ => false
/-- d stands at v, owned, its objects at B -/
inductive Own (K : PySem.W.Frag) (F H : Hp) : D → V → List Addr → Prop
  | shr {d : D} {v : V} : isMut d = false → Rep K F d v → Own K F H d v []
  | lst {a : Addr} {vs : List V} {ds : List D} : H a = some (.lst vs) → ds.length ≤ PX.sizeLine → RepL K F ds vs → Own K F H (.lst ds) (.ref a) [a]
  | dK {a : Addr} {kvs : List (L2.Key × V)} {es : List (D × D)} : H a = some (.dK kvs) → RepK K F es kvs → Own K F H (.dic false es) (.ref a) [a]
  | dT {a : Addr} {kvs : List (List L2.Key × V)} {es : List (D × D)} : H a = some (.dT kvs) → RepT K F es kvs → Own K F H (.dic true es) (.ref a) [a]
section
variable {K : PySem.W.Frag} {F F' H H' : Hp} {d : D} {v : V} {B : List Addr}
theorem Own.keep (x : Own K F H d v B) (g : Grow F F') (k : ∀ b ∈ B, H' b = H b) : Own K F' H' d v B := by
  cases x with
  | shr m r => exact .shr m (r.grow g)
  | lst h l r => exact .lst ((k _ (by simp)).trans h) l (r.grow g)
  | dK h r => exact .dK ((k _ (by simp)).trans h) (r.grow g)
  | dT h r => exact .dT ((k _ (by simp)).trans h) (r.grow g)
theorem Own.has (x : Own K F H d v B) : ∀ b ∈ B, H b ≠ none := by
  intro b hb
  cases x with
  | shr m r => cases hb
  | @lst a vs ds h l r =>
    have e : b = a := by simpa using hb
    rw [e, h]; exact fun z => nomatch z
  | @dK a kvs es h r =>
    have e : b = a := by simpa using hb
    rw [e, h]; exact fun z => nomatch z
  | @dT a kvs es h r =>
    have e : b = a := by simpa using hb
    rw [e, h]; exact fun z => nomatch z
/-- let go: it stands in the frozen part -/
theorem Own.freeze (x : Own K F H d v B) (n : ∀ b ∈ B, F b = none) : ∃ F', Grow F F' ∧ Rep K F' d v ∧ (∀ a u, F' a = some u → F a = some u ∨ (a ∈ B ∧ H a = some u)) := by
  cases x with
  | shr m r => exact ⟨F, .refl F, r, fun a u h => .inl h⟩
  | @lst a vs ds h l r =>
    have na : F a = none := n a (by simp)
    refine ⟨upd F a (.lst vs), .upd na, .lst upd_same l (r.grow (.upd na)), fun b u e => ?_⟩
    by_cases q : b = a
    · subst q; rw [upd_same] at e; cases e; exact .inr ⟨by simp, h⟩
    · rw [upd_ne q] at e; exact .inl e
  | @dK a kvs es h r =>
    have na : F a = none := n a (by simp)
    refine ⟨upd F a (.dK kvs), .upd na, .dK upd_same (r.grow (.upd na)), fun b u e => ?_⟩
    by_cases q : b = a
    · subst q; rw [upd_same] at e; cases e; exact .inr ⟨by simp, h⟩
    · rw [upd_ne q] at e; exact .inl e
  | @dT a kvs es h r =>
    have na : F a = none := n a (by simp)
    refine ⟨upd F a (.dT kvs), .upd na, .dT upd_same (r.grow (.upd na)), fun b u e => ?_⟩
    by_cases q : b = a
    · subst q; rw [upd_same] at e; cases e; exact .inr ⟨by simp, h⟩
    · rw [upd_ne q] at e; exact .inl e
end

def isDic : HO → Bool
  | .dK _ => true
  | .dT _ => true
  | _ => false
/-- frozen things stand in the heap, a locked dict under its lock -/
def Sub (F : Hp) (Lk : Addr → Option Obj) (H : Hp) : Prop := ∀ a u, F a = some u → match Lk a with
  | none => H a = some u
  | some od => isDic u = true ∧ H a = some (.frz od u)
theorem Sub.at {F H : Hp} {Lk : Addr → Option Obj} (s : Sub F Lk H) {a : Addr} {u : HO} (h : F a = some u) (n : isDic u = false) : H a = some u := by
  have q := s a u h
  cases e : Lk a with
  | none => rw [e] at q; exact q
  | some od =>
    rw [e] at q
    rw [n] at q
    exact absurd q.1 Bool.false_ne_true
theorem Sub.rd {F H : Hp} {Lk : Addr → Option Obj} (s : Sub F Lk H) {a : Addr} {u : HO} (h : F a = some u) : Rd H a u := by
  have q := s a u h
  cases e : Lk a with
  | none => rw [e] at q; exact .inl q
  | some od => rw [e] at q; exact .inr ⟨od, q.2⟩
theorem Sub.seq {K : PySem.W.Frag} {F H : Hp} {Lk : Addr → Option Obj} (s : Sub F Lk H) {a : Addr} {xs : List V} (h : SqL K F a xs) : SqL K H a xs := by
  rcases h with (h | ⟨o, h⟩) | h
  · exact .inl (.inl (s.at h rfl))
  · exact .inl (.inr ⟨o, s.at h rfl⟩)
  · exact .inr h
inductive View (K : PySem.W.Frag) (F H : Hp) : D → V → Prop
  | non : View K F H .non .non
  | bl (b : Bool) : View K F H (.bl b) (.bl b)
  | int (i : Int) : View K F H (.int i) (.int i)
  | str (s : Str) : View K F H (.str s) (.str s)
  | tup {a : Addr} {vs : List V} {ds : List D} : F a = some (.tup vs) → H a = some (.tup vs) → ds.length ≤ PX.sizeLine → RepL K F ds vs → View K F H (.tup ds) (.ref a)
  | lst {a : Addr} {vs : List V} {ds : List D} : H a = some (.lst vs) → ds.length ≤ PX.sizeLine → RepL K F ds vs → View K F H (.lst ds) (.ref a)
  | scr {a : Addr} {ns : List Int} : SqL K H a (ns.map V.int) → View K F H (.scr ns) (.ref a)
  | dK {a : Addr} {kvs : List (L2.Key × V)} {es : List (D × D)} : Rd H a (.dK kvs) → RepK K F es kvs → View K F H (.dic false es) (.ref a)
  | dT {a : Addr} {kvs : List (List L2.Key × V)} {es : List (D × D)} : Rd H a (.dT kvs) → RepT K F es kvs → View K F H (.dic true es) (.ref a)
theorem Rep.view {K : PySem.W.Frag} {F H : Hp} {Lk : Addr → Option Obj} {d : D} {v : V} (s : Sub F Lk H) (r : Rep K F d v) : View K F H d v := by
  cases r with
  | non => exact .non
  | bl b => exact .bl b
  | int i => exact .int i
  | str x => exact .str x
  | tup h l r => exact .tup h (s.at h rfl) l r
  | lst h l r => exact .lst (s.at h rfl) l r
  | scr h => exact .scr (s.seq h)
  | dK h r => exact .dK (s.rd h) r
  | dT h r => exact .dT (s.rd h) r
theorem Own.view {K : PySem.W.Frag} {F H : Hp} {Lk : Addr → Option Obj} {d : D} {v : V} {B : List Addr} (s : Sub F Lk H) (x : Own K F H d v B) : View K F H d v := by
  cases x with
  | shr m r => exact r.view s
  | lst h l r => exact .lst h l r
  | dK h r => exact .dK (.inl h) r
  | dT h r => exact .dT (.inl h) r
end PX
end
section
set_option Elab.async false
set_option linter.all false
set_option maxRecDepth 100000
set_option maxHeartbeats 4000000
namespace PX
open PySem L2

def ow (o : List Bool) (i : Nat) : Bool := (o[i]?).getD false
theorem gt_st_self : ∀ {ρ : Env} {i : Nat} {v : Option D}, i < ρ.length → gt (st ρ i v) i = v
  | _ :: _, 0, _, _ => rfl
  | _ :: r, i + 1, v, h => gt_st_self (ρ := r) (i := i) (by simpa using h)
  | [], _, _, h => absurd h (by simp)
theorem gt_st_ne : ∀ {ρ : Env} {i j : Nat} {v : Option D}, i ≠ j → gt (st ρ i v) j = gt ρ j
  | [], _, _, _, _ => rfl
  | _ :: _, 0, 0, _, h => absurd rfl h
  | _ :: _, 0, j + 1, _, _ => rfl
  | _ :: _, _ + 1, 0, _, _ => rfl
  | _ :: r, i + 1, j + 1, v, h => gt_st_ne (ρ := r) (i := i) (j := j) fun z => h (by rw [z])
theorem st_length : ∀ (ρ : Env) (i : Nat) (v : Option D), (st ρ i v).length = ρ.length
  | [], _, _ => rfl
  | _ :: _, 0, _ => rfl
  | _ :: r, i + 1, v => by rw [st, List.length_cons, List.length_cons, st_length r i v]
theorem gt_some_lt : ∀ {ρ : Env} {i : Nat} {d : D}, gt ρ i = some d → i < ρ.length
  | [], _, _, h => by cases h
  | _ :: _, 0, _, _ => by simp
  | _ :: r, i + 1, d, h => by
    have := gt_some_lt (ρ := r) (i := i) (d := d) h
    simp; omega
theorem gt_st_some {ρ : Env} {i j : Nat} {v : Option D} {d : D} (h : gt (st ρ i v) j = some d) : (j = i ∧ v = some d) ∨ (j ≠ i ∧ gt ρ j = some d) := by
  by_cases e : j = i
  · subst e
    have hl := gt_some_lt h
    rw [st_length] at hl
    rw [gt_st_self hl] at h
    exact .inl ⟨rfl, h⟩
  · rw [gt_st_ne (Ne.symm e)] at h
    exact .inr ⟨e, h⟩
theorem wipe_length : ∀ (is : List Nat) (ρ : Env), (wipe is ρ).length = ρ.length
  | [], _ => rfl
  | i :: is, ρ => by rw [wipe, wipe_length is, st_length]
theorem gt_wipe_some : ∀ {is : List Nat} {ρ : Env} {j : Nat} {d : D}, gt (wipe is ρ) j = some d → j ∉ is ∧ gt ρ j = some d
  | [], _, _, _, h => ⟨by simp, h⟩
  | i :: is, ρ, j, d, h => by
    obtain ⟨h1, h2⟩ := gt_wipe_some (is := is) (ρ := st ρ i none) h
    rcases gt_st_some h2 with ⟨_, z⟩ | ⟨ne, z⟩
    · cases z
    · exact ⟨by simp [ne, h1], z⟩
theorem gt_wipe_out : ∀ {is : List Nat} {ρ : Env} {j : Nat}, j ∉ is → gt (wipe is ρ) j = gt ρ j
  | [], _, _, _ => rfl
  | i :: is, ρ, j, h => by
    rw [wipe, gt_wipe_out (is := is) (by simp at h; exact h.2), gt_st_ne]
    simp at h; exact fun z => h.1 z.symm
theorem rest_length : ∀ (is : List Nat) (ρ0 ρ : Env), (rest is ρ0 ρ).length = ρ.length
  | [], _, _ => rfl
  | i :: is, ρ0, ρ => by rw [rest, rest_length is, st_length]
theorem gt_rest_out : ∀ {is : List Nat} {ρ0 ρ : Env} {j : Nat}, j ∉ is → gt (rest is ρ0 ρ) j = gt ρ j
  | [], _, _, _, _ => rfl
  | i :: is, ρ0, ρ, j, h => by
    rw [rest, gt_rest_out (is := is) (by simp at h; exact h.2), gt_st_ne]
    simp at h; exact fun z => h.1 z.symm
theorem gt_rest_in : ∀ {is : List Nat} {ρ0 ρ : Env} {j : Nat}, j ∈ is → j < ρ.length → gt (rest is ρ0 ρ) j = gt ρ0 j
  | [], _, _, _, h, _ => by simp at h
  | i :: is, ρ0, ρ, j, h, hl => by
    by_cases q : j ∈ is
    · rw [rest, gt_rest_in (is := is) q (by rw [st_length]; exact hl)]
    · have e : j = i := by
        rcases List.mem_cons.mp h with e | e
        · exact e
        · exact absurd e q
      subst e
      rw [rest, gt_rest_out q, gt_st_self hl]
theorem ow_set_self {o : List Bool} {i : Nat} {b : Bool} (h : i < o.length) : ow (o.set i b) i = b := by
  unfold ow; rw [List.getElem?_set_self h]; rfl
theorem ow_set_false (o : List Bool) (i : Nat) : ow (o.set i false) i = false := by
  by_cases h : i < o.length
  · exact ow_set_self h
  · unfold ow
    rw [List.getElem?_eq_none (by rw [List.length_set]; omega)]; rfl
theorem ow_set_ne {o : List Bool} {i j : Nat} {b : Bool} (h : i ≠ j) : ow (o.set i b) j = ow o j := by
  unfold ow; rw [List.getElem?_set_ne h]

def notTup (u : HO) : Prop := ∀ vs, u ≠ .tup vs
theorem Own.noTup {K : PySem.W.Frag} {F H : Hp} {d : D} {v : V} {B : List Addr} (x : Own K F H d v B) {b : Addr} (hb : b ∈ B) : ∃ u, H b = some u ∧ notTup u := by
  cases x with
  | shr m r => cases hb
  | lst h l r => rw [List.mem_singleton.mp hb]; exact ⟨_, h, fun _ z => nomatch z⟩
  | dK h r => rw [List.mem_singleton.mp hb]; exact ⟨_, h, fun _ z => nomatch z⟩
  | dT h r => rw [List.mem_singleton.mp hb]; exact ⟨_, h, fun _ z => nomatch z⟩
/-- what stays through a run: the entry's frozen part and heap, what may be changed of it, the slots at the entry, the locks -/
structure Gh where
  F0 : Hp
  H0 : Hp
  M : List Addr
  s0 : St
  Lk : Addr → Option Obj
structure Rel (K : PySem.W.Frag) (io : List Nat) (G : Gh) (F H : Hp) (o : List Bool) (A : Nat → List Addr) (ρ : Env) (σ : St) : Prop where
  sub : Sub F G.Lk H
  lkF : ∀ a, F a = none → G.Lk a = none
  f0 : Grow G.F0 F
  new : ∀ a, F a ≠ none → G.F0 a ≠ none ∨ G.H0 a = none ∨ ∃ vs, G.H0 a = some (.tup vs)
  dom : (∀ a, G.H0 a ≠ none → H a ≠ none) ∧ ∀ a ∈ G.M, ∃ u, H a = some u ∧ notTup u
  keep : ∀ a u, G.H0 a = some u → a ∉ G.M → G.Lk a = none → H a = some u
  len : ρ.length = σ.length
  sl : ∀ i d, gt ρ i = some d → ∃ v, σ[i]? = some (some v) ∧ (if ow o i = true then Own K F H d v (A i) else Rep K F d v)
  own : ∀ i d, gt ρ i = some d → ow o i = true → ∀ a ∈ A i, F a = none ∧ (G.H0 a = none ∨ (i ∈ io ∧ a ∈ G.M))
  dis : ∀ i j d e, i ≠ j → gt ρ i = some d → gt ρ j = some e → ow o i = true → ow o j = true → ∀ a ∈ A i, a ∉ A j
  ioo : ∀ i ∈ io, ow o i = true ∧ σ[i]? = G.s0[i]?

section
variable {K : PySem.W.Frag} {io : List Nat} {G : Gh} {F F' H H' : Hp} {o o' : List Bool} {A A' : Nat → List Addr} {ρ : Env} {σ : St} {i : Nat} {d : D} {v : V} {B : List Addr}
theorem Sub.free {F H : Hp} {Lk : Addr → Option Obj} (s : Sub F Lk H) {a : Addr} (h : H a = none) : F a = none := by
  cases e : F a with
  | none => rfl
  | some u =>
    have q := s a u e
    cases l : Lk a with
    | none => rw [l] at q; rw [h] at q; cases q
    | some od => rw [l] at q; rw [h] at q; cases q.2
theorem Rel.shr (r : Rel K io G F H o A ρ σ) (h : gt ρ i = some d) (ho : ow o i = false) : ∃ v, σ[i]? = some (some v) ∧ Rep K F d v := by
  obtain ⟨v, h1, h2⟩ := r.sl i d h
  rw [ho] at h2
  exact ⟨v, h1, by simpa using h2⟩
theorem Rel.owned (r : Rel K io G F H o A ρ σ) (h : gt ρ i = some d) (ho : ow o i = true) : ∃ v, σ[i]? = some (some v) ∧ Own K F H d v (A i) := by
  obtain ⟨v, h1, h2⟩ := r.sl i d h
  rw [if_pos ho] at h2
  exact ⟨v, h1, h2⟩
/-- the heap grows; new things may be frozen -/
theorem Rel.ext (r : Rel K io G F H o A ρ σ) (hs : Same H H') (g : Grow F F') (hn : ∀ a u, F' a = some u → F a = some u ∨ (H a = none ∧ H' a = some u)) : Rel K io G F' H' o A ρ σ := by
  have fn : ∀ a, H a ≠ none → F a = none → F' a = none := fun a ha hf => by
    cases e : F' a with
    | none => rfl
    | some u =>
      rcases hn a u e with z | z
      · rw [hf] at z; cases z
      · exact absurd z.1 ha
  refine ⟨fun a u e => ?_, fun a e => ?_, r.f0.trans g, fun a e => ?_, ⟨fun a e => ?_, fun a ha => let ⟨u, e, n⟩ := r.dom.2 a ha; ⟨u, hs _ _ e, n⟩⟩, fun a u e m l => hs _ _ (r.keep a u e m l), r.len, fun i d e => ?_, fun i d e h a ha => ?_, r.dis, r.ioo⟩
  · rcases hn a u e with z | ⟨z1, z2⟩
    · have q := r.sub a u z
      cases l : G.Lk a with
      | none => rw [l] at q; exact hs _ _ q
      | some od => rw [l] at q; exact ⟨q.1, hs _ _ q.2⟩
    · rw [r.lkF a (r.sub.free z1)]; exact z2
  · refine r.lkF a ?_
    cases q : F a with
    | none => rfl
    | some u => rw [g _ _ q] at e; cases e
  · cases q : F' a with
    | none => exact absurd q e
    | some u =>
      rcases hn a u q with z | ⟨z1, _⟩
      · exact r.new a (by rw [z]; exact fun z => nomatch z)
      · refine .inr (.inl ?_)
        cases w : G.H0 a with
        | none => rfl
        | some x => exact absurd z1 (r.dom.1 a (by rw [w]; exact fun z => nomatch z))
  · have q := r.dom.1 a e
    cases w : H a with
    | none => exact absurd w q
    | some x => rw [hs _ _ w]; exact fun z => nomatch z
  · obtain ⟨v, h1, h2⟩ := r.sl i d e
    refine ⟨v, h1, ?_⟩
    by_cases h : ow o i = true
    · rw [if_pos h] at h2 ⊢
      refine h2.keep g fun b hb => ?_
      have q := h2.has b hb
      cases w : H b with
      | none => exact absurd w q
      | some x => exact hs _ _ w
    · rw [if_neg h] at h2 ⊢
      exact h2.grow g
  · obtain ⟨h1, h2⟩ := r.own i d e h a ha
    obtain ⟨v, _, q⟩ := r.owned e h
    exact ⟨fn a (q.has a ha) h1, h2⟩
/-- a slot gets a thing that never changes -/
theorem Rel.setSh (r : Rel K io G F H o A ρ σ) (hi : i < ρ.length) (hio : i ∉ io) (rp : Rep K F d v) : Rel K io G F H (o.set i false) A (st ρ i (some d)) (σ.set i (some v)) := by
  have ne : ∀ j, ow (o.set i false) j = true → j ≠ i := fun j e z => by
    subst z; rw [ow_set_false] at e; cases e
  refine ⟨r.sub, r.lkF, r.f0, r.new, r.dom, r.keep, by rw [st_length, List.length_set]; exact r.len, fun j e h => ?_, fun j e h w a ha => ?_, fun j k e f jk hj hk wj wk => ?_, fun j hj => ?_⟩
  · rcases gt_st_some h with ⟨z, q⟩ | ⟨z, h⟩
    · subst z
      obtain rfl := Option.some.inj q
      refine ⟨v, List.getElem?_set_self (by rw [← r.len]; exact hi), ?_⟩
      rw [if_neg (by rw [ow_set_false]; exact Bool.false_ne_true)]
      exact rp
    · rw [List.getElem?_set_ne (Ne.symm z), ow_set_ne (Ne.symm z)]
      exact r.sl j e h
  · have z := ne j w
    rcases gt_st_some h with ⟨q, _⟩ | ⟨_, h⟩
    · exact absurd q z
    · rw [ow_set_ne (Ne.symm z)] at w
      exact r.own j e h w a ha
  · have z1 := ne j wj
    have z2 := ne k wk
    rw [ow_set_ne (Ne.symm z1)] at wj
    rw [ow_set_ne (Ne.symm z2)] at wk
    rw [gt_st_ne (Ne.symm z1)] at hj
    rw [gt_st_ne (Ne.symm z2)] at hk
    exact r.dis j k e f jk hj hk wj wk
  · have z : j ≠ i := fun z => hio (z ▸ hj)
    rw [ow_set_ne (Ne.symm z), List.getElem?_set_ne (Ne.symm z)]
    exact r.ioo j hj
def updA (A : Nat → List Addr) (i : Nat) (B : List Addr) : Nat → List Addr := fun j => if j = i then B else A j
theorem updA_same : updA A i B i = B := if_pos rfl
theorem updA_ne {j : Nat} (h : j ≠ i) : updA A i B j = A j := if_neg h
/-- a fresh thing, apart from all that is owned -/
structure Apart (G : Gh) (F H : Hp) (o : List Bool) (A : Nat → List Addr) (ρ : Env) (B : List Addr) : Prop where
  f : ∀ b ∈ B, F b = none
  h0 : ∀ b ∈ B, G.H0 b = none
  sl : ∀ i d, gt ρ i = some d → ow o i = true → ∀ b ∈ B, b ∉ A i
theorem Rel.setOw (r : Rel K io G F H o A ρ σ) (hi : i < ρ.length) (ho : i < o.length) (hio : i ∉ io) (x : Own K F H d v B) (ap : Apart G F H o A ρ B) :
    Rel K io G F H (o.set i true) (updA A i B) (st ρ i (some d)) (σ.set i (some v)) := by
  refine ⟨r.sub, r.lkF, r.f0, r.new, r.dom, r.keep, by rw [st_length, List.length_set]; exact r.len, fun j e h => ?_, fun j e h w a ha => ?_, fun j k e f jk hj hk wj wk a ha => ?_, fun j hj => ?_⟩
  · rcases gt_st_some h with ⟨z, q⟩ | ⟨z, h⟩
    · subst z
      obtain rfl := Option.some.inj q
      refine ⟨v, List.getElem?_set_self (by rw [← r.len]; exact hi), ?_⟩
      rw [if_pos (ow_set_self ho), updA_same]
      exact x
    · rw [List.getElem?_set_ne (Ne.symm z), ow_set_ne (Ne.symm z), updA_ne z]
      exact r.sl j e h
  · rcases gt_st_some h with ⟨z, h⟩ | ⟨z, h⟩
    · subst z
      rw [updA_same] at ha
      exact ⟨ap.f a ha, .inl (ap.h0 a ha)⟩
    · rw [updA_ne z] at ha
      rw [ow_set_ne (Ne.symm z)] at w
      exact r.own j e h w a ha
  · rcases gt_st_some hj with ⟨z1, h1⟩ | ⟨z1, h1⟩
    · subst z1
      have z2 : k ≠ j := Ne.symm jk
      rw [gt_st_ne jk] at hk
      rw [ow_set_ne jk] at wk
      rw [updA_same] at ha
      rw [updA_ne z2]
      exact ap.sl k f hk wk a ha
    · rw [updA_ne z1] at ha
      rw [ow_set_ne (Ne.symm z1)] at wj
      rcases gt_st_some hk with ⟨z2, h2⟩ | ⟨z2, h2⟩
      · subst z2
        rw [updA_same]
        exact fun q => ap.sl j e h1 wj a q ha
      · rw [updA_ne z2]
        rw [ow_set_ne (Ne.symm z2)] at wk
        exact r.dis j k e f jk h1 h2 wj wk a ha
  · have z : j ≠ i := fun z => hio (z ▸ hj)
    rw [ow_set_ne (Ne.symm z), List.getElem?_set_ne (Ne.symm z)]
    exact r.ioo j hj
/-- an owned slot is let go -/
theorem Rel.freeze (r : Rel K io G F H o A ρ σ) (hio : i ∉ io) : ∃ F', Grow F F' ∧ Rel K io G F' H (o.set i false) A ρ σ := by
  by_cases how : ow o i = false
  · have e := how
    refine ⟨F, .refl F, r.sub, r.lkF, r.f0, r.new, r.dom, r.keep, r.len, fun j d h => ?_, fun j d h w => ?_, fun j k d f jk hj hk wj wk => ?_, fun j hj => ?_⟩
    · by_cases z : j = i
      · subst z; obtain ⟨v, h1, h2⟩ := r.shr h e
        exact ⟨v, h1, by rw [if_neg (by rw [ow_set_false]; exact Bool.false_ne_true)]; exact h2⟩
      · rw [ow_set_ne (Ne.symm z)]; exact r.sl j d h
    · have z : j ≠ i := fun z => by subst z; rw [ow_set_false] at w; cases w
      rw [ow_set_ne (Ne.symm z)] at w; exact r.own j d h w
    · have z1 : j ≠ i := fun z => by subst z; rw [ow_set_false] at wj; cases wj
      have z2 : k ≠ i := fun z => by subst z; rw [ow_set_false] at wk; cases wk
      rw [ow_set_ne (Ne.symm z1)] at wj
      rw [ow_set_ne (Ne.symm z2)] at wk
      exact r.dis j k d f jk hj hk wj wk
    · have z : j ≠ i := fun z => hio (z ▸ hj)
      rw [ow_set_ne (Ne.symm z)]; exact r.ioo j hj
  have how : ow o i = true := by simpa using how
  cases hg : gt ρ i with
  | none =>
    refine ⟨F, .refl F, r.sub, r.lkF, r.f0, r.new, r.dom, r.keep, r.len, fun j d h => ?_, fun j d h w => ?_, fun j k d f jk hj hk wj wk => ?_, fun j hj => ?_⟩
    · have z : j ≠ i := fun z => by subst z; rw [hg] at h; cases h
      rw [ow_set_ne (Ne.symm z)]; exact r.sl j d h
    · have z : j ≠ i := fun z => by subst z; rw [hg] at h; cases h
      rw [ow_set_ne (Ne.symm z)] at w; exact r.own j d h w
    · have z1 : j ≠ i := fun z => by subst z; rw [hg] at hj; cases hj
      have z2 : k ≠ i := fun z => by subst z; rw [hg] at hk; cases hk
      rw [ow_set_ne (Ne.symm z1)] at wj
      rw [ow_set_ne (Ne.symm z2)] at wk
      exact r.dis j k d f jk hj hk wj wk
    · have z : j ≠ i := fun z => hio (z ▸ hj)
      rw [ow_set_ne (Ne.symm z)]; exact r.ioo j hj
  | some d =>
    obtain ⟨v, hv, x⟩ := r.owned hg how
    have oo := r.own i d hg how
    obtain ⟨F', g, rp, hn⟩ := x.freeze fun b hb => (oo b hb).1
    have fn : ∀ a, a ∉ A i → F a = none → F' a = none := fun a ha hf => by
      cases e : F' a with
      | none => rfl
      | some u =>
        rcases hn a u e with z | z
        · rw [hf] at z; cases z
        · exact absurd z.1 ha
    refine ⟨F', g, fun a u e => ?_, fun a e => ?_, r.f0.trans g, fun a e => ?_, r.dom, r.keep, r.len, fun j e h => ?_, fun j e h w a ha => ?_, fun j k e f jk hj hk wj wk => ?_, fun j hj => ?_⟩
    · rcases hn a u e with z | ⟨z1, z2⟩
      · exact r.sub a u z
      · rw [r.lkF a (oo a z1).1]; exact z2
    · refine r.lkF a ?_
      cases q : F a with
      | none => rfl
      | some u => rw [g _ _ q] at e; cases e
    · cases q : F' a with
      | none => exact absurd q e
      | some u =>
        rcases hn a u q with z | ⟨z1, _⟩
        · exact r.new a (by rw [z]; exact fun z => nomatch z)
        · rcases (oo a z1).2 with z | ⟨z, _⟩
          · exact .inr (.inl z)
          · exact absurd z hio
    · by_cases z : j = i
      · subst z
        rw [hg] at h
        cases h
        refine ⟨v, hv, ?_⟩
        rw [if_neg (by rw [ow_set_false]; exact Bool.false_ne_true)]
        exact rp
      · rw [ow_set_ne (Ne.symm z)]
        obtain ⟨v', h1, h2⟩ := r.sl j e h
        refine ⟨v', h1, ?_⟩
        by_cases w : ow o j = true
        · rw [if_pos w] at h2 ⊢
          exact h2.keep g fun _ _ => rfl
        · rw [if_neg w] at h2 ⊢
          exact h2.grow g
    · have z : j ≠ i := fun z => by subst z; rw [ow_set_false] at w; cases w
      rw [ow_set_ne (Ne.symm z)] at w
      obtain ⟨h1, h2⟩ := r.own j e h w a ha
      exact ⟨fn a (r.dis j i e d z h hg w how a ha) h1, h2⟩
    · have z1 : j ≠ i := fun z => by subst z; rw [ow_set_false] at wj; cases wj
      have z2 : k ≠ i := fun z => by subst z; rw [ow_set_false] at wk; cases wk
      rw [ow_set_ne (Ne.symm z1)] at wj
      rw [ow_set_ne (Ne.symm z2)] at wk
      exact r.dis j k e f jk hj hk wj wk
    · have z : j ≠ i := fun z => hio (z ▸ hj)
      rw [ow_set_ne (Ne.symm z)]; exact r.ioo j hj
/-- names are forgotten -/
theorem Rel.forget {ρ' : Env} (r : Rel K io G F H o A ρ σ) (hl : ρ'.length = ρ.length) (h : ∀ j d, gt ρ' j = some d → gt ρ j = some d) : Rel K io G F H o A ρ' σ :=
  ⟨r.sub, r.lkF, r.f0, r.new, r.dom, r.keep, hl.trans r.len, fun j d e => r.sl j d (h j d e), fun j d e => r.own j d (h j d e), fun j k d e jk hj hk => r.dis j k d e jk (h j d hj) (h k e hk), r.ioo⟩
theorem Rel.wipe (r : Rel K io G F H o A ρ σ) (is : List Nat) : Rel K io G F H o A (wipe is ρ) σ := r.forget (wipe_length is ρ) fun _ _ e => (gt_wipe_some e).2
/-- what is owned at slot i is written at p, one of its objects, in place -/
theorem Rel.mut (r : Rel K io G F H o A ρ σ) {p : Addr} {u : HO} {e : D} (hg : gt ρ i = some e) (ho : ow o i = true) (hp : p ∈ A i) (hv : σ[i]? = some (some v)) (x : Own K F (upd H p u) d v (A i)) :
    Rel K io G F (upd H p u) o A (st ρ i (some d)) σ := by
  have op := r.own i e hg ho
  have nf : F p = none := (op p hp).1
  have ne : ∀ a w, F a = some w → a ≠ p := fun a w h z => by subst z; rw [nf] at h; cases h
  refine ⟨fun a w h => ?_, r.lkF, r.f0, r.new, ⟨fun a h => ?_, fun a ha => ?_⟩, fun a w h hm l => ?_, by rw [st_length]; exact r.len, fun j f h => ?_, fun j f h w a ha => ?_, fun j k f g jk hj hk => ?_, r.ioo⟩
  · have q := r.sub a w h
    rw [upd_ne (ne a w h)]
    exact q
  · by_cases z : a = p
    · subst z; rw [upd_same]; exact fun z => nomatch z
    · rw [upd_ne z]; exact r.dom.1 a h
  · by_cases z : a = p
    · subst z; exact x.noTup hp
    · rw [upd_ne z]; exact r.dom.2 a ha
  · have z : a ≠ p := fun z => by
      subst z
      rcases (op a hp).2 with q | ⟨_, q⟩
      · rw [q] at h; cases h
      · exact hm q
    rw [upd_ne z]; exact r.keep a w h hm l
  · rcases gt_st_some h with ⟨z, q⟩ | ⟨z, h⟩
    · subst z
      obtain rfl := Option.some.inj q
      exact ⟨v, hv, by rw [if_pos ho]; exact x⟩
    · obtain ⟨v', h1, h2⟩ := r.sl j f h
      refine ⟨v', h1, ?_⟩
      by_cases w : ow o j = true
      · rw [if_pos w] at h2 ⊢
        refine h2.keep (.refl F) fun b hb => upd_ne ?_
        intro q; subst q
        exact r.dis j i f e z h hg w ho b hb hp
      · rw [if_neg w] at h2 ⊢
        exact h2
  · rcases gt_st_some h with ⟨z, _⟩ | ⟨_, h⟩
    · subst z; exact op a ha
    · exact r.own j f h w a ha
  · have q : ∀ k f, gt (st ρ i (some d)) k = some f → ∃ f', gt ρ k = some f' := fun k f h => by
      rcases gt_st_some h with ⟨z, _⟩ | ⟨_, h⟩
      · subst z; exact ⟨e, hg⟩
      · exact ⟨f, h⟩
    obtain ⟨f', hj'⟩ := q j f hj
    obtain ⟨g', hk'⟩ := q k g hk
    exact r.dis j k f' g' jk hj' hk'
end
end PX
end
section
set_option Elab.async false
set_option linter.all false
set_option maxRecDepth 100000
set_option maxHeartbeats 4000000
namespace PX
open PySem L2 PySem.Spec PyProof.Rows

theorem line_eq : PX.sizeLine = PySem.sizeLine := by rw [sizeLine_eq]; rfl
/-- a new value: nothing that stood has changed; new tuples stand in the frozen part, a new list is owned -/
def Nw (K : PySem.W.Frag) (F H : Hp) (z : D) (w : V) (H' : Hp) : Prop :=
  Same H H' ∧ ∃ F' B, Grow F F' ∧ (∀ a u, F' a = some u → F a = some u ∨ (H a = none ∧ H' a = some u)) ∧ Own K F' H' z w B ∧ ∀ b ∈ B, F' b = none ∧ H b = none
section
variable {K : PySem.W.Frag} {F H : Hp} {z : D} {w : V} {p : Addr} {vs : List V} {ds : List D}
theorem Nw.sc (m : isMut z = false) (r : Rep K F z w) : Nw K F H z w H := ⟨.refl H, F, [], .refl F, fun _ _ e => .inl e, .shr m r, fun _ h => by cases h⟩
theorem same_upd {u : HO} (h : H p = none) : Same H (upd H p u) := fun b x e => by rw [upd_ne (ne_of_none e h)]; exact e
theorem Nw.lst (fF : F p = none) (h : H p = none) (l : ds.length ≤ PX.sizeLine) (r : RepL K F ds vs) : Nw K F H (.lst ds) (.ref p) (upd H p (.lst vs)) :=
  ⟨same_upd h, F, [p], .refl F, fun _ _ e => .inl e, .lst upd_same l r, fun b hb => by
    have e : b = p := by simpa using hb
    subst e; exact ⟨fF, h⟩⟩
theorem Nw.tup (fF : F p = none) (h : H p = none) (l : ds.length ≤ PX.sizeLine) (r : RepL K F ds vs) : Nw K F H (.tup ds) (.ref p) (upd H p (.tup vs)) := by
  refine ⟨same_upd h, upd F p (.tup vs), [], .upd fF, fun a u e => ?_, .shr rfl (.tup upd_same l (r.grow (.upd fF))), fun _ h => by cases h⟩
  by_cases q : a = p
  · subst q; rw [upd_same] at e; cases e; exact .inr ⟨h, upd_same⟩
  · rw [upd_ne q] at e; exact .inl e
/-- an old thing again -/
theorem Nw.old (m : isMut z = false) (r : Rep K F z w) : Nw K F H z w H := .sc m r
end
/-- what a reading of values knows of the frozen part -/
def FH (F H : Hp) : Prop := ∀ a, H a = none → F a = none

theorem small_of {i : Int} (h : i.natAbs < 2 ^ 64) : -(2 ^ 64) < i ∧ i < 2 ^ 64 := by omega
theorem mulOk_ok {i j : Int} (h : PX.mulOk i j = true) : IntMulOk i j := by
  unfold PX.mulOk at h
  simp only [Bool.or_eq_true, decide_eq_true_eq] at h
  rcases h with (h | h) | ⟨h1, h2⟩
  · exact CMul.ok (.inl (small_of h))
  · exact CMul.ok (.inr (small_of h))
  · exact CMulW.ok (wide_mul h1 h2 (by decide) (by decide) (by decide))
theorem divOk_ok {j : Int} (h : PX.divOk j = true) : j ≠ 0 ∧ j.natAbs.log2 < 9000 := by
  have h' : j ≠ 0 ∧ j.natAbs < 2 ^ 9000 := of_decide_eq_true h
  exact ⟨h'.1, PySem.Flt.log2_lt_of (by decide) h'.2⟩
section
variable {X : Cx}
/-- a reading by data: x and y are readable as d and e -/
def rD2 (K : PySem.W.Frag) (f : D → D → Option D) : R2 := fun x y H Q => ∃ F Lk d e z, Sub F Lk H ∧ View K F H d x ∧ View K F H e y ∧ f d e = some z ∧ (∀ w H', Nw K F H z w H' → Q w H')
def rB2 (K : PySem.W.Frag) (f : D → D → Option Bool) : R2 := fun x y H Q => ∃ F Lk d e k, Sub F Lk H ∧ View K F H d x ∧ View K F H e y ∧ f d e = some k ∧ Q (.bl k) H
def opO : Bop → Operator
  | .add => .Add | .sub => .Sub | .mul => .Mult | .fdiv => .FloorDiv | .mod => .Mod | .pow => .Pow
theorem fits_le {n : Nat} (h : PX.fits n = true) : n ≤ PX.sizeLine := of_decide_eq_true h
theorem ite_some {α : Type} {c : Bool} {a z : α} (h : (if c = true then some a else none) = some z) : c = true ∧ a = z := by
  cases c with
  | true => exact ⟨rfl, Option.some.inj (by simpa using h)⟩
  | false => simp at h
theorem bin_add : OpR X (binaryOp .Add) (rD2 X.K addD) := by
  intro pins s σ H x y v u Q I rx ry h
  obtain ⟨F, Lk, d, e, z, sb, vx, vy, hz, q⟩ := h
  cases vx with
  | int i =>
    cases vy with
    | int j =>
      obtain rfl := Option.some.inj hz
      exact op_add pins s σ H _ _ v u Q I rx ry ⟨i, j, rfl, rfl, q _ _ (.sc rfl (.int _))⟩
    | _ => cases hz
  | @lst a xs ds ha la ra =>
    cases vy with
    | @lst b ys es hb lb rb =>
      obtain ⟨hf, rfl⟩ := ite_some (show (if PX.fits (ds.length + es.length) = true then some (D.lst (ds ++ es)) else none) = some z from hz)
      have hl := fits_le hf
      exact op_cat pins s σ H _ _ v u Q I rx ry ⟨a, b, xs, ys, rfl, rfl, ha, hb, by rw [← ra.length, ← rb.length, ← line_eq]; exact hl, fun p hp => q _ _ (.lst (sb.free hp) hp (by rw [List.length_append]; exact hl) (ra.app rb))⟩
    | _ => cases hz
  | @tup a xs ds fa ha la ra =>
    cases vy with
    | @tup b ys es fb hb lb rb =>
      obtain ⟨hf, rfl⟩ := ite_some (show (if PX.fits (ds.length + es.length) = true then some (D.tup (ds ++ es)) else none) = some z from hz)
      have hl := fits_le hf
      refine op_catA pins s σ H _ _ v u Q I rx ry ⟨a, b, xs, ys, rfl, rfl, .of ha, .of hb, by rw [← ra.length, ← rb.length, ← line_eq]; exact hl, fun e => ?_, fun _ e => ?_, fun _ _ p hp => q _ _ (.tup (sb.free hp) hp (by rw [List.length_append]; exact hl) (ra.app rb))⟩
      · subst e
        cases ra
        exact q _ _ (.sc rfl (.tup fb lb rb))
      · subst e
        cases rb
        rw [List.append_nil] at q
        exact q _ _ (.sc rfl (.tup fa la ra))
    | _ => cases hz
  | str i =>
    cases vy with
    | str j =>
      obtain ⟨hf, rfl⟩ := ite_some (show (if PX.fits (i.length + j.length) = true then some (D.str (i ++ j)) else none) = some z from hz)
      exact op_add_str pins s σ H _ _ v u Q I rx ry ⟨i, j, rfl, rfl, by rw [← line_eq]; exact fits_le hf, q _ _ (.sc rfl (.str _))⟩
    | _ => cases hz
  | _ => cases vy <;> cases hz
theorem bin_sub : OpR X (binaryOp .Sub) (rD2 X.K subD) := by
  intro pins s σ H x y v u Q I rx ry h
  obtain ⟨F, Lk, d, e, z, sb, vx, vy, hz, q⟩ := h
  cases vx with
  | int i =>
    cases vy with
    | int j =>
      obtain rfl := Option.some.inj hz
      exact op_sub pins s σ H _ _ v u Q I rx ry ⟨i, j, rfl, rfl, q _ _ (.sc rfl (.int _))⟩
    | _ => cases hz
  | _ => cases vy <;> cases hz
theorem bin_mul : OpR X (binaryOp .Mult) (rD2 X.K mulD) := by
  intro pins s σ H x y v u Q I rx ry h
  obtain ⟨F, Lk, d, e, z, sb, vx, vy, hz, q⟩ := h
  cases vx with
  | int i =>
    cases vy with
    | int j =>
      obtain ⟨hf, rfl⟩ := ite_some (show (if PX.mulOk i j = true then some (D.int (i * j)) else none) = some z from hz)
      obtain ⟨t, rfl⟩ := rx
      obtain ⟨t', rfl⟩ := ry
      exact mul_int ⟨.int _, H, I.tok _, ⟨_, rfl⟩, q _ _ (.sc rfl (.int _))⟩ (mulOk_ok hf)
    | _ => cases hz
  | @lst a xs ds ha la ra =>
    cases vy with
    | int k =>
      obtain ⟨hf, rfl⟩ := ite_some (show (if (decide (k < 2 ^ 62) && decide (-(2 ^ 62) < k) && PX.fits (ds.length * k.toNat)) = true then some (D.lst (List.replicate k.toNat ds).flatten) else none) = some z from hz)
      simp only [Bool.and_eq_true, decide_eq_true_eq] at hf
      obtain ⟨⟨h1, h2⟩, h3⟩ := hf
      have hl := fits_le h3
      exact op_rep pins s σ H _ _ v u Q I rx ry ⟨a, k, xs, rfl, rfl, ha, by omega, by omega, by rw [← ra.length, ← line_eq]; exact hl,
        fun p hp => q _ _ (.lst (sb.free hp) hp (by simpa [Nat.mul_comm] using hl) (ra.repl _))⟩
    | _ => cases hz
  | _ => cases vy <;> cases hz
theorem bin_fdiv : OpR X (binaryOp .FloorDiv) (rD2 X.K fdivD) := by
  intro pins s σ H x y v u Q I rx ry h
  obtain ⟨F, Lk, d, e, z, sb, vx, vy, hz, q⟩ := h
  cases vx with
  | int i =>
    cases vy with
    | int j =>
      obtain ⟨hf, rfl⟩ := ite_some (show (if PX.divOk j = true then some (D.int (i.fdiv j)) else none) = some z from hz)
      obtain ⟨t, rfl⟩ := rx
      obtain ⟨t', rfl⟩ := ry
      have hd := divOk_ok hf
      exact floordiv_int hd.1 ⟨.int _, H, I.tok _, ⟨_, rfl⟩, q _ _ (.sc rfl (.int _))⟩ (.inl (PyProof.noPylong_of_log2 hd.2))
    | _ => cases hz
  | _ => cases vy <;> cases hz
theorem bin_mod : OpR X (binaryOp .Mod) (rD2 X.K modD) := by
  intro pins s σ H x y v u Q I rx ry h
  obtain ⟨F, Lk, d, e, z, sb, vx, vy, hz, q⟩ := h
  cases vx with
  | int i =>
    cases vy with
    | int j =>
      have hz' : (if j = 0 then none else some (D.int (i.fmod j))) = some z := hz
      by_cases hj : j = 0
      · rw [if_pos hj] at hz'; cases hz'
      · rw [if_neg hj] at hz'
        obtain rfl := Option.some.inj hz'
        exact op_modN pins s σ H _ _ v u Q I rx ry ⟨i, j, rfl, rfl, hj, q _ _ (.sc rfl (.int _))⟩
    | _ => cases hz
  | _ => cases vy <;> cases hz
theorem bin_pow : OpR X (binaryOp .Pow) (rD2 X.K powD) := by
  intro pins s σ H x y v u Q I rx ry h
  obtain ⟨F, Lk, d, e, z, sb, vx, vy, hz, q⟩ := h
  cases vx with
  | int i =>
    cases vy with
    | int j =>
      obtain ⟨hf, rfl⟩ := ite_some (show (if decide (0 ≤ j ∧ j ≤ 1000000 ∧ i.natAbs < 2 ^ 64) = true then some (D.int (i ^ j.toNat)) else none) = some z from hz)
      exact op_pow pins s σ H _ _ v u Q I rx ry ⟨i, j, rfl, rfl, (of_decide_eq_true hf : 0 ≤ j ∧ j ≤ 1000000 ∧ i.natAbs < 2 ^ 64), q _ _ (.sc rfl (.int _))⟩
    | _ => cases hz
  | _ => cases vy <;> cases hz
theorem bin_any (op : Bop) : OpR X (binaryOp (opO op)) (rD2 X.K (binD op)) := match op with
  | .add => bin_add | .sub => bin_sub | .mul => bin_mul | .fdiv => bin_fdiv | .mod => bin_mod | .pow => bin_pow
end
end PX
end
section
set_option Elab.async false
set_option linter.all false
set_option maxRecDepth 100000
set_option maxHeartbeats 4000000
namespace PX
open PySem L2 PySem.Spec PyProof.Rows

mutual
def toPy : D → PyData
  | .non => .none
  | .bl b => .bool b
  | .int i => .int i
  | .str s => .str s
  | .tup xs => .tuple (toPys xs)
  | .lst xs => .list (toPys xs)
  | .dic _ _ => .none
  | .obj _ _ => .none
  | .exc _ _ => .none
  | .scr _ => .none
def toPys : List D → List PyData
  | [] => []
  | x :: xs => toPy x :: toPys xs
end
section
variable {K : PySem.W.Frag} {F H : Hp} {Lk : Addr → Option Obj}
theorem shp_tup {n : Nat} {xs : List D} (h : shp n (.tup xs) = true) : ∃ m, n = m + 1 ∧ xs.all (shp m) = true := by
  cases n with
  | zero => exact absurd (show false = true from h) Bool.false_ne_true
  | succ m => exact ⟨m, rfl, h⟩
theorem shp_lst {n : Nat} {xs : List D} (h : shp n (.lst xs) = true) : ∃ m, n = m + 1 ∧ xs.all (shp m) = true := by
  cases n with
  | zero => exact absurd (show false = true from h) Bool.false_ne_true
  | succ m => exact ⟨m, rfl, h⟩
theorem all_cons {n : Nat} {x : D} {xs : List D} (h : (x :: xs).all (shp n) = true) : shp n x = true ∧ xs.all (shp n) = true := by
  rw [List.all_cons, Bool.and_eq_true] at h; exact h
theorem shp_not {n : Nat} {d : D} (h : shp n d = true) : (∀ t kvs, d ≠ .dic t kvs) ∧ (∀ c fs, d ≠ .obj c fs) ∧ (∀ c e, d ≠ .exc c e) ∧ ∀ ns, d ≠ .scr ns := by
  refine ⟨fun t kvs e => ?_, fun c fs e => ?_, fun c x e => ?_, fun ns e => ?_⟩ <;> subst e <;> cases n <;> exact absurd (show false = true from h) Bool.false_ne_true
mutual
theorem Rep.dp (sb : Sub F Lk H) : ∀ {d : D} {v : V} (n : Nat), Rep K F d v → shp n d = true → Dp K H v (toPy d)
  | _, _, _, .non, _ => .non
  | _, _, _, .bl b, _ => .bl b
  | _, _, _, .int i, _ => .int i
  | _, _, _, .str s, _ => .str s
  | _, _, n, .tup h l r, e => by
    obtain ⟨m, rfl, e⟩ := shp_tup e
    exact .tup (.of (sb.at h rfl)) (RepL.dp sb m r e)
  | _, _, n, .lst h l r, e => by
    obtain ⟨m, rfl, e⟩ := shp_lst e
    exact .lst (.of (sb.at h rfl)) (RepL.dp sb m r e)
  | _, _, n, .scr h, e => absurd rfl ((shp_not e).2.2.2 _)
  | _, _, n, .dK h r, e => absurd rfl ((shp_not e).1 _ _)
  | _, _, n, .dT h r, e => absurd rfl ((shp_not e).1 _ _)
theorem RepL.dp (sb : Sub F Lk H) : ∀ {ds : List D} {vs : List V} (n : Nat), RepL K F ds vs → ds.all (shp n) = true → DpAll K H vs (toPys ds)
  | _, _, _, .nil, _ => .nil
  | _, _, n, .cons r t, e => .cons (Rep.dp sb n r (all_cons e).1) (RepL.dp sb n t (all_cons e).2)
end
theorem View.dp (sb : Sub F Lk H) {d : D} {v : V} {n : Nat} (x : View K F H d v) (e : shp n d = true) : Dp K H v (toPy d) := by
  cases x with
  | non => exact .non
  | bl b => exact .bl b
  | int i => exact .int i
  | str s => exact .str s
  | tup f h l r =>
    obtain ⟨m, rfl, e⟩ := shp_tup e
    exact .tup (.of h) (r.dp sb m e)
  | lst h l r =>
    obtain ⟨m, rfl, e⟩ := shp_lst e
    exact .lst (.of h) (r.dp sb m e)
  | scr h => exact absurd rfl ((shp_not e).2.2.2 _)
  | dK h r => exact absurd rfl ((shp_not e).1 _ _)
  | dT h r => exact absurd rfl ((shp_not e).1 _ _)
mutual
theorem shp_lay : ∀ (d : D) (n : Nat), shp n d = true → (toPy d).canLay0 = true ∧ (toPy d).depth ≤ n
  | .non, n, _ => by simp [toPy, PyData.canLay0, PyData.depth]
  | .bl b, n, _ => by simp [toPy, PyData.canLay0, PyData.depth]
  | .int i, n, _ => by simp [toPy, PyData.canLay0, PyData.depth]
  | .str s, n, e => by
    have e' : stok s = true := by cases n <;> exact e
    refine ⟨?_, by simp [toPy, PyData.depth]⟩
    simp only [toPy, PyData.canLay0]
    unfold stok at e'
    show (s.cps.all fun c => decide (c < 0x110000)) = true
    simpa using e'
  | .tup xs, n, e => by
    obtain ⟨m, rfl, e⟩ := shp_tup e
    obtain ⟨h1, h2⟩ := shps_lay xs m e
    simp only [toPy, PyData.canLay0, PyData.depth]
    exact ⟨h1, by omega⟩
  | .lst xs, n, e => by
    obtain ⟨m, rfl, e⟩ := shp_lst e
    obtain ⟨h1, h2⟩ := shps_lay xs m e
    simp only [toPy, PyData.canLay0, PyData.depth]
    exact ⟨h1, by omega⟩
  | .dic t kvs, n, e => absurd rfl ((shp_not e).1 _ _)
  | .obj c fs, n, e => absurd rfl ((shp_not e).2.1 _ _)
  | .exc c x, n, e => absurd rfl ((shp_not e).2.2.1 _ _)
  | .scr ns, n, e => absurd rfl ((shp_not e).2.2.2 _)
theorem shps_lay : ∀ (ds : List D) (n : Nat), ds.all (shp n) = true → PyData.canLayAll0 (toPys ds) = true ∧ PyData.depthAll (toPys ds) ≤ n
  | [], n, _ => by simp [toPys, PyData.canLayAll0, PyData.depthAll]
  | d :: ds, n, e => by
    obtain ⟨h1, h2⟩ := all_cons e
    obtain ⟨a1, a2⟩ := shp_lay d n h1
    obtain ⟨b1, b2⟩ := shps_lay ds n h2
    simp only [toPys, PyData.canLayAll0, PyData.depthAll]
    exact ⟨by rw [a1, b1]; rfl, by omega⟩
end
theorem shaped_of {d : D} {n : Nat} (h : shp n d = true) (hn : n ≤ 64) : SeqAt.shaped (toPy d) = true := by
  obtain ⟨h1, h2⟩ := shp_lay d n h
  unfold SeqAt.shaped
  rw [h1, Bool.true_and]
  exact decide_eq_true (by omega)
mutual
theorem eqB_py : ∀ (d e : D) (n m : Nat), shp n d = true → shp m e = true → eqB d e = PyData.eqv (toPy d) (toPy e)
  | .dic t kvs, e, n, m, h1, h2 => absurd rfl ((shp_not h1).1 _ _)
  | .obj c fs, e, n, m, h1, h2 => absurd rfl ((shp_not h1).2.1 _ _)
  | .exc c x, e, n, m, h1, h2 => absurd rfl ((shp_not h1).2.2.1 _ _)
  | .scr ns, e, n, m, h1, h2 => absurd rfl ((shp_not h1).2.2.2 _)
  | .non, e, n, m, h1, h2 => by
    cases e with
    | dic t kvs => exact absurd rfl ((shp_not h2).1 _ _)
    | obj c fs => exact absurd rfl ((shp_not h2).2.1 _ _)
    | exc c x => exact absurd rfl ((shp_not h2).2.2.1 _ _)
    | scr ns => exact absurd rfl ((shp_not h2).2.2.2 _)
    | _ => simp [eqB, toPy, PyData.eqv]
  | .bl a, e, n, m, h1, h2 => by
    cases e with
    | dic t kvs => exact absurd rfl ((shp_not h2).1 _ _)
    | obj c fs => exact absurd rfl ((shp_not h2).2.1 _ _)
    | exc c x => exact absurd rfl ((shp_not h2).2.2.1 _ _)
    | scr ns => exact absurd rfl ((shp_not h2).2.2.2 _)
    | _ => simp [eqB, toPy, PyData.eqv, b2i]
  | .int a, e, n, m, h1, h2 => by
    cases e with
    | dic t kvs => exact absurd rfl ((shp_not h2).1 _ _)
    | obj c fs => exact absurd rfl ((shp_not h2).2.1 _ _)
    | exc c x => exact absurd rfl ((shp_not h2).2.2.1 _ _)
    | scr ns => exact absurd rfl ((shp_not h2).2.2.2 _)
    | _ => simp [eqB, toPy, PyData.eqv, b2i]
  | .str a, e, n, m, h1, h2 => by
    cases e with
    | dic t kvs => exact absurd rfl ((shp_not h2).1 _ _)
    | obj c fs => exact absurd rfl ((shp_not h2).2.1 _ _)
    | exc c x => exact absurd rfl ((shp_not h2).2.2.1 _ _)
    | scr ns => exact absurd rfl ((shp_not h2).2.2.2 _)
    | str b =>
      simp only [eqB, toPy, PyData.eqv]
      rw [Bool.eq_iff_iff]; simp
    | _ => simp [eqB, toPy, PyData.eqv]
  | .tup xs, e, n, m, h1, h2 => by
    cases e with
    | dic t kvs => exact absurd rfl ((shp_not h2).1 _ _)
    | obj c fs => exact absurd rfl ((shp_not h2).2.1 _ _)
    | exc c x => exact absurd rfl ((shp_not h2).2.2.1 _ _)
    | scr ns => exact absurd rfl ((shp_not h2).2.2.2 _)
    | tup ys =>
      obtain ⟨n, rfl, h1⟩ := shp_tup h1
      obtain ⟨m, rfl, h2⟩ := shp_tup h2
      simp only [eqB, toPy, PyData.eqv]
      exact eqBs_py xs ys n m h1 h2
    | _ => simp [eqB, toPy, PyData.eqv]
  | .lst xs, e, n, m, h1, h2 => by
    cases e with
    | dic t kvs => exact absurd rfl ((shp_not h2).1 _ _)
    | obj c fs => exact absurd rfl ((shp_not h2).2.1 _ _)
    | exc c x => exact absurd rfl ((shp_not h2).2.2.1 _ _)
    | scr ns => exact absurd rfl ((shp_not h2).2.2.2 _)
    | lst ys =>
      obtain ⟨n, rfl, h1⟩ := shp_lst h1
      obtain ⟨m, rfl, h2⟩ := shp_lst h2
      simp only [eqB, toPy, PyData.eqv]
      exact eqBs_py xs ys n m h1 h2
    | _ => simp [eqB, toPy, PyData.eqv]
theorem eqBs_py : ∀ (xs ys : List D) (n m : Nat), xs.all (shp n) = true → ys.all (shp m) = true → eqBs xs ys = PyData.eqvAll (toPys xs) (toPys ys)
  | [], ys, n, m, h1, h2 => by cases ys <;> simp [eqBs, toPys, PyData.eqvAll]
  | x :: xs, ys, n, m, h1, h2 => by
    cases ys with
    | nil => simp [eqBs, toPys, PyData.eqvAll]
    | cons y ys =>
      obtain ⟨a1, a2⟩ := all_cons h1
      obtain ⟨b1, b2⟩ := all_cons h2
      simp only [eqBs, toPys, PyData.eqvAll]
      rw [eqB_py x y n m a1 b1, eqBs_py xs ys n m a2 b2]
end
end

theorem ite_some' {α : Type} {c : Bool} {a z : α} (h : (if c = true then some a else none) = some z) : c = true ∧ a = z := ite_some h
section
variable {X : Cx}
theorem cmp_eq (hu : X.A.units + 64 < cLine) : OpR X (compareOp .Eq) (rB2 X.K eqD) := by
  intro pins s σ H x y v u Q I rx ry h
  obtain ⟨F, Lk, d, e, k, sb, vx, vy, hz, q⟩ := h
  obtain ⟨hs, rfl⟩ := ite_some hz
  rw [Bool.and_eq_true] at hs
  refine op_eqD hu pins s σ H _ _ v u Q I rx ry ⟨_, _, vx.dp sb hs.1, vy.dp sb hs.2, shaped_of hs.1 (by decide), shaped_of hs.2 (by decide), ?_⟩
  rw [← eqB_py d e 40 40 hs.1 hs.2]
  exact q
theorem cmp_ne (hu : X.A.units + 64 < cLine) : OpR X (compareOp .NotEq) (rB2 X.K fun d e => (eqD d e).map (!·)) := by
  intro pins s σ H x y v u Q I rx ry h
  obtain ⟨F, Lk, d, e, k, sb, vx, vy, hz, q⟩ := h
  obtain ⟨k', hz', rfl⟩ := Option.map_eq_some_iff.mp hz
  obtain ⟨hs, rfl⟩ := ite_some hz'
  rw [Bool.and_eq_true] at hs
  refine op_neD hu pins s σ H _ _ v u Q I rx ry ⟨_, _, vx.dp sb hs.1, vy.dp sb hs.2, shaped_of hs.1 (by decide), shaped_of hs.2 (by decide), ?_⟩
  rw [← eqB_py d e 40 40 hs.1 hs.2]
  exact q
theorem ltInts_eq : ∀ a b : List Int, ltInts a b = HT.lexLt a b
  | [], [] => rfl
  | [], _ :: _ => rfl
  | _ :: _, [] => rfl
  | x :: xs, y :: ys => by
    show (if x = y then ltInts xs ys else decide (x < y)) = _
    rw [HT.lexLt_cons, ltInts_eq xs ys]
theorem cmp_lt (hu : X.A.units < cLine) : OpR X (compareOp .Lt) (rB2 X.K ltD) := by
  intro pins s σ H x y v u Q I rx ry h
  obtain ⟨F, Lk, d, e, k, sb, vx, vy, hz, q⟩ := h
  cases vx with
  | int i =>
    cases vy with
    | int j =>
      obtain rfl := Option.some.inj hz
      exact op_lt pins s σ H _ _ v u Q I rx ry ⟨i, j, rfl, rfl, q⟩
    | _ => cases hz
  | @tup a xs ds fa ha la ra =>
    cases vy with
    | @tup b ys es fb hb lb rb =>
      have hz' : (match PX.nums ds, PX.nums es with | some a, some b => some (ltInts a b) | _, _ => none) = some k := hz
      cases e1 : PX.nums ds with
      | none => rw [e1] at hz'; cases hz'
      | some ns =>
        cases e2 : PX.nums es with
        | none => rw [e1, e2] at hz'; cases hz'
        | some ms =>
          rw [e1, e2] at hz'
          obtain rfl := Option.some.inj hz'
          rw [ra.nums e1] at ha
          rw [rb.nums e2] at hb
          exact op_ltT hu pins s σ H _ _ v u Q I rx ry ⟨a, b, ns, ms, rfl, rfl, .of ha, .of hb, by rw [← ltInts_eq]; exact q⟩
    | _ => cases hz
  | _ => cases vy <;> cases hz
theorem cmp_le : OpR X (compareOp .LtE) (rB2 X.K leI) := by
  intro pins s σ H x y v u Q I rx ry h
  obtain ⟨F, Lk, d, e, k, sb, vx, vy, hz, q⟩ := h
  cases vx with
  | int i =>
    cases vy with
    | int j =>
      obtain rfl := Option.some.inj hz
      exact op_le pins s σ H _ _ v u Q I rx ry ⟨i, j, rfl, rfl, q⟩
    | _ => cases hz
  | _ => cases vy <;> cases hz
theorem cmp_ge : OpR X (compareOp .GtE) (rB2 X.K fun x y => leI y x) := by
  intro pins s σ H x y v u Q I rx ry h
  obtain ⟨F, Lk, d, e, k, sb, vx, vy, hz, q⟩ := h
  cases vx with
  | int i =>
    cases vy with
    | int j =>
      obtain rfl := Option.some.inj hz
      exact op_ge pins s σ H _ _ v u Q I rx ry ⟨i, j, rfl, rfl, q⟩
    | _ => cases hz
  | _ => cases vy <;> cases hz
theorem cmp_gt : OpR X (compareOp .Gt) (rB2 X.K (cmpD .gt)) := by
  intro pins s σ H x y v u Q I rx ry h
  obtain ⟨F, Lk, d, e, k, sb, vx, vy, hz, q⟩ := h
  cases vx with
  | int i =>
    cases vy with
    | int j =>
      obtain rfl := Option.some.inj hz
      exact op_gt pins s σ H _ _ v u Q I rx ry ⟨i, j, rfl, rfl, q⟩
    | _ => cases hz
  | _ => cases vy <;> cases hz
theorem any_py {d : D} {ds : List D} (hd : shp 40 d = true) : ds.all (shp 39) = true → (toPys ds).any (fun z => PyData.eqv z (toPy d)) = ds.any fun y => eqB y d := by
  induction ds with
  | nil => intro _; rfl
  | cons y ys ih =>
    intro h
    obtain ⟨h1, h2⟩ := all_cons h
    rw [toPys, List.any_cons, List.any_cons, ih h2, eqB_py y d 39 40 h1 hd]
theorem all_up {n : Nat} : ∀ {ds : List D}, ds.all (shp n) = true → shp (n + 1) (.lst ds) = true := fun h => h
theorem memD_cond {d : D} {ds : List D} {k : Bool} {neg : Bool} (hz : (if (shp 40 d && ds.all (shp 39)) = true then some (ds.any fun y => eqB y d) else none) = some k) : shp 40 d = true ∧ ds.all (shp 39) = true ∧ (ds.any fun y => eqB y d) = k := by
  obtain ⟨hs, e⟩ := ite_some hz
  rw [Bool.and_eq_true] at hs
  exact ⟨hs.1, hs.2, e⟩
/-- in, of a list or a tuple -/
theorem cmp_in (hu : X.A.units + 65 < cLine) : OpR X (compareOp .In) (rB2 X.K (cmpD .isin)) := by
  intro pins s σ H x y v u Q I rx ry h
  obtain ⟨F, Lk, d, e, k, sb, vx, vy, hz, q⟩ := h
  cases vy with
  | @lst a xs ds ha la ra =>
    obtain ⟨h1, h2, rfl⟩ := memD_cond (neg := false) (show (if (shp 40 d && ds.all (shp 39)) = true then some (ds.any fun y => eqB y d) else none) = some k from hz)
    have w : View X.K F H (.lst ds) (.ref a) := .lst ha la ra
    refine op_inD hu pins s σ H _ _ v u Q I rx ry ⟨_, _, vx.dp sb h1, w.dp sb (n := 40) h2, shaped_of h1 (by decide), shaped_of (n := 40) (d := .lst ds) h2 (by decide), ?_⟩
    rw [any_py h1 h2]
    exact q
  | @tup a xs ds fa ha la ra =>
    obtain ⟨h1, h2, rfl⟩ := memD_cond (neg := false) (show (if (shp 40 d && ds.all (shp 39)) = true then some (ds.any fun y => eqB y d) else none) = some k from hz)
    have w : View X.K F H (.tup ds) (.ref a) := .tup fa ha la ra
    obtain ⟨as, r1⟩ := Dp.reads I _ x v (vx.dp sb h1) rx
    obtain ⟨bs, r2⟩ := Dp.reads I (.tuple (toPys ds)) _ u (w.dp sb (n := 40) h2) ry
    have se := shaped_of (n := 40) (d := .tup ds) h2 (by decide)
    have sd := shaped_of h1 (by decide : 40 ≤ 64)
    refine SeqAt.in_tuple_reads r2 r1 (SeqAt.canLay_of_shaped se) (SeqAt.canLay_of_shaped sd) (room_in_shaped sd hu) ⟨.bl _, H, I, rfl, ?_⟩
    rw [any_py h1 h2]
    exact q
  | _ => cases hz
theorem cmp_notin (hu : X.A.units + 65 < cLine) : OpR X (compareOp .NotIn) (rB2 X.K (cmpD .notin)) := by
  intro pins s σ H x y v u Q I rx ry h
  obtain ⟨F, Lk, d, e, k, sb, vx, vy, hz, q⟩ := h
  cases vy with
  | @lst a xs ds ha la ra =>
    obtain ⟨k', hz', rfl⟩ := Option.map_eq_some_iff.mp (show (inD d ds).map (!·) = some k from hz)
    obtain ⟨h1, h2, rfl⟩ := memD_cond (neg := false) hz'
    have w : View X.K F H (.lst ds) (.ref a) := .lst ha la ra
    refine op_notInD hu pins s σ H _ _ v u Q I rx ry ⟨_, _, vx.dp sb h1, w.dp sb (n := 40) h2, shaped_of h1 (by decide), shaped_of (n := 40) (d := .lst ds) h2 (by decide), ?_⟩
    rw [any_py h1 h2]
    exact q
  | @tup a xs ds fa ha la ra =>
    obtain ⟨k', hz', rfl⟩ := Option.map_eq_some_iff.mp (show (inD d ds).map (!·) = some k from hz)
    obtain ⟨h1, h2, rfl⟩ := memD_cond (neg := false) hz'
    have w : View X.K F H (.tup ds) (.ref a) := .tup fa ha la ra
    obtain ⟨as, r1⟩ := Dp.reads I _ x v (vx.dp sb h1) rx
    obtain ⟨bs, r2⟩ := Dp.reads I (.tuple (toPys ds)) _ u (w.dp sb (n := 40) h2) ry
    have se := shaped_of (n := 40) (d := .tup ds) h2 (by decide)
    have sd := shaped_of h1 (by decide : 40 ≤ 64)
    refine SeqAt.notIn_tuple_reads r2 r1 (SeqAt.canLay_of_shaped se) (SeqAt.canLay_of_shaped sd) (room_in_shaped sd hu) ⟨.bl _, H, I, rfl, ?_⟩
    rw [any_py h1 h2]
    exact q
  | _ => cases hz
theorem cmp_is : OpR X (compareOp .Is) (rB2 X.K (cmpD .is)) := by
  intro pins s σ H x y v u Q I rx ry h
  obtain ⟨F, Lk, d, e, k, sb, vx, vy, hz, q⟩ := h
  cases vy with
  | non =>
    refine op_isN pins s σ H _ _ v u Q I rx ry ⟨rfl, ?_⟩
    cases vx <;> (obtain rfl := Option.some.inj hz; exact q)
  | bl b =>
    cases vx with
    | bl a =>
      obtain rfl := Option.some.inj hz
      refine op_isBl pins s σ H _ _ v u Q I rx ry ⟨a, b, rfl, rfl, ?_⟩
      have e : decide (a = b) = (a == b) := by cases a <;> cases b <;> rfl
      rw [e]; exact q
    | _ => cases hz
  | _ => cases hz
theorem cmp_isnot : OpR X (compareOp .IsNot) (rB2 X.K (cmpD .isnot)) := by
  intro pins s σ H x y v u Q I rx ry h
  obtain ⟨F, Lk, d, e, k, sb, vx, vy, hz, q⟩ := h
  cases vy with
  | non =>
    refine op_notN pins s σ H _ _ v u Q I rx ry ⟨rfl, ?_⟩
    cases vx <;> (obtain rfl := Option.some.inj hz; exact q)
  | _ => cases hz
def opC : Cop → CmpOp
  | .eq => .Eq | .ne => .NotEq | .lt => .Lt | .le => .LtE | .gt => .Gt | .ge => .GtE | .isin => .In | .notin => .NotIn | .is => .Is | .isnot => .IsNot
theorem cmp_any (hu : X.A.units + 65 < cLine) (op : Cop) : OpR X (compareOp (opC op)) (rB2 X.K (cmpD op)) := match op with
  | .eq => cmp_eq (by omega) | .ne => cmp_ne (by omega) | .lt => cmp_lt (by omega) | .le => cmp_le | .gt => cmp_gt | .ge => cmp_ge | .isin => cmp_in hu | .notin => cmp_notin hu | .is => cmp_is | .isnot => cmp_isnot

theorem tru_of {K : PySem.W.Frag} {F H : Hp} {d : D} {v : V} {k : Bool} (x : View K F H d v) (h : truth d = some k) : TruV K v H k := by
  cases x with
  | non => exact (Option.some.inj h).symm
  | bl b => exact (Option.some.inj h).symm
  | int i =>
    have e := (Option.some.inj h).symm
    show k = (i != 0)
    rw [e]
    by_cases q : i = 0 <;> simp [q]
  | str s =>
    obtain ⟨h1, h2⟩ := (show s.length ≤ PX.sizeLine ∧ decide (s.length ≠ 0) = k by
      by_cases q : s.length ≤ PX.sizeLine
      · exact ⟨q, Option.some.inj (by simpa [truth, q] using h)⟩
      · simp [truth, q] at h)
    refine ⟨by rw [← line_eq]; exact h1, ?_⟩
    rw [← h2]
    by_cases q : s.length = 0
    · simp [q]
    · have q2 : (s.length : Int) ≠ 0 := by omega
      simp [q, q2]
  | tup f h' l r =>
    refine .inr (.inl ⟨_, .of h', ?_⟩)
    have e := (Option.some.inj h).symm
    rw [e]; cases r <;> rfl
  | lst h' l r =>
    refine .inl ⟨_, .of h', ?_⟩
    have e := (Option.some.inj h).symm
    rw [e]; cases r <;> rfl
  | scr h' => cases h
  | dK h' r => cases h
  | dT h' r => cases h
end

theorem plc_ix {n : Nat} {i : Int} {k : Nat} (h : plc n i = some k) : ixN n i = some k := by
  unfold plc at h
  unfold ixN
  by_cases h0 : 0 ≤ i
  · rw [if_pos h0] at h ⊢
    by_cases h1 : i.toNat < n
    · rw [if_pos h1] at h
      rw [if_pos (by omega)]; exact h
    · rw [if_neg h1] at h; cases h
  · rw [if_neg h0] at h ⊢
    by_cases h1 : 0 ≤ i + n
    · rw [if_pos h1] at h
      rw [if_pos (by omega)]; exact h
    · rw [if_neg h1] at h; cases h
theorem atD_some {α : Type} {xs : List α} {i : Int} {z : α} (h : atD xs i = some z) : ∃ k, plc xs.length i = some k ∧ xs[k]? = some z := by
  unfold atD at h
  cases e : plc xs.length i with
  | none => rw [e] at h; cases h
  | some k => rw [e] at h; exact ⟨k, rfl, h⟩
theorem atI_of {α : Type} {xs : List α} {i : Int} {k : Nat} {v : α} (h : plc xs.length i = some k) (e : xs[k]? = some v) : atI xs i = some v := by
  unfold atI
  rw [plc_ix h]; exact e
/-- an item's reading: no new thing -/
def rIt2 (K : PySem.W.Frag) (f : D → D → Option D) : R2 := fun x y H Q => ∃ F Lk d e z, Sub F Lk H ∧ View K F H d x ∧ View K F H e y ∧ f d e = some z ∧ (∀ w, Rep K F z w → Q w H)
def ixS : D → D → Option D
  | .tup xs, .int i => atD xs i
  | .lst xs, .int i => atD xs i
  | .scr ns, .int i => (atD ns i).map .int
  | _, _ => none
section
variable {X : Cx}
theorem ix_any : IxR X (rIt2 X.K ixS) := by
  intro value slice pins s σ H x y v u Q I rx ry h hs
  obtain ⟨F, Lk, d, e, z, sb, vx, vy, hz, q⟩ := h
  cases vy with
  | int i =>
    cases vx with
    | @tup a xs ds fa ha la ra =>
      obtain ⟨k, h1, h2⟩ := atD_some (show atD ds i = some z from hz)
      obtain ⟨w, h3, h4⟩ := ra.at h2
      rw [ra.length] at h1
      exact ix_tup value slice pins s σ H _ _ v u Q I rx ry ⟨a, xs, i, w, rfl, rfl, .of ha, atI_of h1 h3, q w h4⟩ hs
    | @lst a xs ds ha la ra =>
      obtain ⟨k, h1, h2⟩ := atD_some (show atD ds i = some z from hz)
      obtain ⟨w, h3, h4⟩ := ra.at h2
      rw [ra.length] at h1
      exact ix_list value slice pins s σ H _ _ v u Q I rx ry ⟨a, xs, i, w, rfl, rfl, .of ha, atI_of h1 h3, q w h4⟩ hs
    | @scr a ns ha =>
      obtain ⟨n, h0, rfl⟩ := Option.map_eq_some_iff.mp (show (atD ns i).map .int = some z from hz)
      obtain ⟨k, h1, h2⟩ := atD_some h0
      refine ix_list value slice pins s σ H _ _ v u Q I rx ry ⟨a, ns.map V.int, i, .int n, rfl, rfl, ha, atI_of (k := k) (by rw [List.length_map]; exact h1) (by rw [List.getElem?_map, h2]; rfl), q _ (.int n)⟩ hs
    | _ => cases hz
  | _ => cases vx <;> cases hz
theorem six_eq (n d : Nat) (o : Option Int) : six n d o = HT.sIx n d o := by cases o <;> rfl
theorem cut_eq (xs : List V) (lo hi : Option Int) : cutD xs lo hi = cutV xs lo hi := by
  unfold cutD cutV
  rw [six_eq, six_eq]
theorem cutD_length (xs : List D) (lo hi : Option Int) : (cutD xs lo hi).length ≤ xs.length := by
  unfold cutD
  rw [List.length_take, List.length_drop]; omega
theorem RepL.cut {K : PySem.W.Frag} {F : Hp} {ds : List D} {vs : List V} (r : RepL K F ds vs) (lo hi : Option Int) : RepL K F (cutD ds lo hi) (cutV vs lo hi) := by
  rw [← cut_eq]
  unfold cutD
  rw [r.length]
  exact (r.drop _).take _
def rSlD (K : PySem.W.Frag) : V → Option Int → Option Int → Hp → VK → Prop := fun x lo hi H Q => ∃ F Lk d z, Sub F Lk H ∧ View K F H d x ∧ (match d with | .tup xs => some (D.tup (cutD xs lo hi)) | .lst xs => some (D.lst (cutD xs lo hi)) | _ => none) = some z ∧ (∀ w H', Nw K F H z w H' → Q w H')
theorem sl_any : SlR X (rSlD X.K) := by
  intro pins s σ H x v vl vu lo hi sl Q I rx hs pl pu h
  obtain ⟨F, Lk, d, z, sb, vx, hz, q⟩ := h
  cases vx with
  | @tup a xs ds fa ha la ra =>
    obtain rfl := Option.some.inj hz
    refine sl_tupA pins s σ H _ v vl vu lo hi sl Q I rx hs pl pu ⟨a, xs, rfl, .of ha, fun e => ?_, fun _ p hp => q _ _ (.tup (sb.free hp) hp (Nat.le_trans (cutD_length _ _ _) la) (ra.cut lo hi))⟩
    have ec : cutD ds lo hi = ds := by
      unfold cutD
      rw [six_eq, six_eq, ra.length, e.1, e.2, List.drop_zero, Nat.sub_zero, ← ra.length, List.take_length]
    rw [ec] at q
    exact q _ _ (.sc rfl (.tup fa la ra))
  | @lst a xs ds ha la ra =>
    obtain rfl := Option.some.inj hz
    exact sl_list pins s σ H _ v vl vu lo hi sl Q I rx hs pl pu ⟨a, xs, rfl, .of ha, fun p hp => q _ _ (.lst (sb.free hp) hp (Nat.le_trans (cutD_length _ _ _) la) (ra.cut lo hi))⟩
  | _ => cases hz
end

inductive ViewL (K : PySem.W.Frag) (F H : Hp) : List D → List V → Prop
  | nil : ViewL K F H [] []
  | cons {d : D} {ds : List D} {v : V} {vs : List V} : View K F H d v → ViewL K F H ds vs → ViewL K F H (d :: ds) (v :: vs)
def rBi (K : PySem.W.Frag) (b : Bi) : List V → Hp → VK → Prop := fun vs H Q => ∃ F Lk ds z, Sub F Lk H ∧ ViewL K F H ds vs ∧ biD b ds = some z ∧ (∀ w H', Nw K F H z w H' → Q w H')
theorem viewL1 {K : PySem.W.Frag} {F H : Hp} {d : D} {vs : List V} (h : ViewL K F H [d] vs) : ∃ v, vs = [v] ∧ View K F H d v := by
  cases h with
  | cons a b => cases b; exact ⟨_, rfl, a⟩
theorem viewL2 {K : PySem.W.Frag} {F H : Hp} {d e : D} {vs : List V} (h : ViewL K F H [d, e] vs) : ∃ v w, vs = [v, w] ∧ View K F H d v ∧ View K F H e w := by
  cases h with
  | cons a b =>
    obtain ⟨w, rfl, q⟩ := viewL1 b
    exact ⟨_, _, rfl, a, q⟩
section
variable {X : Cx}
theorem bi_abs : CallR X (.builtin "abs") (rBi X.K .abs) := by
  intro pins s σ H vs us Q I r h
  obtain ⟨F, Lk, ds, z, sb, vl, hz, q⟩ := h
  match ds, hz, vl with
  | [.int i], hz, vl =>
    obtain ⟨v, rfl, w⟩ := viewL1 vl
    cases w
    obtain rfl := Option.some.inj hz
    exact call_abs pins s σ H _ us Q I r ⟨i, rfl, q _ _ (.sc rfl (.int _))⟩
theorem bi_max2 (hc : X.calm = true) : CallR X (.builtin "max") (rBi X.K .max2) := by
  intro pins s σ H vs us Q I r h
  obtain ⟨F, Lk, ds, z, sb, vl, hz, q⟩ := h
  match ds, hz, vl with
  | [.int i, .int j], hz, vl =>
    obtain ⟨v, v2, rfl, w, w2⟩ := viewL2 vl
    cases w
    cases w2
    obtain rfl := Option.some.inj hz
    exact call_max2 hc pins s σ H _ us Q I r ⟨i, j, rfl, q _ _ (.sc rfl (.int _))⟩
theorem bi_min2 (hc : X.calm = true) : CallR X (.builtin "min") (rBi X.K .min2) := by
  intro pins s σ H vs us Q I r h
  obtain ⟨F, Lk, ds, z, sb, vl, hz, q⟩ := h
  match ds, hz, vl with
  | [.int i, .int j], hz, vl =>
    obtain ⟨v, v2, rfl, w, w2⟩ := viewL2 vl
    cases w
    cases w2
    obtain rfl := Option.some.inj hz
    exact call_min2 hc pins s σ H _ us Q I r ⟨i, j, rfl, q _ _ (.sc rfl (.int _))⟩
theorem bi_tuple : CallR X (.type "tuple") (rBi X.K .tupleOf) := by
  intro pins s σ H vs us Q I r h
  obtain ⟨F, Lk, ds, z, sb, vl, hz, q⟩ := h
  match ds, hz, vl with
  | [.tup es], hz, vl =>
    obtain ⟨v, rfl, w⟩ := viewL1 vl
    obtain rfl := Option.some.inj hz
    cases w with
    | @tup a xs ds fa ha la ra => exact call_tuple_of pins s σ H _ us Q I r ⟨a, xs, rfl, .inr ⟨.of ha, q _ _ (.sc rfl (.tup fa la ra))⟩⟩
  | [.lst es], hz, vl =>
    obtain ⟨v, rfl, w⟩ := viewL1 vl
    obtain rfl := Option.some.inj hz
    cases w with
    | @lst a xs ds ha la ra => exact call_tuple_of pins s σ H _ us Q I r ⟨a, xs, rfl, .inl ⟨.of ha, fun p hp => q _ _ (.tup (sb.free hp) hp la ra)⟩⟩
theorem bi_list : CallR X (.type "list") (rBi X.K .listOf) := by
  intro pins s σ H vs us Q I r h
  obtain ⟨F, Lk, ds, z, sb, vl, hz, q⟩ := h
  match ds, hz, vl with
  | [.tup es], hz, vl =>
    obtain ⟨v, rfl, w⟩ := viewL1 vl
    obtain rfl := Option.some.inj hz
    cases w with
    | @tup a xs ds fa ha la ra => exact call_list_of pins s σ H _ us Q I r ⟨a, xs, rfl, .inr (.of ha), fun p hp => q _ _ (.lst (sb.free hp) hp la ra)⟩
  | [.lst es], hz, vl =>
    obtain ⟨v, rfl, w⟩ := viewL1 vl
    obtain rfl := Option.some.inj hz
    cases w with
    | @lst a xs ds ha la ra => exact call_list_of pins s σ H _ us Q I r ⟨a, xs, rfl, .inl (.of ha), fun p hp => q _ _ (.lst (sb.free hp) hp la ra)⟩
theorem bi_sum (hc : X.calm = true) : CallR X (.builtin "sum") (rBi X.K .sum) := by
  intro pins s σ H vs us Q I r h
  obtain ⟨F, Lk, ds, z, sb, vl, hz, q⟩ := h
  match ds, hz, vl with
  | [.lst xs], hz, vl =>
    obtain ⟨v, rfl, w⟩ := viewL1 vl
    obtain ⟨ns, he, rfl⟩ := Option.map_eq_some_iff.mp (show (nums xs).map (fun ns => D.int ns.sum) = some z from hz)
    cases w with
    | @lst a ys ds ha la ra =>
      rw [ra.nums he] at ha
      exact cr_sum hc pins s σ H _ us Q I r ⟨a, ns, rfl, .of ha, q _ _ (.sc rfl (.int _))⟩
theorem bi_len : CallR X (.builtin "len") (rBi X.K .len) := by
  intro pins s σ H vs us Q I r h
  obtain ⟨F, Lk, ds, z, sb, vl, hz, q⟩ := h
  match ds, hz, vl with
  | [.tup es], hz, vl =>
    obtain ⟨v, rfl, w⟩ := viewL1 vl
    obtain rfl := Option.some.inj hz
    cases w with
    | @tup a xs ds fa ha la ra =>
      refine call_len_seq pins s σ H _ us Q I r ⟨a, xs, rfl, .inr (.of ha), ?_⟩
      rw [← ra.length]; exact q _ _ (.sc rfl (.int _))
  | [.lst es], hz, vl =>
    obtain ⟨v, rfl, w⟩ := viewL1 vl
    obtain rfl := Option.some.inj hz
    cases w with
    | @lst a xs ds ha la ra =>
      refine call_len_seq pins s σ H _ us Q I r ⟨a, xs, rfl, .inl (.of ha), ?_⟩
      rw [← ra.length]; exact q _ _ (.sc rfl (.int _))
  | [.scr ns], hz, vl =>
    obtain ⟨v, rfl, w⟩ := viewL1 vl
    obtain rfl := Option.some.inj hz
    cases w with
    | @scr a ns ha =>
      refine call_len_seq pins s σ H _ us Q I r ⟨a, _, rfl, .inl ha, ?_⟩
      rw [List.length_map]; exact q _ _ (.sc rfl (.int _))
theorem bi_any (hc : X.calm = true) : CallR X (.builtin "any") (rBi X.K .any) := by
  intro pins s σ H vs us Q I r h
  obtain ⟨F, Lk, ds, z, sb, vl, hz, q⟩ := h
  match ds, hz, vl with
  | [.lst xs], hz, vl =>
    obtain ⟨v, rfl, w⟩ := viewL1 vl
    obtain ⟨ns, he, rfl⟩ := Option.map_eq_some_iff.mp (show (bls xs).map (fun bs => D.bl (bs.any id)) = some z from hz)
    cases w with
    | @lst a ys ds ha la ra =>
      rw [ra.bls he] at ha
      exact cr_any hc pins s σ H _ us Q I r ⟨a, ns, rfl, .of ha, q _ _ (.sc rfl (.bl _))⟩
theorem bi_all (hc : X.calm = true) : CallR X (.builtin "all") (rBi X.K .all) := by
  intro pins s σ H vs us Q I r h
  obtain ⟨F, Lk, ds, z, sb, vl, hz, q⟩ := h
  match ds, hz, vl with
  | [.lst xs], hz, vl =>
    obtain ⟨v, rfl, w⟩ := viewL1 vl
    obtain ⟨ns, he, rfl⟩ := Option.map_eq_some_iff.mp (show (bls xs).map (fun bs => D.bl (bs.all id)) = some z from hz)
    cases w with
    | @lst a ys ds ha la ra =>
      rw [ra.bls he] at ha
      exact cr_all hc pins s σ H _ us Q I r ⟨a, ns, rfl, .of ha, q _ _ (.sc rfl (.bl _))⟩
theorem bi_int : CallR X (.type "int") (rBi X.K .intOf) := by
  intro pins s σ H vs us Q I r h
  obtain ⟨F, Lk, ds, z, sb, vl, hz, q⟩ := h
  match ds, hz, vl with
  | [.int i], hz, vl =>
    obtain ⟨v, rfl, w⟩ := viewL1 vl
    cases w
    obtain rfl := Option.some.inj hz
    exact call_int1 pins s σ H _ us Q I r (.inl ⟨i, rfl, q _ _ (.sc rfl (.int _))⟩)
  | [.bl b], hz, vl =>
    obtain ⟨v, rfl, w⟩ := viewL1 vl
    cases w
    obtain rfl := Option.some.inj hz
    exact call_int1 pins s σ H _ us Q I r (.inr ⟨b, rfl, q _ _ (.sc rfl (.int _))⟩)
end
end PX
end
section
set_option Elab.async false
set_option linter.all false
set_option maxRecDepth 100000
set_option maxHeartbeats 4000000
namespace PX
open PySem L2 PySem.Spec PyProof.Rows
section
open PySem.W PySem.Calls
variable {prog : Program} {w : World} {A : Around} {E : Value → Shared → Prop} {s : Shared}
theorem collect_tup {l : Addr} {vs : List Value} {Q : List Value → Shared → Prop} (hl : s.heap.IsTuple l vs.toArray)
    (h : Q vs { s with heap := (s.heap.push (seqObj "list" #[] 0)).update s.heap.objs.size (Obj.mapSeq (· ++ vs.toArray)) }) (hsz : vs.length ≤ PySem.sizeLine) :
    wpAny (model prog w) A (collect (.ref l)) Q E s := by
  obtain ⟨o, ho, hc, n, hd⟩ := id hl
  unfold collect
  refine wpAny_bind (wpAny_runValue (codeAny_builtin entry_proto_collect' ?_))
  show wpAny _ _ (do again (.builtin "list.__iadd__" ⟨[← newList [], .ref l], []⟩)) _ _ s
  refine wpAny_bind (wpAny_newList (wpAny_pure ⟨Code.quiet_builtin _ (by decide +kernel), codeAny_builtin entry_list_iadd' ?_⟩))
  show wpAny _ _ (Builtin.List.listExtendWith (.ref s.heap.objs.size) (.ref l) (.ref s.heap.objs.size)) _ _ { s with heap := s.heap.push (seqObj "list" #[] 0) }
  unfold Builtin.List.listExtendWith
  have ho' : (s.heap.push (seqObj "list" #[] 0)).get? l = some o := Heap.get?_push_of_some _ ho
  refine wpAny_bind (wpAny_typeOf (T := "tuple") ⟨o, ho', hc⟩ ?_)
  have ht : (Value.type "tuple" == Value.type "tuple") = true := by rfl
  rw [if_pos (by rw [ht]; simp)]
  refine wpAny_bind (listItems_at ho' hd ?_)
  refine wpAny_bind (listItems_at (xs := #[]) (n := 0) (Heap.get?_push_size _ rfl) rfl ?_)
  rw [if_neg (by simp)]
  refine wpAny_bind (listUpdate_at (xs := #[]) (n := 0) (Heap.get?_push_size _ rfl) rfl ?_ (Nat.zero_le _) (by show (#[] ++ vs.toArray).size ≤ PySem.sizeLine + 1; simp only [Array.size_append, List.size_toArray, List.length_nil]; omega))
  refine wpAny_pure ?_
  show wpAny (model prog w) A (do
      let o ← load s.heap.objs.size
      match o.data with
      | .seq xs _ => pure xs.toList
      | _ => unsupported "internal:collect") Q E { s with heap := (s.heap.push (seqObj "list" #[] 0)).update s.heap.objs.size (Obj.mapSeq (· ++ vs.toArray)) }
  refine wpAny_bind (wpAny_load (get?_update_seq (Heap.get?_push_size _ rfl) _) ?_)
  show wpAny _ _ (pure ((#[] : Array Value) ++ vs.toArray).toList) Q E _
  rw [show ((#[] : Array Value) ++ vs.toArray).toList = vs by simp]
  exact wpAny_pure h
/-- sorted of a list or a tuple is list.sort on a new list of its items -/
theorem sorted_of_sort2 {l : Addr} {vs : List Value} {kw : List (Str × Value)} {Q : Value → Shared → Prop} (hl : s.heap.IsList l vs.toArray ∨ s.heap.IsTuple l vs.toArray) (hL : vs.length ≤ PySem.sizeLine) (ha1 : argsOk "sorted" ⟨[.ref l], kw⟩) (ha2 : ∀ x, argsOk "list.sort" ⟨[.ref x], kw⟩)
    (body : ∀ E' : Value → Shared → Prop, wpAny (model prog w) A.in1.in1 (Builtin.«list.sort» ⟨[.ref (s.heap.objs.size + 1)], kw⟩) (fun f s' => f = .done (.ret .none) ∧ Q (.ref (s.heap.objs.size + 1)) s') E' { s with heap := copyHeap s.heap vs }) :
    wpAny (model prog w) A (call (.builtin "sorted") [.ref l] kw) Q E s := by
  refine call_function_entry_kw kind_sorted plain_sorted entry_sorted ha1 ?_
  unfold Builtin.«sorted»
  refine wpAny_bind (m := checkCount "sorted" 1 1 _) (wpAny_pure ?_)
  have fin : ∀ {Q' : List Value → Shared → Prop}, Q' vs { s with heap := (s.heap.push (seqObj "list" #[] 0)).update s.heap.objs.size (Obj.mapSeq (· ++ vs.toArray)) } → ∀ {A' E'}, wpAny (model prog w) A' (collect (.ref l)) Q' E' s := fun {Q'} h {A' E'} => by
    rcases hl with q | q
    · exact collect_list q h hL
    · exact collect_tup q h hL
  refine wpAny_bind (fin ?_)
  refine wpAny_bind (wpAny_newList ?_ hL)
  have hsz : ((s.heap.push (seqObj "list" #[] 0)).update s.heap.objs.size (Obj.mapSeq (· ++ vs.toArray))).objs.size = s.heap.objs.size + 1 := by
    rw [Heap.size_update, size_push']
  show wpAny _ _ _ _ _ { s with heap := copyHeap s.heap vs }
  rw [hsz]
  refine wpAny_bind (wpAny_holding (wpAny_call_entry_kw slot_list_sort ⟨_, copyHeap_at s.heap vs, rfl⟩ entry_list_sort ?body (ha2 _)))
  case body =>
    show wpAny (model prog w) A.in1.in1 (Builtin.«list.sort» ⟨[.ref (s.heap.objs.size + 1)], kw⟩) _ _ _
    refine wpAny_mono (body _) (fun f s' hf => ?_) fun _ _ e => e
    obtain ⟨rfl, hq⟩ := hf
    exact ⟨_, rfl, wpAny_pure ⟨_, rfl, hq⟩⟩
end
section
open PySem.W
variable {prog : Program} {w : World} {A : Around} {E : Value → Shared → Prop} {s : Shared} {β : Type} {R : Value → β → Prop} {enc : β → PyData} {vs : List Value} {bs : List β}
theorem sorted_data2 {l : Addr} {Q : Value → Shared → Prop} (hl : s.heap.IsList l vs.toArray ∨ s.heap.IsTuple l vs.toArray) (e : EachIs R vs bs) (er : EachIs (fun v b => ∃ as, Reads s.heap v (enc b) as) vs bs) (hal : AllAlike (bs.map enc)) (hk : Sortable (bs.map enc)) (hL : bs.length ≤ PySem.sizeLine)
    (hu : ∀ b, b ∈ bs → A.units + 2 + (enc b).depth < cLine) (h : ∀ out, out.length = bs.length → EachIs R out (bs.mergeSort (dataLe false enc)) → Q (.ref (s.heap.objs.size + 1)) { s with heap := sortedAll s.heap vs (List.toArray out) }) :
    wpAny (model prog w) A (call (.builtin "sorted") [.ref l]) Q E s := by
  have er' : EachIs (fun v b => ∃ as, Reads (sortingHeap (copyHeap s.heap vs) (s.heap.objs.size + 1) vs) v (enc b) as) vs bs := er.mono fun _ _ ⟨as, r⟩ => ⟨as, PyProof.Rows.Reads.keeps (fun _ _ => sorting_copy_old) r⟩
  have hL' : vs.length ≤ PySem.sizeLine := by rw [e.length]; exact hL
  refine sorted_of_sort2 hl hL' (args_sorted1 _) (fun _ => args_list_sort _) fun _ => list_sort_vals (s := { s with heap := copyHeap s.heap vs }) (copyHeap_at s.heap vs)
    (SortsAt.data (s := { s with heap := sortingHeap (copyHeap s.heap vs) (s.heap.objs.size + 1) vs }) (each_map (R := fun v d => ∃ as, Reads (sortingHeap (copyHeap s.heap vs) (s.heap.objs.size + 1) vs) v d as) enc er') hal hk (bound_map hu)) hL' ⟨rfl, ?_⟩
  exact h _ (by rw [sortVals_length false rfl]; exact e.length) (sortVals_data false e er' hal)
end

section
open PySem.W
mutual
theorem alk_py : ∀ (d e : D) (n m : Nat), shp n d = true → shp m e = true → alk d e = alike (toPy d) (toPy e)
  | .dic t kvs, e, n, m, h1, h2 => absurd rfl ((shp_not h1).1 _ _)
  | .obj c fs, e, n, m, h1, h2 => absurd rfl ((shp_not h1).2.1 _ _)
  | .exc c x, e, n, m, h1, h2 => absurd rfl ((shp_not h1).2.2.1 _ _)
  | .scr ns, e, n, m, h1, h2 => absurd rfl ((shp_not h1).2.2.2 _)
  | .non, e, n, m, h1, h2 => by
    cases e with
    | dic t kvs => exact absurd rfl ((shp_not h2).1 _ _)
    | obj c fs => exact absurd rfl ((shp_not h2).2.1 _ _)
    | exc c x => exact absurd rfl ((shp_not h2).2.2.1 _ _)
    | scr ns => exact absurd rfl ((shp_not h2).2.2.2 _)
    | _ => simp [alk, toPy, alike]
  | .bl a, e, n, m, h1, h2 => by
    cases e with
    | dic t kvs => exact absurd rfl ((shp_not h2).1 _ _)
    | obj c fs => exact absurd rfl ((shp_not h2).2.1 _ _)
    | exc c x => exact absurd rfl ((shp_not h2).2.2.1 _ _)
    | scr ns => exact absurd rfl ((shp_not h2).2.2.2 _)
    | _ => simp [alk, toPy, alike]
  | .int a, e, n, m, h1, h2 => by
    cases e with
    | dic t kvs => exact absurd rfl ((shp_not h2).1 _ _)
    | obj c fs => exact absurd rfl ((shp_not h2).2.1 _ _)
    | exc c x => exact absurd rfl ((shp_not h2).2.2.1 _ _)
    | scr ns => exact absurd rfl ((shp_not h2).2.2.2 _)
    | _ => simp [alk, toPy, alike]
  | .str a, e, n, m, h1, h2 => by
    cases e with
    | dic t kvs => exact absurd rfl ((shp_not h2).1 _ _)
    | obj c fs => exact absurd rfl ((shp_not h2).2.1 _ _)
    | exc c x => exact absurd rfl ((shp_not h2).2.2.1 _ _)
    | scr ns => exact absurd rfl ((shp_not h2).2.2.2 _)
    | _ => simp [alk, toPy, alike]
  | .tup xs, e, n, m, h1, h2 => by
    cases e with
    | dic t kvs => exact absurd rfl ((shp_not h2).1 _ _)
    | obj c fs => exact absurd rfl ((shp_not h2).2.1 _ _)
    | exc c x => exact absurd rfl ((shp_not h2).2.2.1 _ _)
    | scr ns => exact absurd rfl ((shp_not h2).2.2.2 _)
    | tup ys =>
      obtain ⟨n, rfl, h1⟩ := shp_tup h1
      obtain ⟨m, rfl, h2⟩ := shp_tup h2
      simp only [alk, toPy, alike]
      exact alks_py xs ys n m h1 h2
    | _ => simp [alk, toPy, alike]
  | .lst xs, e, n, m, h1, h2 => by
    cases e with
    | dic t kvs => exact absurd rfl ((shp_not h2).1 _ _)
    | obj c fs => exact absurd rfl ((shp_not h2).2.1 _ _)
    | exc c x => exact absurd rfl ((shp_not h2).2.2.1 _ _)
    | scr ns => exact absurd rfl ((shp_not h2).2.2.2 _)
    | lst ys =>
      obtain ⟨n, rfl, h1⟩ := shp_lst h1
      obtain ⟨m, rfl, h2⟩ := shp_lst h2
      simp only [alk, toPy, alike]
      exact alks_py xs ys n m h1 h2
    | _ => simp [alk, toPy, alike]
theorem alks_py : ∀ (xs ys : List D) (n m : Nat), xs.all (shp n) = true → ys.all (shp m) = true → alks xs ys = alikeAll (toPys xs) (toPys ys)
  | [], ys, n, m, h1, h2 => by cases ys <;> simp [alks, toPys, alikeAll]
  | x :: xs, ys, n, m, h1, h2 => by
    cases ys with
    | nil => simp [alks, toPys, alikeAll]
    | cons y ys =>
      obtain ⟨a1, a2⟩ := all_cons h1
      obtain ⟨b1, b2⟩ := all_cons h2
      simp only [alks, toPys, alikeAll]
      rw [alk_py x y n m a1 b1, alks_py xs ys n m a2 b2]
end
mutual
theorem ltB_py : ∀ (d e : D) (n m : Nat), shp n d = true → shp m e = true → alk d e = true → ltB d e = dataLt (toPy d) (toPy e)
  | .dic t kvs, e, n, m, h1, h2, _ => absurd rfl ((shp_not h1).1 _ _)
  | .obj c fs, e, n, m, h1, h2, _ => absurd rfl ((shp_not h1).2.1 _ _)
  | .exc c x, e, n, m, h1, h2, _ => absurd rfl ((shp_not h1).2.2.1 _ _)
  | .scr ns, e, n, m, h1, h2, _ => absurd rfl ((shp_not h1).2.2.2 _)
  | .non, e, n, m, h1, h2, h3 => by
    cases e with
    | non => simp only [toPy, ltB]; unfold dataLt; simp only [keyToks]; rfl
    | _ => exact absurd (show false = true from h3) Bool.false_ne_true
  | .bl a, e, n, m, h1, h2, h3 => by
    cases e with
    | bl b => simp only [toPy, ltB]; rw [dataLt_bool]; rfl
    | _ => exact absurd (show false = true from h3) Bool.false_ne_true
  | .int a, e, n, m, h1, h2, h3 => by
    cases e with
    | int b => simp only [toPy, ltB]; rw [dataLt_int]
    | _ => exact absurd (show false = true from h3) Bool.false_ne_true
  | .str a, e, n, m, h1, h2, h3 => by
    cases e with
    | str b => simp only [toPy, ltB]; rw [dataLt_str]
    | _ => exact absurd (show false = true from h3) Bool.false_ne_true
  | .tup xs, e, n, m, h1, h2, h3 => by
    cases e with
    | tup ys =>
      obtain ⟨n, rfl, h1⟩ := shp_tup h1
      obtain ⟨m, rfl, h2⟩ := shp_tup h2
      simp only [toPy, ltB]
      rw [dataLt_tuple]
      exact ltBs_py xs ys n m h1 h2 (by simpa [alk] using h3)
    | _ => exact absurd (show false = true from by simpa [alk] using h3) Bool.false_ne_true
  | .lst xs, e, n, m, h1, h2, h3 => by
    cases e with
    | lst ys =>
      obtain ⟨n, rfl, h1⟩ := shp_lst h1
      obtain ⟨m, rfl, h2⟩ := shp_lst h2
      simp only [toPy, ltB]
      rw [dataLt_list]
      exact ltBs_py xs ys n m h1 h2 (by simpa [alk] using h3)
    | _ => exact absurd (show false = true from by simpa [alk] using h3) Bool.false_ne_true
theorem ltBs_py : ∀ (xs ys : List D) (n m : Nat), xs.all (shp n) = true → ys.all (shp m) = true → alks xs ys = true → ltBs xs ys = PyProof.Rows.lexLt itemOrd (keyToksAll (toPys xs)) (keyToksAll (toPys ys))
  | [], ys, n, m, h1, h2, _ => by
    cases ys with
    | nil => simp only [ltBs, toPys]; rfl
    | cons y ys => simp only [ltBs, toPys, keyToksAll]; rfl
  | x :: xs, ys, n, m, h1, h2, h3 => by
    cases ys with
    | nil => simp only [ltBs, toPys, keyToksAll]; rfl
    | cons y ys =>
      obtain ⟨a1, a2⟩ := all_cons h1
      obtain ⟨b1, b2⟩ := all_cons h2
      have h3' : (alk x y && alks xs ys) = true := by simpa [alks] using h3
      rw [Bool.and_eq_true] at h3'
      simp only [ltBs, toPys]
      rw [dataLt_cons (by rw [← alk_py x y n m a1 b1]; exact h3'.1), ← eqB_py x y n m a1 b1, ← ltBs_py xs ys n m a2 b2 h3'.2, ← ltB_py x y n m a1 b1 h3'.1]
end
theorem toPys_map : ∀ ds : List D, toPys ds = ds.map toPy
  | [] => rfl
  | d :: ds => by rw [toPys, toPys_map ds]; rfl
theorem sortOk_of {ds : List D} (h : sortOk ds = true) : ds.all (shp 39) = true ∧ (∀ x ∈ ds, ∀ y ∈ ds, alk x y = true) ∧ AllAlike (ds.map toPy) ∧ Sortable (ds.map toPy) := by
  unfold sortOk at h
  simp only [Bool.and_eq_true, List.all_eq_true, Bool.or_eq_true] at h
  obtain ⟨⟨h1, h2⟩, h3⟩ := h
  refine ⟨List.all_eq_true.mpr h1, h2, fun d hd d' hd' => ?_, ?_⟩
  · obtain ⟨x, hx, rfl⟩ := List.mem_map.mp hd
    obtain ⟨y, hy, rfl⟩ := List.mem_map.mp hd'
    rw [← alk_py x y 39 39 (h1 x hx) (h1 y hy)]
    exact h2 x hx y hy
  · rcases h3 with h3 | h3
    · refine .inl fun d hd => ?_
      obtain ⟨x, hx, rfl⟩ := List.mem_map.mp hd
      have q := h3 x hx
      cases x with
      | tup xs =>
        cases xs with
        | nil => cases q
        | cons a r => exact ⟨toPy a, toPys r, by simp only [toPy, toPys]⟩
      | _ => cases q
    · refine .inr fun d hd => ?_
      obtain ⟨x, hx, rfl⟩ := List.mem_map.mp hd
      have q := h3 x hx
      have n := shp_not (h1 x hx)
      cases x with
      | non => cases q
      | tup xs => cases q
      | dic t kvs => exact absurd rfl (n.1 _ _)
      | obj c fs => exact absurd rfl (n.2.1 _ _)
      | exc c x => exact absurd rfl (n.2.2.1 _ _)
      | scr ns => exact absurd rfl (n.2.2.2 _)
      | _ => exact ⟨fun e => (by simp [toPy] at e), fun xs e => (by simp [toPy] at e)⟩
theorem sortL_eq {ds : List D} (h : sortOk ds = true) : ds.mergeSort (dataLe false toPy) = sortL ds := by
  obtain ⟨h1, h2, _, _⟩ := sortOk_of h
  have h1' := List.all_eq_true.mp h1
  have e := List.map_mergeSort (r := dataLe false toPy) (s := fun a b => !ltB b a) (f := id) (l := ds) (fun a ha b hb => by
    show (!dataLt (toPy b) (toPy a)) = !ltB b a
    rw [ltB_py b a 39 39 (h1' b hb) (h1' a ha) (h2 b hb a ha)])
  rw [List.map_id, List.map_id] at e
  exact e
end
section
open PySem.W
variable {K : PySem.W.Frag} {F H : Hp}
def RV (K : PySem.W.Frag) (F : Hp) (u : Value) (d : D) : Prop := ∃ x, RelV x u ∧ Rep K F d x
theorem each_of : ∀ {ds : List D} {vs : List V} {us : List Value}, RepL K F ds vs → Vals vs us → EachIs (RV K F) us ds
  | _, _, _, .nil, .nil => .nil
  | _, _, _, .cons r t, .cons q u => .cons ⟨_, q, r⟩ (each_of t u)
theorem of_each : ∀ {us : List Value} {ds : List D}, EachIs (RV K F) us ds → ∃ vs, RepL K F ds vs ∧ Vals vs us
  | _, _, .nil => ⟨[], .nil, .nil⟩
  | _, _, .cons ⟨x, q, r⟩ t => by
    obtain ⟨vs, a, b⟩ := of_each t
    exact ⟨x :: vs, .cons r a, .cons q b⟩
theorem each_reads {X : Cx} {pins : List (Addr × Obj)} {σ : L2.St} {s : Shared} {Lk : Addr → Option Obj} (I : Inv X pins σ H s) (sb : Sub F Lk H) : ∀ {us : List Value} {ds : List D}, EachIs (RV X.K F) us ds → ds.all (shp 39) = true → EachIs (fun v d => ∃ as, Reads s.heap v (toPy d) as) us ds
  | _, _, .nil, _ => .nil
  | _, _, .cons ⟨x, q, r⟩ t, h => .cons (Dp.reads I _ _ _ (r.dp sb 39 (all_cons h).1) q) (each_reads I sb t (all_cons h).2)
end
section
variable {X : Cx}
theorem bi_sorted (hu : X.A.units + 64 < cLine) : CallR X (.builtin "sorted") (rBi X.K .sorted) := by
  intro pins s σ H vs us Q I r h
  obtain ⟨F, Lk, ds, z, sb, vl, hz, q⟩ := h
  have main : ∀ (a : Addr) (es : List D) (xs : List V) (its : List Value), sortOk es = true → z = .lst (sortL es) → es.length ≤ PX.sizeLine → RepL X.K F es xs → Vals xs its → (s.heap.IsList a its.toArray ∨ s.heap.IsTuple a its.toArray) →
      wpAny (model X.prog X.w) X.A (call (.builtin "sorted") [.ref a]) (EP X pins σ Q) X.xe s := by
    intro a es xs its hok hz la ra rv hl
    obtain ⟨h1, _, hal, hso⟩ := sortOk_of hok
    have e := each_of ra rv
    have hlen : es.length ≤ PySem.sizeLine := by rw [← line_eq]; exact la
    refine sorted_data2 (R := RV X.K F) (enc := toPy) (bs := es) hl e (each_reads I sb e h1) hal hso hlen (fun d hd => ?_) fun out ho hE => ?_
    · have := (shp_lay d 39 (List.all_eq_true.mp h1 d hd)).2
      omega
    · rw [sortL_eq hok] at hE
      obtain ⟨ws, rw1, vw⟩ := of_each hE
      obtain ⟨ep, he'⟩ := PyProof.Rows.sortedAll_at s.heap its out.toArray
      have hl2 : ws.length ≤ PySem.sizeLine := by rw [vw.length, ho]; exact hlen
      have hl3 : (sortL es).length ≤ PX.sizeLine := by rw [rw1.length, line_eq]; exact hl2
      have hn : H (s.heap.objs.size + 1) = none := I.hok.fresh (Nat.le_succ _)
      exact ⟨.ref _, upd H (s.heap.objs.size + 1) (.lst ws), I.laid (t' := s.toks) (fun _ _ => PyProof.Rows.sortedAll_old) (Nat.le_succ _) ⟨hl2, out, ep, vw, he'⟩, rfl, q _ _ (by rw [hz]; exact .lst (sb.free hn) hn hl3 rw1)⟩
  match ds, hz, vl with
  | [.lst es], hz, vl =>
    obtain ⟨v, rfl, w⟩ := viewL1 vl
    obtain ⟨hok, hz⟩ := ite_some (show (if sortOk es = true then some (D.lst (sortL es)) else none) = some z from hz)
    cases w with
    | @lst a xs ds ha la ra =>
      obtain ⟨its, rv, hl, hz2⟩ := I.list (.of ha)
      rw [Vals.ref1 r]
      exact main a _ xs its hok hz.symm la ra rv (.inl hl.isList)
  | [.tup es], hz, vl =>
    obtain ⟨v, rfl, w⟩ := viewL1 vl
    obtain ⟨hok, hz⟩ := ite_some (show (if sortOk es = true then some (D.lst (sortL es)) else none) = some z from hz)
    cases w with
    | @tup a xs ds fa ha la ra =>
      obtain ⟨its, rv, hl, hz2⟩ := I.tuple (.of ha)
      rw [Vals.ref1 r]
      exact main a _ xs its hok hz.symm la ra rv (.inr hl)

theorem foldl_max : ∀ (xs : List Int) (a : Int), (xs.foldl (fun a b => if a < b then b else a) a = a ∨ xs.foldl (fun a b => if a < b then b else a) a ∈ xs) ∧ a ≤ xs.foldl (fun a b => if a < b then b else a) a ∧ ∀ y ∈ xs, y ≤ xs.foldl (fun a b => if a < b then b else a) a
  | [], a => ⟨.inl rfl, Int.le_refl _, fun y h => by cases h⟩
  | x :: xs, a => by
    obtain ⟨h1, h2, h3⟩ := foldl_max xs (if a < x then x else a)
    rw [List.foldl_cons]
    refine ⟨?_, ?_, fun y hy => ?_⟩
    · rcases h1 with h1 | h1
      · rw [h1]
        by_cases q : a < x
        · rw [if_pos q]; exact .inr (by simp)
        · rw [if_neg q]; exact .inl rfl
      · exact .inr (List.mem_cons_of_mem _ h1)
    · by_cases q : a < x
      · rw [if_pos q] at h2 ⊢; omega
      · rw [if_neg q] at h2 ⊢; exact h2
    · rcases List.mem_cons.mp hy with e | hy
      · by_cases q : a < x
        · rw [if_pos q] at h2 ⊢; omega
        · rw [if_neg q] at h2 ⊢; omega
      · exact h3 y hy
theorem foldl_min : ∀ (xs : List Int) (a : Int), (xs.foldl (fun a b => if b < a then b else a) a = a ∨ xs.foldl (fun a b => if b < a then b else a) a ∈ xs) ∧ xs.foldl (fun a b => if b < a then b else a) a ≤ a ∧ ∀ y ∈ xs, xs.foldl (fun a b => if b < a then b else a) a ≤ y
  | [], a => ⟨.inl rfl, Int.le_refl _, fun y h => by cases h⟩
  | x :: xs, a => by
    obtain ⟨h1, h2, h3⟩ := foldl_min xs (if x < a then x else a)
    rw [List.foldl_cons]
    refine ⟨?_, ?_, fun y hy => ?_⟩
    · rcases h1 with h1 | h1
      · rw [h1]
        by_cases q : x < a
        · rw [if_pos q]; exact .inr (by simp)
        · rw [if_neg q]; exact .inl rfl
      · exact .inr (List.mem_cons_of_mem _ h1)
    · by_cases q : x < a
      · rw [if_pos q] at h2 ⊢; omega
      · rw [if_neg q] at h2 ⊢; exact h2
    · rcases List.mem_cons.mp hy with e | hy
      · by_cases q : x < a
        · rw [if_pos q] at h2 ⊢; omega
        · rw [if_neg q] at h2 ⊢; omega
      · exact h3 y hy
theorem maxI_spec {ns : List Int} {m : Int} (h : maxI ns = some m) : m ∈ ns ∧ ∀ y ∈ ns, y ≤ m := by
  cases ns with
  | nil => cases h
  | cons x xs =>
    obtain rfl := Option.some.inj h
    obtain ⟨h1, h2, h3⟩ := foldl_max xs x
    refine ⟨?_, fun y hy => ?_⟩
    · rcases h1 with h1 | h1
      · rw [h1]; simp
      · exact List.mem_cons_of_mem _ h1
    · rcases List.mem_cons.mp hy with e | hy
      · rw [e]; exact h2
      · exact h3 y hy
theorem minI_spec {ns : List Int} {m : Int} (h : minI ns = some m) : m ∈ ns ∧ ∀ y ∈ ns, m ≤ y := by
  cases ns with
  | nil => cases h
  | cons x xs =>
    obtain rfl := Option.some.inj h
    obtain ⟨h1, h2, h3⟩ := foldl_min xs x
    refine ⟨?_, fun y hy => ?_⟩
    · rcases h1 with h1 | h1
      · rw [h1]; simp
      · exact List.mem_cons_of_mem _ h1
    · rcases List.mem_cons.mp hy with e | hy
      · rw [e]; exact h2
      · exact h3 y hy
theorem bi_max1 (hc : X.calm = true) : CallR X (.builtin "max") (rBi X.K .max1) := by
  intro pins s σ H vs us Q I r h
  obtain ⟨F, Lk, ds, z, sb, vl, hz, q⟩ := h
  match ds, hz, vl with
  | [.lst xs], hz, vl =>
    obtain ⟨v, rfl, w⟩ := viewL1 vl
    obtain ⟨ns, he, hz⟩ := Option.bind_eq_some_iff.mp (show ((nums xs).bind fun ns => (maxI ns).map D.int) = some z from hz)
    obtain ⟨m, hm, rfl⟩ := Option.map_eq_some_iff.mp hz
    obtain ⟨m1, m2⟩ := maxI_spec hm
    cases w with
    | @lst a ys ds ha la ra =>
      rw [ra.nums he] at ha
      refine cr_max hc pins s σ H _ us Q I r ⟨a, ns, rfl, .of ha, List.length_pos_of_mem m1, fun k k1 k2 => ?_⟩
      have e : k = m := Int.le_antisymm (m2 k k1) (k2 m m1)
      rw [e]; exact q _ _ (.sc rfl (.int _))
theorem bi_min1 (hc : X.calm = true) : CallR X (.builtin "min") (rBi X.K .min1) := by
  intro pins s σ H vs us Q I r h
  obtain ⟨F, Lk, ds, z, sb, vl, hz, q⟩ := h
  match ds, hz, vl with
  | [.lst xs], hz, vl =>
    obtain ⟨v, rfl, w⟩ := viewL1 vl
    obtain ⟨ns, he, hz⟩ := Option.bind_eq_some_iff.mp (show ((nums xs).bind fun ns => (minI ns).map D.int) = some z from hz)
    obtain ⟨m, hm, rfl⟩ := Option.map_eq_some_iff.mp hz
    obtain ⟨m1, m2⟩ := minI_spec hm
    cases w with
    | @lst a ys ds ha la ra =>
      rw [ra.nums he] at ha
      refine cr_min hc pins s σ H _ us Q I r ⟨a, ns, rfl, .of ha, List.length_pos_of_mem m1, fun k k1 k2 => ?_⟩
      have e : k = m := Int.le_antisymm (k2 m m1) (m2 k k1)
      rw [e]; exact q _ _ (.sc rfl (.int _))

def tyN : Nat → String
  | 0 => "NoneType" | 1 => "bool" | 2 => "int" | 3 => "str" | 4 => "tuple" | _ => "list"
theorem View.ty {K : PySem.W.Frag} {F H : Hp} {d : D} {v : V} (x : View K F H d v) (hd : tagD d < 6) : TyX K H v (.type (tyN (tagD d))) := by
  cases x with
  | non => exact .base .non
  | bl b => exact .base (.bl b)
  | int i => exact .base (.int i)
  | str s => exact .base (.str s)
  | tup f h l r => exact .base (.tup h)
  | lst h l r => exact .base (.lst h)
  | scr h =>
    rcases h with (h | ⟨o, h⟩) | ⟨o, its, n, e, c, _⟩
    · exact .base (.lst h)
    · exact .base (.frz h)
    · exact .kList e c
  | dK h r => exact absurd hd (by show ¬ 6 < 6; decide)
  | dT h r => exact absurd hd (by show ¬ 6 < 6; decide)
/-- which built-in classes isinstance asks of here, and of which kinds they say yes -/
def isT : Bi → Option (String × (Nat → Bool))
  | .isTup => some ("tuple", (· == 4))
  | .isList => some ("list", (· == 5))
  | .isBool => some ("bool", (· == 1))
  | .isInt => some ("int", fun t => t == 1 || t == 2)
  | .isStr => some ("str", (· == 3))
  | _ => none
theorem kit_all (K : PySem.W.Frag) {b : Bi} {n : String} {f : Nat → Bool} (h : isT b = some (n, f)) {t : Nat} (ht : t < 6) : PySem.W.kitOne K (.type (tyN t)) (.type n) = some (f t) := by
  have cs : t = 0 ∨ t = 1 ∨ t = 2 ∨ t = 3 ∨ t = 4 ∨ t = 5 := by omega
  cases b <;> cases h
  all_goals (rcases cs with rfl | rfl | rfl | rfl | rfl | rfl <;> first | rfl | kernel_rfl)
theorem bi_isinst {b : Bi} {n : String} {f : Nat → Bool} (hb : isT b = some (n, f)) : CallR X (.builtin "isinstance") (fun vs H Q => ∃ F Lk d z v, Sub F Lk H ∧ vs = [v, .ty n] ∧ View X.K F H d v ∧ biD b [d] = some z ∧ (∀ w H', Nw X.K F H z w H' → Q w H')) := by
  intro pins s σ H vs us Q I r h
  obtain ⟨F, Lk, d, z, v, sb, rfl, vw, hz, q⟩ := h
  have e : (if tagD d < 6 then some (D.bl (f (tagD d))) else none) = some z := by
    cases b <;> cases hb <;> exact hz
  by_cases ht : tagD d < 6
  · rw [if_pos ht] at e
    obtain rfl := Option.some.inj e
    exact call_isi pins s σ H _ us Q I r ⟨v, .ty n, _, _, _, rfl, .ty n, vw.ty ht, kit_all X.K hb ht, q _ _ (.sc rfl (.bl _))⟩
  · rw [if_neg ht] at e; cases e
end
end PX
end
section
set_option Elab.async false
set_option linter.all false
set_option maxRecDepth 100000
set_option maxHeartbeats 4000000
namespace PX
open PySem L2

inductive Md | keep | peek | fresh
  deriving DecidableEq
structure FnI where
  name : Str
  ps : List Str
  io : Option Nat
  fr : Bool
structure Tab where
  fn : Nat → Option FnI
  gls : Nat → Option (Str × D)
  frees : List Str
  cad : Nat → Addr
  cat : Nat → Str
structure Ctx where
  N : List Str
  sc : Scope
  io : List Nat
  fr : Bool
  fn : Str → Bool

/-- an exception that has left: its class, its one datum -/
def ExcAt (T : Tab) (K : PySem.W.Frag) (F H : Hp) (c : Nat) (d : D) (cls : Value) (od : Option Addr) : Prop :=
  cls = .ref (T.cad c) ∧ ∃ a fs v, od = some a ∧ H a = some (.xd fs) ∧ fs.lookup (T.cat c) = some v ∧ Rep K F d v
def RM (m : Md) (K : PySem.W.Frag) (G : Gh) (F H : Hp) (o : List Bool) (A : Nat → List Addr) (ρ : Env) (pk : List Nat) (d : D) (v : V) : Prop := match m with
  | .keep => Rep K F d v
  | .peek => Rep K F d v ∨ ∃ j, j ∈ pk ∧ ow o j = true ∧ gt ρ j = some d ∧ Own K F H d v (A j)
  | .fresh => ∃ B, Own K F H d v B ∧ Apart G F H o A ρ B
/-- an owned slot that isn't touched is as it was -/
def Frm (tc : List Nat) (o o' : List Bool) (A A' : Nat → List Addr) (ρ ρ' : Env) (H H' : Hp) : Prop :=
  ∀ j d, j ∉ tc → ow o j = true → gt ρ j = some d → ow o' j = true ∧ A' j = A j ∧ gt ρ' j = some d ∧ ∀ a ∈ A j, H' a = H a
theorem Frm.refl {tc : List Nat} {o : List Bool} {A : Nat → List Addr} {ρ : Env} {H : Hp} : Frm tc o o A A ρ ρ H H := fun _ _ _ h e => ⟨h, rfl, e, fun _ _ => rfl⟩
theorem Frm.trans {tc tc1 tc2 : List Nat} {o o1 o2 : List Bool} {A A1 A2 : Nat → List Addr} {ρ ρ1 ρ2 : Env} {H H1 H2 : Hp} (x : Frm tc1 o o1 A A1 ρ ρ1 H H1) (y : Frm tc2 o1 o2 A1 A2 ρ1 ρ2 H1 H2)
    (h1 : ∀ j, j ∉ tc → j ∉ tc1) (h2 : ∀ j, j ∉ tc → j ∉ tc2) : Frm tc o o2 A A2 ρ ρ2 H H2 := fun j d hj ho e => by
  obtain ⟨a1, a2, a3, a4⟩ := x j d (h1 j hj) ho e
  obtain ⟨b1, b2, b3, b4⟩ := y j d (h2 j hj) a1 a3
  exact ⟨b1, b2.trans a2, b3, fun a ha => (b4 a (by rw [a2]; exact ha)).trans (a4 a ha)⟩
theorem Frm.mono {tc tc1 : List Nat} {o o1 : List Bool} {A A1 : Nat → List Addr} {ρ ρ1 : Env} {H H1 : Hp} (x : Frm tc1 o o1 A A1 ρ ρ1 H H1) (h1 : ∀ j, j ∉ tc → j ∉ tc1) : Frm tc o o1 A A1 ρ ρ1 H H1 := fun j d hj => x j d (h1 j hj)

/-- what is to be shown of a run of the small form; RMv: how a result stands -/
def PostR {α β : Type} (RMv : Hp → Hp → (Nat → List Addr) → Env → α → β → Prop) (T : Tab) (K : PySem.W.Frag) (io : List Nat) (W : WX) (G : Gh) (F H : Hp) (o : List Bool) (A : Nat → List Addr) (ρ : Env) (tc : List Nat) (o' : List Bool) (σ : St) (Q : β → Hp → Prop) (r : R α) : Prop := match r with
  | .ok d ρ' => ∀ (F' H' : Hp) (A' : Nat → List Addr) (v : β), Rel K io G F' H' o' A' ρ' σ → Grow F F' → Frm tc o o' A A' ρ ρ' H H' → RMv F' H' A' ρ' d v → Q v H'
  | .exc c d ρ' => ∀ (F' H' : Hp) (A' : Nat → List Addr) (o2 : List Bool) (cls : Value) (od : Option Addr), Rel K io G F' H' o2 A' ρ' σ → ExcAt T K F' H' c d cls od → W cls od σ H'
  | .fail => False
def TX {α β : Type} (RMv : Hp → Hp → (Nat → List Addr) → Env → α → β → Prop) (T : Tab) (K : PySem.W.Frag) (io : List Nat) (W : WX) (G : Gh) (o : List Bool) (tc : List Nat) (o' : List Bool) (f : Env → R α) : St → Hp → (β → Hp → Prop) → Prop :=
  fun σ H Q => ∃ (F : Hp) (A : Nat → List Addr) (ρ : Env), Rel K io G F H o A ρ σ ∧ PostR RMv T K io W G F H o A ρ tc o' σ Q (f ρ)
/-- of an expression -/
abbrev RE (m : Md) (K : PySem.W.Frag) (G : Gh) (o' : List Bool) (pk : List Nat) : Hp → Hp → (Nat → List Addr) → Env → D → V → Prop := fun F H A ρ d v => RM m K G F H o' A ρ pk d v
abbrev TEx (T : Tab) (K : PySem.W.Frag) (io : List Nat) (W : WX) (G : Gh) (o : List Bool) (tc : List Nat) (o' : List Bool) (m : Md) (pk : List Nat) (f : Env → R D) : TE := TX (RE m K G o' pk) T K io W G o tc o' f
/-- of a test -/
abbrev RT : Hp → Hp → (Nat → List Addr) → Env → Bool → Bool → Prop := fun _ _ _ _ a b => a = b
abbrev TTx (T : Tab) (K : PySem.W.Frag) (io : List Nat) (W : WX) (G : Gh) (o : List Bool) (tc : List Nat) (o' : List Bool) (f : Env → R Bool) : TT := TX RT T K io W G o tc o' f

section
variable {T : Tab} {K : PySem.W.Frag} {io : List Nat} {W : WX} {G : Gh} {F F' H H' : Hp} {o o' o1 : List Bool} {A A' : Nat → List Addr} {ρ ρ' : Env} {tc tc1 tc2 : List Nat} {σ : St}
theorem PostR.bind {α β γ δ : Type} {RMa : Hp → Hp → (Nat → List Addr) → Env → α → β → Prop} {RMc : Hp → Hp → (Nat → List Addr) → Env → γ → δ → Prop} {r : R α} {k : α → Env → R γ} {Q : δ → Hp → Prop} {Q1 : β → Hp → Prop}
    (P : PostR RMc T K io W G F H o A ρ tc o' σ Q (r.bind k)) (h1 : ∀ j, j ∉ tc → j ∉ tc1) (h2 : ∀ j, j ∉ tc → j ∉ tc2)
    (h : ∀ (a : α) (ρ1 : Env) (F1 H1 : Hp) (A1 : Nat → List Addr) (v : β), Rel K io G F1 H1 o1 A1 ρ1 σ → Grow F F1 → Frm tc1 o o1 A A1 ρ ρ1 H H1 → RMa F1 H1 A1 ρ1 a v → PostR RMc T K io W G F1 H1 o1 A1 ρ1 tc2 o' σ Q (k a ρ1) → Q1 v H1) :
    PostR RMa T K io W G F H o A ρ tc1 o1 σ Q1 r := by
  cases r with
  | fail => exact P
  | exc c d ρ' => exact P
  | ok a ρ1 =>
    intro F1 H1 A1 v R1 g1 f1 m1
    refine h a ρ1 F1 H1 A1 v R1 g1 f1 m1 ?_
    have P' : PostR RMc T K io W G F H o A ρ tc o' σ Q (k a ρ1) := P
    cases e : k a ρ1 with
    | fail => rw [e] at P'; exact P'
    | exc c d ρ' => rw [e] at P'; exact P'
    | ok b ρ2 =>
      rw [e] at P'
      intro F2 H2 A2 w R2 g2 f2 m2
      exact P' F2 H2 A2 w R2 (g1.trans g2) (f1.trans f2 h1 h2) m2
theorem PostR.mono {α β : Type} {RMv : Hp → Hp → (Nat → List Addr) → Env → α → β → Prop} {r : R α} {Q : β → Hp → Prop} (P : PostR RMv T K io W G F H o A ρ tc o' σ Q r) (h : ∀ j, j ∉ tc → j ∉ tc1) : PostR RMv T K io W G F H o A ρ tc1 o' σ Q r := by
  cases r with
  | fail => exact P
  | exc c d ρ' => exact P
  | ok a ρ1 => exact fun F1 H1 A1 v R1 g1 f1 m1 => P F1 H1 A1 v R1 g1 (f1.mono h) m1
theorem PostR.opt {α β : Type} {RMv : Hp → Hp → (Nat → List Addr) → Env → α → β → Prop} {x : Option α} {Q : β → Hp → Prop} (P : PostR RMv T K io W G F H o A ρ tc o' σ Q (optR x ρ')) : ∃ z, x = some z ∧ PostR RMv T K io W G F H o A ρ tc o' σ Q (.ok z ρ') := by
  cases x with
  | none => exact False.elim P
  | some z => exact ⟨z, rfl, P⟩

theorem RM.step {m : Md} {F1 H1 : Hp} {o2 : List Bool} {A1 : Nat → List Addr} {ρ1 : Env} {pk : List Nat} {d : D} {v : V} (hm : m ≠ .fresh) (x : RM m K G F H o A ρ pk d v) (g : Grow F F1) (f : Frm tc o o2 A A1 ρ ρ1 H H1) (h : ∀ j ∈ pk, j ∉ tc) : RM m K G F1 H1 o2 A1 ρ1 pk d v := by
  cases m with
  | fresh => exact absurd rfl hm
  | keep => exact Rep.grow g x
  | peek =>
    rcases x with x | ⟨j, hj, ho, e, w⟩
    · exact .inl (x.grow g)
    · obtain ⟨a1, a2, a3, a4⟩ := f j d (h j hj) ho e
      refine .inr ⟨j, hj, a1, a3, ?_⟩
      rw [a2]
      exact w.keep g a4
theorem RM.view {m : Md} {pk : List Nat} {d : D} {v : V} (r : Rel K io G F H o A ρ σ) (x : RM m K G F H o A ρ pk d v) : View K F H d v := by
  cases m with
  | fresh =>
    obtain ⟨B, w, _⟩ := x
    exact w.view r.sub
  | keep => exact Rep.view r.sub x
  | peek =>
    rcases x with x | ⟨j, hj, ho, e, w⟩
    · exact x.view r.sub
    · exact w.view r.sub
theorem Nw.rel {z : D} {w : V} (r : Rel K io G F H o A ρ σ) (n : Nw K F H z w H') : ∃ F', Rel K io G F' H' o A ρ σ ∧ Grow F F' ∧ Frm [] o o A A ρ ρ H H' ∧ RM .fresh K G F' H' o A ρ [] z w := by
  obtain ⟨hs, F', B, g, hn, x, ap⟩ := n
  refine ⟨F', r.ext hs g hn, g, fun j d _ ho e => ⟨ho, rfl, e, fun a ha => ?_⟩, B, x, fun b hb => (ap b hb).1, fun b hb => ?_, fun i d e ho b hb hA => ?_⟩
  · obtain ⟨v, _, q⟩ := r.owned e ho
    have := q.has a ha
    cases w : H a with
    | none => exact absurd w this
    | some u => exact hs _ _ w
  · cases w : G.H0 b with
    | none => rfl
    | some u => exact absurd (ap b hb).2 (r.dom.1 b (by rw [w]; exact fun z => nomatch z))
  · obtain ⟨v, _, q⟩ := r.owned e ho
    exact absurd (ap b hb).2 (q.has b hA)
/-- things that stand in the heap, apart from all, are put into the frozen part -/
theorem Rel.addF {B : List Addr} (r : Rel K io G F H o A ρ σ) (g : Grow F F') (hn : ∀ a u, F' a = some u → F a = some u ∨ (a ∈ B ∧ H a = some u)) (ap : Apart G F H o A ρ B) : Rel K io G F' H o A ρ σ := by
  have fn : ∀ a, a ∉ B → F a = none → F' a = none := fun a ha hf => by
    cases e : F' a with
    | none => rfl
    | some u =>
      rcases hn a u e with z | z
      · rw [hf] at z; cases z
      · exact absurd z.1 ha
  refine ⟨fun a u e => ?_, fun a e => ?_, r.f0.trans g, fun a e => ?_, r.dom, r.keep, r.len, fun i d e => ?_, fun i d e h a ha => ?_, r.dis, r.ioo⟩
  · rcases hn a u e with z | ⟨z1, z2⟩
    · exact r.sub a u z
    · rw [r.lkF a (ap.f a z1)]; exact z2
  · refine r.lkF a ?_
    cases q : F a with
    | none => rfl
    | some u => rw [g _ _ q] at e; cases e
  · cases q : F' a with
    | none => exact absurd q e
    | some u =>
      rcases hn a u q with z | ⟨z1, _⟩
      · exact r.new a (by rw [z]; exact fun z => nomatch z)
      · exact .inr (.inl (ap.h0 a z1))
  · obtain ⟨v, h1, h2⟩ := r.sl i d e
    refine ⟨v, h1, ?_⟩
    by_cases h : ow o i = true
    · rw [if_pos h] at h2 ⊢
      exact h2.keep g fun _ _ => rfl
    · rw [if_neg h] at h2 ⊢
      exact h2.grow g
  · obtain ⟨h1, h2⟩ := r.own i d e h a ha
    exact ⟨fn a (fun z => ap.sl i d e h a z ha) h1, h2⟩
theorem RM.frozen {d : D} {v : V} {pk : List Nat} (r : Rel K io G F H o A ρ σ) (x : RM .fresh K G F H o A ρ pk d v) : ∃ F', Grow F F' ∧ Rel K io G F' H o A ρ σ ∧ Rep K F' d v := by
  obtain ⟨B, w, ap⟩ := x
  obtain ⟨F', g, rp, hn⟩ := w.freeze ap.f
  exact ⟨F', g, r.addF g hn ap, rp⟩
end

theorem PE.imp {X : Cx} {e : Expr} {t t' : TE} (h : PE X e t) (i : ∀ σ H Q, t' σ H Q → t σ H Q) : PE X e t' := ⟨fun pins s σ H Q I hw => h.run pins s σ H Q I (i σ H Q hw)⟩
theorem PT.imp {X : Cx} {e : Expr} {t t' : TT} (h : PT X e t) (i : ∀ σ H Q, t' σ H Q → t σ H Q) : PT X e t' := ⟨fun pins s σ H Q I hw => h.run pins s σ H Q I (i σ H Q hw)⟩
theorem PA.imp {X : Cx} {e : List Expr} {t t' : TA} (h : PA X e t) (i : ∀ σ H Q, t' σ H Q → t σ H Q) : PA X e t' := ⟨fun pos pins s σ H Q I hw => h.run pos pins s σ H Q I (i σ H Q hw)⟩
theorem PS.imp {X : Cx} {e : Stmt} {t t' : TS} (h : PS X e t) (i : ∀ D σ H, t' D σ H → t D σ H) : PS X e t' := ⟨fun pins s σ H D I hw => h.run pins s σ H D I (i D σ H hw)⟩
theorem PSs.imp {X : Cx} {e : List Stmt} {t t' : TS} (h : PSs X e t) (i : ∀ D σ H, t' D σ H → t D σ H) : PSs X e t' := ⟨fun pins s σ H D I hw => h.run pins s σ H D I (i D σ H hw)⟩
section
variable {X : Cx} {T : Tab} {io : List Nat} {W : WX} {G : Gh} {o o' : List Bool} {tc pk : List Nat} {e : Expr} {f : Env → R D} {K : PySem.W.Frag}
theorem pe_keep (h : PE X e (TEx T K io W G o tc o' .fresh pk f)) : PE X e (TEx T K io W G o tc o' .keep pk f) := PE.imp h fun σ H Q ⟨F, A, ρ, R, P⟩ => by
  refine ⟨F, A, ρ, R, ?_⟩
  cases q : f ρ with
  | fail => rw [q] at P; exact P
  | exc c d ρ' => rw [q] at P; exact P
  | ok d ρ' =>
    rw [q] at P
    intro F' H' A' v R' g fr m
    obtain ⟨F2, g2, R2, rp⟩ := RM.frozen R' m
    exact P F2 H' A' v R2 (g.trans g2) fr rp
theorem pe_peek (h : PE X e (TEx T K io W G o tc o' .keep pk f)) : PE X e (TEx T K io W G o tc o' .peek pk f) := PE.imp h fun σ H Q ⟨F, A, ρ, R, P⟩ => by
  refine ⟨F, A, ρ, R, ?_⟩
  cases q : f ρ with
  | fail => rw [q] at P; exact P
  | exc c d ρ' => rw [q] at P; exact P
  | ok d ρ' =>
    rw [q] at P
    exact fun F' H' A' v R' g fr m => P F' H' A' v R' g fr (.inl m)
end
end PX
end
section
set_option Elab.async false
set_option linter.all false
set_option maxRecDepth 100000
set_option maxHeartbeats 4000000
namespace PX
open PySem L2

mutual
def tch : E → List Nat
  | .con _ => []
  | .var i => [i]
  | .pk _ => []
  | .io i => [i]
  | .tmp e => tch e
  | .gl _ => []
  | .bin _ a b => tch a ++ tch b
  | .neg a => tch a
  | .not a => tch a
  | .cmp _ a b => tch a ++ tch b
  | .chn _ _ a b c => tch a ++ (tch b ++ tch c)
  | .and a b => tch a ++ tch b
  | .or a b => tch a ++ tch b
  | .ite c a b => tch c ++ (tch a ++ tch b)
  | .tup es => tchs es
  | .lst es => tchs es
  | .dic _ ks vs => tchs ks ++ tchs vs
  | .ix a i => tch a ++ tch i
  | .slc a lo hi => tch a ++ (tch lo ++ tch hi)
  | .get2 a k x => tch a ++ (tch k ++ tch x)
  | .call _ es => tchs es
  | .callF _ es => tchs es
  | .bi _ es => tchs es
  | .comp own _ _ its ifs elt => tchs its ++ (own ++ (tchs ifs ++ tch elt))
  | .pop i es => tchs es ++ [i]
def tchs : List E → List Nat
  | [] => []
  | e :: es => tch e ++ tchs es
end
def pks : E → List Nat
  | .pk i => [i]
  | _ => []
/-- which way a result stands -/
def nat : E → Md
  | .pk _ => .peek
  | .bin _ _ _ => .fresh
  | .lst _ => .fresh
  | .dic _ _ _ => .fresh
  | .tup _ => .fresh
  | .slc _ _ _ => .fresh
  | .bi _ _ => .fresh
  | .callF _ _ => .fresh
  | .comp _ _ _ _ _ _ => .fresh
  | _ => .keep

/-- the arguments: shared things, but for the one that may be changed (its objects at B) -/
def ArgsOk (K : PySem.W.Frag) (F H : Hp) (io : Option Nat) (ds : List D) (vs : List V) (B : List Addr) : Prop :=
  ds.length = vs.length ∧ (∀ (k : Nat) (d : D) (v : V), ds[k]? = some d → vs[k]? = some v → if io = some k then Own K F H d v B else Rep K F d v) ∧ (io = none → B = []) ∧ ∀ b ∈ B, F b = none
/-- its new content -/
def IoOk (K : PySem.W.Frag) (F H F' H' : Hp) (io : Option Nat) (vs : List V) (ios : List D) (B B' : List Addr) : Prop := match io with
  | none => ios = [] ∧ B' = []
  | some p => ∃ d v, ios = [d] ∧ vs[p]? = some v ∧ Own K F' H' d v B' ∧ ∀ b ∈ B', F' b = none ∧ (b ∈ B ∨ H b = none)
/-- the heap behind a call -/
structure Aft (F H F' H' : Hp) (B : List Addr) : Prop where
  grow : Grow F F'
  sub : ∀ a u, F' a = some u → F a = some u ∨ (H' a = some u ∧ (H a = none ∨ ∃ vs, H a = some (.tup vs)))
  mm : ∀ a ∈ B, ∃ u, H' a = some u ∧ notTup u
  keep : ∀ a u, H a = some u → a ∉ B → H' a = some u
  dom : ∀ a, H a ≠ none → H' a ≠ none
/-- a result: shared, or new -/
def RetOk (K : PySem.W.Frag) (fr : Bool) (H F' H' : Hp) (B' : List Addr) (d : D) (v : V) : Prop :=
  if fr = true then ∃ C, Own K F' H' d v C ∧ ∀ b ∈ C, F' b = none ∧ H b = none ∧ b ∉ B' else Rep K F' d v
def SpF (T : Tab) (K : PySem.W.Frag) (fi : FnI) (φ : List D → RF) : Sp := fun vs H Q E => ∃ (F : Hp) (Lk : Addr → Option Obj) (ds : List D) (B : List Addr), vs.length = fi.ps.length ∧ Sub F Lk H ∧ (∀ a, F a = none → Lk a = none) ∧ ArgsOk K F H fi.io ds vs B ∧ match φ ds with
  | .ok d ios => ∀ (F' H' : Hp) (v : V) (B' : List Addr), Aft F H F' H' B → IoOk K F H F' H' fi.io vs ios B B' → RetOk K fi.fr H F' H' B' d v → Q v H'
  | .exc c d ios => ∀ (F' H' : Hp) (cls : Value) (od : Option Addr) (B' : List Addr), Aft F H F' H' B → IoOk K F H F' H' fi.io vs ios B B' → ExcAt T K F' H' c d cls od → E cls od H'
  | .fail => False
def CallOk (T : Tab) (X : Cx) (fi : FnI) (φ : List D → RF) : Prop := ∃ k f fd, FnOk X.prog X.w X.K X.mg X.base (L2.CX X.prog X.w) k f fd fi.ps (SpF T X.K fi φ) ∧ Room k X.A ∧ X.mg fi.name = some (.ref f) ∧ PySem.W.keepIn X.K (.ref f) = true ∧ Binds X.K fd fi.ps []

structure XOk (T : Tab) (Φ : Fns) (gl : Nat → D) (c : Ctx) (X : Cx) (W : WX) : Prop where
  hN : X.N = c.N
  hs : X.env.scope = c.sc
  nd : c.N.Nodup
  calm : X.calm = true
  takes : Takes X W
  pass : PassesOwn (model X.prog X.w) X.A X.env X.xe
  fn : ∀ x, c.fn x = true → X.fn x = true
  frees : ∀ x ∈ T.frees, X.mg x = none
  hu : X.A.units + 65 < cLine
  fns : ∀ i fi, T.fn i = some fi → CallOk T X fi (Φ i)
  gls : ∀ k x d, T.gls k = some (x, d) → gl k = d ∧ ∃ u v, X.mg x = some u ∧ RelV v u ∧ ∀ F, Rep X.K F d v
section
variable {T : Tab} {Φ : Fns} {gl : Nat → D} {c : Ctx} {X : Cx} {W : WX} {G : Gh} {o o1 o2 o3 : List Bool}
abbrev SE (T : Tab) (Φ : Fns) (gl : Nat → D) (X : Cx) (io : List Nat) (W : WX) (G : Gh) (e : Expr) (ir : E) (o o' : List Bool) (m : Md) : Prop := PE X e (TEx T X.K io W G o (tch ir) o' m (pks ir) (evE Φ gl ir))
/-- in the way that is wanted -/
def cvt : Md → Md → Bool
  | .keep, .keep => true | .keep, .peek => true | .fresh, _ => true | .peek, .peek => true | _, _ => false
theorem SE.cvt {io : List Nat} {e : Expr} {ir : E} {m m' : Md} (h : SE T Φ gl X io W G e ir o o1 m) (k : PX.cvt m m' = true) : SE T Φ gl X io W G e ir o o1 m' := by
  cases m <;> cases m' <;> first | exact h | exact pe_keep h | exact pe_peek h | exact pe_peek (pe_keep h) | cases k
variable (XO : XOk T Φ gl c X W)
include XO
/-- an end that makes no thing -/
theorem post_sc {io : List Nat} {F H : Hp} {A : Nat → List Addr} {ρ : Env} {tc : List Nat} {σ : L2.St} {Q : V → Hp → Prop} {d : D} {v : V} {pk : List Nat} (R : Rel X.K io G F H o A ρ σ) (P : PostR (RE .keep X.K G o pk) T X.K io W G F H o A ρ tc o σ Q (.ok d ρ)) (r : Rep X.K F d v) : Q v H :=
  P F H A v R (.refl F) .refl r
def litOk : D → Bool
  | .non => true | .bl _ => true | .int _ => true | .str _ => true | _ => false
theorem se_con {e : Expr} {d : D} (h : ∃ v, PE X e (tC v) ∧ ∀ F, Rep X.K F d v) : SE T Φ gl X c.io W G e (.con d) o o .keep := by
  obtain ⟨v, h, r⟩ := h
  refine PE.imp h fun σ H Q ⟨F, A, ρ, R, P⟩ => ?_
  exact post_sc XO R P (r F)
theorem se_gl {e : Expr} {k : Nat} {x : Str} {pos : Pos} {d : D} (hk : T.gls k = some (x, d)) (hg : Gl X x) (hd : (x == ("__debug__" : Str)) = false) : SE T Φ gl X c.io W G (.Name x pos) (.gl k) o o .keep := by
  obtain ⟨e, u, v, hm, hr, rp⟩ := XO.gls k x d hk
  refine PE.imp (pe_glob hg hm hr hd) fun σ H Q ⟨F, A, ρ, R, P⟩ => ?_
  have P' : PostR (RE .keep X.K G o []) T X.K c.io W G F H o A ρ (tch (.gl k)) o σ Q (.ok (gl k) ρ) := P
  rw [e] at P'
  exact post_sc XO R P' (rp F)
def vis (c : Ctx) (x : Str) : Bool := (match c.sc.names.lookup x with | some .local => true | some .cell => true | some .free => true | _ => false) && !(x == ("__debug__" : Str)) && !(x == ("__classdict__" : Str))
theorem vis_ok {x : Str} (h : vis c x = true) : Vis X.env.scope x ∧ (x == ("__debug__" : Str)) = false ∧ (x == ("__classdict__" : Str)) = false := by
  unfold vis at h
  simp only [Bool.and_eq_true, Bool.not_eq_true'] at h
  obtain ⟨⟨h1, h2⟩, h3⟩ := h
  refine ⟨?_, h2, h3⟩
  rw [XO.hs]
  unfold Vis
  split at h1
  · exact .inl (by assumption)
  · exact .inr (.inl (by assumption))
  · exact .inr (.inr (by assumption))
  · cases h1
theorem pe_slot {i : Nat} {x : Str} {pos : Pos} (hi : c.N[i]? = some x) (hv : vis c x = true) : PE X (.Name x pos) (tVar i) := by
  obtain ⟨h1, h2, h3⟩ := vis_ok XO hv
  exact pe_var (by rw [XO.hN]; exact hi) h1 h2 h3
theorem se_pk {i : Nat} {x : Str} {pos : Pos} (hi : c.N[i]? = some x) (hv : vis c x = true) : SE T Φ gl X c.io W G (.Name x pos) (.pk i) o o .peek := by
  refine PE.imp (pe_slot XO hi hv) fun σ H Q ⟨F, A, ρ, R, P⟩ => ?_
  obtain ⟨d, hd, P⟩ := PostR.opt (show PostR _ T X.K c.io W G F H o A ρ _ o σ Q (optR (gt ρ i) ρ) from P)
  obtain ⟨v, h1, h2⟩ := R.sl i d hd
  refine ⟨v, h1, P F H A v R (.refl F) .refl ?_⟩
  by_cases h : ow o i = true
  · rw [if_pos h] at h2; exact .inr ⟨i, by simp [pks], h, hd, h2⟩
  · rw [if_neg h] at h2; exact .inl h2
theorem se_var {i : Nat} {x : Str} {pos : Pos} (hi : c.N[i]? = some x) (hv : vis c x = true) (hio : i ∉ c.io) : SE T Φ gl X c.io W G (.Name x pos) (.var i) o (o.set i false) .keep := by
  refine PE.imp (pe_slot XO hi hv) fun σ H Q ⟨F, A, ρ, R, P⟩ => ?_
  obtain ⟨d, hd, P⟩ := PostR.opt (show PostR _ T X.K c.io W G F H o A ρ _ (o.set i false) σ Q (optR (gt ρ i) ρ) from P)
  obtain ⟨F', g, R'⟩ := R.freeze hio
  obtain ⟨v, h1, h2⟩ := R'.shr hd (ow_set_false o i)
  refine ⟨v, h1, P F' H A v R' g (fun j e hj ho he => ⟨?_, rfl, he, fun _ _ => rfl⟩) h2⟩
  rw [ow_set_ne (fun z => hj (by simp [tch, z]))]
  exact ho
theorem sub_l {tc1 tc2 : List Nat} : ∀ j, j ∉ tc1 ++ tc2 → j ∉ tc1 := fun j h z => h (List.mem_append_left _ z)
theorem sub_r {tc1 tc2 : List Nat} : ∀ j, j ∉ tc1 ++ tc2 → j ∉ tc2 := fun j h z => h (List.mem_append_right _ z)
/-- an end that makes a new thing -/
theorem post_nw {io : List Nat} {F H H' : Hp} {A : Nat → List Addr} {ρ : Env} {tc : List Nat} {σ : L2.St} {Q : V → Hp → Prop} {d : D} {w : V} {pk : List Nat} (R : Rel X.K io G F H o A ρ σ) (P : PostR (RE .fresh X.K G o pk) T X.K io W G F H o A ρ tc o σ Q (.ok d ρ)) (n : Nw X.K F H d w H') : Q w H' := by
  obtain ⟨F', R', g, fr, m⟩ := Nw.rel R n
  exact P F' H' A w R' g (fr.mono fun j h => by simp) m
/-- two operands, one after the other -/
theorem two {io : List Nat} {ia ib : E} {m1 m2 m : Md} {f : D → D → Env → R D} {r : R2} {σ : L2.St} {H : Hp} {Q : VK} {pk : List Nat} {F : Hp} {A : Nat → List Addr} {ρ : Env} (hm1 : m1 ≠ .fresh) (hp : ∀ j ∈ pks ia, j ∉ tch ib)
    (R : Rel X.K io G F H o A ρ σ) (P : PostR (RE m X.K G o3 pk) T X.K io W G F H o A ρ (tch ia ++ tch ib) o3 σ Q ((evE Φ gl ia ρ).bind fun x ρ1 => (evE Φ gl ib ρ1).bind fun y ρ2 => f x y ρ2))
    (fin : ∀ (x y : D) (ρ2 : Env) (F2 H2 : Hp) (A2 : Nat → List Addr) (v w : V), Rel X.K io G F2 H2 o2 A2 ρ2 σ → RM m1 X.K G F2 H2 o2 A2 ρ2 (pks ia) x v → RM m2 X.K G F2 H2 o2 A2 ρ2 (pks ib) y w → PostR (RE m X.K G o3 pk) T X.K io W G F2 H2 o2 A2 ρ2 [] o3 σ Q (f x y ρ2) → r v w H2 Q) :
    tOp r (TEx T X.K io W G o (tch ia) o1 m1 (pks ia) (evE Φ gl ia)) (TEx T X.K io W G o1 (tch ib) o2 m2 (pks ib) (evE Φ gl ib)) σ H Q := by
  refine ⟨F, A, ρ, R, P.bind (sub_l XO) (sub_r XO) fun x ρ1 F1 H1 A1 v R1 g1 f1 w1 P1 => ⟨F1, A1, ρ1, R1, P1.bind (tc2 := []) (fun _ h => h) (fun _ _ => by simp) fun y ρ2 F2 H2 A2 w R2 g2 f2 w2 P2 => ?_⟩⟩
  exact fin x y ρ2 F2 H2 A2 v w R2 (w1.step hm1 g2 f2 hp) w2 P2
theorem se_bin {a b : Expr} {ia ib : E} {pos : Pos} {op : Bop} {m1 m2 : Md} (hm1 : m1 ≠ .fresh) (hp : ∀ j ∈ pks ia, j ∉ tch ib) (ha : SE T Φ gl X c.io W G a ia o o1 m1) (hb : SE T Φ gl X c.io W G b ib o1 o2 m2) :
    SE T Φ gl X c.io W G (.BinOp a (opO op) b pos) (.bin op ia ib) o o2 .fresh := by
  refine PE.imp (pe_op (bin_any op) ha hb) fun σ H Q ⟨F, A, ρ, R, P⟩ => ?_
  refine two XO (r := rD2 X.K (binD op)) (m2 := m2) (f := fun x y ρ2 => optR (binD op x y) ρ2) hm1 hp R P fun x y ρ2 F2 H2 A2 v w R2 w1 w2 P2 => ?_
  obtain ⟨z, hz, P3⟩ := PostR.opt P2
  exact ⟨F2, G.Lk, x, y, z, R2.sub, w1.view R2, w2.view R2, hz, fun w' H' nw => post_nw XO R2 P3 nw⟩
theorem cmp_marks {b : Expr} (op : Cop) (h : (match b with | .Set _ _ _ => false | _ => true) = true) : behindInMarks (opC op) b = false := by
  cases b <;> first | rfl | cases h
theorem se_cmp {a b : Expr} {ia ib : E} {pos : Pos} {op : Cop} {m1 m2 : Md} (hm1 : m1 ≠ .fresh) (hp : ∀ j ∈ pks ia, j ∉ tch ib) (hs : (match b with | .Set _ _ _ => false | _ => true) = true) (ha : SE T Φ gl X c.io W G a ia o o1 m1) (hb : SE T Φ gl X c.io W G b ib o1 o2 m2) :
    SE T Φ gl X c.io W G (.Compare a [opC op] [b] pos) (.cmp op ia ib) o o2 .keep := by
  refine PE.imp (pe_cmpR (cmp_any XO.hu op) ha hb (cmp_marks XO op hs)) fun σ H Q ⟨F, A, ρ, R, P⟩ => ?_
  refine two XO (r := rB2 X.K (cmpD op)) (m2 := m2) (f := fun x y ρ2 => (optR (cmpD op x y) ρ2).bind fun k ρ3 => .ok (.bl k) ρ3) hm1 hp R P fun x y ρ2 F2 H2 A2 v w R2 w1 w2 P2 => ?_
  cases hz : cmpD op x y with
  | none => rw [hz] at P2; exact False.elim P2
  | some k =>
    rw [hz] at P2
    exact ⟨F2, G.Lk, x, y, k, R2.sub, w1.view R2, w2.view R2, hz, post_sc XO R2 P2 (.bl k)⟩
abbrev ST (T : Tab) (Φ : Fns) (gl : Nat → D) (X : Cx) (io : List Nat) (W : WX) (G : Gh) (e : Expr) (ir : E) (o o' : List Bool) : Prop := PT X e (TTx T X.K io W G o (tch ir) o' (evC Φ gl ir))
abbrev SW (T : Tab) (Φ : Fns) (gl : Nat → D) (X : Cx) (io : List Nat) (W : WX) (G : Gh) (e : Expr) (ir : E) (o o' : List Bool) : Prop := PW X e (TTx T X.K io W G o (tch ir) o' (evC Φ gl ir))
/-- an end of a test -/
theorem post_b {io : List Nat} {F H : Hp} {A : Nat → List Addr} {ρ : Env} {tc : List Nat} {σ : L2.St} {Q : Bool → Hp → Prop} {k : Bool} (R : Rel X.K io G F H o A ρ σ) (P : PostR RT T X.K io W G F H o A ρ tc o σ Q (.ok k ρ)) : Q k H :=
  P F H A k R (.refl F) .refl rfl
theorem two_t {io : List Nat} {ia ib : E} {m1 m2 : Md} {f : D → D → Env → R Bool} {r : R2} {σ : L2.St} {H : Hp} {Q : Bool → Hp → Prop} {F : Hp} {A : Nat → List Addr} {ρ : Env} (hm1 : m1 ≠ .fresh) (hp : ∀ j ∈ pks ia, j ∉ tch ib)
    (R : Rel X.K io G F H o A ρ σ) (P : PostR RT T X.K io W G F H o A ρ (tch ia ++ tch ib) o3 σ Q ((evE Φ gl ia ρ).bind fun x ρ1 => (evE Φ gl ib ρ1).bind fun y ρ2 => f x y ρ2))
    (fin : ∀ (x y : D) (ρ2 : Env) (F2 H2 : Hp) (A2 : Nat → List Addr) (v w : V), Rel X.K io G F2 H2 o2 A2 ρ2 σ → RM m1 X.K G F2 H2 o2 A2 ρ2 (pks ia) x v → RM m2 X.K G F2 H2 o2 A2 ρ2 (pks ib) y w → PostR RT T X.K io W G F2 H2 o2 A2 ρ2 [] o3 σ Q (f x y ρ2) → r v w H2 (fun z H3 => ∃ k, z = .bl k ∧ Q k H3)) :
    tTest (tOp r (TEx T X.K io W G o (tch ia) o1 m1 (pks ia) (evE Φ gl ia)) (TEx T X.K io W G o1 (tch ib) o2 m2 (pks ib) (evE Φ gl ib))) σ H Q := by
  refine ⟨F, A, ρ, R, P.bind (sub_l XO) (sub_r XO) fun x ρ1 F1 H1 A1 v R1 g1 f1 w1 P1 => ⟨F1, A1, ρ1, R1, P1.bind (tc2 := []) (fun _ h => h) (fun _ _ => by simp) fun y ρ2 F2 H2 A2 w R2 g2 f2 w2 P2 => ?_⟩⟩
  exact fin x y ρ2 F2 H2 A2 v w R2 (w1.step hm1 g2 f2 hp) w2 P2
theorem bind_assoc {α β γ : Type} (r : R α) (f : α → Env → R β) (g : β → Env → R γ) : (r.bind f).bind g = r.bind fun a ρ => (f a ρ).bind g := by
  cases r <;> rfl
theorem st_cmp {a b : Expr} {ia ib : E} {pos : Pos} {op : Cop} {m1 m2 : Md} (hm1 : m1 ≠ .fresh) (hp : ∀ j ∈ pks ia, j ∉ tch ib) (hs : (match b with | .Set _ _ _ => false | _ => true) = true) (ha : SE T Φ gl X c.io W G a ia o o1 m1) (hb : SE T Φ gl X c.io W G b ib o1 o2 m2) :
    ST T Φ gl X c.io W G (.Compare a [opC op] [b] pos) (.cmp op ia ib) o o2 := by
  refine PT.imp (pt_cmpR (cmp_any XO.hu op) ha hb (cmp_marks XO op hs)) fun σ H Q ⟨F, A, ρ, R, P⟩ => ?_
  have e : evC Φ gl (.cmp op ia ib) ρ = (evE Φ gl ia ρ).bind fun x ρ1 => (evE Φ gl ib ρ1).bind fun y ρ2 => optR (cmpD op x y) ρ2 := by
    unfold evC
    simp only [evE, bind_assoc XO]
    congr 1; funext x ρ1; congr 1; funext y ρ2
    cases cmpD op x y <;> rfl
  rw [e] at P
  refine two_t XO (r := rB2 X.K (cmpD op)) (m2 := m2) (f := fun x y ρ2 => optR (cmpD op x y) ρ2) hm1 hp R P fun x y ρ2 F2 H2 A2 v w R2 w1 w2 P2 => ?_
  obtain ⟨k, hz, P3⟩ := PostR.opt P2
  exact ⟨F2, G.Lk, x, y, k, R2.sub, w1.view R2, w2.view R2, hz, k, rfl, post_b XO R2 P3⟩
/-- any other expression's truth -/
def plainT : Expr → Bool
  | .UnaryOp .Not _ _ => false
  | .BoolOp _ _ _ => false
  | .IfExp _ _ _ _ => false
  | .Compare _ _ _ _ => false
  | _ => true
theorem plainT_ok {e : Expr} (h : plainT e = true) (env : PySem.Env) : ∀ whole, PySem.isTrue e env whole = (do let v ← whole; standAt e.pos; holding [v] (truthy v)) := by
  intro whole
  cases e with
  | UnaryOp op x pos => cases op <;> first | rfl | cases h
  | BoolOp op xs pos => cases h
  | IfExp a b c pos => cases h
  | Compare a b c pos => cases h
  | _ => rfl
theorem post_tru {m : Md} {F H : Hp} {A : Nat → List Addr} {ρ : Env} {σ : L2.St} {pk tc : List Nat} {d : D} {v : V} {Q : Bool → Hp → Prop} (R : Rel X.K c.io G F H o A ρ σ) (w : RM m X.K G F H o A ρ pk d v) (P : PostR RT T X.K c.io W G F H o A ρ tc o σ Q (truR d ρ)) : ∃ k, TruV X.K v H k ∧ truth d = some k ∧ Q k H := by
  obtain ⟨k, hk, P2⟩ := PostR.opt P
  exact ⟨k, tru_of (w.view R) hk, hk, post_b XO R P2⟩
theorem st_truth {e : Expr} {ir : E} {m : Md} (hp : plainT e = true) (h : SE T Φ gl X c.io W G e ir o o1 m) : ST T Φ gl X c.io W G e ir o o1 := by
  refine PT.imp (pt_truth h (plainT_ok XO hp X.env)) fun σ H Q ⟨F, A, ρ, R, P⟩ => ?_
  refine ⟨F, A, ρ, R, PostR.bind (tc1 := tch ir) (tc2 := []) (k := fun x ρ1 => truR x ρ1) P (fun _ h => h) (fun _ _ => by simp) fun x ρ1 F1 H1 A1 v R1 g1 f1 w1 P1 => ?_⟩
  obtain ⟨k, h1, _, h3⟩ := post_tru XO R1 w1 P1
  exact ⟨k, h1, h3⟩
theorem se_not {a : Expr} {ia : E} {pos : Pos} {m : Md} (h : SE T Φ gl X c.io W G a ia o o1 m) : SE T Φ gl X c.io W G (.UnaryOp .Not a pos) (.not ia) o o1 .keep := by
  refine PE.imp (pe_notT h) fun σ H Q ⟨F, A, ρ, R, P⟩ => ?_
  refine ⟨F, A, ρ, R, PostR.bind (tc1 := tch ia) (tc2 := []) (k := fun x ρ1 => (truR x ρ1).bind fun b ρ2 => PX.R.ok (D.bl (!b)) ρ2) P (fun _ h => h) (fun _ _ => by simp) fun x ρ1 F1 H1 A1 v R1 g1 f1 w1 P1 => ?_⟩
  cases hk : truth x with
  | none => unfold truR at P1; rw [hk] at P1; exact False.elim P1
  | some k =>
    unfold truR at P1
    rw [hk] at P1
    exact ⟨k, tru_of (w1.view R1) hk, post_sc XO R1 P1 (.bl _)⟩
theorem st_not {a : Expr} {ia : E} {pos : Pos} (h : ST T Φ gl X c.io W G a ia o o1) : ST T Φ gl X c.io W G (.UnaryOp .Not a pos) (.not ia) o o1 := by
  refine PT.imp (pt_not h) fun σ H Q ⟨F, A, ρ, R, P⟩ => ?_
  have e : evC Φ gl (.not ia) ρ = (evC Φ gl ia ρ).bind fun b ρ1 => .ok (!b) ρ1 := by
    unfold evC
    simp only [evE, bind_assoc XO]
    congr 1
  rw [e] at P
  exact ⟨F, A, ρ, R, PostR.bind (tc1 := tch ia) (tc2 := []) (k := fun b ρ1 => PX.R.ok (!b) ρ1) P (fun _ h => h) (fun _ _ => by simp) fun x ρ1 F1 H1 A1 v R1 g1 f1 w1 P1 => by
    have e : x = v := w1
    subst e
    exact post_b XO R1 P1⟩
theorem se_neg {a : Expr} {ia : E} {pos : Pos} {m : Md} (h : SE T Φ gl X c.io W G a ia o o1 m) : SE T Φ gl X c.io W G (.UnaryOp .USub a pos) (.neg ia) o o1 .keep := by
  refine PE.imp (pe_un un_neg h) fun σ H Q ⟨F, A, ρ, R, P⟩ => ?_
  refine ⟨F, A, ρ, R, PostR.bind (tc1 := tch ia) (tc2 := []) (k := fun x ρ1 => optR (negD x) ρ1) P (fun _ h => h) (fun _ _ => by simp) fun x ρ1 F1 H1 A1 v R1 g1 f1 w1 P1 => ?_⟩
  obtain ⟨z, hz, P2⟩ := PostR.opt P1
  have vw := w1.view R1
  cases vw with
  | int i =>
    obtain rfl := Option.some.inj hz
    exact ⟨i, rfl, post_sc XO R1 P2 (.int _)⟩
  | _ => cases hz
/-- where two ways join: the one that owns less -/
def leO (o1 o2 : List Bool) : Prop := ∀ i, ow o1 i = true → ow o2 i = true
theorem rel_le {F H : Hp} {A : Nat → List Addr} {ρ : Env} {σ : L2.St} (n : Nat) (R : Rel X.K c.io G F H o A ρ σ) (l : leO o1 o) (hio : ∀ i ∈ c.io, ow o1 i = true) (hn : ∀ i, n ≤ i → ow o1 i = ow o i) : ∃ F', Grow F F' ∧ Rel X.K c.io G F' H o1 A ρ σ := by
  induction n generalizing o F with
  | zero =>
    refine ⟨F, .refl F, ?_⟩
    have e : ∀ i, ow o1 i = ow o i := fun i => hn i (Nat.zero_le _)
    exact ⟨R.sub, R.lkF, R.f0, R.new, R.dom, R.keep, R.len, fun i d h => by rw [e i]; exact R.sl i d h, fun i d h w => R.own i d h (by rw [← e i]; exact w), fun i j d f ij hi hj wi wj => R.dis i j d f ij hi hj (by rw [← e i]; exact wi) (by rw [← e j]; exact wj), fun i hi => ⟨hio i hi, (R.ioo i hi).2⟩⟩
  | succ n ih =>
    by_cases q : ow o1 n = ow o n
    · exact ih R l fun i hi => by
        by_cases z : i = n
        · rw [z]; exact q
        · exact hn i (by omega)
    · have w1 : ow o1 n = false := by
        cases h : ow o1 n with
        | false => rfl
        | true => exact absurd (h.trans (l n h).symm) q
      have nio : n ∉ c.io := fun z => by rw [hio n z] at w1; cases w1
      obtain ⟨F1, g1, R1⟩ := R.freeze nio
      obtain ⟨F2, g2, R2⟩ := ih R1 (fun i hi => by
        have ne : n ≠ i := fun z => by rw [← z, w1] at hi; cases hi
        rw [ow_set_ne ne]; exact l i hi) (fun i hi => by
        by_cases z : i = n
        · rw [z, w1, ow_set_false]
        · rw [ow_set_ne (fun q => z q.symm)]; exact hn i (by omega))
      exact ⟨F2, g1.trans g2, R2⟩
theorem se_one {b : Expr} {ib : E} {pos : Pos} {op : BoolOp} {m : Md} (h : SE T Φ gl X c.io W G b ib o o1 m) : SE T Φ gl X c.io W G (.BoolOp op [b] pos) ib o o1 m := pe_one h
theorem se_and {a b : Expr} {rest : List Expr} {ia ib : E} {pos : Pos} (ha : SE T Φ gl X c.io W G a ia o o1 .keep) (hb : SE T Φ gl X c.io W G (.BoolOp .And (b :: rest) pos) ib o1 o1 .keep) :
    SE T Φ gl X c.io W G (.BoolOp .And (a :: b :: rest) pos) (.and ia ib) o o1 .keep := by
  refine PE.imp (pe_andT ha hb) fun σ H Q ⟨F, A, ρ, R, P⟩ => ?_
  refine ⟨F, A, ρ, R, PostR.bind (tc1 := tch ia) (tc2 := tch ib) (k := fun x ρ1 => (truR x ρ1).bind fun k ρ2 => if k then evE Φ gl ib ρ2 else PX.R.ok x ρ2) P (sub_l XO) (sub_r XO) fun x ρ1 F1 H1 A1 v R1 g1 f1 w1 P1 => ?_⟩
  cases hk : truth x with
  | none => unfold truR at P1; rw [hk] at P1; exact False.elim P1
  | some k =>
    unfold truR at P1
    rw [hk] at P1
    refine ⟨k, tru_of (RM.view R1 w1) hk, ?_⟩
    cases k with
    | true => exact iteT ⟨F1, A1, ρ1, R1, P1⟩
    | false => exact iteF (P1 F1 H1 A1 v R1 (.refl _) .refl w1)
theorem se_or {a b : Expr} {rest : List Expr} {ia ib : E} {pos : Pos} (ha : SE T Φ gl X c.io W G a ia o o1 .keep) (hb : SE T Φ gl X c.io W G (.BoolOp .Or (b :: rest) pos) ib o1 o1 .keep) :
    SE T Φ gl X c.io W G (.BoolOp .Or (a :: b :: rest) pos) (.or ia ib) o o1 .keep := by
  refine PE.imp (pe_orT ha hb) fun σ H Q ⟨F, A, ρ, R, P⟩ => ?_
  refine ⟨F, A, ρ, R, PostR.bind (tc1 := tch ia) (tc2 := tch ib) (k := fun x ρ1 => (truR x ρ1).bind fun k ρ2 => if k then PX.R.ok x ρ2 else evE Φ gl ib ρ2) P (sub_l XO) (sub_r XO) fun x ρ1 F1 H1 A1 v R1 g1 f1 w1 P1 => ?_⟩
  cases hk : truth x with
  | none => unfold truR at P1; rw [hk] at P1; exact False.elim P1
  | some k =>
    unfold truR at P1
    rw [hk] at P1
    refine ⟨k, tru_of (RM.view R1 w1) hk, ?_⟩
    cases k with
    | false => exact iteF ⟨F1, A1, ρ1, R1, P1⟩
    | true => exact iteT (P1 F1 H1 A1 v R1 (.refl _) .refl w1)
theorem evC_and (ia ib : E) (ρ : Env) : evC Φ gl (.and ia ib) ρ = (evC Φ gl ia ρ).bind fun k ρ1 => if k then evC Φ gl ib ρ1 else .ok false ρ1 := by
  unfold evC
  simp only [evE, bind_assoc XO]
  congr 1; funext x ρ1
  unfold truR
  cases h : truth x with
  | none => rfl
  | some k => cases k with
    | true => rfl
    | false => show optR (truth x) ρ1 = _; rw [h]; rfl
theorem evC_or (ia ib : E) (ρ : Env) : evC Φ gl (.or ia ib) ρ = (evC Φ gl ia ρ).bind fun k ρ1 => if k then .ok true ρ1 else evC Φ gl ib ρ1 := by
  unfold evC
  simp only [evE, bind_assoc XO]
  congr 1; funext x ρ1
  unfold truR
  cases h : truth x with
  | none => rfl
  | some k => cases k with
    | false => rfl
    | true => show optR (truth x) ρ1 = _; rw [h]; rfl
theorem sw_and1 {b : Expr} {ib : E} {pos : Pos} (h : ST T Φ gl X c.io W G b ib o o1) : SW T Φ gl X c.io W G (.BoolOp .And [b] pos) ib o o1 := pw_and1 h
theorem sw_or1 {b : Expr} {ib : E} {pos : Pos} (h : ST T Φ gl X c.io W G b ib o o1) : SW T Φ gl X c.io W G (.BoolOp .Or [b] pos) ib o o1 := pw_or1 h
theorem sw_and {a b : Expr} {rest : List Expr} {ia ib : E} {pos : Pos} (ha : ST T Φ gl X c.io W G a ia o o1) (hb : SW T Φ gl X c.io W G (.BoolOp .And (b :: rest) pos) ib o1 o1) :
    SW T Φ gl X c.io W G (.BoolOp .And (a :: b :: rest) pos) (.and ia ib) o o1 := by
  have h := pw_and (X := X) ha hb
  refine ⟨fun wh pins s σ H Q I hq => h.run wh pins s σ H Q I ?_⟩
  obtain ⟨F, A, ρ, R, P⟩ := hq
  rw [evC_and XO] at P
  refine ⟨F, A, ρ, R, PostR.bind (tc1 := tch ia) (tc2 := tch ib) (k := fun k ρ1 => if k then evC Φ gl ib ρ1 else PX.R.ok false ρ1) P (sub_l XO) (sub_r XO) fun x ρ1 F1 H1 A1 v R1 g1 f1 w1 P1 => ?_⟩
  have e : x = v := w1
  subst e
  cases x with
  | true => exact iteT ⟨F1, A1, ρ1, R1, P1⟩
  | false => exact iteF (post_b XO R1 P1)
theorem sw_or {a b : Expr} {rest : List Expr} {ia ib : E} {pos : Pos} (ha : ST T Φ gl X c.io W G a ia o o1) (hb : SW T Φ gl X c.io W G (.BoolOp .Or (b :: rest) pos) ib o1 o1) :
    SW T Φ gl X c.io W G (.BoolOp .Or (a :: b :: rest) pos) (.or ia ib) o o1 := by
  have h := pw_or (X := X) ha hb
  refine ⟨fun wh pins s σ H Q I hq => h.run wh pins s σ H Q I ?_⟩
  obtain ⟨F, A, ρ, R, P⟩ := hq
  rw [evC_or XO] at P
  refine ⟨F, A, ρ, R, PostR.bind (tc1 := tch ia) (tc2 := tch ib) (k := fun k ρ1 => if k then PX.R.ok true ρ1 else evC Φ gl ib ρ1) P (sub_l XO) (sub_r XO) fun x ρ1 F1 H1 A1 v R1 g1 f1 w1 P1 => ?_⟩
  have e : x = v := w1
  subst e
  cases x with
  | false => exact iteF ⟨F1, A1, ρ1, R1, P1⟩
  | true => exact iteT (post_b XO R1 P1)
/-- a if t else b -/
theorem se_ite {t a b : Expr} {it ia ib : E} {pos : Pos} {m : Md} (hm : pks (.ite it ia ib) = pks ia → True) (ht : ST T Φ gl X c.io W G t it o o1) (ha : SE T Φ gl X c.io W G a ia o1 o2 .keep) (hb : SE T Φ gl X c.io W G b ib o1 o2 .keep) :
    SE T Φ gl X c.io W G (.IfExp t a b pos) (.ite it ia ib) o o2 .keep := by
  refine PE.imp (pe_ifExp ht ha hb) fun σ H Q ⟨F, A, ρ, R, P⟩ => ?_
  have e : evE Φ gl (.ite it ia ib) ρ = (evC Φ gl it ρ).bind fun k ρ2 => if k then evE Φ gl ia ρ2 else evE Φ gl ib ρ2 := by
    unfold evC
    simp only [evE, bind_assoc XO]
  rw [e] at P
  refine ⟨F, A, ρ, R, PostR.bind (tc1 := tch it) (tc2 := tch ia ++ tch ib) (k := fun k ρ2 => if k then evE Φ gl ia ρ2 else evE Φ gl ib ρ2) P (sub_l XO) (sub_r XO) fun x ρ1 F1 H1 A1 v R1 g1 f1 w1 P1 => ?_⟩
  have e : x = v := w1
  subst e
  cases x with
  | true => exact iteT ⟨F1, A1, ρ1, R1, PostR.mono (tc := tch ia ++ tch ib) P1 (sub_l XO)⟩
  | false => exact iteF ⟨F1, A1, ρ1, R1, PostR.mono (tc := tch ia ++ tch ib) P1 (sub_r XO)⟩
/-- a op b op c -/
theorem chn_marks {b d : Expr} (o1 o2 : Cop) (h : (match d with | .Set _ _ _ => false | _ => true) = true) : lastMarks [opC o1, opC o2] [b, d] = false := by
  show behindInMarks (opC o2) d = false
  exact cmp_marks XO o2 h
theorem se_chn {a b d : Expr} {ia ib id : E} {pos : Pos} {p1 p2 : Cop} {m1 m2 m3 : Md} (hm1 : m1 ≠ .fresh) (hm2 : m2 ≠ .fresh) (hp1 : ∀ j ∈ pks ia, j ∉ tch ib) (hp2 : ∀ j ∈ pks ib, j ∉ tch id) (hs : (match d with | .Set _ _ _ => false | _ => true) = true)
    (ha : SE T Φ gl X c.io W G a ia o o1 m1) (hb : SE T Φ gl X c.io W G b ib o1 o2 m2) (hd : SE T Φ gl X c.io W G d id o2 o2 m3) :
    SE T Φ gl X c.io W G (.Compare a [opC p1, opC p2] [b, d] pos) (.chn p1 p2 ia ib id) o o2 .keep := by
  refine PE.imp (pe_chain (cmp_any XO.hu p1) (cmp_any XO.hu p2) ha hb hd (chn_marks XO p1 p2 hs)) fun σ H Q ⟨F, A, ρ, R, P⟩ => ?_
  refine ⟨F, A, ρ, R, PostR.bind (tc1 := tch ia) (tc2 := tch ib ++ tch id) P (sub_l XO) (sub_r XO) fun x ρ1 F1 H1 A1 v R1 g1 f1 w1 P1 => ⟨F1, A1, ρ1, R1, PostR.bind (tc1 := tch ib) (tc2 := tch id) P1 (sub_l XO) (sub_r XO) fun y ρ2 F2 H2 A2 w R2 g2 f2 w2 P2 => ?_⟩⟩
  have w1' := w1.step hm1 g2 f2 hp1
  cases hk : cmpD p1 x y with
  | none => rw [hk] at P2; exact False.elim P2
  | some k =>
    rw [hk] at P2
    refine ⟨F2, G.Lk, x, y, k, R2.sub, w1'.view R2, w2.view R2, hk, k, rfl, ?_⟩
    cases k with
    | false => exact iteF (post_sc XO R2 (PostR.mono (tc := tch id) (tc1 := tch id) P2 fun _ h => h) (.bl _))
    | true =>
      refine iteT ⟨F2, A2, ρ2, R2, PostR.bind (tc1 := tch id) (tc2 := []) P2 (fun _ h => h) (fun _ _ => by simp) fun z ρ3 F3 H3 A3 u R3 g3 f3 w3 P3 => ?_⟩
      have w2' := w2.step hm2 g3 f3 hp2
      cases hk2 : cmpD p2 y z with
      | none => rw [hk2] at P3; exact False.elim P3
      | some k2 =>
        rw [hk2] at P3
        exact ⟨F3, G.Lk, y, z, k2, R3.sub, w2'.view R3, w3.view R3, hk2, post_sc XO R3 P3 (.bl _)⟩
theorem st_chn {a b d : Expr} {ia ib id : E} {pos : Pos} {p1 p2 : Cop} {m1 m2 m3 : Md} (hm1 : m1 ≠ .fresh) (hm2 : m2 ≠ .fresh) (hp1 : ∀ j ∈ pks ia, j ∉ tch ib) (hp2 : ∀ j ∈ pks ib, j ∉ tch id) (hs : (match d with | .Set _ _ _ => false | _ => true) = true)
    (ha : SE T Φ gl X c.io W G a ia o o1 m1) (hb : SE T Φ gl X c.io W G b ib o1 o2 m2) (hd : SE T Φ gl X c.io W G d id o2 o2 m3) :
    ST T Φ gl X c.io W G (.Compare a [opC p1, opC p2] [b, d] pos) (.chn p1 p2 ia ib id) o o2 := by
  refine PT.imp (pt_chain (cmp_any XO.hu p1) (cmp_any XO.hu p2) ha hb hd (chn_marks XO p1 p2 hs)) fun σ H Q ⟨F, A, ρ, R, P⟩ => ?_
  have e : evC Φ gl (.chn p1 p2 ia ib id) ρ = (evE Φ gl ia ρ).bind fun x ρ1 => (evE Φ gl ib ρ1).bind fun y ρ2 => (optR (cmpD p1 x y) ρ2).bind fun k ρ3 => if k then (evE Φ gl id ρ3).bind fun z ρ4 => optR (cmpD p2 y z) ρ4 else .ok false ρ3 := by
    unfold evC
    simp only [evE, bind_assoc XO]
    congr 1; funext x ρ1; congr 1; funext y ρ2
    cases cmpD p1 x y with
    | none => rfl
    | some k =>
      cases k with
      | false => rfl
      | true =>
        show ((evE Φ gl id ρ2).bind _).bind _ = (evE Φ gl id ρ2).bind _
        rw [bind_assoc XO]
        congr 1; funext z ρ4
        cases cmpD p2 y z <;> rfl
  rw [e] at P
  refine ⟨F, A, ρ, R, PostR.bind (tc1 := tch ia) (tc2 := tch ib ++ tch id) P (sub_l XO) (sub_r XO) fun x ρ1 F1 H1 A1 v R1 g1 f1 w1 P1 => ⟨F1, A1, ρ1, R1, PostR.bind (tc1 := tch ib) (tc2 := tch id) P1 (sub_l XO) (sub_r XO) fun y ρ2 F2 H2 A2 w R2 g2 f2 w2 P2 => ?_⟩⟩
  have w1' := w1.step hm1 g2 f2 hp1
  cases hk : cmpD p1 x y with
  | none => rw [hk] at P2; exact False.elim P2
  | some k =>
    rw [hk] at P2
    refine ⟨F2, G.Lk, x, y, k, R2.sub, w1'.view R2, w2.view R2, hk, k, rfl, ?_⟩
    cases k with
    | false => exact iteF ⟨false, rfl, post_b XO R2 (PostR.mono (tc := tch id) (tc1 := tch id) P2 fun _ h => h)⟩
    | true =>
      refine iteT ⟨F2, A2, ρ2, R2, PostR.bind (tc1 := tch id) (tc2 := []) P2 (fun _ h => h) (fun _ _ => by simp) fun z ρ3 F3 H3 A3 u R3 g3 f3 w3 P3 => ?_⟩
      have w2' := w2.step hm2 g3 f3 hp2
      obtain ⟨k2, hk2, P4⟩ := PostR.opt P3
      exact ⟨F3, G.Lk, y, z, k2, R3.sub, w2'.view R3, w3.view R3, hk2, k2, rfl, post_b XO R3 P4⟩
def notStar : Expr → Bool
  | .Starred _ _ => false
  | _ => true
theorem star_ok {e : Expr} {es : List Expr} (h : notStar e = true) (env : PySem.Env) : starEach (e :: es) env = (false, eval e env) :: starEach es env := by
  cases e <;> first | rfl | cases h
theorem star_none : ∀ {es : List Expr}, (es.all notStar) = true → ∀ (pos : Pos) (env : PySem.Env), (backTo pos (starEach es env)).any (·.1) = false
  | [], _, _, _ => rfl
  | e :: es, h, pos, env => by
    rw [List.all_cons, Bool.and_eq_true] at h
    rw [star_ok XO h.1]
    show (false || (backTo pos (starEach es env)).any (·.1)) = false
    rw [Bool.false_or]
    exact star_none h.2 pos env
/-- shared results -/
abbrev RLk (K : PySem.W.Frag) : Hp → Hp → (Nat → List Addr) → Env → List D → List V → Prop := fun F _ _ _ ds vs => RepL K F ds vs
abbrev SA (T : Tab) (Φ : Fns) (gl : Nat → D) (X : Cx) (io : List Nat) (W : WX) (G : Gh) (es : List Expr) (irs : List E) (o o' : List Bool) : Prop := PA X es (TX (RLk X.K) T X.K io W G o (tchs irs) o' (evEs Φ gl irs))
theorem sa_nil : SA T Φ gl X c.io W G [] [] o o := PA.imp pa_nil fun σ H Q ⟨F, A, ρ, R, P⟩ => P F H A [] R (.refl F) .refl .nil
theorem sa_cons {e : Expr} {es : List Expr} {ie : E} {irs : List E} (hn : notStar e = true) (h : SE T Φ gl X c.io W G e ie o o1 .keep) (hr : SA T Φ gl X c.io W G es irs o1 o2) : SA T Φ gl X c.io W G (e :: es) (ie :: irs) o o2 := by
  refine PA.imp (pa_cons h hr (star_ok XO hn X.env)) fun σ H Q ⟨F, A, ρ, R, P⟩ => ?_
  refine ⟨F, A, ρ, R, PostR.bind (tc1 := tch ie) (tc2 := tchs irs) P (sub_l XO) (sub_r XO) fun x ρ1 F1 H1 A1 v R1 g1 f1 w1 P1 => ⟨F1, A1, ρ1, R1, PostR.bind (tc1 := tchs irs) (tc2 := []) P1 (fun _ h => h) (fun _ _ => by simp) fun xs ρ2 F2 H2 A2 vs R2 g2 f2 w2 P2 => ?_⟩⟩
  exact P2 F2 H2 A2 (v :: vs) R2 (.refl F2) .refl (.cons (Rep.grow g2 w1) w2)
/-- results that are only looked at -/
inductive RPs (K : PySem.W.Frag) (G : Gh) (F H : Hp) (o : List Bool) (A : Nat → List Addr) (ρ : Env) : List E → List D → List V → Prop
  | nil : RPs K G F H o A ρ [] [] []
  | cons {ie : E} {irs : List E} {d : D} {ds : List D} {v : V} {vs : List V} : RM .peek K G F H o A ρ (pks ie) d v → RPs K G F H o A ρ irs ds vs → RPs K G F H o A ρ (ie :: irs) (d :: ds) (v :: vs)
theorem RPs.views {irs : List E} {F H : Hp} {A : Nat → List Addr} {ρ : Env} {σ : L2.St} (R : Rel X.K c.io G F H o A ρ σ) : ∀ {ds : List D} {vs : List V}, RPs X.K G F H o A ρ irs ds vs → ViewL X.K F H ds vs := by
  intro ds vs h
  induction h with
  | nil => exact .nil
  | cons w _ ih => exact .cons (w.view R) ih
abbrev SP (T : Tab) (Φ : Fns) (gl : Nat → D) (X : Cx) (io : List Nat) (W : WX) (G : Gh) (es : List Expr) (irs : List E) (o o' : List Bool) : Prop := PA X es (TX (fun F H A ρ ds vs => RPs X.K G F H o' A ρ irs ds vs) T X.K io W G o (tchs irs) o' (evEs Φ gl irs))
theorem sp_nil : SP T Φ gl X c.io W G [] [] o o := PA.imp pa_nil fun σ H Q ⟨F, A, ρ, R, P⟩ => P F H A [] R (.refl F) .refl .nil
theorem sp_cons {e : Expr} {es : List Expr} {ie : E} {irs : List E} (hn : notStar e = true) (hp : ∀ j ∈ pks ie, j ∉ tchs irs) (h : SE T Φ gl X c.io W G e ie o o1 .peek) (hr : SP T Φ gl X c.io W G es irs o1 o2) : SP T Φ gl X c.io W G (e :: es) (ie :: irs) o o2 := by
  refine PA.imp (pa_cons h hr (star_ok XO hn X.env)) fun σ H Q ⟨F, A, ρ, R, P⟩ => ?_
  refine ⟨F, A, ρ, R, PostR.bind (tc1 := tch ie) (tc2 := tchs irs) P (sub_l XO) (sub_r XO) fun x ρ1 F1 H1 A1 v R1 g1 f1 w1 P1 => ⟨F1, A1, ρ1, R1, PostR.bind (tc1 := tchs irs) (tc2 := []) P1 (fun _ h => h) (fun _ _ => by simp) fun xs ρ2 F2 H2 A2 vs R2 g2 f2 w2 P2 => ?_⟩⟩
  exact P2 F2 H2 A2 (v :: vs) R2 (.refl F2) .refl (.cons (RM.step (by decide) w1 g2 f2 hp) w2)

theorem evEs_len : ∀ {irs : List E} {ρ ρ' : Env} {ds : List D}, evEs Φ gl irs ρ = .ok ds ρ' → ds.length = irs.length
  | [], _, _, _, h => by cases h; rfl
  | e :: irs, ρ, ρ', ds, h => by
    have h' : ((evE Φ gl e ρ).bind fun x ρ1 => (evEs Φ gl irs ρ1).bind fun xs ρ2 => PX.R.ok (x :: xs) ρ2) = .ok ds ρ' := h
    cases h1 : evE Φ gl e ρ with
    | ok x ρ1 =>
      rw [h1] at h'
      cases h2 : evEs Φ gl irs ρ1 with
      | ok xs ρ2 =>
        have h'' : ((evEs Φ gl irs ρ1).bind fun xs ρ2 => PX.R.ok (x :: xs) ρ2) = .ok ds ρ' := h'
        rw [h2] at h''
        cases h''
        rw [List.length_cons, List.length_cons, evEs_len h2]
      | _ =>
        have h'' : ((evEs Φ gl irs ρ1).bind fun xs ρ2 => PX.R.ok (x :: xs) ρ2) = .ok ds ρ' := h'
        rw [h2] at h''; cases h''
    | _ => rw [h1] at h'; cases h'
theorem se_tup {es : List Expr} {irs : List E} {k : Nat} {pos : Pos} (hl : irs.length ≤ 1000) (h : SA T Φ gl X c.io W G es irs o o1) : SE T Φ gl X c.io W G (.Tuple es k pos) (.tup irs) o o1 .fresh := by
  refine PE.imp (pe_tup h) fun σ H Q ⟨F, A, ρ, R, P⟩ => ?_
  refine ⟨F, A, ρ, R, ?_⟩
  have P' : PostR (RE .fresh X.K G o1 (pks (.tup irs))) T X.K c.io W G F H o A ρ (tchs irs) o1 σ Q ((evEs Φ gl irs ρ).bind fun xs ρ1 => .ok (.tup xs) ρ1) := P
  cases e : evEs Φ gl irs ρ with
  | fail => rw [e] at P'; exact P'
  | exc c d ρ' => rw [e] at P'; exact P'
  | ok ds ρ1 =>
    rw [e] at P'
    intro F1 H1 A1 vs R1 g1 f1 w1
    have hlen := evEs_len XO e
    have hl2 : ds.length ≤ PX.sizeLine := Nat.le_trans (by rw [hlen]; exact hl) (by decide)
    refine ⟨by rw [← RepL.length w1, ← line_eq]; exact hl2, fun p hp => ?_⟩
    obtain ⟨F2, R2, g2, f2, m2⟩ := Nw.rel R1 (Nw.tup (R1.sub.free hp) hp hl2 w1)
    exact P' F2 _ A1 _ R2 (g1.trans g2) (f1.trans f2 (fun _ h => h) fun _ _ => by simp) m2
theorem se_lst {es : List Expr} {irs : List E} {pos : Pos} (hl : irs.length ≤ 1000) (h : SA T Φ gl X c.io W G es irs o o1) : SE T Φ gl X c.io W G (.List es pos) (.lst irs) o o1 .fresh := by
  refine PE.imp (pe_lst h) fun σ H Q ⟨F, A, ρ, R, P⟩ => ?_
  refine ⟨F, A, ρ, R, ?_⟩
  have P' : PostR (RE .fresh X.K G o1 (pks (.lst irs))) T X.K c.io W G F H o A ρ (tchs irs) o1 σ Q ((evEs Φ gl irs ρ).bind fun xs ρ1 => .ok (.lst xs) ρ1) := P
  cases e : evEs Φ gl irs ρ with
  | fail => rw [e] at P'; exact P'
  | exc c d ρ' => rw [e] at P'; exact P'
  | ok ds ρ1 =>
    rw [e] at P'
    intro F1 H1 A1 vs R1 g1 f1 w1
    have hlen := evEs_len XO e
    have hl2 : ds.length ≤ PX.sizeLine := Nat.le_trans (by rw [hlen]; exact hl) (by decide)
    refine ⟨by rw [← RepL.length w1, ← line_eq]; exact hl2, fun p hp => ?_⟩
    obtain ⟨F2, R2, g2, f2, m2⟩ := Nw.rel R1 (Nw.lst (R1.sub.free hp) hp hl2 w1)
    exact P' F2 _ A1 _ R2 (g1.trans g2) (f1.trans f2 (fun _ h => h) fun _ _ => by simp) m2

def plainIx : Expr → Bool
  | .Slice _ _ _ _ => false
  | _ => true
end
end PX
end
section
set_option Elab.async false
set_option linter.all false
set_option maxRecDepth 100000
set_option maxHeartbeats 4000000
namespace PX
open PySem L2

section
variable {K : PySem.W.Frag} {F : Hp}
theorem eqB_nums : ∀ (ms ns : List Int), eqBs (ms.map D.int) (ns.map D.int) = decide (ms = ns)
  | [], [] => rfl
  | [], _ :: _ => rfl
  | _ :: _, [] => rfl
  | m :: ms, n :: ns => by
    show (eqB (.int m) (.int n) && eqBs (ms.map D.int) (ns.map D.int)) = _
    rw [eqB_nums ms ns]
    show (m == n && decide (ms = ns)) = _
    rw [Bool.eq_iff_iff]
    simp
theorem nums_eq : ∀ {ds : List D} {ns : List Int}, nums ds = some ns → ds = ns.map D.int
  | [], ns, h => by
    obtain rfl := Option.some.inj (show some [] = some ns from h); rfl
  | .int i :: ds, ns, h => by
    obtain ⟨ms, h1, rfl⟩ := Option.map_eq_some_iff.mp (show (nums ds).map (i :: ·) = some ns from h)
    rw [nums_eq h1]; rfl
  | .non :: _, _, h => by cases h
  | .bl _ :: _, _, h => by cases h
  | .str _ :: _, _, h => by cases h
  | .tup _ :: _, _, h => by cases h
  | .lst _ :: _, _, h => by cases h
  | .dic _ _ :: _, _, h => by cases h
  | .obj _ _ :: _, _, h => by cases h
  | .exc _ _ :: _, _, h => by cases h
  | .scr _ :: _, _, h => by cases h
theorem inl_map (ns : List Int) : (ns.map (Sum.inl : Int → L2.Key)).map kV = ns.map V.int := by
  rw [List.map_map]; rfl
theorem inl_inj : ∀ {ms ns : List Int}, ms.map (Sum.inl : Int → L2.Key) = ns.map Sum.inl → ms = ns
  | [], [], _ => rfl
  | [], _ :: _, h => by cases h
  | _ :: _, [], h => by cases h
  | m :: ms, n :: ns, h => by
    have h1 := (List.cons.inj h).1
    have h2 := (List.cons.inj h).2
    have e : m = n := Sum.inl.inj h1
    rw [e, inl_inj h2]
/-- a key that is found or not -/
inductive Found (K : PySem.W.Frag) (F : Hp) : Option D → Option V → Prop
  | no : Found K F none none
  | yes {d : D} {v : V} : Rep K F d v → Found K F (some d) (some v)
theorem RepT.look {ns : List Int} : ∀ {es : List (D × D)} {kvs : List (List L2.Key × V)}, RepT K F es kvs → Found K F (PX.look (.tup (ns.map .int)) es) (valV kvs (ns.map Sum.inl))
  | _, _, .nil => .no
  | _, _, @RepT.cons _ _ ms d es v kvs _ _ r t => by
    have e1 : PX.look (.tup (ns.map .int)) ((.tup (ms.map .int), d) :: es) = if decide (ms = ns) = true then some d else PX.look (.tup (ns.map .int)) es := by
      show (if eqBs (ms.map D.int) (ns.map D.int) = true then some d else _) = _
      rw [eqB_nums]
    rw [e1]
    by_cases q : ms = ns
    · subst q
      rw [if_pos (decide_eq_true rfl), valV_pos rfl]
      exact .yes r
    · rw [if_neg (by simp [q]), valV_neg (fun z => q (inl_inj z))]
      exact RepT.look t
theorem keyV_eqB {a k : D} {p q : L2.Key} (ha : keyV a = some p) (hk : keyV k = some q) : eqB a k = decide (p = q) := by
  cases a with
  | int i =>
    obtain rfl := Option.some.inj ha
    cases k with
    | int j =>
      obtain rfl := Option.some.inj hk
      show (i == j) = _
      rw [Bool.eq_iff_iff]; simp
    | str s =>
      obtain rfl := Option.some.inj hk
      exact (decide_eq_false fun z => nomatch z).symm
    | _ => cases hk
  | str s =>
    obtain rfl := Option.some.inj ha
    cases k with
    | int j =>
      obtain rfl := Option.some.inj hk
      exact (decide_eq_false fun z => nomatch z).symm
    | str s =>
      obtain rfl := Option.some.inj hk
      show decide _ = _
      rw [Bool.eq_iff_iff]; simp
    | _ => cases hk
  | _ => cases ha
theorem RepK.look {k : D} {q : L2.Key} (hk : keyV k = some q) : ∀ {es : List (D × D)} {kvs : List (L2.Key × V)}, RepK K F es kvs → Found K F (PX.look k es) (valV kvs q)
  | _, _, .nil => .no
  | _, _, @RepK.cons _ _ a d es p v kvs ha _ r t => by
    have e1 : PX.look k ((a, d) :: es) = if decide (p = q) = true then some d else PX.look k es := by
      show (if eqB a k = true then some d else _) = _
      rw [keyV_eqB ha hk]
    rw [e1]
    by_cases z : p = q
    · rw [if_pos (decide_eq_true z), valV_pos z]
      exact .yes r
    · rw [if_neg (by simp [z]), valV_neg z]
      exact RepK.look hk t
theorem putK_cons {κ : Type} [DecidableEq κ] (p : κ) (v w : V) (kvs : List (κ × V)) (q : κ) (nd : valV kvs p = none) : L2.putK ((p, v) :: kvs) q w = if p = q then (p, w) :: kvs else (p, v) :: L2.putK kvs q w := by
  by_cases z : p = q
  · subst z
    rw [if_pos rfl]
    unfold L2.putK
    rw [if_pos (by simp)]
    rw [List.map_cons]
    simp only [if_pos]
    congr 1
    have h : ∀ kv ∈ kvs, kv.1 ≠ p := fun kv hm z => by
      have e := valV_any p kvs
      rw [nd] at e
      have : (kvs.any fun kv => decide (kv.1 = p)) = true := List.any_eq_true.mpr ⟨kv, hm, decide_eq_true z⟩
      rw [this] at e; cases e
    clear nd
    induction kvs with
    | nil => rfl
    | cons a r ih =>
      rw [List.map_cons, if_neg (h a (by simp)), ih fun kv hm => h kv (List.mem_cons_of_mem _ hm)]
  · rw [if_neg z]
    unfold L2.putK
    by_cases y : (kvs.any fun kv => decide (kv.1 = q)) = true
    · rw [if_pos y, if_pos (by rw [List.any_cons, y, Bool.or_true]), List.map_cons, if_neg z]
    · rw [if_neg y, if_neg (by rw [List.any_cons]; simp only [z, decide_false, Bool.false_or]; exact y)]; rfl
theorem val_none {κ : Type} [DecidableEq κ] {kvs : List (κ × V)} {q : κ} (h : ∀ p ∈ kvs, p.1 ≠ q) : valV kvs q = none := by
  induction kvs with
  | nil => rfl
  | cons a r ih =>
    rw [valV_neg (h a (by simp))]
    exact ih fun p hp => h p (List.mem_cons_of_mem _ hp)
theorem putK_keys {κ : Type} [DecidableEq κ] : ∀ {kvs : List (κ × V)} {q : κ} {w : V} {p : κ × V}, p ∈ L2.putK kvs q w → p.1 = q ∨ ∃ r ∈ kvs, r.1 = p.1 := by
  intro kvs q w p h
  unfold L2.putK at h
  split at h
  · obtain ⟨a, ha, rfl⟩ := List.mem_map.mp h
    by_cases z : a.1 = q
    · rw [if_pos z]; exact .inl z
    · rw [if_neg z]; exact .inr ⟨a, ha, rfl⟩
  · rcases List.mem_append.mp h with h | h
    · exact .inr ⟨p, h, rfl⟩
    · rw [List.mem_singleton.mp h]; exact .inl rfl
theorem RepT.put {ns : List Int} {d : D} {w : V} (hl : ns.length ≤ PX.sizeLine) (rd : Rep K F d w) : ∀ {es : List (D × D)} {kvs : List (List L2.Key × V)}, RepT K F es kvs → RepT K F (PX.putK (.tup (ns.map .int)) d es) (L2.putK kvs (ns.map Sum.inl) w)
  | _, _, .nil => .cons hl (fun p hp => by cases hp) rd .nil
  | _, _, @RepT.cons _ _ ms e es v kvs l n r t => by
    have e1 : PX.putK (.tup (ns.map .int)) d ((.tup (ms.map .int), e) :: es) = if decide (ms = ns) = true then (.tup (ms.map .int), d) :: es else (.tup (ms.map .int), e) :: PX.putK (.tup (ns.map .int)) d es := by
      show (if eqBs (ms.map D.int) (ns.map D.int) = true then _ else _) = _
      rw [eqB_nums]
    rw [e1, putK_cons _ _ _ _ _ (val_none n)]
    by_cases q : ms = ns
    · subst q
      rw [if_pos (decide_eq_true rfl), if_pos rfl]
      exact .cons l n rd t
    · have q2 : ms.map (Sum.inl : Int → L2.Key) ≠ ns.map Sum.inl := fun z => q (inl_inj z)
      rw [if_neg (by simp [q]), if_neg q2]
      refine .cons l (fun p hp => ?_) r (RepT.put hl rd t)
      rcases putK_keys hp with z | ⟨a, ha, z⟩
      · rw [z]; exact fun z => q2 z.symm
      · rw [← z]; exact n a ha
theorem RepK.put {k d : D} {q : L2.Key} {w : V} (hk : keyV k = some q) (rd : Rep K F d w) : ∀ {es : List (D × D)} {kvs : List (L2.Key × V)}, RepK K F es kvs → RepK K F (PX.putK k d es) (L2.putK kvs q w)
  | _, _, .nil => .cons hk (fun p hp => by cases hp) rd .nil
  | _, _, @RepK.cons _ _ a e es p v kvs ha n r t => by
    have e1 : PX.putK k d ((a, e) :: es) = if decide (p = q) = true then (a, d) :: es else (a, e) :: PX.putK k d es := by
      show (if eqB a k = true then _ else _) = _
      rw [keyV_eqB ha hk]
    rw [e1, putK_cons _ _ _ _ _ (val_none n)]
    by_cases z : p = q
    · rw [if_pos (decide_eq_true z), if_pos z]
      exact .cons ha n rd t
    · rw [if_neg (by simp [z]), if_neg z]
      refine .cons ha (fun x hx => ?_) r (RepK.put hk rd t)
      rcases putK_keys hx with y | ⟨b, hb, y⟩
      · rw [y]; exact fun y => z y.symm
      · rw [← y]; exact n b hb
theorem RepK.length : ∀ {es : List (D × D)} {kvs : List (L2.Key × V)}, RepK K F es kvs → es.length = kvs.length
  | _, _, .nil => rfl
  | _, _, .cons _ _ _ t => by rw [List.length_cons, List.length_cons, RepK.length t]
theorem RepT.length : ∀ {es : List (D × D)} {kvs : List (List L2.Key × V)}, RepT K F es kvs → es.length = kvs.length
  | _, _, .nil => rfl
  | _, _, .cons _ _ _ t => by rw [List.length_cons, List.length_cons, RepT.length t]
/-- a readable dict, asked by a readable key -/
theorem dget_of {H : Hp} {t : Bool} {es : List (D × D)} {k : D} {x y : V} (vx : View K F H (.dic t es) x) (vy : View K F H k y) (hk : isKey t k = true) : ∃ a r, x = .ref a ∧ DGet H a y r ∧ Found K F (PX.look k es) r := by
  cases vx with
  | @dK a kvs es ha ra =>
    cases vy with
    | int i => exact ⟨a, _, rfl, .inl ⟨kvs, .inl i, ha, rfl, rfl⟩, ra.look rfl⟩
    | str s => exact ⟨a, _, rfl, .inl ⟨kvs, .inr s, ha, rfl, rfl⟩, ra.look rfl⟩
    | _ => cases hk
  | @dT a kvs es ha ra =>
    cases vy with
    | @tup b xs ds fb hb lb rb =>
      have hk' : (true && (nums ds).isSome) = true := hk
      rw [Bool.true_and] at hk'
      obtain ⟨ns, e⟩ := Option.isSome_iff_exists.mp hk'
      obtain rfl := nums_eq e
      rw [rb.nums e] at hb
      exact ⟨a, _, rfl, .inr ⟨kvs, ns.map Sum.inl, b, ha, rfl, by rw [inl_map]; exact hb, rfl⟩, ra.look⟩
    | _ => cases hk
end

section
variable {T : Tab} {Φ : Fns} {gl : Nat → D} {c : Ctx} {X : Cx} {W : WX} {G : Gh} {o o1 o2 o3 : List Bool}
theorem PE.or {e : Expr} {t t' : TE} (h : PE X e t) (h' : PE X e t') : PE X e (fun σ H Q => t σ H Q ∨ t' σ H Q) := ⟨fun pins s σ H Q I q => q.elim (h.run pins s σ H Q I) (h'.run pins s σ H Q I)⟩
theorem plainIx_ok {b : Expr} (h : plainIx b = true) : PlainIx b := by
  intro o i
  cases b <;> first | rfl | cases h
variable (XO : XOk T Φ gl c X W)
include XO
theorem PostR.bindE {α β γ δ : Type} {K : PySem.W.Frag} {io : List Nat} {F H : Hp} {o o' o1 : List Bool} {A : Nat → List Addr} {ρ : Env} {tc tc1 tc2 : List Nat} {σ : L2.St} {RMa : Hp → Hp → (Nat → List Addr) → Env → α → β → Prop} {RMc : Hp → Hp → (Nat → List Addr) → Env → γ → δ → Prop} {r : R α} {k : α → Env → R γ} {Q : δ → Hp → Prop} {Q1 : β → Hp → Prop}
    (P : PostR RMc T K io W G F H o A ρ tc o' σ Q (r.bind k)) (h1 : ∀ j, j ∉ tc → j ∉ tc1) (h2 : ∀ j, j ∉ tc → j ∉ tc2)
    (h : ∀ (a : α) (ρ1 : Env) (F1 H1 : Hp) (A1 : Nat → List Addr) (v : β), r = .ok a ρ1 → Rel K io G F1 H1 o1 A1 ρ1 σ → Grow F F1 → Frm tc1 o o1 A A1 ρ ρ1 H H1 → RMa F1 H1 A1 ρ1 a v → PostR RMc T K io W G F1 H1 o1 A1 ρ1 tc2 o' σ Q (k a ρ1) → Q1 v H1) :
    PostR RMa T K io W G F H o A ρ tc1 o1 σ Q1 r := by
  cases r with
  | fail => exact P
  | exc c d ρ' => exact P
  | ok a ρ1 =>
    intro F1 H1 A1 v R1 g1 f1 m1
    refine h a ρ1 F1 H1 A1 v rfl R1 g1 f1 m1 ?_
    have P' : PostR RMc T K io W G F H o A ρ tc o' σ Q (k a ρ1) := P
    cases e : k a ρ1 with
    | fail => rw [e] at P'; exact P'
    | exc c d ρ' => rw [e] at P'; exact P'
    | ok b ρ2 =>
      rw [e] at P'
      intro F2 H2 A2 w R2 g2 f2 m2
      exact P' F2 H2 A2 w R2 (g1.trans g2) (f1.trans f2 h1 h2) m2
theorem se_ix {a b : Expr} {ia ib : E} {pos : Pos} {m1 m2 : Md} (hm1 : m1 ≠ .fresh) (hp : ∀ j ∈ pks ia, j ∉ tch ib) (hb' : plainIx b = true) (ha : SE T Φ gl X c.io W G a ia o o1 m1) (hb : SE T Φ gl X c.io W G b ib o1 o2 m2) :
    SE T Φ gl X c.io W G (.Subscript a b pos) (.ix ia ib) o o2 .keep := by
  refine PE.imp (PE.or (pe_ix ix_any ha hb (plainIx_ok hb')) (pe_dget (by have := XO.hu; omega) ha hb (plainIx_ok hb'))) fun σ H Q ⟨F, A, ρ, R, P⟩ => ?_
  have key : ∀ (r : R2), (∀ (x y : D) (ρ1 ρ2 : Env) (F2 H2 : Hp) (A2 : Nat → List Addr) (v w : V), evE Φ gl ia ρ = .ok x ρ1 → Rel X.K c.io G F2 H2 o2 A2 ρ2 σ → View X.K F2 H2 x v → View X.K F2 H2 y w → PostR (RE .keep X.K G o2 (pks (.ix ia ib))) T X.K c.io W G F2 H2 o2 A2 ρ2 [] o2 σ Q (optR (ixD x y) ρ2) → r v w H2 Q) →
      tOp r (TEx T X.K c.io W G o (tch ia) o1 m1 (pks ia) (evE Φ gl ia)) (TEx T X.K c.io W G o1 (tch ib) o2 m2 (pks ib) (evE Φ gl ib)) σ H Q := by
    intro r fin
    refine ⟨F, A, ρ, R, PostR.bindE XO (tc1 := tch ia) (tc2 := tch ib) (k := fun x ρ1 => (evE Φ gl ib ρ1).bind fun y ρ2 => optR (ixD x y) ρ2) P (sub_l XO) (sub_r XO) fun x ρ1 F1 H1 A1 v ex R1 g1 f1 w1 P1 => ⟨F1, A1, ρ1, R1, PostR.bind (tc1 := tch ib) (tc2 := []) P1 (fun _ h => h) (fun _ _ => by simp) fun y ρ2 F2 H2 A2 w R2 g2 f2 w2 P2 => ?_⟩⟩
    exact fin x y ρ1 ρ2 F2 H2 A2 v w ex R2 ((w1.step hm1 g2 f2 hp).view R2) (w2.view R2) P2
  by_cases isd : ∃ t es ρ1, evE Φ gl ia ρ = .ok (.dic t es) ρ1
  · obtain ⟨t, es, ρ0, e0⟩ := isd
    refine .inr (key (fun x y H Q => ∃ a v, x = .ref a ∧ DGet H a y (some v) ∧ Q v H) fun x y ρ1 ρ2 F2 H2 A2 v w ex R2 w1 w2 P2 => ?_)
    rw [e0] at ex
    cases ex
    obtain ⟨z, hz, P3⟩ := PostR.opt P2
    have hz' : (if isKey t y = true then PX.look y es else none) = some z := hz
    by_cases hk : isKey t y = true
    · rw [if_pos hk] at hz'
      obtain ⟨a, r, rfl, dg, fd⟩ := dget_of w1 w2 hk
      rw [hz'] at fd
      cases fd with
      | yes rp => exact ⟨a, _, rfl, dg, post_sc XO R2 P3 rp⟩
    · rw [if_neg hk] at hz'; cases hz'
  · refine .inl (key (rIt2 X.K ixS) fun x y ρ1 ρ2 F2 H2 A2 v w ex R2 w1 w2 P2 => ?_)
    obtain ⟨z, hz, P3⟩ := PostR.opt P2
    refine ⟨F2, G.Lk, x, y, z, R2.sub, w1, w2, ?_, fun u rp => post_sc XO R2 P3 rp⟩
    cases x with
    | dic t es => exact absurd ⟨t, es, ρ1, ex⟩ isd
    | _ => cases y <;> exact hz
/-- a part of a slice: none, or a number -/
abbrev SO (T : Tab) (Φ : Fns) (gl : Nat → D) (X : Cx) (io : List Nat) (W : WX) (G : Gh) (e : Option Expr) (ir : E) (o : List Bool) : Prop :=
  PO X e (TX (fun _ _ _ _ d p => partD d = some p) T X.K io W G o (tch ir) o fun ρ => (evE Φ gl ir ρ).bind partR)
omit XO in
theorem so_none : SO T Φ gl X c.io W G none (.con .non) o := ⟨fun pins s σ H Q I ⟨F, A, ρ, R, P⟩ => po_none.run pins s σ H Q I (P F H A none R (.refl F) .refl rfl)⟩
theorem so_some {e : Expr} {ir : E} {m : Md} (h : SE T Φ gl X c.io W G e ir o o m) : SO T Φ gl X c.io W G (some e) ir o := by
  refine ⟨fun pins s σ H Q I ⟨F, A, ρ, R, P⟩ => ?_⟩
  rw [evalPart_some]
  refine thn (h.run pins s σ H (fun x H1 => (x = .non ∧ Q none H1) ∨ ∃ i, x = .int i ∧ Q (some i) H1) I ⟨F, A, ρ, R, PostR.bind (tc1 := tch ir) (tc2 := []) P (fun _ h => h) (fun _ _ => by simp) fun x ρ1 F1 H1 A1 v R1 g1 f1 w1 P1 => ?_⟩) fun u s1 ⟨x, H1, I1, r1, q1⟩ => ?_
  · have vw := w1.view R1
    cases vw with
    | non => exact .inl ⟨rfl, P1 F1 H1 A1 none R1 (.refl F1) .refl rfl⟩
    | int i => exact .inr ⟨i, rfl, P1 F1 H1 A1 (some i) R1 (.refl F1) .refl rfl⟩
    | _ => exact False.elim P1
  · rcases q1 with ⟨rfl, q⟩ | ⟨i, rfl, q⟩
    · obtain rfl : u = Value.none := r1
      exact ⟨none, H1, I1, .none, q⟩
    · obtain ⟨t, rfl⟩ := r1
      exact ⟨some i, H1, I1, .int i t, q⟩
theorem se_slc {a : Expr} {lo hi : Option Expr} {ia il ih : E} {pos p2 : Pos} {m1 : Md} (hm1 : m1 ≠ .fresh) (hp : ∀ j ∈ pks ia, j ∉ tch il ++ tch ih) (ha : SE T Φ gl X c.io W G a ia o o1 m1) (hl : SO T Φ gl X c.io W G lo il o1) (hh : SO T Φ gl X c.io W G hi ih o1) :
    SE T Φ gl X c.io W G (.Subscript a (.Slice lo hi none p2) pos) (.slc ia il ih) o o1 .fresh := by
  refine PE.imp (pe_slice sl_any ha hl hh) fun σ H Q ⟨F, A, ρ, R, P⟩ => ?_
  refine ⟨F, A, ρ, R, PostR.bind (tc1 := tch ia) (tc2 := tch il ++ tch ih) (k := fun x ρ1 => ((evE Φ gl il ρ1).bind partR).bind fun l ρ2 => ((evE Φ gl ih ρ2).bind partR).bind fun h ρ3 => optR (slcD x l h) ρ3) P (sub_l XO) (sub_r XO) fun x ρ1 F1 H1 A1 v R1 g1 f1 w1 P1 => ?_⟩
  refine ⟨F1, A1, ρ1, R1, PostR.bind (tc1 := tch il) (tc2 := tch ih) (k := fun l ρ2 => ((evE Φ gl ih ρ2).bind partR).bind fun h ρ3 => optR (slcD x l h) ρ3) P1 (sub_l XO) (sub_r XO) fun l ρ2 F2 H2 A2 lv R2 g2 f2 w2 P2 => ?_⟩
  refine ⟨F2, A2, ρ2, R2, PostR.bind (tc1 := tch ih) (tc2 := []) (k := fun h ρ3 => optR (slcD x l h) ρ3) P2 (fun _ h => h) (fun _ _ => by simp) fun h ρ3 F3 H3 A3 hv R3 g3 f3 w3 P3 => ?_⟩
  have w1' := (w1.step hm1 g2 f2 (fun j hj z => hp j hj (List.mem_append_left _ z))).step hm1 g3 f3 (fun j hj z => hp j hj (List.mem_append_right _ z))
  obtain ⟨z, hz, P4⟩ := PostR.opt P3
  refine ⟨F3, G.Lk, x, z, R3.sub, w1'.view R3, ?_, fun w H' nw => post_nw XO R3 P4 nw⟩
  have hl' : partD l = some lv := w2
  have hh' : partD h = some hv := w3
  unfold slcD at hz
  rw [hl', hh'] at hz
  cases x <;> first | exact hz | cases hz
omit XO in
theorem star_cons (h : ∀ e ∈ ([] : List Expr), notStar e = true) : True := trivial
/-- the name, whether it is a type -/
def biNm : Bi → Option (Str × String × Bool)
  | .abs => some ("abs", "abs", false) | .max2 => some ("max", "max", false) | .max1 => some ("max", "max", false) | .min2 => some ("min", "min", false) | .min1 => some ("min", "min", false)
  | .tupleOf => some ("tuple", "tuple", true) | .listOf => some ("list", "list", true) | .sum => some ("sum", "sum", false) | .len => some ("len", "len", false)
  | .any => some ("any", "any", false) | .all => some ("all", "all", false) | .intOf => some ("int", "int", true) | .sorted => some ("sorted", "sorted", false)
  | _ => none
theorem bi_call {b : Bi} {x : Str} {n : String} {t : Bool} (h : biNm b = some (x, n, t)) : CallR X (if t = true then .type n else .builtin n) (rBi X.K b) ∧ bootBuiltins x = some (if t = true then .type n else .builtin n) ∧ x ≠ "__name__" ∧ (x == ("__debug__" : Str)) = false := by
  have hc := XO.calm
  have hu := XO.hu
  cases b <;> cases h
  · exact ⟨bi_abs, by decide +kernel, by decide, by decide⟩
  · exact ⟨bi_max2 hc, by decide +kernel, by decide, by decide⟩
  · exact ⟨bi_min2 hc, by decide +kernel, by decide, by decide⟩
  · exact ⟨bi_max1 hc, by decide +kernel, by decide, by decide⟩
  · exact ⟨bi_min1 hc, by decide +kernel, by decide, by decide⟩
  · exact ⟨bi_tuple, by decide +kernel, by decide, by decide⟩
  · exact ⟨bi_list, by decide +kernel, by decide, by decide⟩
  · exact ⟨bi_sum hc, by decide +kernel, by decide, by decide⟩
  · exact ⟨bi_len, by decide +kernel, by decide, by decide⟩
  · exact ⟨bi_any hc, by decide +kernel, by decide, by decide⟩
  · exact ⟨bi_all hc, by decide +kernel, by decide, by decide⟩
  · exact ⟨bi_int, by decide +kernel, by decide, by decide⟩
  · exact ⟨bi_sorted (by omega), by decide +kernel, by decide, by decide⟩
theorem se_bi {b : Bi} {x : Str} {n : String} {t : Bool} {e : Expr} {es : List Expr} {irs : List E} {p pos : Pos} (h : biNm b = some (x, n, t)) (hg : Gl X x) (hf : x ∈ T.frees) (hn : notStar e = true) (hns : es.all notStar = true)
    (ha : SP T Φ gl X c.io W G (e :: es) irs o o1) : SE T Φ gl X c.io W G (.Call (.Name x p) (e :: es) [] pos) (.bi b irs) o o1 .fresh := by
  obtain ⟨h1, h2, h3, h4⟩ := bi_call XO h
  have base : PE X (.Call (.Name x p) (e :: es) [] pos) (tCB (rBi X.K b) (TX (fun F H A ρ ds vs => RPs X.K G F H o1 A ρ irs ds vs) T X.K c.io W G o (tchs irs) o1 (evEs Φ gl irs))) := by
    cases t with
    | true => exact pe_callTy h1 hg (XO.frees x hf) h2 ha h3 h4 (star_ok XO hn X.env) (star_none XO hns pos X.env)
    | false => exact pe_callB h1 hg (XO.frees x hf) h2 ha h3 h4 (star_ok XO hn X.env) (star_none XO hns pos X.env)
  refine PE.imp base fun σ H Q ⟨F, A, ρ, R, P⟩ => ?_
  refine ⟨F, A, ρ, R, PostR.bind (tc1 := tchs irs) (tc2 := []) (k := fun ds ρ1 => optR (biD b ds) ρ1) P (fun _ h => h) (fun _ _ => by simp) fun ds ρ1 F1 H1 A1 vs R1 g1 f1 w1 P1 => ?_⟩
  obtain ⟨z, hz, P2⟩ := PostR.opt P1
  exact ⟨F1, G.Lk, ds, z, R1.sub, w1.views XO R1, hz, fun w H' nw => post_nw XO R1 P2 nw⟩
theorem boot_isn {b : Bi} {n : String} {f : Nat → Bool} (h : isT b = some (n, f)) (x : Str) (hx : x = .ofString n) : bootBuiltins x = some (.type n) ∧ x ≠ "__name__" ∧ (x == ("__debug__" : Str)) = false := by
  subst hx
  cases b <;> cases h <;> exact ⟨by decide +kernel, by decide, by decide⟩
theorem se_isi {b : Bi} {n : String} {f : Nat → Bool} {x : Str} {e : Expr} {ia : E} {p p2 pos : Pos} {m : Md} (h : isT b = some (n, f)) (hx : x = .ofString n) (hg : Gl X "isinstance") (hf : ("isinstance" : Str) ∈ T.frees) (hg2 : Gl X x) (hf2 : x ∈ T.frees) (hn : notStar e = true)
    (ha : SE T Φ gl X c.io W G e ia o o1 m) (hm : m ≠ .fresh) : SE T Φ gl X c.io W G (.Call (.Name "isinstance" p) [e, .Name x p2] [] pos) (.bi b [ia]) o o1 .fresh := by
  obtain ⟨h1, h2, h3⟩ := boot_isn XO h x hx
  have args := pa_cons ha (pa_cons (pe_bltn (X := X) (pos := p2) hg2 (XO.frees x hf2) h1 (r := (by rfl : RelV (.ty n) _)) h2 h3) pa_nil rfl) (star_ok XO hn X.env)
  refine PE.imp (pe_callB (x := "isinstance") (p := p) (pos := pos) (bi_isinst h) hg (XO.frees _ hf) (by decide +kernel) args (by decide) (by decide) (star_ok XO hn X.env) (star_none XO (by rfl) pos X.env)) fun σ H Q ⟨F, A, ρ, R, P⟩ => ?_
  have e1 : evE Φ gl (.bi b [ia]) ρ = (evE Φ gl ia ρ).bind fun d ρ1 => optR (biD b [d]) ρ1 := by
    simp only [evE, evEs, bind_assoc XO]
    rfl
  rw [e1] at P
  refine ⟨F, A, ρ, R, PostR.bind (tc1 := tch ia) (tc2 := []) (k := fun d ρ1 => optR (biD b [d]) ρ1) P (fun j h z => h (by show j ∈ tchs [ia]; simp [tchs]; exact z)) (fun _ _ => by simp) fun d ρ1 F1 H1 A1 v R1 g1 f1 w1 P1 => ?_⟩
  obtain ⟨z, hz, P2⟩ := PostR.opt P1
  exact ⟨F1, G.Lk, d, z, v, R1.sub, rfl, w1.view R1, hz, fun w H' nw => post_nw XO R1 P2 nw⟩
end
end PX
end
section
set_option Elab.async false
set_option linter.all false
set_option maxRecDepth 100000
set_option maxHeartbeats 4000000
namespace PX
open PySem L2

section
variable {K : PySem.W.Frag} {io : List Nat} {G : Gh} {F F' H H' : Hp} {o : List Bool} {A : Nat → List Addr} {ρ : Env} {σ : L2.St} {i : Nat} {d : D} {v : V} {B : List Addr}
def unset : Option Nat → Env → Env
  | none, ρ => ρ
  | some i, ρ => st ρ i none
/-- a call has changed the objects at B -/
theorem Rel.aft {sk : Option Nat} (r : Rel K io G F H o A ρ σ) (a : Aft F H F' H' B) (hb : ∀ b ∈ B, F b = none ∧ (G.H0 b = none ∨ b ∈ G.M)) (ap : ∀ j d, sk ≠ some j → gt ρ j = some d → ow o j = true → ∀ b ∈ B, b ∉ A j) :
    Rel K io G F' H' o A (unset sk ρ) σ := by
  generalize hρ : unset sk ρ = ρ'
  have hl : ρ'.length = ρ.length := by
    subst hρ
    cases sk with
    | none => rfl
    | some i => exact st_length _ _ _
  have hg : ∀ j d, gt ρ' j = some d → gt ρ j = some d ∧ sk ≠ some j := fun j d e => by
    subst hρ
    cases sk with
    | none => exact ⟨e, fun z => nomatch z⟩
    | some i =>
      rcases gt_st_some e with ⟨_, z⟩ | ⟨ne, z⟩
      · cases z
      · exact ⟨z, fun q => ne (Option.some.inj q).symm⟩
  clear hρ
  have kp : ∀ b, H b ≠ none → b ∉ B → H' b = H b := fun b h1 h2 => by
    cases e : H b with
    | none => exact absurd e h1
    | some u => rw [a.keep b u e h2]
  have fn : ∀ b, (∃ u, H b = some u ∧ notTup u) → F b = none → F' b = none := fun b ⟨w, hw, nt⟩ hf => by
    cases e : F' b with
    | none => rfl
    | some u =>
      rcases a.sub b u e with z | ⟨_, z | ⟨vs, z⟩⟩
      · rw [hf] at z; cases z
      · rw [hw] at z; cases z
      · rw [hw] at z; cases z; exact absurd rfl (nt vs)
  have fb : ∀ b, F b ≠ none → b ∉ B := fun b h z => h (hb b z).1
  refine ⟨fun b u e => ?_, fun b e => ?_, r.f0.trans a.grow, fun b e => ?_, ⟨fun b e => a.dom b (r.dom.1 b e), fun b hm => ?_⟩, fun b u e m l => ?_, hl.trans r.len, fun j d e => ?_, fun j d e h b hj => ?_, fun j k d e jk hj hk => r.dis j k d e jk (hg j d hj).1 (hg k e hk).1, r.ioo⟩
  · rcases a.sub b u e with z | ⟨z2, z1⟩
    · have q := r.sub b u z
      have nb := fb b (by rw [z]; exact fun z => nomatch z)
      cases l : G.Lk b with
      | none => rw [l] at q; exact a.keep _ _ q nb
      | some od => rw [l] at q; exact ⟨q.1, a.keep _ _ q.2 nb⟩
    · have lk : G.Lk b = none := by
        cases fb : F b with
        | none => exact r.lkF b fb
        | some w =>
          have q := r.sub b w fb
          cases l : G.Lk b with
          | none => rfl
          | some od =>
            rw [l] at q
            rcases z1 with z | ⟨vs, z⟩
            · rw [z] at q; cases q.2
            · rw [z] at q; cases q.2
      rw [lk]; exact z2
  · refine r.lkF b ?_
    cases q : F b with
    | none => rfl
    | some u => rw [a.grow _ _ q] at e; cases e
  · cases q : F' b with
    | none => exact absurd q e
    | some u =>
      rcases a.sub b u q with z | ⟨_, z1 | ⟨vs, z1⟩⟩
      · exact r.new b (by rw [z]; exact fun z => nomatch z)
      · refine .inr (.inl ?_)
        cases w : G.H0 b with
        | none => rfl
        | some x => exact absurd z1 (r.dom.1 b (by rw [w]; exact fun z => nomatch z))
      · by_cases hF : F b = none
        · cases w : G.H0 b with
          | none => exact .inr (.inl rfl)
          | some x =>
            refine .inr (.inr ⟨vs, ?_⟩)
            have nm : b ∉ G.M := fun hm => by
              obtain ⟨y, hy, nt⟩ := r.dom.2 b hm
              rw [z1] at hy; cases hy; exact nt vs rfl
            have := r.keep b x w nm (r.lkF b hF)
            rw [z1] at this; rw [this]
        · exact r.new b hF
  · by_cases hB : b ∈ B
    · exact a.mm b hB
    · obtain ⟨u, e, n⟩ := r.dom.2 b hm
      exact ⟨u, a.keep b u e hB, n⟩
  · refine a.keep b u (r.keep b u e m l) fun z => ?_
    rcases (hb b z).2 with q | q
    · rw [q] at e; cases e
    · exact m q
  · obtain ⟨e, ne⟩ := hg j d e
    obtain ⟨v, h1, h2⟩ := r.sl j d e
    refine ⟨v, h1, ?_⟩
    by_cases h : ow o j = true
    · rw [if_pos h] at h2 ⊢
      exact h2.keep a.grow fun b hj => kp b (h2.has b hj) fun z => ap j d ne e h b z hj
    · rw [if_neg h] at h2 ⊢
      exact h2.grow a.grow
  · obtain ⟨e, ne⟩ := hg j d e
    obtain ⟨h1, h2⟩ := r.own j d e h b hj
    obtain ⟨v, _, q⟩ := r.owned e h
    exact ⟨fn b (q.noTup hj) h1, h2⟩
/-- an owned slot gets its content back -/
theorem Rel.put (r : Rel K io G F H o A ρ σ) (hn : gt ρ i = none) (hi : i < ρ.length) (ho : ow o i = true) (hv : σ[i]? = some (some v)) (x : Own K F H d v B) (hb : ∀ b ∈ B, F b = none ∧ (G.H0 b = none ∨ (i ∈ io ∧ b ∈ G.M))) (ap : ∀ j d, gt ρ j = some d → ow o j = true → ∀ b ∈ B, b ∉ A j) :
    Rel K io G F H o (updA A i B) (st ρ i (some d)) σ := by
  have ne : ∀ j e, gt ρ j = some e → j ≠ i := fun j e h z => by subst z; rw [hn] at h; cases h
  refine ⟨r.sub, r.lkF, r.f0, r.new, r.dom, r.keep, by rw [st_length]; exact r.len, fun j e h => ?_, fun j e h w a ha => ?_, fun j k e f jk hj hk wj wk a ha => ?_, r.ioo⟩
  · rcases gt_st_some h with ⟨z, q⟩ | ⟨z, h⟩
    · subst z
      obtain rfl := Option.some.inj q
      exact ⟨v, hv, by rw [if_pos ho, updA_same]; exact x⟩
    · rw [updA_ne z]; exact r.sl j e h
  · rcases gt_st_some h with ⟨z, h⟩ | ⟨z, h⟩
    · subst z
      rw [updA_same] at ha
      exact hb a ha
    · rw [updA_ne z] at ha
      exact r.own j e h w a ha
  · rcases gt_st_some hj with ⟨z1, h1⟩ | ⟨z1, h1⟩
    · subst z1
      have z2 : k ≠ j := Ne.symm jk
      rw [gt_st_ne jk] at hk
      rw [updA_same] at ha
      rw [updA_ne z2]
      exact ap k f hk wk a ha
    · rw [updA_ne z1] at ha
      rcases gt_st_some hk with ⟨z2, h2⟩ | ⟨z2, h2⟩
      · subst z2
        rw [updA_same]
        exact fun q => ap j e h1 wj a q ha
      · rw [updA_ne z2]
        exact r.dis j k e f jk h1 h2 wj wk a ha
end

def plainA : E → Bool
  | .io _ => false
  | .tmp _ => false
  | _ => true
def ioOk : Option Nat → List E → Bool
  | none, es => es.all plainA
  | some 0, .io _ :: es => es.all plainA
  | some (p + 1), e :: es => plainA e && ioOk (some p) es
  | _, _ => false
def ioSl : Nat → List E → Nat
  | 0, .io i :: _ => i
  | p + 1, _ :: es => ioSl p es
  | _, _ => 0
theorem setIos_plain : ∀ {es : List E} {ds : List D} {ρ : Env}, es.all plainA = true → setIos es ds ρ = ρ
  | [], ds, ρ, _ => by cases ds <;> rfl
  | e :: es, ds, ρ, h => by
    rw [List.all_cons, Bool.and_eq_true] at h
    have ih := setIos_plain (es := es) (ds := ds) (ρ := ρ) h.2
    cases e <;> first | (cases ds <;> exact ih) | cases h.1
theorem setIos_one : ∀ {p : Nat} {es : List E} {d : D} {ρ : Env}, ioOk (some p) es = true → setIos es [d] ρ = st ρ (ioSl p es) (some d)
  | 0, [], _, _, h => by cases h
  | 0, e :: es, d, ρ, h => by
    cases e with
    | io i => exact setIos_plain (es := es) (ds := []) h
    | _ => cases h
  | p + 1, [], _, _, h => by cases h
  | p + 1, e :: es, d, ρ, h => by
    have h' : (plainA e && ioOk (some p) es) = true := by
      cases e <;> exact h
    rw [Bool.and_eq_true] at h'
    have ih := setIos_one (p := p) (es := es) (d := d) (ρ := ρ) h'.2
    cases e <;> first | exact ih | cases h'.1
inductive RCs (K : PySem.W.Frag) (F H : Hp) (o : List Bool) (A : Nat → List Addr) (ρ : Env) (σ : L2.St) : List E → List D → List V → Prop
  | nil : RCs K F H o A ρ σ [] [] []
  | sh {ie : E} {irs : List E} {d : D} {ds : List D} {v : V} {vs : List V} : plainA ie = true → Rep K F d v → RCs K F H o A ρ σ irs ds vs → RCs K F H o A ρ σ (ie :: irs) (d :: ds) (v :: vs)
  | io {i : Nat} {irs : List E} {d : D} {ds : List D} {v : V} {vs : List V} : ow o i = true → σ[i]? = some (some v) → gt ρ i = some d → Own K F H d v (A i) → RCs K F H o A ρ σ irs ds vs → RCs K F H o A ρ σ (.io i :: irs) (d :: ds) (v :: vs)
section
variable {K : PySem.W.Frag} {F H : Hp} {o : List Bool} {A : Nat → List Addr} {ρ : Env} {σ : L2.St}
theorem RCs.length : ∀ {irs : List E} {ds : List D} {vs : List V}, RCs K F H o A ρ σ irs ds vs → ds.length = vs.length
  | _, _, _, .nil => rfl
  | _, _, _, .sh _ _ t => by rw [List.length_cons, List.length_cons, RCs.length t]
  | _, _, _, .io _ _ _ _ t => by rw [List.length_cons, List.length_cons, RCs.length t]
theorem RCs.len2 : ∀ {irs : List E} {ds : List D} {vs : List V}, RCs K F H o A ρ σ irs ds vs → irs.length = vs.length
  | _, _, _, .nil => rfl
  | _, _, _, .sh _ _ t => by rw [List.length_cons, List.length_cons, RCs.len2 t]
  | _, _, _, .io _ _ _ _ t => by rw [List.length_cons, List.length_cons, RCs.len2 t]
theorem RCs.plain : ∀ {irs : List E} {ds : List D} {vs : List V}, RCs K F H o A ρ σ irs ds vs → irs.all plainA = true → RepL K F ds vs
  | _, _, _, .nil, _ => .nil
  | _, _, _, .sh _ r t, h => by
    rw [List.all_cons, Bool.and_eq_true] at h
    exact .cons r (RCs.plain t h.2)
  | _, _, _, .io _ _ _ _ _, h => by
    rw [List.all_cons, Bool.and_eq_true] at h
    exact absurd h.1 Bool.false_ne_true
/-- the one that is changed: where it stands -/
theorem RCs.one : ∀ {p : Nat} {irs : List E} {ds : List D} {vs : List V}, RCs K F H o A ρ σ irs ds vs → ioOk (some p) irs = true →
    (∃ d v, ds[p]? = some d ∧ vs[p]? = some v ∧ ow o (ioSl p irs) = true ∧ σ[ioSl p irs]? = some (some v) ∧ gt ρ (ioSl p irs) = some d ∧ Own K F H d v (A (ioSl p irs))) ∧ ∀ k d v, k ≠ p → ds[k]? = some d → vs[k]? = some v → Rep K F d v
  | p, [], _, _, _, h => by cases p <;> cases h
  | 0, e :: es, _, _, x, h => by
    cases x with
    | sh hp _ _ => cases e <;> first | cases h | cases hp
    | io ho hs hg w t =>
      have h' : es.all plainA = true := h
      refine ⟨⟨_, _, rfl, rfl, ho, hs, hg, w⟩, fun k d v hk hd hv => ?_⟩
      cases k with
      | zero => exact absurd rfl hk
      | succ k =>
        obtain ⟨w, h1, h2⟩ := (t.plain h').at (show _ = some d from hd)
        have h3 : _ = some v := hv
        rw [List.getElem?_cons_succ] at h3
        rw [h1] at h3
        cases h3
        exact h2
  | p + 1, e :: es, _, _, x, h => by
    have h' : (plainA e && ioOk (some p) es) = true := by
      cases e <;> exact h
    rw [Bool.and_eq_true] at h'
    cases x with
    | sh _ r t =>
      obtain ⟨⟨d, v, a1, a2, a3⟩, b⟩ := RCs.one (p := p) t h'.2
      refine ⟨⟨d, v, a1, a2, a3⟩, fun k d v hk hd hv => ?_⟩
      cases k with
      | zero => cases hd; cases hv; exact r
      | succ k => exact b k d v (fun z => hk (by rw [z])) hd hv
    | io _ _ _ _ _ => exact absurd h'.1 Bool.false_ne_true
end

theorem st_st : ∀ (ρ : Env) (i : Nat) {x y : Option D}, st (st ρ i x) i y = st ρ i y
  | [], _, _, _ => rfl
  | _ :: _, 0, _, _ => rfl
  | z :: r, i + 1, x, y => by
    show z :: st (st r i x) i y = z :: st r i y
    rw [st_st r i]
theorem ioSl_mem : ∀ {p : Nat} {es : List E}, ioOk (some p) es = true → ioSl p es ∈ tchs es
  | 0, [], h => by cases h
  | 0, e :: es, h => by
    cases e with
    | io i => exact List.mem_append_left _ (List.mem_singleton.mpr rfl)
    | _ => cases h
  | p + 1, [], h => by cases h
  | p + 1, e :: es, h => by
    have h' : (plainA e && ioOk (some p) es) = true := by
      cases e <;> exact h
    rw [Bool.and_eq_true] at h'
    have : ioSl (p + 1) (e :: es) = ioSl p es := by cases e <;> rfl
    rw [this]
    exact List.mem_append_right _ (ioSl_mem h'.2)
section
variable {T : Tab} {Φ : Fns} {gl : Nat → D} {c : Ctx} {X : Cx} {W : WX} {G : Gh} {o o1 o2 o3 : List Bool}
abbrev SC (T : Tab) (Φ : Fns) (gl : Nat → D) (X : Cx) (io : List Nat) (W : WX) (G : Gh) (es : List Expr) (irs : List E) (o o' : List Bool) : Prop := PA X es fun σ => TX (fun F H A ρ ds vs => RCs X.K F H o' A ρ σ irs ds vs) T X.K io W G o (tchs irs) o' (evEs Φ gl irs) σ
variable (XO : XOk T Φ gl c X W)
include XO
omit XO in
theorem sc_nil : SC T Φ gl X c.io W G [] [] o o := PA.imp pa_nil fun σ H Q ⟨F, A, ρ, R, P⟩ => P F H A [] R (.refl F) .refl .nil
theorem sc_cons {e : Expr} {es : List Expr} {ie : E} {irs : List E} (hn : notStar e = true) (hp : plainA ie = true) (h : SE T Φ gl X c.io W G e ie o o1 .keep) (hr : SC T Φ gl X c.io W G es irs o1 o2) : SC T Φ gl X c.io W G (e :: es) (ie :: irs) o o2 := by
  refine PA.imp (pa_cons h hr (star_ok XO hn X.env)) fun σ H Q ⟨F, A, ρ, R, P⟩ => ?_
  refine ⟨F, A, ρ, R, PostR.bind (tc1 := tch ie) (tc2 := tchs irs) P (sub_l XO) (sub_r XO) fun x ρ1 F1 H1 A1 v R1 g1 f1 w1 P1 => ⟨F1, A1, ρ1, R1, PostR.bind (tc1 := tchs irs) (tc2 := []) P1 (fun _ h => h) (fun _ _ => by simp) fun xs ρ2 F2 H2 A2 vs R2 g2 f2 w2 P2 => ?_⟩⟩
  exact P2 F2 H2 A2 (v :: vs) R2 (.refl F2) .refl (.sh hp (Rep.grow g2 w1) w2)
theorem sc_io {i : Nat} {x : Str} {pos : Pos} {es : List Expr} {irs : List E} (hi : c.N[i]? = some x) (hv : vis c x = true) (ho : ow o i = true) (hp : i ∉ tchs irs) (hr : SC T Φ gl X c.io W G es irs o o2) : SC T Φ gl X c.io W G (.Name x pos :: es) (.io i :: irs) o o2 := by
  refine PA.imp (pa_cons (pe_slot XO hi hv) hr (star_ok XO rfl X.env)) fun σ H Q ⟨F, A, ρ, R, P⟩ => ?_
  have e : evEs Φ gl (.io i :: irs) ρ = (optR (gt ρ i) ρ).bind fun x ρ1 => (evEs Φ gl irs ρ1).bind fun xs ρ2 => .ok (x :: xs) ρ2 := rfl
  rw [e] at P
  cases hd : gt ρ i with
  | none => rw [hd] at P; exact False.elim P
  | some d =>
    rw [hd] at P
    obtain ⟨v, h1, h2⟩ := R.owned hd ho
    refine ⟨v, h1, F, A, ρ, R, PostR.bind (r := evEs Φ gl irs ρ) (tc1 := tchs irs) (tc2 := []) P (fun j h z => h (List.mem_append_right _ z)) (fun _ _ => by simp) fun xs ρ2 F2 H2 A2 vs R2 g2 f2 w2 P2 => ?_⟩
    obtain ⟨a1, a2, a3, a4⟩ := f2 i d hp ho hd
    exact P2 F2 H2 A2 (v :: vs) R2 (.refl F2) .refl (.io a1 h1 a3 (by rw [a2]; exact h2.keep g2 a4) w2)
/-- behind a call: how all stands -/
theorem call_rel {irs : List E} {ds : List D} {vs : List V} {fio : Option Nat} {F H : Hp} {A : Nat → List Addr} {ρ : Env} {σ : L2.St} (ok : ioOk fio irs = true) (R : Rel X.K c.io G F H o A ρ σ) (x : RCs X.K F H o A ρ σ irs ds vs) :
    ∃ B, ArgsOk X.K F H fio ds vs B ∧ ∀ (ios : List D) (F' H' : Hp) (B' : List Addr), Aft F H F' H' B → IoOk X.K F H F' H' fio vs ios B B' →
      ∃ A', Rel X.K c.io G F' H' o A' (setIos irs ios ρ) σ ∧ Frm (tchs irs) o o A A' ρ (setIos irs ios ρ) H H' ∧ ∀ j d, gt (setIos irs ios ρ) j = some d → ow o j = true → ∀ b ∈ A' j, H b ≠ none ∨ b ∈ B' := by
  cases fio with
  | none =>
    have pl : irs.all plainA = true := by cases irs <;> exact ok
    refine ⟨[], ⟨x.length, fun k d v hd hv => ?_, fun _ => rfl, fun b hb => by cases hb⟩, fun ios F' H' B' af io => ?_⟩
    · obtain ⟨w, h1, h2⟩ := (x.plain pl).at hd
      rw [h1] at hv
      cases hv
      rw [if_neg (fun z => nomatch z)]
      exact h2
    · rw [setIos_plain pl]
      refine ⟨A, Rel.aft (sk := none) R af (fun b hb => by cases hb) (fun j d _ _ _ b hb => by cases hb), fun j d _ ho e => ⟨ho, rfl, e, fun a ha => ?_⟩, fun j d e ho b hb => .inl ?_⟩
      · obtain ⟨v, _, q⟩ := R.owned e ho
        have := q.has a ha
        cases w : H a with
        | none => exact absurd w this
        | some u => exact af.keep _ _ w (by simp)
      · obtain ⟨v, _, q⟩ := R.owned e ho
        exact q.has b hb
  | some p =>
    obtain ⟨⟨d, v, hd, hv, ho, hs, hg, w⟩, sh⟩ := x.one ok
    generalize hi : ioSl p irs = i at ho hs hg w
    have oo := R.own i d hg ho
    have lt := gt_some_lt hg
    refine ⟨A i, ⟨x.length, fun k e u he hu => ?_, (fun z => by cases z), fun b hb => (oo b hb).1⟩, fun ios F' H' B' af io => ?_⟩
    · by_cases q : some p = some k
      · rw [if_pos q]
        obtain rfl := Option.some.inj q
        rw [hd] at he; rw [hv] at hu
        cases he; cases hu
        exact w
      · rw [if_neg q]
        exact sh k e u (fun z => q (by rw [z])) he hu
    · obtain ⟨d', v', rfl, hv', w', hb'⟩ := io
      rw [hv] at hv'
      cases hv'
      rw [setIos_one ok, hi]
      have R1 : Rel X.K c.io G F' H' o A (st ρ i none) σ := Rel.aft (sk := some i) R af (fun b hb => ⟨(oo b hb).1, by
        rcases (oo b hb).2 with z | z
        · exact .inl z
        · exact .inr z.2⟩) (fun j e ne hj wj b hb => R.dis i j d e (fun z => ne (by rw [z])) hg hj ho wj b hb)
      have gn : gt (st ρ i none) i = none := gt_st_self lt
      have hold : ∀ j e, gt (st ρ i none) j = some e → ow o j = true → j ≠ i ∧ gt ρ j = some e ∧ ∀ a ∈ A j, H a ≠ none ∧ a ∉ A i := fun j e hj wj => by
        rcases gt_st_some hj with ⟨_, z⟩ | ⟨ne, z⟩
        · cases z
        · obtain ⟨u, _, q⟩ := R.owned z wj
          exact ⟨ne, z, fun a ha => ⟨q.has a ha, R.dis j i e d ne z hg wj ho a ha⟩⟩
      have R2 := R1.put (d := d') (v := v) (B := B') gn (by rw [st_length]; exact lt) ho hs w' (fun b hb => ⟨(hb' b hb).1, by
        rcases (hb' b hb).2 with z | z
        · exact (oo b z).2
        · refine .inl ?_
          cases q : G.H0 b with
          | none => rfl
          | some u => exact absurd z (R.dom.1 b (by rw [q]; exact fun z => nomatch z))⟩) (fun j e hj wj b hb hbj => by
        obtain ⟨_, _, q⟩ := hold j e hj wj
        rcases (hb' b hb).2 with z | z
        · exact (q b hbj).2 z
        · exact (q b hbj).1 z)
      have e2 : st (st ρ i none) i (some d') = st ρ i (some d') := st_st ρ i
      rw [e2] at R2
      refine ⟨_, R2, fun j e hj wj he => ?_, fun j e hj wj b hb => ?_⟩
      · have ne : j ≠ i := fun z => hj (by rw [z, ← hi]; exact ioSl_mem ok)
        refine ⟨wj, updA_ne ne, by rw [gt_st_ne (Ne.symm ne)]; exact he, fun a ha => ?_⟩
        obtain ⟨u, _, q⟩ := R.owned he wj
        have nz := q.has a ha
        cases y : H a with
        | none => exact absurd y nz
        | some u => exact af.keep _ _ y (R.dis j i e d ne he hg wj ho a ha)
      · rcases gt_st_some hj with ⟨z, _⟩ | ⟨ne, z⟩
        · subst z
          rw [updA_same] at hb
          exact .inr hb
        · rw [updA_ne ne] at hb
          obtain ⟨u, _, q⟩ := R.owned z wj
          exact .inl (q.has b hb)
theorem se_call {f : Nat} {fi : FnI} {x : Str} {e : Expr} {es : List Expr} {irs : List E} {p pos : Pos} (hf : T.fn f = some fi) (hx : fi.name = x) (hg : Gl X x) (hd : (x == ("__debug__" : Str)) = false) (hn : notStar e = true) (hns : es.all notStar = true)
    (hio : ioOk fi.io irs = true) (hl : irs.length = fi.ps.length) (ha : SC T Φ gl X c.io W G (e :: es) irs o o1) : SE T Φ gl X c.io W G (.Call (.Name x p) (e :: es) [] pos) (.callF f irs) o o1 (if fi.fr = true then .fresh else .keep) := by
  obtain ⟨k, f', fd, FO, hr, hm, hk, hb⟩ := XO.fns f fi hf
  refine PE.imp (pe_callS (E := WE W) FO hr hg (hx ▸ hm) hk hb (passAt XO.takes) ha hd (star_ok XO hn X.env) (star_none XO hns pos X.env)) fun σ H Q ⟨F, A, ρ, R, P⟩ => ?_
  refine ⟨F, A, ρ, R, PostR.bind (tc1 := tchs irs) (tc2 := tchs irs) (k := fun ds ρ1 => callR (Φ f ds) irs ρ1) P (fun _ h => h) (fun _ h => h) fun ds ρ1 F1 H1 A1 vs R1 g1 f1 w1 P1 => ?_⟩
  obtain ⟨B, ao, after⟩ := call_rel XO hio R1 w1
  refine ⟨F1, G.Lk, ds, B, by rw [← w1.len2, hl], R1.sub, R1.lkF, ao, ?_⟩
  cases hφ : Φ f ds with
  | fail => rw [hφ] at P1; exact P1
  | ok d ios =>
    rw [hφ] at P1
    intro F' H' v B' af io ret
    obtain ⟨A', R', fr, own⟩ := after ios F' H' B' af io
    refine P1 F' H' A' v R' af.grow fr ?_
    unfold RetOk at ret
    by_cases q : fi.fr = true
    · rw [if_pos q] at ret ⊢
      obtain ⟨C, w, hC⟩ := ret
      refine ⟨C, w, fun b hb => (hC b hb).1, fun b hb => ?_, fun j e hj wj b hb hbj => ?_⟩
      · cases z : G.H0 b with
        | none => rfl
        | some u => exact absurd (hC b hb).2.1 (R1.dom.1 b (by rw [z]; exact fun z => nomatch z))
      · rcases own j e hj wj b hbj with z | z
        · exact z (hC b hb).2.1
        · exact (hC b hb).2.2 z
    · rw [if_neg q] at ret ⊢
      exact ret
  | exc cc d ios =>
    rw [hφ] at P1
    intro F' H' cls od B' af io ex
    obtain ⟨A', R', fr, own⟩ := after ios F' H' B' af io
    exact P1 F' H' A' o1 cls od R' ex
/-- a new thing is given away, to be changed -/
theorem se_callT {f : Nat} {fi : FnI} {x : Str} {e : Expr} {ia : E} {p pos : Pos} (hf : T.fn f = some fi) (hx : fi.name = x) (hg : Gl X x) (hd : (x == ("__debug__" : Str)) = false) (hn : notStar e = true)
    (hio : fi.io = some 0) (hl : fi.ps.length = 1) (hfr : fi.fr = false) (ha : SE T Φ gl X c.io W G e ia o o1 .fresh) : SE T Φ gl X c.io W G (.Call (.Name x p) [e] [] pos) (.call f [.tmp ia]) o o1 .keep := by
  obtain ⟨k, f', fd, FO, hr, hm, hk, hb⟩ := XO.fns f fi hf
  refine PE.imp (pe_callS (E := WE W) FO hr hg (hx ▸ hm) hk hb (passAt XO.takes) (pa_cons ha pa_nil (star_ok XO hn X.env)) hd (star_ok XO hn X.env) (star_none XO rfl pos X.env)) fun σ H Q ⟨F, A, ρ, R, P⟩ => ?_
  have e1 : evE Φ gl (.call f [.tmp ia]) ρ = (evE Φ gl ia ρ).bind fun d ρ1 => callR (Φ f [d]) [.tmp ia] ρ1 := by
    simp only [evE, evEs, bind_assoc XO]
    rfl
  rw [e1] at P
  refine ⟨F, A, ρ, R, PostR.bind (tc1 := tch ia) (tc2 := []) (k := fun d ρ1 => callR (Φ f [d]) [.tmp ia] ρ1) P (fun j h z => h (by show j ∈ tch ia ++ []; simp; exact z)) (fun _ _ => by simp) fun d ρ1 F1 H1 A1 v R1 g1 f1 w1 P1 => ?_⟩
  obtain ⟨B, w, ap⟩ := w1
  show SpF T X.K fi (Φ f) [v] H1 Q (WE W σ)
  have kp : ∀ {F' H'}, Aft F1 H1 F' H' B → Rel X.K c.io G F' H' o1 A1 ρ1 σ ∧ Frm [] o1 o1 A1 A1 ρ1 ρ1 H1 H' := fun af => by
    refine ⟨Rel.aft (sk := none) R1 af (fun b hb => ⟨ap.f b hb, .inl (ap.h0 b hb)⟩) (fun j d _ e ho b hb => ap.sl j d e ho b hb), fun j e _ ho he => ⟨ho, rfl, he, fun a ha => ?_⟩⟩
    obtain ⟨u, _, q⟩ := R1.owned he ho
    have nz := q.has a ha
    cases y : H1 a with
    | none => exact absurd y nz
    | some u => exact af.keep _ _ y fun z => ap.sl j e he ho a z ha
  refine ⟨F1, G.Lk, [d], B, by rw [hl]; rfl, R1.sub, R1.lkF, ⟨rfl, fun k d' v' hd hv => ?_, fun z => ?_, ap.f⟩, ?_⟩
  · cases k with
    | zero =>
      cases hd; cases hv
      rw [if_pos hio]; exact w
    | succ k => cases hd
  · rw [hio] at z; cases z
  cases hφ : Φ f [d] with
  | fail => rw [hφ] at P1; exact P1
  | ok z ios =>
    have e2 : setIos [.tmp ia] ios ρ1 = ρ1 := by
      cases ios with
      | nil => rfl
      | cons a r => cases r <;> rfl
    rw [hφ] at P1
    have P1 : PostR _ T X.K c.io W G F1 H1 o1 A1 ρ1 [] o1 σ Q (.ok z (setIos [.tmp ia] ios ρ1)) := P1
    rw [e2] at P1
    intro F' H' u B' af io ret
    obtain ⟨R', fr⟩ := kp af
    unfold RetOk at ret
    rw [if_neg (by rw [hfr]; exact Bool.false_ne_true)] at ret
    exact P1 F' H' A1 u R' af.grow fr ret
  | exc cc z ios =>
    have e2 : setIos [.tmp ia] ios ρ1 = ρ1 := by
      cases ios with
      | nil => rfl
      | cons a r => cases r <;> rfl
    rw [hφ] at P1
    have P1 : PostR (RE .keep X.K G o1 (pks (.call f [.tmp ia]))) T X.K c.io W G F1 H1 o1 A1 ρ1 [] o1 σ Q (.exc cc z (setIos [.tmp ia] ios ρ1)) := P1
    rw [e2] at P1
    intro F' H' cls od B' af io ex
    exact P1 F' H' A1 o1 cls od (kp af).1 ex
end
end PX
end
section
set_option Elab.async false
set_option linter.all false
set_option maxRecDepth 100000
set_option maxHeartbeats 4000000
namespace PX
open PySem L2

/-- {k: v}, k a tuple of ints and texts -/
def tDisp1 (tk tv : TE) : TE := fun σ H Q => ∀ p, H p = none → tk σ (upd H p (.dT [])) fun y H1 => tv σ H1 fun x H2 => H2 p = some (.dT []) ∧ ∃ (ks : List L2.Key) (b : Addr), y = .ref b ∧ H2 b = some (.tup (ks.map kV)) ∧ Q (.ref p) (upd H2 p (.dT [(ks, x)]))
section
variable {X : Cx} {pos : Pos}
theorem pe_disp1 {k v : Expr} {tk tv : TE} (hu : X.A.units < cLine) (hk : PE X k tk) (hv : PE X v tv) : PE X (.Dict [some k] [v] pos) (tDisp1 tk tv) := by
  refine ⟨fun pins s σ H Q I q => ?_⟩
  have hn := I.hok.fresh (Nat.le_refl s.heap.objs.size)
  have I1 := I.laid (a := s.heap.objs.size) (o := .dT []) (h' := s.heap.push { cls := .type "dict", data := .dict #[] }) (t' := s.toks) (fun _ _ q => Heap.get?_push_of_some _ q) (Nat.le_refl _) (dt_empty s.heap I.big)
  refine wpAny_Dict_any rfl rfl (by simp) (by show 1 ≤ 15; decide) (pairTrees_cons_walk (thn (hk.run pins _ σ _ _ I1 (q _ hn)) fun u s1 ⟨y, H1, I2, ry, q1⟩ => thn (hv.run pins s1 σ H1 _ I2 q1) fun r s2 ⟨x, H2, I3, rx, q2⟩ => ?_))
  refine pairTrees_nil_walk ?_
  obtain ⟨e, ks, b, rfl, eb, q3⟩ := q2
  cases (show u = Value.ref b from ry)
  obtain ⟨z, hd, xs, rel, dd⟩ := dt_of I3.hok e
  cases rel
  show wpAny _ _ (storeAll s.heap.objs.size [(Value.ref b, r)]) _ _ s2
  unfold storeAll
  rw [List.forIn_cons]
  refine wpAny_bind (wpAny_bind (wpAny_dictSet_heap (hsz := Nat.zero_le _) (knd := tupleKind (mixKind X.prog X.w)) hu (key_of I3.hok eb) dd fun h' dd' hs => wpAny_pure ?_))
  dsimp only
  rw [List.forIn_nil]
  refine wpAny_pure ⟨.ref s.heap.objs.size, _, ?_, rfl, q3⟩
  obtain ⟨o, es, ep, hq, h2, h3, h4, _, h5⟩ := dd'
  refine d_write I3 (by rw [e]; exact True.intro) hs ⟨o, hq⟩ ⟨by show 1 ≤ PySem.sizeLine; rw [sizeLine_eq]; omega, hd, _, (KT.put (H := H2) (kvs := []) (xs := []) Paired.nil ks eb rx).keeps fun c ys ec => ?_, o, es, ep, hq, h2, h3, h4, h5⟩
  rw [upd_ne (ne_of ec e (fun z => nomatch z))]
  exact ec
end
section
variable {T : Tab} {Φ : Fns} {gl : Nat → D} {c : Ctx} {X : Cx} {W : WX} {G : Gh} {o o1 o2 o3 : List Bool}
theorem Same_upd {H : Hp} {p : Addr} {u : HO} (h : H p = none) : Same H (upd H p u) := fun b o e => by rw [upd_ne (ne_of_none e h)]; exact e
theorem PE.or2 {e : Expr} {t t' : TE} (h : PE X e t) (h' : PE X e t') : PE X e (fun σ H Q => t σ H Q ∨ t' σ H Q) := ⟨fun pins s σ H Q I q => q.elim (h.run pins s σ H Q I) (h'.run pins s σ H Q I)⟩
theorem Nw.dT {K : PySem.W.Frag} {F H : Hp} {p : Addr} {es : List (D × D)} {kvs : List (List L2.Key × V)} (fF : F p = none) (h : H p = none) (r : RepT K F es kvs) : Nw K F H (.dic true es) (.ref p) (upd H p (.dT kvs)) :=
  ⟨Same_upd h, F, [p], .refl F, fun _ _ e => .inl e, .dT upd_same r, fun b hb => by
    rw [List.mem_singleton.mp hb]; exact ⟨fF, h⟩⟩
theorem Nw.dK {K : PySem.W.Frag} {F H : Hp} {p : Addr} {es : List (D × D)} {kvs : List (L2.Key × V)} (fF : F p = none) (h : H p = none) (r : RepK K F es kvs) : Nw K F H (.dic false es) (.ref p) (upd H p (.dK kvs)) :=
  ⟨Same_upd h, F, [p], .refl F, fun _ _ e => .inl e, .dK upd_same r, fun b hb => by
    rw [List.mem_singleton.mp hb]; exact ⟨fF, h⟩⟩
variable (XO : XOk T Φ gl c X W)
include XO
theorem se_dic0 {t : Bool} {pos : Pos} : SE T Φ gl X c.io W G (.Dict [] [] pos) (.dic t [] []) o o .fresh := by
  cases t with
  | false =>
    refine PE.imp pe_dnewK fun σ H Q ⟨F, A, ρ, R, P⟩ => ?_
    intro p hp
    exact post_nw XO R (d := .dic false []) P (Nw.dK (R.sub.free hp) hp .nil)
  | true =>
    refine PE.imp pe_dnewT fun σ H Q ⟨F, A, ρ, R, P⟩ => ?_
    intro p hp
    exact post_nw XO R (d := .dic true []) P (Nw.dT (R.sub.free hp) hp .nil)
/-- {(): d} -/
theorem se_dic1 {e : Expr} {d : D} {k : Nat} {p pos : Pos} (h : ∃ v, PE X e (tC v) ∧ ∀ F, Rep X.K F d v) : SE T Φ gl X c.io W G (.Dict [some (.Tuple [] k p)] [e] pos) (.dic true [.tup []] [.con d]) o o .fresh := by
  obtain ⟨v, h, r⟩ := h
  refine PE.imp (pe_disp1 (by have := XO.hu; omega) (pe_tup (pos := p) pa_nil) h) fun σ H Q ⟨F, A, ρ, R, P⟩ => ?_
  intro p hp
  refine ⟨Nat.zero_le _, fun b hb => ?_⟩
  have ne : p ≠ b := fun z => by subst z; rw [upd_same] at hb; cases hb
  have hb' : H b = none := by rw [upd_ne (Ne.symm ne)] at hb; exact hb
  refine ⟨by rw [upd_ne ne, upd_same], [], b, rfl, upd_same, ?_⟩
  have P' : PostR (RE .fresh X.K G o []) T X.K c.io W G F H o A ρ [] o σ Q (.ok (.dic true [(.tup [], d)]) ρ) := P
  have e0 : upd (upd (upd H p (.dT [])) b (.tup [])) p (.dT [([], v)]) = upd (upd H b (.tup [])) p (.dT [([], v)]) := by
    funext a
    by_cases z : a = p
    · subst z; rw [upd_same, upd_same]
    · rw [upd_ne z, upd_ne z]
      by_cases y : a = b
      · subst y; rw [upd_same, upd_same]
      · rw [upd_ne y, upd_ne y, upd_ne z]
  rw [e0]
  have R1 : Rel X.K c.io G F (upd H b (.tup [])) o A ρ σ := R.ext (Same_upd hb') (.refl F) fun _ _ e => .inl e
  have hp1 : (upd H b (.tup [])) p = none := by rw [upd_ne ne]; exact hp
  obtain ⟨F', R', g, fr, m⟩ := Nw.rel R1 (Nw.dT (es := [(.tup [], d)]) (kvs := [([], v)]) (R1.sub.free hp1) hp1 (RepT.cons (ns := []) (Nat.zero_le _) (fun p hp => by cases hp) (r F) .nil))
  refine P' F' _ A _ R' g (Frm.trans (tc1 := []) (tc2 := []) (o1 := o) (A1 := A) (ρ1 := ρ) (H1 := upd H b (.tup [])) (fun j e _ ho he => ⟨ho, rfl, he, fun a ha => ?_⟩) fr (fun _ h => h) (fun _ h => h)) m
  obtain ⟨u, _, q⟩ := R.owned he ho
  have := q.has a ha
  exact upd_ne fun z => this (by rw [z]; exact hb')
/-- a method call with two plain arguments -/
theorem m2_of {y : Str} {py : Pos} {m : Str} {apos cpos : Pos} {e f : Expr} (he : notStar e = true) (hf : notStar f = true) (hl : (apos.endLine == cpos.line) = true) : M2 X (.Name y py) m apos e f cpos := by
  have e1 : starEach [e, f] X.env = [(false, eval e X.env), (false, eval f X.env)] := by
    rw [star_ok XO he, star_ok XO hf]; rfl
  refine ⟨rfl, ?_, hl, ?_⟩
  · rw [e1]; rfl
  · rw [e1]; rfl
theorem se_get2 {y : Str} {py : Pos} {apos cpos : Pos} {e f : Expr} {ia ik ix : E} {m1 : Md} (hm1 : m1 ≠ .fresh) (hp : ∀ j ∈ pks ia, j ∉ tch ik ++ tch ix) (he : notStar e = true) (hf : notStar f = true) (hl : (apos.endLine == cpos.line) = true)
    {mk mx : Md} (hmk : mk ≠ .fresh) (hpk : ∀ j ∈ pks ik, j ∉ tch ix) (ha : SE T Φ gl X c.io W G (.Name y py) ia o o1 m1) (hk : SE T Φ gl X c.io W G e ik o1 o2 mk) (hx : SE T Φ gl X c.io W G f ix o2 o3 .keep) :
    SE T Φ gl X c.io W G (.Call (.Attribute (.Name y py) "get" apos) [e, f] [] cpos) (.get2 ia ik ix) o o3 .keep := by
  refine PE.imp (pe_dget2 (by have := XO.hu; omega) ha hk hx (m2_of XO he hf hl)) fun σ H Q ⟨F, A, ρ, R, P⟩ => ?_
  refine ⟨F, A, ρ, R, PostR.bind (tc1 := tch ia) (tc2 := tch ik ++ tch ix) (k := fun d ρ1 => if isDic2 d = true then (evE Φ gl ik ρ1).bind fun kv ρ2 => (evE Φ gl ix ρ2).bind fun xv ρ3 => optR (getD2 d kv xv) ρ3 else .fail) P (sub_l XO) (sub_r XO) fun d ρ1 F1 H1 A1 v R1 g1 f1 w1 P1 => ?_⟩
  have vw := w1.view R1
  cases d with
  | dic t es =>
    have isd : ∃ a, v = .ref a ∧ IsD H1 a := by
      cases vw with
      | dK h r => exact ⟨_, rfl, .inl ⟨_, h⟩⟩
      | dT h r => exact ⟨_, rfl, .inr ⟨_, h⟩⟩
    obtain ⟨a, rfl, isd⟩ := isd
    refine ⟨a, rfl, isd, F1, A1, ρ1, R1, PostR.bind (tc1 := tch ik) (tc2 := tch ix) (k := fun kv ρ2 => (evE Φ gl ix ρ2).bind fun xv ρ3 => optR (getD2 (.dic t es) kv xv) ρ3) P1 (sub_l XO) (sub_r XO) fun kv ρ2 F2 H2 A2 y R2 g2 f2 w2 P2 => ?_⟩
    refine ⟨F2, A2, ρ2, R2, PostR.bind (tc1 := tch ix) (tc2 := []) (k := fun xv ρ3 => optR (getD2 (.dic t es) kv xv) ρ3) P2 (fun _ h => h) (fun _ _ => by simp) fun xv ρ3 F3 H3 A3 z R3 g3 f3 w3 P3 => ?_⟩
    have w1' := (w1.step hm1 g2 f2 fun j hj q => hp j hj (List.mem_append_left _ q)).step hm1 g3 f3 fun j hj q => hp j hj (List.mem_append_right _ q)
    have w2' := w2.step hmk g3 f3 hpk
    obtain ⟨u, hu, P4⟩ := PostR.opt P3
    have hu' : (if isKey t kv = true then some ((PX.look kv es).getD xv) else none) = some u := hu
    by_cases hk : isKey t kv = true
    · rw [if_pos hk] at hu'
      obtain ⟨b, r, e, dg, fd⟩ := dget_of (w1'.view R3) (w2'.view R3) hk
      cases e
      refine ⟨r, dg, post_sc XO R3 P4 ?_⟩
      obtain rfl := Option.some.inj hu'
      generalize PX.look kv es = l at fd
      cases fd with
      | no => exact w3
      | yes rp => exact rp
    · rw [if_neg hk] at hu'; cases hu'
  | _ => exact False.elim P1
end
section
variable {K : PySem.W.Frag} {io : List Nat} {G : Gh} {F H : Hp} {o : List Bool} {A : Nat → List Addr} {ρ : Env} {σ : L2.St} {i : Nat} {d : D} {v : V} {B : List Addr}
theorem Own.lstI {ds : List D} (x : Own K F H (.lst ds) v B) : ∃ a vs, v = .ref a ∧ B = [a] ∧ H a = some (.lst vs) ∧ ds.length ≤ PX.sizeLine ∧ RepL K F ds vs := by
  cases x with
  | shr m r => cases m
  | lst h l r => exact ⟨_, _, rfl, rfl, h, l, r⟩
theorem Rel.lstAt {ds : List D} (r : Rel K io G F H o A ρ σ) (hg : gt ρ i = some (.lst ds)) (ho : ow o i = true) : ∃ a vs, σ[i]? = some (some (.ref a)) ∧ A i = [a] ∧ H a = some (.lst vs) ∧ ds.length ≤ PX.sizeLine ∧ RepL K F ds vs ∧
    ∀ ds' vs', ds'.length ≤ PX.sizeLine → RepL K F ds' vs' → Rel K io G F (upd H a (.lst vs')) o A (st ρ i (some (.lst ds'))) σ ∧ ∀ tc, i ∈ tc → Frm tc o o A A ρ (st ρ i (some (.lst ds'))) H (upd H a (.lst vs')) := by
  obtain ⟨v, hv, x⟩ := r.owned hg ho
  obtain ⟨a, vs, rfl, hA, ha, hl, rl⟩ := x.lstI
  refine ⟨a, vs, hv, hA, ha, hl, rl, fun ds' vs' hl' rl' => ⟨r.mut hg ho (by rw [hA]; simp) hv (by rw [hA]; exact .lst upd_same hl' rl'), fun tc hi j e hj wj he => ?_⟩⟩
  have ne : j ≠ i := fun z => hj (by rw [z]; exact hi)
  refine ⟨wj, rfl, by rw [gt_st_ne (Ne.symm ne)]; exact he, fun b hb => upd_ne fun z => ?_⟩
  exact r.dis j i e _ ne he hg wj ho b hb (by rw [hA, z]; simp)
end
section
variable {T : Tab} {Φ : Fns} {gl : Nat → D} {c : Ctx} {X : Cx} {W : WX} {G : Gh} {o o1 o2 o3 : List Bool}
theorem lstAt_ok {ρ : Env} {i : Nat} {α : Type} {k : Unit → Env → R α} (P : (PX.lstAt ρ i).bind k ≠ .fail) : ∃ ds, gt ρ i = some (.lst ds) := by
  unfold PX.lstAt at P
  cases h : gt ρ i with
  | none => rw [h] at P; exact absurd rfl P
  | some d =>
    rw [h] at P
    cases d with
    | lst ds => exact ⟨ds, rfl⟩
    | _ => exact absurd rfl P
theorem PostR.nf {α β : Type} {K : PySem.W.Frag} {io : List Nat} {F H : Hp} {A : Nat → List Addr} {ρ : Env} {tc : List Nat} {σ : L2.St} {RMa : Hp → Hp → (Nat → List Addr) → Env → α → β → Prop} {r : R α} {Q : β → Hp → Prop} (P : PostR RMa T K io W G F H o A ρ tc o1 σ Q r) : r ≠ .fail := fun e => by
  rw [e] at P; exact P
variable (XO : XOk T Φ gl c X W)
include XO
/-- one argument, shared -/
theorem sa_one {e : Expr} {ie : E} (hn : notStar e = true) (h : SE T Φ gl X c.io W G e ie o o1 .keep) : SA T Φ gl X c.io W G [e] [ie] o o1 := sa_cons XO hn h (sa_nil XO)
theorem few1 {e : Expr} (hn : notStar e = true) (cpos : Pos) : ((backTo cpos (starEach [e] X.env)).all (fun x => !x.1) && (backToKw cpos (keywordEach [] X.env)).all (fun x => x.1.isSome)
      && decide (([e] : List Expr).length + ([] : List Keyword).length + (if ([] : List Keyword).isEmpty then 0 else 1) < 30)) = true := by
  rw [star_ok XO hn]; rfl
omit XO in
theorem plc_seq {n : Nat} {i : Int} {k : Nat} (h : plc n i = some k) (hn : n ≤ PX.sizeLine) : -(2 ^ 63) ≤ i ∧ i < 2 ^ 63 ∧ seqIndex? i n = some k := by
  have hz : PX.sizeLine = 16777216 := rfl
  unfold plc at h
  unfold seqIndex?
  by_cases h0 : 0 ≤ i
  · rw [if_pos h0] at h
    by_cases h1 : i.toNat < n
    · rw [if_pos h1] at h
      cases h
      refine ⟨by omega, by omega, ?_⟩
      rw [if_neg (show ¬ i < 0 by omega), if_pos (by simp; omega)]
    · rw [if_neg h1] at h; cases h
  · rw [if_neg h0] at h
    by_cases h1 : 0 ≤ i + n
    · rw [if_pos h1] at h
      cases h
      refine ⟨by omega, by omega, ?_⟩
      rw [if_pos (show i < 0 by omega), if_pos (by simp; omega)]
    · rw [if_neg h1] at h; cases h
omit XO in
theorem last_at {α : Type} : ∀ (xs : List α), xs[xs.length - 1]? = xs.getLast?
  | [] => rfl
  | x :: xs => by rw [List.getLast?_eq_getElem?]
theorem se_pop0 {i : Nat} {y : Str} {py apos cpos : Pos} (hi : c.N[i]? = some y) (hv : vis c y = true) (ho : ow o i = true) (hl : (apos.endLine == cpos.line) = true) : SE T Φ gl X c.io W G (.Call (.Attribute (.Name y py) "pop" apos) [] [] cpos) (.pop i []) o o .keep := by
  refine PE.imp (pe_bm0 PySem.F.plainAttrs_list PySem.F.slot_list_pop (by rfl) mt_pop (pe_slot XO hi hv) rfl hl) fun σ H Q ⟨F, A, ρ, R, P⟩ => ?_
  have e : evE Φ gl (.pop i []) ρ = (PX.lstAt ρ i).bind fun _ ρ => (PX.R.ok [] ρ).bind fun is ρ1 => match gt ρ1 i with | none => .fail | some x => (optR (popD x is) ρ1).bind fun p ρ2 => .ok p.1 (st ρ2 i (some p.2)) := rfl
  rw [e] at P
  obtain ⟨ds, hg⟩ := lstAt_ok P.nf
  obtain ⟨a, vs, hs, hA, ha, hl, rl, mu⟩ := R.lstAt hg ho
  have e2 : (PX.lstAt ρ i) = PX.R.ok () ρ := by unfold PX.lstAt; rw [hg]
  rw [e2] at P
  have P2 : PostR (RE .keep X.K G o []) T X.K c.io W G F H o A ρ [i] o σ Q (match gt ρ i with | none => .fail | some x => (optR (popD x []) ρ).bind fun p ρ2 => PX.R.ok p.1 (st ρ2 i (some p.2))) := P
  rw [hg] at P2
  have e3 : popD (.lst ds) [] = (ds.getLast?).map fun y => (y, .lst ds.dropLast) := rfl
  dsimp only at P2
  rw [e3] at P2
  cases hq : ds.getLast? with
  | none => rw [hq] at P2; exact False.elim P2
  | some d =>
    rw [hq] at P2
    rw [← last_at] at hq
    obtain ⟨u, h1, h2⟩ := rl.at hq
    obtain ⟨R', fr⟩ := mu ds.dropLast vs.dropLast (by rw [List.length_dropLast]; omega) rl.dropLast
    refine ⟨_, hs, .inl ⟨rfl, vs, .inl (.inl ha)⟩, a, vs, u, rfl, rfl, ha, by rw [← rl.length]; exact h1, ?_⟩
    exact P2 F _ A u R' (.refl F) (fr [i] (by simp)) h2
theorem se_pop1 {i : Nat} {y : Str} {py apos cpos : Pos} {e : Expr} {ie : E} (hi : c.N[i]? = some y) (hv : vis c y = true) (ho : ow o i = true) (hl : (apos.endLine == cpos.line) = true) (hn : notStar e = true) (ht : i ∉ tch ie) (h : SE T Φ gl X c.io W G e ie o o1 .keep) :
    SE T Φ gl X c.io W G (.Call (.Attribute (.Name y py) "pop" apos) [e] [] cpos) (.pop i [ie]) o o1 .keep := by
  refine PE.imp (pe_bm PySem.F.plainAttrs_list PySem.F.slot_list_pop (by rfl) mt_popAt (pe_slot XO hi hv) (sa_one XO hn h) rfl (few1 XO hn cpos) hl (star_ok XO hn X.env) rfl) fun σ H Q ⟨F, A, ρ, R, P⟩ => ?_
  have e : evE Φ gl (.pop i [ie]) ρ = (PX.lstAt ρ i).bind fun _ ρ => (evEs Φ gl [ie] ρ).bind fun is ρ1 => match gt ρ1 i with | none => .fail | some x => (optR (popD x is) ρ1).bind fun p ρ2 => .ok p.1 (st ρ2 i (some p.2)) := rfl
  rw [e] at P
  obtain ⟨ds, hg⟩ := lstAt_ok P.nf
  obtain ⟨a, vs, hs, hA, ha, hl, rl, mu⟩ := R.lstAt hg ho
  have e2 : (PX.lstAt ρ i) = PX.R.ok () ρ := by unfold PX.lstAt; rw [hg]
  rw [e2] at P
  refine ⟨_, hs, .inl ⟨rfl, vs, .inl (.inl ha)⟩, F, A, ρ, R, PostR.bindE XO (r := evEs Φ gl [ie] ρ) (tc1 := tchs [ie]) (tc2 := [i]) P (fun j h z => h (List.mem_append_left _ z)) (fun j h z => h (List.mem_append_right _ z)) fun is ρ1 F1 H1 A1 us eis R1 g1 f1 w1 P1 => ?_⟩
  obtain ⟨a1, a2, a3, a4⟩ := f1 i _ (by simpa [tchs] using ht) ho hg
  obtain ⟨a', vs', hs', hA', ha', hl', rl', mu'⟩ := R1.lstAt a3 a1
  rw [hs] at hs'
  cases hs'
  rw [a3] at P1
  dsimp only at P1
  have hlen := evEs_len XO eis
  cases w1 with
  | nil => cases hlen
  | @cons d is u us rd rest =>
    cases rest with
    | cons _ _ => cases hlen
    | nil =>
      cases rd with
      | int j =>
        have e3 : popD (.lst ds) [.int j] = (plc ds.length j).bind fun k => (ds[k]?).map fun y => (y, .lst (ds.eraseIdx k)) := rfl
        rw [e3] at P1
        cases hk : plc ds.length j with
        | none => rw [hk] at P1; exact False.elim P1
        | some k =>
          rw [hk] at P1
          cases hd : ds[k]? with
          | none =>
            have P1 : PostR (RE .keep X.K G o1 (pks (.pop i [ie]))) T X.K c.io W G F1 H1 o1 A1 ρ1 [i] o1 σ Q ((optR ((ds[k]?).map fun y => (y, D.lst (ds.eraseIdx k))) ρ1).bind fun p ρ2 => PX.R.ok p.1 (st ρ2 i (some p.2))) := P1
            rw [hd] at P1; exact False.elim P1
          | some d =>
            have P1 : PostR (RE .keep X.K G o1 (pks (.pop i [ie]))) T X.K c.io W G F1 H1 o1 A1 ρ1 [i] o1 σ Q ((optR ((ds[k]?).map fun y => (y, D.lst (ds.eraseIdx k))) ρ1).bind fun p ρ2 => PX.R.ok p.1 (st ρ2 i (some p.2))) := P1
            rw [hd] at P1
            obtain ⟨w, h1, h2⟩ := rl'.at hd
            obtain ⟨q1, q2, q3⟩ := plc_seq hk hl'
            obtain ⟨R', fr⟩ := mu' (ds.eraseIdx k) (vs'.eraseIdx k) (Nat.le_trans (List.length_eraseIdx_le ..) hl') (rl'.erase k)
            rw [rl'.length] at q3
            exact ⟨a, vs', j, k, w, rfl, rfl, ha', q1, q2, q3, h1, P1 F1 _ A1 w R' (.refl F1) (fr [i] (by simp)) h2⟩
      | _ => exact False.elim P1
/-- x.append(e), x.extend(e): as a value it is none -/
def appR (Φ : Fns) (gl : Nat → D) (g : D → D → Option D) (i : Nat) (ie : E) (ρ : Env) : R D := (PX.lstAt ρ i).bind fun _ ρ => (evE Φ gl ie ρ).bind fun y ρ1 => match gt ρ1 i with | none => .fail | some x => (optR (g x y) ρ1).bind fun z ρ2 => .ok .non (st ρ2 i (some z))
theorem se_app {i : Nat} {y : Str} {py apos cpos : Pos} {e : Expr} {ie : E} (hi : c.N[i]? = some y) (hv : vis c y = true) (ho : ow o i = true) (hl : (apos.endLine == cpos.line) = true) (hn : notStar e = true) (ht : i ∉ tch ie) (h : SE T Φ gl X c.io W G e ie o o1 .keep) :
    PE X (.Call (.Attribute (.Name y py) "append" apos) [e] [] cpos) (TEx T X.K c.io W G o (tch ie ++ [i]) o1 .keep [] (appR Φ gl appD i ie)) := by
  refine PE.imp (pe_bm PySem.F.plainAttrs_list PySem.F.slot_list_append (by rfl) mt_append (pe_slot XO hi hv) (pa_cons h pa_nil (star_ok XO hn X.env)) rfl (few1 XO hn cpos) hl (star_ok XO hn X.env) rfl) fun σ H Q ⟨F, A, ρ, R, P⟩ => ?_
  obtain ⟨ds, hg⟩ := lstAt_ok (show (PX.lstAt ρ i).bind _ ≠ .fail from P.nf)
  obtain ⟨a, vs, hs, hA, ha, hl, rl, mu⟩ := R.lstAt hg ho
  have e2 : (PX.lstAt ρ i) = PX.R.ok () ρ := by unfold PX.lstAt; rw [hg]
  unfold appR at P
  rw [e2] at P
  refine ⟨_, hs, .inl ⟨rfl, vs, .inl (.inl ha)⟩, F, A, ρ, R, PostR.bind (r := evE Φ gl ie ρ) (tc1 := tch ie) (tc2 := [i]) P (fun j h z => h (List.mem_append_left _ z)) (fun j h z => h (List.mem_append_right _ z)) fun d ρ1 F1 H1 A1 u R1 g1 f1 w1 P1 => ?_⟩
  obtain ⟨a1, a2, a3, a4⟩ := f1 i _ ht ho hg
  obtain ⟨a', vs', hs', hA', ha', hl', rl', mu'⟩ := R1.lstAt a3 a1
  rw [hs] at hs'
  cases hs'
  rw [a3] at P1
  dsimp only at P1
  have e3 : appD (.lst ds) d = if decide (ds.length < PX.sizeLine) = true then some (.lst (ds ++ [d])) else none := rfl
  rw [e3] at P1
  by_cases q : ds.length < PX.sizeLine
  · rw [if_pos (decide_eq_true q)] at P1
    obtain ⟨R', fr⟩ := mu' (ds ++ [d]) (vs' ++ [u]) (by rw [List.length_append, List.length_singleton]; omega) (rl'.app (.cons w1 .nil))
    exact ⟨a, vs', u, rfl, rfl, ha', by rw [← rl'.length, ← line_eq]; exact q, P1 F1 _ A1 .non R' (.refl F1) (fr [i] (by simp)) .non⟩
  · rw [if_neg (by simpa using q)] at P1
    exact False.elim P1
end
end PX
end
section
set_option Elab.async false
set_option linter.all false
set_option maxRecDepth 100000
set_option maxHeartbeats 4000000
namespace PX
open PySem L2

/-- an iterator that gives xs, as long as what it walks stands -/
def SeqOk (K : PySem.W.Frag) (G : Gh) (F H : Hp) (o : List Bool) (A : Nat → List Addr) (ρ : Env) (pk : List Nat) (J : It) (xs : List D) : Prop :=
  ∀ (F' H' : Hp), Grow F F' → Sub F' G.Lk H' → (∀ j d, j ∈ pk → ow o j = true → gt ρ j = some d → ∀ a ∈ A j, H' a = H a) →
    (∀ i, i < xs.length → J.go i H') ∧ J.stop xs.length H' ∧
    ∀ i x H'', i < xs.length → J.yld i H' x H'' → ∃ d F'', xs[i]? = some d ∧ Same H' H'' ∧ Grow F' F'' ∧ (∀ a u, F'' a = some u → F' a = some u ∨ (H'' a = some u ∧ (H' a = none ∨ ∃ vs, H' a = some (.tup vs)))) ∧ Rep K F'' d x
theorem Rel.ext2 {K : PySem.W.Frag} {io : List Nat} {G : Gh} {F F' H H' : Hp} {o : List Bool} {A : Nat → List Addr} {ρ : Env} {σ : L2.St} (r : Rel K io G F H o A ρ σ) (hs : Same H H') (g : Grow F F') (hn : ∀ a u, F' a = some u → F a = some u ∨ (H' a = some u ∧ (H a = none ∨ ∃ vs, H a = some (.tup vs)))) : Rel K io G F' H' o A ρ σ :=
  Rel.aft (sk := none) (B := []) r ⟨g, hn, fun a h => (by cases h), fun a u e _ => hs a u e, fun a h => by
    cases e : H a with
    | none => exact absurd e h
    | some u => rw [hs _ _ e]; exact fun z => nomatch z⟩ (fun b h => by cases h) (fun j d _ _ _ b h => by cases h)
def pksL (es : List E) : List Nat := es.flatMap pks
section
variable {T : Tab} {Φ : Fns} {gl : Nat → D} {c : Ctx} {X : Cx} {W : WX} {G : Gh} {o o1 o2 o3 : List Bool} {tg : Expr}
theorem PI.imp {e : Expr} {t t' : TI} (h : PI X tg e t) (i : ∀ σ H R, t' σ H R → t σ H R) : PI X tg e t' := ⟨fun pins s σ H R I q => h.run pins s σ H R I (i _ _ _ q)⟩
theorem PI.or {e : Expr} {t t' : TI} (h : PI X tg e t) (h' : PI X tg e t') : PI X tg e (fun σ H R => t σ H R ∨ t' σ H R) := ⟨fun pins s σ H R I q => q.elim (h.run pins s σ H R I) (h'.run pins s σ H R I)⟩
abbrev SI (T : Tab) (Φ : Fns) (gl : Nat → D) (X : Cx) (io : List Nat) (W : WX) (G : Gh) (tg e : Expr) (ik : IK) (irs : List E) (o o' : List Bool) : Prop :=
  PI X tg e (TX (fun F H A ρ xs J => SeqOk X.K G F H o' A ρ (pksL irs) J xs) T X.K io W G o (tchs irs) o' fun ρ => (evEs Φ gl irs ρ).bind fun ds ρ1 => optR (itD ik ds) ρ1)
/-- later, what is looked at is as it was -/
theorem RM.later {K : PySem.W.Frag} {m : Md} {F H F' H' : Hp} {A : Nat → List Addr} {ρ : Env} {pk : List Nat} {d : D} {v : V} (hm : m ≠ .fresh) (w : RM m K G F H o A ρ pk d v) (g : Grow F F') (s : Sub F' G.Lk H') (k : ∀ j d, j ∈ pk → ow o j = true → gt ρ j = some d → ∀ a ∈ A j, H' a = H a) : View K F' H' d v := by
  cases m with
  | fresh => exact absurd rfl hm
  | keep => exact Rep.view s (Rep.grow g w)
  | peek =>
    rcases w with w | ⟨j, hj, ho, e, w⟩
    · exact (w.grow g).view s
    · exact (w.keep g (k j d hj ho e)).view s
theorem View.lstI {K : PySem.W.Frag} {F H : Hp} {ds : List D} {v : V} (x : View K F H (.lst ds) v) : ∃ a vs, v = .ref a ∧ SqL K H a vs ∧ RepL K F ds vs := by
  cases x with
  | lst h l r => exact ⟨_, _, rfl, .of h, r⟩
theorem View.tupI {K : PySem.W.Frag} {F H : Hp} {ds : List D} {v : V} (x : View K F H (.tup ds) v) : ∃ a vs, v = .ref a ∧ SqT K H a vs ∧ RepL K F ds vs := by
  cases x with
  | tup f h l r => exact ⟨_, _, rfl, .of h, r⟩
theorem RepL.some {K : PySem.W.Frag} {F : Hp} {ds : List D} {vs : List V} (r : RepL K F ds vs) {i : Nat} (h : i < ds.length) : ∃ d v, ds[i]? = some d ∧ vs[i]? = some v ∧ Rep K F d v := by
  obtain ⟨v, h1, h2⟩ := r.at (List.getElem?_eq_getElem h)
  exact ⟨_, v, List.getElem?_eq_getElem h, h1, h2⟩
variable (XO : XOk T Φ gl c X W)
include XO
omit XO in
theorem evEs_one (ie : E) {β : Type} (ρ : Env) (k : List D → Env → R β) : (evEs Φ gl [ie] ρ).bind k = (evE Φ gl ie ρ).bind fun d ρ1 => k [d] ρ1 := by
  show ((evE Φ gl ie ρ).bind fun x ρ1 => (evEs Φ gl [] ρ1).bind fun xs ρ2 => PX.R.ok (x :: xs) ρ2).bind k = _
  cases evE Φ gl ie ρ <;> rfl
theorem si_seq {e : Expr} {ie : E} {m : Md} (hm : m ≠ .fresh) (h : SE T Φ gl X c.io W G e ie o o1 m) : SI T Φ gl X c.io W G tg e .seq [ie] o o1 := by
  refine PI.imp (PI.or (pi_list (tg := tg) h) (pi_tup (tg := tg) h)) fun σ H Q ⟨F, A, ρ, R, P⟩ => ?_
  have P := show PostR _ T X.K c.io W G F H o A ρ (tchs [ie]) o1 σ Q ((evEs Φ gl [ie] ρ).bind fun ds ρ1 => optR (itD IK.seq ds) ρ1) from P
  rw [evEs_one] at P
  have tcs : ∀ j, j ∉ tchs [ie] → j ∉ tch ie := fun j h z => h (by simp [tchs]; exact z)
  by_cases isl : ∃ ds ρ1, evE Φ gl ie ρ = .ok (.lst ds) ρ1
  · obtain ⟨ds, ρ0, e0⟩ := isl
    refine .inl ⟨F, A, ρ, R, PostR.bindE XO (tc1 := tch ie) (tc2 := []) P tcs (fun _ _ => by simp) fun d ρ1 F1 H1 A1 v ex R1 g1 f1 w1 P1 => ?_⟩
    rw [e0] at ex
    cases ex
    obtain ⟨a, vs, rfl, hs, _⟩ := (w1.view R1).lstI
    refine ⟨a, rfl, ⟨vs, hs⟩, ?_⟩
    refine P1 F1 H1 A1 (Itl X.K a) R1 (.refl F1) .refl fun F' H' g s k => ?_
    obtain ⟨a', vs', e, hs', r⟩ := (w1.later hm g s fun j d hj => k j d (by simpa [pksL] using hj)).lstI
    cases e
    refine ⟨fun i hi => ?_, ⟨vs', hs', by rw [r.length]; exact Nat.le_refl _⟩, fun i x H'' hi y => ?_⟩
    · obtain ⟨d, v, h1, h2, h3⟩ := r.some hi
      exact ⟨vs', v, hs', h2⟩
    · obtain ⟨rfl, y⟩ := y
      obtain ⟨d, v, h1, h2, h3⟩ := r.some hi
      have := y vs' hs'
      rw [h2] at this
      cases this
      exact ⟨d, F', h1, .refl _, .refl _, fun _ _ e => .inl e, h3⟩
  · refine .inr ⟨F, A, ρ, R, PostR.bindE XO (tc1 := tch ie) (tc2 := []) P tcs (fun _ _ => by simp) fun d ρ1 F1 H1 A1 v ex R1 g1 f1 w1 P1 => ?_⟩
    obtain ⟨xs, hx, P2⟩ := PostR.opt P1
    cases d with
    | lst ds => exact absurd ⟨ds, ρ1, ex⟩ isl
    | tup ds =>
      obtain rfl := Option.some.inj (show some ds = some xs from hx)
      obtain ⟨a, vs, rfl, hs, _⟩ := (w1.view R1).tupI
      refine ⟨a, rfl, ⟨vs, hs⟩, ?_⟩
      refine P2 F1 H1 A1 (Itt X.K a) R1 (.refl F1) .refl fun F' H' g s k => ?_
      obtain ⟨a', vs', e, hs', r⟩ := (w1.later hm g s fun j d hj => k j d (by simpa [pksL] using hj)).tupI
      cases e
      refine ⟨fun i hi => ?_, ⟨vs', hs', by rw [r.length]; exact Nat.le_refl _⟩, fun i x H'' hi y => ?_⟩
      · obtain ⟨d, v, h1, h2, h3⟩ := r.some hi
        exact ⟨vs', v, hs', h2⟩
      · obtain ⟨rfl, y⟩ := y
        obtain ⟨d, v, h1, h2, h3⟩ := r.some hi
        have := y vs' hs'
        rw [h2] at this
        cases this
        exact ⟨d, F', h1, .refl _, .refl _, fun _ _ e => .inl e, h3⟩
    | _ => cases hx
theorem range_seq {K : PySem.W.Frag} {F H : Hp} {A : Nat → List Addr} {ρ : Env} {pk : List Nat} (lo : Int) (n : Nat) : SeqOk K G F H o A ρ pk (Itr lo n) (rangeD lo n) := fun F' H' g s k => by
  have hl : (rangeD lo n).length = n := by unfold rangeD; rw [List.length_map, List.length_range]
  rw [hl]
  refine ⟨fun i hi => hi, Nat.le_refl _, fun i x H'' hi y => ?_⟩
  obtain ⟨rfl, rfl⟩ := y
  refine ⟨.int (lo + (i : Int)), F', ?_, .refl _, .refl _, fun _ _ e => .inl e, .int _⟩
  unfold rangeD
  rw [List.getElem?_map, List.getElem?_range hi]
  rfl
omit XO in
theorem range_bd {a : Int} (h1 : -big < a) (h2 : a < big) : -(2 ^ 62) ≤ a ∧ a < 2 ^ 62 := by
  unfold big at h1 h2
  omega
theorem si_range1 {e : Expr} {ie : E} {p pos : Pos} (hg : Gl X "range") (hf : ("range" : Str) ∈ T.frees) (hn : notStar e = true) (h : SP T Φ gl X c.io W G [e] [ie] o o1) : SI T Φ gl X c.io W G tg (.Call (.Name "range" p) [e] [] pos) .range [ie] o o1 := by
  refine PI.imp (pi_range1 (tg := tg) hg (XO.frees _ hf) h (star_ok XO hn X.env)) fun σ H Q ⟨F, A, ρ, R, P⟩ => ?_
  refine ⟨F, A, ρ, R, PostR.bindE XO (tc1 := tchs [ie]) (tc2 := []) P (fun _ h => h) (fun _ _ => by simp) fun ds ρ1 F1 H1 A1 vs ex R1 g1 f1 w1 P1 => ?_⟩
  obtain ⟨xs, hx, P2⟩ := PostR.opt P1
  have hlen := evEs_len XO ex
  cases w1 with
  | @cons _ irs d ds v vs w r =>
    cases r
    have vw := w.view R1
    cases vw with
    | int n =>
      have hx' : (if -big < n ∧ n < big then some (rangeD 0 n.toNat) else none) = some xs := hx
      by_cases q : -big < n ∧ n < big
      · rw [if_pos q] at hx'
        obtain rfl := Option.some.inj hx'
        obtain ⟨b1, b2⟩ := range_bd q.1 q.2
        exact ⟨n, rfl, b1, b2, P2 F1 H1 A1 _ R1 (.refl F1) .refl (range_seq XO 0 n.toNat)⟩
      · rw [if_neg q] at hx'; cases hx'
    | _ => cases hx
theorem si_range2 {e e2 : Expr} {ie ie2 : E} {p pos : Pos} (hg : Gl X "range") (hf : ("range" : Str) ∈ T.frees) (hn : notStar e = true) (hn2 : notStar e2 = true) (h : SP T Φ gl X c.io W G [e, e2] [ie, ie2] o o1) : SI T Φ gl X c.io W G tg (.Call (.Name "range" p) [e, e2] [] pos) .range [ie, ie2] o o1 := by
  refine PI.imp (pi_range2 (tg := tg) hg (XO.frees _ hf) h (by rw [star_ok XO hn, star_ok XO hn2]; rfl) (star_ok XO hn2 X.env)) fun σ H Q ⟨F, A, ρ, R, P⟩ => ?_
  refine ⟨F, A, ρ, R, PostR.bindE XO (tc1 := tchs [ie, ie2]) (tc2 := []) P (fun _ h => h) (fun _ _ => by simp) fun ds ρ1 F1 H1 A1 vs ex R1 g1 f1 w1 P1 => ?_⟩
  obtain ⟨xs, hx, P2⟩ := PostR.opt P1
  have hlen := evEs_len XO ex
  cases w1 with
  | @cons _ irs d ds v vs w r =>
    cases r with
    | @cons _ irs d2 ds v2 vs w2 r =>
    cases r
    have vw := w.view R1
    have vw2 := w2.view R1
    cases vw with
    | int a =>
      cases vw2 with
      | int b =>
        have hx' : (if -big < a ∧ a < big ∧ -big < b ∧ b < big then some (rangeD a (b - a).toNat) else none) = some xs := hx
        by_cases q : -big < a ∧ a < big ∧ -big < b ∧ b < big
        · rw [if_pos q] at hx'
          obtain rfl := Option.some.inj hx'
          obtain ⟨b1, b2⟩ := range_bd q.1 q.2.1
          obtain ⟨b3, b4⟩ := range_bd q.2.2.1 q.2.2.2
          exact ⟨a, b, rfl, ⟨b1, b2, b3, b4⟩, P2 F1 H1 A1 _ R1 (.refl F1) .refl (range_seq XO a (b - a).toNat)⟩
        · rw [if_neg q] at hx'; cases hx'
      | _ => cases hx
    | _ => cases hx
end
end PX
end
section
set_option Elab.async false
set_option linter.all false
set_option maxRecDepth 100000
set_option maxHeartbeats 4000000
namespace PX
open PySem L2
open PyProof.Rows

def SqX (k : Bool) (K : PySem.W.Frag) (H : Hp) (a : Addr) (xs : List V) : Prop := if k = true then SqL K H a xs else SqT K H a xs
def SqIt (k : Bool) (h : Heap) (it l : Addr) (i : Nat) : Prop := if k = true then h.IsListIter it l i else h.IsTupleIter it l i
def SqAt (k : Bool) (h : Heap) (l : Addr) (items : Array Value) : Prop := if k = true then h.IsList l items else h.IsTuple l items
theorem sq_draws {prog : Program} {w : World} {A : Around} (hh : A.handled = none) (k : Bool) (it l : Addr) (hne : l ≠ it) (items : Array Value) :
    Draws prog w A it [it, l] items.size (fun i v => items[i]? = some v) (fun i h => SqIt k h it l i ∧ SqAt k h l items) := by
  cases k with
  | true => exact Draws.list hh it l hne items
  | false => exact Draws.tuple hh it l hne items
theorem SqIt.obj {k : Bool} {h : Heap} {it l : Addr} {i : Nat} (x : SqIt k h it l i) : ∃ o, h.get? it = some o ∧ ∀ v, o.data ≠ .cell v := by
  cases k with
  | true => obtain ⟨o, e, _, d⟩ := x; exact ⟨o, e, fun v q => by rw [d] at q; cases q⟩
  | false => obtain ⟨o, e, _, d⟩ := x; exact ⟨o, e, fun v q => by rw [d] at q; cases q⟩
theorem SqIt.at {k : Bool} {h h' : Heap} {it l : Addr} {i : Nat} (x : SqIt k h it l i) (q : ∀ o, h.get? it = some o → h'.get? it = some o) : SqIt k h' it l i := by
  cases k with
  | true => exact Heap.IsListIter.at x q
  | false => exact Heap.IsTupleIter.at x q
section
variable {X : Cx} {pins : List (Addr × Obj)} {σ : L2.St} {H : Hp} {s : Shared} {a : Addr} {xs ys : List V}
theorem sq_get {k : Bool} (I : L2.Inv X pins σ H s) (h : SqX k X.K H a xs) : ∃ its, Vals xs its ∧ SqAt k s.heap a its.toArray := by
  cases k with
  | true =>
    obtain ⟨its, rv, p, _⟩ := I.list h
    exact ⟨its, rv, p.isList⟩
  | false =>
    obtain ⟨its, rv, p, _⟩ := I.tuple h
    exact ⟨its, rv, p⟩
theorem sq_inj {k : Bool} (I : L2.Inv X pins σ H s) (h : SqX k X.K H a xs) (h' : SqX k X.K H a ys) : xs = ys := by
  cases k with
  | true => exact I.list_inj h h'
  | false => exact I.tuple_inj h h'
theorem SqAt.lt {k : Bool} {h : Heap} {its : Array Value} (x : SqAt k h a its) : a < h.objs.size := by
  cases k with
  | true => obtain ⟨o, e, _⟩ := x; exact Heap.lt_size e
  | false => obtain ⟨o, e, _⟩ := x; exact Heap.lt_size e
end
def ItZ (k1 k2 : Bool) (K : PySem.W.Frag) (a b : Addr) : It :=
  ⟨fun i H => ∃ (xs ys : List V) (x y : V), SqX k1 K H a xs ∧ SqX k2 K H b ys ∧ xs[i]? = some x ∧ ys[i]? = some y,
    fun i H v H' => ∃ T x y, v = .ref T ∧ H T = none ∧ H' = upd H T (.tup [x, y]) ∧ (∀ xs, SqX k1 K H a xs → xs[i]? = some x) ∧ ∀ ys, SqX k2 K H b ys → ys[i]? = some y,
    fun i H => ∃ xs ys : List V, SqX k1 K H a xs ∧ SqX k2 K H b ys ∧ i = min xs.length ys.length⟩
theorem far_sep {z TI TO i1 i2 a b : Addr} (D : ZipApart z TI TO i1 i2 a b) : ZipSep2 z TI TO i1 i2 [i1, a] [i2, b] where
  TIz := D.TIz
  TOz := D.TOz
  TITO := D.TITO
  TIi1 := D.TIi1
  mem1 := by simp
  zf1 := by simp [D.i1z.symm, D.l1z.symm]
  Tf1 := by simp [D.TOi1, D.l1TO.symm]
  TIi2 := D.TIi2
  mem2 := by simp
  zf2 := by simp [D.i2z.symm, D.l2z.symm]
  Tf2 := by simp [D.TOi2, D.l2TO.symm]
  sep1_2 := by simp [D.i12, D.l2i1.symm]
  sep2_1 := by simp [D.i12.symm, D.l1i2.symm]
abbrev ZAt (k1 k2 : Bool) (z TI TO i1 i2 a b : Addr) : Nat → Heap → Prop := fun i h => IsZip h z TI TO .none ∧ IsTupOf2 h TI (.ref i1) (.ref i2) ∧ (∃ x y, IsTupOf2 h TO x y) ∧ SqIt k1 h i1 a i ∧ SqIt k2 h i2 b i
theorem five {z TI TO i1 i2 c : Addr} (h : c ∈ [z, TI, TO, i1, i2]) : c = z ∨ c = TI ∨ c = TO ∨ c = i1 ∨ c = i2 := by simpa using h
theorem turn_z {P : Program} {w : World} {K : PySem.W.Frag} {elts : List Expr} {kk : Nat} {tpos : Pos} {k1 k2 : Bool} {a b z TI TO i1 i2 : Addr} (D : ZipApart z TI TO i1 i2 a b) :
    Turn P w K (.Tuple elts kk tpos) (ItZ k1 k2 K a b) [z, TI, TO, i1, i2] z (ZAt k1 k2 z TI TO i1 i2 a b) where
  mem := by simp
  obj := fun i h st c hc => by
    obtain ⟨hz, hTI, ⟨x, y, hTO⟩, h1, h2⟩ := st
    rcases five hc with q | q | q | q | q <;> subst q
    · exact ⟨_, hz, fun v q => nomatch q⟩
    · exact ⟨_, hTI, fun v q => nomatch q⟩
    · exact ⟨_, hTO, fun v q => nomatch q⟩
    · exact h1.obj
    · exact h2.obj
  keep := fun i h h' st k => by
    obtain ⟨hz, hTI, ⟨x, y, hTO⟩, h1, h2⟩ := st
    exact ⟨k z (by simp) _ hz, k TI (by simp) _ hTI, ⟨x, y, k TO (by simp) _ hTO⟩, h1.at fun o q => k i1 (by simp) o q, h2.at fun o q => k i2 (by simp) o q⟩
  item := by
    intro X hP hw hK hc i pins s σ H E I hf st hg
    subst hP hw hK
    obtain ⟨hz, hTI, ⟨x0, y0, hTO⟩, h1, h2⟩ := st
    obtain ⟨xs, ys, x, y, hqx, hqy, hx, hy⟩ := hg
    obtain ⟨its, rv, p⟩ := sq_get I hqx
    obtain ⟨its2, rv2, p2⟩ := sq_get I hqy
    have hzl : z < s.heap.objs.size := Heap.lt_size hz
    have hh : X.A.in1.handled = none := I.ok.hd hc
    have l1 : i < its.toArray.size := by
      obtain ⟨u, hu, _⟩ := rv.get hx
      rw [List.size_toArray]; exact (List.getElem?_eq_some_iff.mp hu).1
    have l2 : i < its2.toArray.size := by
      obtain ⟨u, hu, _⟩ := rv2.get hy
      rw [List.size_toArray]; exact (List.getElem?_eq_some_iff.mp hu).1
    refine wpAny_pyNext_zipD2_item (far_sep D) (sq_draws hh k1 i1 a D.l1i1 its.toArray) (sq_draws hh k2 i2 b D.l2i2 its2.toArray) hz hTI hTO ⟨h1, p⟩ ⟨h2, p2⟩ l1 l2 fun u u2 h' tk hu hu2 z' TO' st1 st2 hT hsz hk => ?_
    have ru : RelV x u := by
      obtain ⟨v, hv, r⟩ := rv.get hx
      have e : its.toArray[i]? = its[i]? := by simp
      rw [e, hv] at hu; cases hu; exact r
    have ru2 : RelV y u2 := by
      obtain ⟨v, hv, r⟩ := rv2.get hy
      have e : its2.toArray[i]? = its2[i]? := by simp
      rw [e, hv] at hu2; cases hu2; exact r
    refine ⟨_, rfl, wpAny_letOwnedTupleGo_zip (s := { s with heap := h', toks := tk }) z' fun h'' z'' sb => ?_⟩
    have hT2 : h''.get? s.heap.objs.size = some { cls := .type "tuple", data := .seq #[u, u2] } := (sb.2 _ (Nat.ne_of_gt hzl)).trans hT
    have new : ObjOk X.prog X.w (upd H s.heap.objs.size (.tup [x, y])) h'' s.heap.objs.size (.tup [x, y]) :=
      ⟨by show 2 ≤ PySem.sizeLine; decide, [u, u2], .cons ru (.cons ru2 .nil), ⟨_, hT2, rfl, _, rfl⟩⟩
    have I1 : L2.Inv X pins σ (upd H s.heap.objs.size (.tup [x, y])) { s with heap := h'', toks := tk } :=
      I.turnedNew (t' := tk) (ch := [z, TI, TO, i1, i2]) (fun c o hb q => (sb.2 c (fun q' => hb (by simp [q']))).trans (hk c o (fun q' => hb (by simp [q'])) (fun q' => hb (by simp [q'])) (fun q' => hb (by simp [q'])) (fun q' => hb (by simp [q'])) q)) hf (Nat.le_refl _) new
    refine ⟨.ref s.heap.objs.size, _, I1, rfl, ⟨_, x, y, rfl, I.hok.fresh (Nat.le_refl _), rfl, fun l hl => by rw [sq_inj I hl hqx]; exact hx, fun l hl => by rw [sq_inj I hl hqy]; exact hy⟩, ⟨z'', ?_, ⟨u, u2, ?_⟩, ?_, ?_⟩, fun c hcm => ?_⟩
    · exact (sb.2 _ D.TIz).trans (hk _ _ D.TIz D.TITO D.TIi1 D.TIi2 hTI)
    · exact (sb.2 _ D.TOz).trans TO'
    · exact st1.1.at fun o q => (sb.2 _ D.i1z).trans q
    · exact st2.1.at fun o q => (sb.2 _ D.i2z).trans q
    · have hlt : c < s.heap.objs.size := by
        rcases five hcm with q | q | q | q | q <;> subst q
        · exact hzl
        · exact Heap.lt_size hTI
        · exact Heap.lt_size hTO
        · obtain ⟨_, e1, _⟩ := h1.obj; exact Heap.lt_size e1
        · obtain ⟨_, e2, _⟩ := h2.obj; exact Heap.lt_size e2
      rw [upd_ne (Nat.ne_of_lt hlt)]
      exact (hf c hcm).1
  done := by
    intro X hP hw hK hc i pins s σ H E I hf st hg
    subst hP hw hK
    obtain ⟨hz, hTI, ⟨x0, y0, hTO⟩, h1, h2⟩ := st
    obtain ⟨xs, ys, hqx, hqy, hend⟩ := hg
    obtain ⟨its, rv, p⟩ := sq_get I hqx
    obtain ⟨its2, rv2, p2⟩ := sq_get I hqy
    have l1 := rv.length
    have l2 := rv2.length
    have hh : X.A.in1.handled = none := I.ok.hd hc
    exact wpAny_pyNext_zipD2_end (far_sep D) (sq_draws hh k1 i1 a D.l1i1 its.toArray) (sq_draws hh k2 i2 b D.l2i2 its2.toArray) hz hTI hTO ⟨h1, p⟩ ⟨h2, p2⟩ (by rw [List.size_toArray]; omega) (by rw [List.size_toArray]; omega) (by rw [List.size_toArray, List.size_toArray]; omega)
      fun h' tk hk => ⟨rfl, I.turnedL (t' := tk) (ch := [z, TI, TO, i1, i2]) (fun c o hb q => hk c o (fun q' => hb (by simp [q'])) (fun q' => hb (by simp [q'])) (fun q' => hb (by simp [q'])) (fun q' => hb (by simp [q'])) q) hf⟩
  self := fun A i s Q E st h => wpAny_pyIter_zip st.1 h

def iZ (K : PySem.W.Frag) (ta : TA) : TI := fun σ H R => ta σ H fun vs H1 => ∃ k1 k2 a b xs ys, vs = [.ref a, .ref b] ∧ SqX k1 K H1 a xs ∧ SqX k2 K H1 b ys ∧ R (ItZ k1 k2 K a b) H1
theorem sq_begin {k : Bool} {h : Heap} {l : Addr} {its : Array Value} : ∃ o, Begins (.ref l) o (fun h => SqAt k h l its) ∧ ∀ h' p, h'.get? p = some o → SqIt k h' p l 0 := by
  cases k with
  | true => exact ⟨_, begins_list l its, fun h' p e => ⟨_, e, rfl, rfl⟩⟩
  | false => exact ⟨_, begins_tuple l its, fun h' p e => ⟨_, e, rfl, rfl⟩⟩
theorem pi_z {X : Cx} {e e2 : Expr} {ta : TA} {p pos tpos : Pos} {elts : List Expr} {kk : Nat} (hg : Gl X "zip") (hm : X.mg "zip" = none) (ha : PA X [e, e2] ta)
    (hs : starEach [e, e2] X.env = (false, eval e X.env) :: starEach [e2] X.env) (hpl : (backTo pos (starEach [e2] X.env)).any (·.1) = false) :
    PI X (.Tuple elts kk tpos) (.Call (.Name "zip" p) [e, e2] [] pos) (iZ X.K ta) := by
  refine ⟨fun pins s σ H R I h => ?_⟩
  refine Call_ (ld_blt I hg hm PyProof.Rows.boot_zip (PyProof.Rows.callWith_type1 (thn (ha.run pos pins s σ H _ I h) fun us s1 ⟨vs, H1, I1, r1, q1⟩ => ?_) hs hpl))
  obtain ⟨k1, k2, a, b, xs, ys, ex, hqx, hqy, q⟩ := q1
  subst ex
  cases r1 with
  | cons r rr =>
    cases rr with
    | cons r' rr =>
      cases rr
      cases r
      cases r'
      obtain ⟨its, rv, p1⟩ := sq_get I1 hqx
      obtain ⟨its2, rv2, p2⟩ := sq_get I1 hqy
      obtain ⟨o1, B1, b1⟩ := sq_begin (k := k1) (h := s1.heap) (l := a) (its := its.toArray)
      obtain ⟨o2, B2, b2⟩ := sq_begin (k := k2) (h := s1.heap) (l := b) (its := its2.toArray)
      refine zip_begins2 B1 B2 p1 p2 fun h' hz hTI hTO h1 h2 hsz hk => wpAny_pyIter_zip hz ?_
      have I2 : L2.Inv X pins σ H1 { s1 with heap := h' } := I1.kept (t' := s1.toks) hk
      refine ⟨s1.heap.objs.size + 4, [s1.heap.objs.size + 4, s1.heap.objs.size + 2, s1.heap.objs.size + 3, s1.heap.objs.size, s1.heap.objs.size + 1], _, _, H1, rfl, I2, turn_z (k1 := k1) (k2 := k2) (PySem.W.ktu_apart s1.heap.objs.size a b p1.lt p2.lt), ⟨hz, hTI, ⟨_, _, hTO⟩, b1 _ _ h1, b2 _ _ h2⟩, fun c hcm => ?_, q⟩
      have hle : s1.heap.objs.size ≤ c := by
        rcases five hcm with z | z | z | z | z <;> rw [z] <;> omega
      exact I1.fpOk hle (I1.hok.fresh hle)
end PX
end
section
set_option Elab.async false
set_option linter.all false
set_option maxRecDepth 100000
set_option maxHeartbeats 4000000
namespace PX
open PySem L2

section
variable {T : Tab} {Φ : Fns} {gl : Nat → D} {c : Ctx} {X : Cx} {W : WX} {G : Gh} {o o1 o2 o3 : List Bool} {tg : Expr}
def isLst : D → Bool
  | .lst _ => true
  | _ => false
theorem seq_view {K : PySem.W.Frag} {F H : Hp} {d : D} {ds : List D} {v : V} (h : seqD d = some ds) (x : View K F H d v) : ∃ a vs, v = .ref a ∧ SqX (isLst d) K H a vs ∧ RepL K F ds vs := by
  cases d with
  | lst es => obtain rfl := Option.some.inj (show some es = some ds from h); exact x.lstI
  | tup es => obtain rfl := Option.some.inj (show some es = some ds from h); exact x.tupI
  | _ => cases h
theorem zip_at : ∀ {xs ys : List D} {i : Nat} {x y : D}, xs[i]? = some x → ys[i]? = some y → (zipD xs ys)[i]? = some (.tup [x, y])
  | [], _, _, _, _, h, _ => by simp at h
  | _ :: _, [], _, _, _, _, h => by simp at h
  | x :: xs, y :: ys, 0, _, _, h, h' => by cases h; cases h'; rfl
  | x :: xs, y :: ys, i + 1, _, _, h, h' => zip_at (xs := xs) (ys := ys) (i := i) h h'
theorem zip_len : ∀ (xs ys : List D), (zipD xs ys).length = min xs.length ys.length
  | [], ys => by simp [zipD]
  | _ :: _, [] => by simp [zipD]
  | x :: xs, y :: ys => by
    show (zipD xs ys).length + 1 = _
    rw [zip_len xs ys, List.length_cons, List.length_cons]; omega
theorem enum_at : ∀ {xs : List D} {k i : Nat} {x : D}, xs[i]? = some x → (enumD k xs)[i]? = some (.tup [.int ((k + i : Nat) : Int), x])
  | [], _, _, _, h => by simp at h
  | x :: xs, k, 0, _, h => by cases h; rfl
  | x :: xs, k, i + 1, _, h => by
    have := enum_at (xs := xs) (k := k + 1) (i := i) h
    show (enumD (k + 1) xs)[i]? = _
    rw [this]
    rw [show k + 1 + i = k + (i + 1) by omega]
theorem enum_len : ∀ (xs : List D) (k : Nat), (enumD k xs).length = xs.length
  | [], _ => rfl
  | x :: xs, k => by
    show (enumD (k + 1) xs).length + 1 = xs.length + 1
    rw [enum_len xs]
/-- a new pair -/
theorem pair_new {K : PySem.W.Frag} {F H : Hp} {T : Addr} {x y : V} {dx dy : D} {Lk : Addr → Option Obj} (s : Sub F Lk H) (hT : H T = none) (rx : Rep K F dx x) (ry : Rep K F dy y) :
    ∃ F'', Same H (upd H T (.tup [x, y])) ∧ Grow F F'' ∧ (∀ a u, F'' a = some u → F a = some u ∨ ((upd H T (.tup [x, y])) a = some u ∧ (H a = none ∨ ∃ vs, H a = some (.tup vs)))) ∧ Rep K F'' (.tup [dx, dy]) (.ref T) := by
  have fF := s.free hT
  refine ⟨upd F T (.tup [x, y]), Same_upd hT, .upd fF, fun a u e => ?_, .tup upd_same (by show 2 ≤ PX.sizeLine; decide) (.cons (rx.grow (.upd fF)) (.cons (ry.grow (.upd fF)) .nil))⟩
  by_cases q : a = T
  · subst q; rw [upd_same] at e; cases e; exact .inr ⟨upd_same, .inl hT⟩
  · rw [upd_ne q] at e; exact .inl e
variable (XO : XOk T Φ gl c X W)
include XO
theorem si_zip {e e2 : Expr} {ie ie2 : E} {elts : List Expr} {kk : Nat} {tpos p pos : Pos} (hg : Gl X "zip") (hf : ("zip" : Str) ∈ T.frees) (hn : notStar e = true) (hn2 : notStar e2 = true) (h : SP T Φ gl X c.io W G [e, e2] [ie, ie2] o o1) :
    SI T Φ gl X c.io W G (.Tuple elts kk tpos) (.Call (.Name "zip" p) [e, e2] [] pos) .zip [ie, ie2] o o1 := by
  refine PI.imp (pi_z hg (XO.frees _ hf) h (star_ok XO hn X.env) (star_none XO (by simp [hn2]) pos X.env)) fun σ H Q ⟨F, A, ρ, R, P⟩ => ?_
  refine ⟨F, A, ρ, R, PostR.bindE XO (tc1 := tchs [ie, ie2]) (tc2 := []) P (fun _ h => h) (fun _ _ => by simp) fun ds ρ1 F1 H1 A1 vs ex R1 g1 f1 w1 P1 => ?_⟩
  obtain ⟨xs, hx, P2⟩ := PostR.opt P1
  have hlen := evEs_len XO ex
  cases w1 with
  | @cons _ irs d ds v vs w r =>
    cases r with
    | @cons _ irs d2 ds v2 vs w2 r =>
      cases r
      have hx' : ((seqD d).bind fun xs => (seqD d2).map fun ys => zipD xs ys) = some xs := hx
      cases h1 : seqD d with
      | none => rw [h1] at hx'; cases hx'
      | some l1 =>
        rw [h1] at hx'
        cases h2 : seqD d2 with
        | none => rw [h2] at hx'; cases hx'
        | some l2 =>
          rw [h2] at hx'
          obtain rfl := Option.some.inj (show some (zipD l1 l2) = some xs from hx')
          obtain ⟨a, vs1, rfl, q1, _⟩ := seq_view h1 (w.view R1)
          obtain ⟨b, vs2, rfl, q2, _⟩ := seq_view h2 (w2.view R1)
          refine ⟨isLst d, isLst d2, a, b, vs1, vs2, rfl, q1, q2, ?_⟩
          refine P2 F1 H1 A1 _ R1 (.refl F1) .refl fun F' H' g s k => ?_
          obtain ⟨a', us1, e1, q1', r1⟩ := seq_view h1 (w.later (by decide) g s fun j d hj => k j d (by simp [pksL, hj]))
          obtain ⟨b', us2, e2, q2', r2⟩ := seq_view h2 (w2.later (by decide) g s fun j d hj => k j d (by simp [pksL, hj]))
          cases e1; cases e2
          rw [zip_len]
          refine ⟨fun i hi => ?_, ⟨us1, us2, q1', q2', by rw [r1.length, r2.length]⟩, fun i x H'' hi y => ?_⟩
          · obtain ⟨d1, v1, a1, a2, a3⟩ := r1.some (i := i) (by omega)
            obtain ⟨d2, v2, b1, b2, b3⟩ := r2.some (i := i) (by omega)
            exact ⟨us1, us2, v1, v2, q1', q2', a2, b2⟩
          · obtain ⟨T, u, u2, rfl, hT, rfl, y1, y2⟩ := y
            obtain ⟨d1, v1, a1, a2, a3⟩ := r1.some (i := i) (by omega)
            obtain ⟨d2, v2, b1, b2, b3⟩ := r2.some (i := i) (by omega)
            have z1 := y1 us1 q1'
            have z2 := y2 us2 q2'
            rw [a2] at z1; rw [b2] at z2
            cases z1; cases z2
            obtain ⟨F'', c1, c2, c3, c4⟩ := pair_new s hT a3 b3
            exact ⟨_, F'', zip_at a1 b1, c1, c2, c3, c4⟩
theorem si_enum {e : Expr} {ie : E} {elts : List Expr} {kk : Nat} {tpos p pos : Pos} (hg : Gl X "enumerate") (hf : ("enumerate" : Str) ∈ T.frees) (hn : notStar e = true) (h : SP T Φ gl X c.io W G [e] [ie] o o1) :
    SI T Φ gl X c.io W G (.Tuple elts kk tpos) (.Call (.Name "enumerate" p) [e] [] pos) .enum [ie] o o1 := by
  refine PI.imp (pi_enum hg (XO.frees _ hf) h (star_ok XO hn X.env)) fun σ H Q ⟨F, A, ρ, R, P⟩ => ?_
  refine ⟨F, A, ρ, R, PostR.bindE XO (tc1 := tchs [ie]) (tc2 := []) P (fun _ h => h) (fun _ _ => by simp) fun ds ρ1 F1 H1 A1 vs ex R1 g1 f1 w1 P1 => ?_⟩
  obtain ⟨xs, hx, P2⟩ := PostR.opt P1
  have hlen := evEs_len XO ex
  cases w1 with
  | @cons _ irs d ds v vs w r =>
    cases r
    cases d with
    | lst l1 =>
      obtain rfl := Option.some.inj (show some (enumD 0 l1) = some xs from hx)
      obtain ⟨a, vs1, rfl, q1, _⟩ := (w.view R1).lstI
      refine ⟨a, vs1, rfl, q1, ?_⟩
      refine P2 F1 H1 A1 _ R1 (.refl F1) .refl fun F' H' g s k => ?_
      obtain ⟨a', us1, e1, q1', r1⟩ := (w.later (by decide) g s fun j d hj => k j d (by simp [pksL, hj])).lstI
      cases e1
      rw [enum_len]
      refine ⟨fun i hi => ?_, ⟨us1, q1', by rw [r1.length]; exact Nat.le_refl _⟩, fun i x H'' hi y => ?_⟩
      · obtain ⟨d1, v1, a1, a2, a3⟩ := r1.some hi
        exact ⟨us1, v1, q1', a2⟩
      · obtain ⟨T, u, rfl, hT, rfl, y1⟩ := y
        obtain ⟨d1, v1, a1, a2, a3⟩ := r1.some hi
        have z1 := y1 us1 q1'
        rw [a2] at z1
        cases z1
        obtain ⟨F'', c1, c2, c3, c4⟩ := pair_new s hT (.int (i : Int)) a3
        refine ⟨_, F'', ?_, c1, c2, c3, c4⟩
        have := enum_at (k := 0) a1
        rw [Nat.zero_add] at this
        exact this
    | _ => cases hx
omit XO in
def SetIn (is : List Nat) (σ σ' : L2.St) : Prop := σ'.length = σ.length ∧ ∀ j, j ∉ is → σ'[j]? = σ[j]?
omit XO in
theorem SetIn.refl {is : List Nat} {σ : L2.St} : SetIn is σ σ := ⟨rfl, fun _ _ => rfl⟩
omit XO in
theorem SetIn.trans {is : List Nat} {σ σ1 σ2 : L2.St} (a : SetIn is σ σ1) (b : SetIn is σ1 σ2) : SetIn is σ σ2 := ⟨b.1.trans a.1, fun j h => (b.2 j h).trans (a.2 j h)⟩
omit XO in
theorem PG.imp {e : Expr} {t t' : TG} (h : PG X e t) (i : ∀ v σ H Q, t' v σ H Q → t v σ H Q) : PG X e t' := ⟨fun pins s σ H v u Q I r q => h.run pins s σ H v u Q I r (i _ _ _ _ q)⟩
omit XO in
theorem PGs.imp {e : List Expr} {t t' : TGs} (h : PGs X e t) (i : ∀ v σ H Q, t' v σ H Q → t v σ H Q) : PGs X e t' := ⟨fun pins s σ H v u Q I r q => h.run pins s σ H v u Q I r (i _ _ _ _ q)⟩
/-- what is stored is shared; the targets' slots own nothing -/
abbrev tTg (X : Cx) (io : List Nat) (o : List Bool) (is : List Nat) (t : Tg) : TG := fun v σ H Q => ∃ (G : Gh) (F : Hp) (A : Nat → List Addr) (ρ : Env) (d : D) (ρ' : Env), Rel X.K io G F H o A ρ σ ∧ Rep X.K F d v ∧ asg t d ρ = some ρ' ∧ ∀ σ', Rel X.K io G F H o A ρ' σ' → SetIn is σ σ' → Q σ' H
abbrev tTgs (X : Cx) (io : List Nat) (o : List Bool) (is : List Nat) (ts : List Tg) : TGs := fun vs σ H Q => ∃ (G : Gh) (F : Hp) (A : Nat → List Addr) (ρ : Env) (ds : List D) (ρ' : Env), Rel X.K io G F H o A ρ σ ∧ RepL X.K F ds vs ∧ asgs ts ds ρ = some ρ' ∧ ∀ σ', Rel X.K io G F H o A ρ' σ' → SetIn is σ σ' → Q σ' H
/-- a name that may be stored -/
def sto (c : Ctx) (x : Str) : Bool := match c.sc.names.lookup x with
  | some .local => true
  | some .cell => c.fn x
  | _ => false
theorem sto_ok {x : Str} (h : sto c x = true) : L2.Loc X.env.scope x ∧ (X.fn x = true ∨ X.env.scope.names.lookup x = some .local) := by
  rw [XO.hs]
  unfold sto at h
  unfold L2.Loc
  split at h
  · rename_i e; exact ⟨.inl e, .inr e⟩
  · rename_i e; exact ⟨.inr e, .inl (XO.fn x h)⟩
  · cases h
omit XO in
theorem Rel.ow_congr {K : PySem.W.Frag} {io : List Nat} {F H : Hp} {A : Nat → List Addr} {ρ : Env} {σ : L2.St} (r : Rel K io G F H o A ρ σ) (h : ∀ i, ow o i = ow o1 i) : Rel K io G F H o1 A ρ σ :=
  ⟨r.sub, r.lkF, r.f0, r.new, r.dom, r.keep, r.len, fun i d e => by rw [← h i]; exact r.sl i d e, fun i d e w => r.own i d e (by rw [h i]; exact w), fun i j d e ij hi hj wi wj => r.dis i j d e ij hi hj (by rw [h i]; exact wi) (by rw [h j]; exact wj), fun i hi => ⟨by rw [← h i]; exact (r.ioo i hi).1, (r.ioo i hi).2⟩⟩
omit XO in
theorem ow_false {i : Nat} (h : ow o i = false) : ∀ j, ow (o.set i false) j = ow o j := fun j => by
  by_cases e : i = j
  · subst e; rw [ow_set_false, h]
  · exact ow_set_ne e
omit XO in
theorem st_out : ∀ {ρ : Env} {i : Nat} {v : Option D}, ρ.length ≤ i → st ρ i v = ρ
  | [], _, _, _ => rfl
  | _ :: _, 0, _, h => by simp at h
  | x :: r, i + 1, v, h => by
    show x :: st r i v = x :: r
    rw [st_out (ρ := r) (i := i) (by simpa using h)]
theorem pg_nm {i : Nat} {x : Str} {pos : Pos} {is : List Nat} (hi : c.N[i]? = some x) (hs : sto c x = true) (ho : ow o i = false) (hm : i ∈ is) (hio : i ∉ c.io) : PG X (.Name x pos) (tTg X c.io o is (.nm i)) := by
  obtain ⟨h1, h2⟩ := sto_ok XO hs
  refine PG.imp (pg_name (by rw [XO.hN]; exact XO.nd) (by rw [XO.hN]; exact hi) h1 h2) fun v σ H Q ⟨G, F, A, ρ, d, ρ', R, rp, as, k⟩ => ?_
  obtain rfl : st ρ i (some d) = ρ' := Option.some.inj as
  refine k _ ?_ ⟨List.length_set .., fun j hj => List.getElem?_set_ne fun z => hj (by rw [← z]; exact hm)⟩
  by_cases hl : i < ρ.length
  · exact (R.setSh hl hio rp).ow_congr (ow_false ho)
  · rw [st_out (by omega)]
    have e : σ.set i (some v) = σ := List.set_eq_of_length_le (by rw [← R.len]; omega)
    rw [e]; exact R
def notStar' : Expr → Bool := notStar
omit XO in
theorem asgE_cons {e : Expr} {es : List Expr} (h : notStar e = true) (env : PySem.Env) : assignEach (e :: es) env = (false, assign e env) :: assignEach es env := by
  cases e <;> first | rfl | cases h
omit XO in
theorem asgE_all : ∀ {es : List Expr}, es.all notStar = true → ∀ env, (assignEach es env).length = es.length ∧ (assignEach es env).findIdx? (·.1) = none
  | [], _, _ => ⟨rfl, rfl⟩
  | e :: es, h, env => by
    rw [List.all_cons, Bool.and_eq_true] at h
    obtain ⟨h1, h2⟩ := asgE_all h.2 env
    rw [asgE_cons h.1]
    refine ⟨by rw [List.length_cons, List.length_cons, h1], ?_⟩
    rw [List.findIdx?_cons, h2]; rfl
theorem pg_nil {is : List Nat} : PGs X [] (tTgs X c.io o is []) := by
  refine PGs.imp pgs_nil fun vs σ H Q ⟨G, F, A, ρ, ds, ρ', R, rp, as, k⟩ => ?_
  cases ds with
  | cons _ _ => cases as
  | nil =>
    obtain rfl : ρ = ρ' := Option.some.inj as
    cases rp
    exact ⟨rfl, k σ R .refl⟩
theorem pg_cons {e : Expr} {es : List Expr} {t : Tg} {ts : List Tg} {is : List Nat} (hn : notStar e = true) (h : PG X e (tTg X c.io o is t)) (hr : PGs X es (tTgs X c.io o is ts)) : PGs X (e :: es) (tTgs X c.io o is (t :: ts)) := by
  refine PGs.imp (pgs_cons h hr (by rw [asgE_cons hn]; rfl)) fun vs σ H Q ⟨G, F, A, ρ, ds, ρ', R, rp, as, k⟩ => ?_
  cases ds with
  | nil => cases as
  | cons d ds =>
    cases rp with
    | @cons _ _ v vs r rr =>
      obtain ⟨ρ1, h1, h2⟩ := Option.bind_eq_some_iff.mp (show (asg t d ρ).bind (fun ρ1 => asgs ts ds ρ1) = some ρ' from as)
      exact ⟨v, vs, rfl, G, F, A, ρ, d, ρ1, R, r, h1, fun σ1 R1 s1 => ⟨G, F, A, ρ1, ds, ρ', R1, rr, h2, fun σ2 R2 s2 => k σ2 R2 (s1.trans s2)⟩⟩
omit XO in
theorem asgs_len : ∀ {ts : List Tg} {ds : List D} {ρ ρ' : Env}, asgs ts ds ρ = some ρ' → ts.length = ds.length
  | [], [], _, _, _ => rfl
  | [], _ :: _, _, _, h => by cases h
  | _ :: _, [], _, _, h => by cases h
  | t :: ts, d :: ds, ρ, ρ', h => by
    obtain ⟨ρ1, h1, h2⟩ := Option.bind_eq_some_iff.mp (show (asg t d ρ).bind (fun ρ1 => asgs ts ds ρ1) = some ρ' from h)
    rw [List.length_cons, List.length_cons, asgs_len h2]
theorem pg_tp {es : List Expr} {ts : List Tg} {k : Nat} {pos : Pos} {is : List Nat} (hn : es.all notStar = true) (hl : es.length = ts.length) (h : PGs X es (tTgs X c.io o is ts)) : PG X (.Tuple es k pos) (tTg X c.io o is (.tp ts)) := by
  obtain ⟨a1, a2⟩ := asgE_all hn X.env
  refine PG.imp (pg_tup XO.calm h a1 a2) fun v σ H Q ⟨G, F, A, ρ, d, ρ', R, rp, as, kk⟩ => ?_
  cases d with
  | tup ds =>
    have as' : asgs ts ds ρ = some ρ' := as
    obtain ⟨a, vs, rfl, hs, r⟩ := (rp.view R.sub).tupI
    exact ⟨a, vs, rfl, hs, by rw [← r.length, ← asgs_len as', hl], G, F, A, ρ, ds, ρ', R, r, as', kk⟩
  | _ => cases as
end
end PX
end
section
set_option Elab.async false
set_option linter.all false
set_option maxRecDepth 100000
set_option maxHeartbeats 4000000
namespace PX
open PySem L2

mutual
def tgsOf : Tg → List Nat
  | .nm i => [i]
  | .tp ts => tgsOfs ts
def tgsOfs : List Tg → List Nat
  | [] => []
  | t :: ts => tgsOf t ++ tgsOfs ts
end
mutual
theorem asg_out : ∀ {t : Tg} {d : D} {ρ ρ' : Env}, asg t d ρ = some ρ' → ∀ j, j ∉ tgsOf t → gt ρ' j = gt ρ j
  | .nm i, d, ρ, ρ', h, j, hj => by
    obtain rfl : st ρ i (some d) = ρ' := Option.some.inj h
    exact gt_st_ne fun z => hj (by simp [tgsOf, z])
  | .tp ts, .tup ds, ρ, ρ', h, j, hj => asgs_out (ts := ts) (ds := ds) h j hj
  | .tp ts, .non, _, _, h, _, _ => by cases h
  | .tp ts, .bl _, _, _, h, _, _ => by cases h
  | .tp ts, .int _, _, _, h, _, _ => by cases h
  | .tp ts, .str _, _, _, h, _, _ => by cases h
  | .tp ts, .lst _, _, _, h, _, _ => by cases h
  | .tp ts, .dic _ _, _, _, h, _, _ => by cases h
  | .tp ts, .obj _ _, _, _, h, _, _ => by cases h
  | .tp ts, .exc _ _, _, _, h, _, _ => by cases h
  | .tp ts, .scr _, _, _, h, _, _ => by cases h
theorem asgs_out : ∀ {ts : List Tg} {ds : List D} {ρ ρ' : Env}, asgs ts ds ρ = some ρ' → ∀ j, j ∉ tgsOfs ts → gt ρ' j = gt ρ j
  | [], [], ρ, ρ', h, j, _ => by
    obtain rfl : ρ = ρ' := Option.some.inj h
    rfl
  | [], _ :: _, _, _, h, _, _ => by cases h
  | _ :: _, [], _, _, h, _, _ => by cases h
  | t :: ts, d :: ds, ρ, ρ', h, j, hj => by
    obtain ⟨ρ1, h1, h2⟩ := Option.bind_eq_some_iff.mp (show (asg t d ρ).bind (fun ρ1 => asgs ts ds ρ1) = some ρ' from h)
    have hj' : j ∉ tgsOf t ++ tgsOfs ts := hj
    rw [List.mem_append, not_or] at hj'
    rw [asgs_out h2 j hj'.2, asg_out h1 j hj'.1]
end
/-- no exception -/
def WF : WX := fun _ _ _ _ => False
/-- a new list stands at D -/
def Gd (G : Gh) (D : Addr) (acc : List V) : Gh := { G with H0 := upd G.H0 D (.lst acc), M := G.M.filter (· ≠ D) }
section
variable {K : PySem.W.Frag} {io : List Nat} {G : Gh} {F F' H H' : Hp} {o : List Bool} {A : Nat → List Addr} {ρ : Env} {σ : L2.St} {D : Addr} {acc : List V}
theorem Rel.putAcc (r : Rel K io G F H o A ρ σ) (h0 : G.H0 D = none) (fD : F D = none) (ap : ∀ j d, gt ρ j = some d → ow o j = true → D ∉ A j) : Rel K io (Gd G D acc) F (upd H D (.lst acc)) o A ρ σ := by
  have ne : ∀ a u, F a = some u → a ≠ D := fun a u h z => by subst z; rw [fD] at h; cases h
  refine ⟨fun a u e => ?_, r.lkF, r.f0, fun a e => ?_, ⟨fun a e => ?_, fun a ha => ?_⟩, fun a u e m l => ?_, r.len, fun i d e => ?_, fun i d e w a ha => ?_, r.dis, r.ioo⟩
  · have q := r.sub a u e
    rw [upd_ne (ne a u e)]
    exact q
  · cases q : F a with
    | none => exact absurd q e
    | some u =>
      rcases r.new a e with z | z | ⟨vs, z⟩
      · exact .inl z
      · refine .inr (.inl ?_)
        show (upd G.H0 D _) a = none
        rw [upd_ne (ne a u q)]; exact z
      · refine .inr (.inr ⟨vs, ?_⟩)
        show (upd G.H0 D _) a = _
        rw [upd_ne (ne a u q)]; exact z
  · by_cases z : a = D
    · subst z; rw [upd_same]; exact fun z => nomatch z
    · rw [upd_ne z]
      refine r.dom.1 a ?_
      have e' : (upd G.H0 D (.lst acc)) a ≠ none := e
      rw [upd_ne z] at e'; exact e'
  · have ha : a ∈ G.M.filter (· ≠ D) := ha
    rw [List.mem_filter] at ha
    have z : a ≠ D := by simpa using ha.2
    rw [upd_ne z]
    exact r.dom.2 a ha.1
  · have e' : (upd G.H0 D (.lst acc)) a = some u := e
    by_cases z : a = D
    · subst z; rw [upd_same] at e' ⊢; exact e'
    · rw [upd_ne z] at e' ⊢
      refine r.keep a u e' (fun q => m ?_) l
      show a ∈ G.M.filter (· ≠ D)
      rw [List.mem_filter]; exact ⟨q, by simpa using z⟩
  · obtain ⟨v, h1, h2⟩ := r.sl i d e
    refine ⟨v, h1, ?_⟩
    by_cases w : ow o i = true
    · rw [if_pos w] at h2 ⊢
      exact h2.keep (.refl F) fun b hb => upd_ne fun z => ap i d e w (by rw [← z]; exact hb)
    · rw [if_neg w] at h2 ⊢
      exact h2
  · obtain ⟨h1, h2⟩ := r.own i d e w a ha
    have z : a ≠ D := fun z => ap i d e w (by rw [← z]; exact ha)
    refine ⟨h1, ?_⟩
    rcases h2 with h2 | ⟨h2, h3⟩
    · left
      show (upd G.H0 D _) a = none
      rw [upd_ne z]; exact h2
    · refine .inr ⟨h2, ?_⟩
      show a ∈ G.M.filter (· ≠ D)
      rw [List.mem_filter]; exact ⟨h3, by simpa using z⟩
theorem Rel.unacc (r : Rel K io (Gd G D acc) F H o A ρ σ) (h0 : G.H0 D = none) (hDn : ∃ u, H D = some u ∧ notTup u) : Rel K io G F H o A ρ σ := by
  have g0 : ∀ a, (Gd G D acc).H0 a = none → G.H0 a = none := fun a e => by
    have e' : (upd G.H0 D (.lst acc)) a = none := e
    by_cases z : a = D
    · subst z; exact h0
    · rw [upd_ne z] at e'; exact e'
  have g2 : ∀ a vs, (Gd G D acc).H0 a = some (.tup vs) → G.H0 a = some (.tup vs) := fun a vs e => by
    have e' : (upd G.H0 D (.lst acc)) a = some (.tup vs) := e
    by_cases z : a = D
    · subst z; rw [upd_same] at e'; cases e'
    · rw [upd_ne z] at e'; exact e'
  have g1 : ∀ a u, G.H0 a = some u → (Gd G D acc).H0 a = some u := fun a u e => by
    show (upd G.H0 D (.lst acc)) a = some u
    rw [upd_ne (fun z => by subst z; rw [h0] at e; cases e)]; exact e
  refine ⟨r.sub, r.lkF, r.f0, fun a e => (r.new a e).imp_right (fun z => z.imp (g0 a) fun ⟨vs, z⟩ => ⟨vs, g2 a vs z⟩), ⟨fun a e => ?_, fun a ha => ?_⟩, fun a u e m l => r.keep a u (g1 a u e) (fun q => m ((List.mem_filter.mp (show a ∈ G.M.filter (· ≠ D) from q)).1)) l, r.len, r.sl, fun i d e w a ha => ?_, r.dis, r.ioo⟩
  · cases q : G.H0 a with
    | none => exact absurd q e
    | some u => exact r.dom.1 a (by rw [g1 a u q]; exact fun z => nomatch z)
  · by_cases z : a = D
    · subst z; exact hDn
    · exact r.dom.2 a (by show a ∈ G.M.filter (· ≠ D); rw [List.mem_filter]; exact ⟨ha, by simpa using z⟩)
  · obtain ⟨h1, h2⟩ := r.own i d e w a ha
    exact ⟨h1, h2.imp (g0 a) fun ⟨p, q⟩ => ⟨p, (List.mem_filter.mp (show a ∈ G.M.filter (· ≠ D) from q)).1⟩⟩
theorem Rel.accAt (r : Rel K io (Gd G D acc) F H o A ρ σ) (f0 : G.F0 D = none) : F D = none ∧ H D = some (.lst acc) ∧ ∀ j d, gt ρ j = some d → ow o j = true → D ∉ A j := by
  have hD : (Gd G D acc).H0 D = some (.lst acc) := upd_same
  have fD : F D = none := by
    cases q : F D with
    | none => rfl
    | some u =>
      rcases r.new D (by rw [q]; exact fun z => nomatch z) with z | z | ⟨vs, z⟩
      · exact absurd f0 z
      · rw [hD] at z; cases z
      · rw [hD] at z; cases z
  have nM : D ∉ (Gd G D acc).M := fun q => by
    have q : D ∈ G.M.filter (· ≠ D) := q
    rw [List.mem_filter] at q
    simp at q
  refine ⟨fD, r.keep D _ hD nM (r.lkF D fD), fun j d e w q => ?_⟩
  rcases (r.own j d e w D q).2 with z | ⟨_, z⟩
  · rw [hD] at z; cases z
  · exact nM z
theorem wipe_in {is : List Nat} {σ : L2.St} {j : Nat} (h : j ∉ is) : (L2.wipe σ is)[j]? = σ[j]? := by
  induction is with
  | nil => rfl
  | cons i is ih =>
    rw [List.mem_cons, not_or] at h
    show ((L2.wipe σ is).set i none)[j]? = σ[j]?
    rw [List.getElem?_set_ne (Ne.symm h.1), ih h.2]
theorem wipe_at {is : List Nat} {σ : L2.St} {j : Nat} (h : j ∈ is) (hl : j < σ.length) : (L2.wipe σ is)[j]? = some none := by
  induction is with
  | nil => cases h
  | cons i is ih =>
    show ((L2.wipe σ is).set i none)[j]? = some none
    by_cases z : i = j
    · subst z; rw [List.getElem?_set_self (by rw [L2.wipe_length]; exact hl)]
    · rw [List.getElem?_set_ne z]
      exact ih ((List.mem_cons.mp h).resolve_left fun q => z q.symm)
theorem upd_eq {H : Hp} {D : Addr} {u : HO} (h : H D = some u) : upd H D u = H := by
  funext a
  by_cases z : a = D
  · subst z; rw [upd_same, h]
  · rw [upd_ne z]
/-- a block's own names are forgotten -/
theorem Rel.blk {own : List Nat} (r : Rel K io G F H o A ρ σ) (ho : ∀ i ∈ own, i ∉ io) : Rel K io G F H o A (PX.wipe own ρ) (L2.wipe σ own) := by
  refine ⟨r.sub, r.lkF, r.f0, r.new, r.dom, r.keep, by rw [PX.wipe_length, L2.wipe_length]; exact r.len, fun i d e => ?_, fun i d e => r.own i d (gt_wipe_some e).2, fun i j d e ij hi hj => r.dis i j d e ij (gt_wipe_some hi).2 (gt_wipe_some hj).2, fun i hi => ?_⟩
  · obtain ⟨h1, h2⟩ := gt_wipe_some e
    obtain ⟨v, h3, h4⟩ := r.sl i d h2
    exact ⟨v, by rw [wipe_in h1]; exact h3, h4⟩
  · rw [wipe_in fun z => ho i z hi]
    exact r.ioo i hi
/-- .. and come back -/
theorem Rel.back {own : List Nat} {F1 H1 : Hp} {A1 : Nat → List Addr} {ρ1 : Env} (r : Rel K io G F H o A (PX.wipe own ρ) (L2.wipe σ own)) (r1 : Rel K io G F1 H1 o A1 ρ1 σ) (g : Grow F1 F) (ho : ∀ i ∈ own, ow o i = false) : Rel K io G F H o A (PX.rest own ρ1 ρ) σ := by
  have hl : ρ.length = σ.length := by have := r.len; rw [PX.wipe_length, L2.wipe_length] at this; exact this
  have out : ∀ i d, gt (PX.rest own ρ1 ρ) i = some d → ow o i = true → gt (PX.wipe own ρ) i = some d := fun i d e w => by
    have z : i ∉ own := fun z => by rw [ho i z] at w; cases w
    rw [gt_rest_out z] at e
    rw [gt_wipe_out z]; exact e
  refine ⟨r.sub, r.lkF, r.f0, r.new, r.dom, r.keep, by rw [rest_length]; exact hl, fun i d e => ?_, fun i d e w => r.own i d (out i d e w) w, fun i j d e ij hi hj wi wj => r.dis i j d e ij (out i d hi wi) (out j e hj wj) wi wj, r1.ioo⟩
  by_cases z : i ∈ own
  · have lt := gt_some_lt e
    rw [rest_length] at lt
    rw [gt_rest_in z lt] at e
    obtain ⟨v, h1, h2⟩ := r1.shr e (ho i z)
    refine ⟨v, h1, ?_⟩
    rw [ho i z]
    exact h2.grow g
  · rw [gt_rest_out z] at e
    obtain ⟨v, h1, h2⟩ := r.sl i d (by rw [gt_wipe_out z]; exact e)
    exact ⟨v, by rw [wipe_in z] at h1; exact h1, h2⟩
end

section
variable {T : Tab} {Φ : Fns} {gl : Nat → D} {c : Ctx} {X : Cx} {W : WX} {G : Gh} {o o1 o2 o3 : List Bool}
theorem PE.ex {ι : Type} {e : Expr} {t : ι → TE} (h : ∀ i, PE X e (t i)) : PE X e (fun σ H Q => ∃ i, t i σ H Q) := ⟨fun pins s σ H Q I ⟨i, q⟩ => (h i).run pins s σ H Q I q⟩
abbrev SIf (T : Tab) (Φ : Fns) (gl : Nat → D) (X : Cx) (io : List Nat) (W : WX) (G : Gh) (es : List Expr) (irs : List E) (o o' : List Bool) : Prop := PTs X es (TX RT T X.K io W G o (tchs irs) o' (evIfs Φ gl irs))
theorem PTs.ex {ι : Type} {es : List Expr} {t : ι → TT} (h : ∀ i, PTs X es (t i)) : PTs X es (fun σ H Q => ∃ i, t i σ H Q) := ⟨fun pins s σ H Q I ⟨i, q⟩ => (h i).run pins s σ H Q I q⟩
theorem PTs.imp {es : List Expr} {t t' : TT} (h : PTs X es t) (i : ∀ σ H Q, t' σ H Q → t σ H Q) : PTs X es t' := ⟨fun pins s σ H Q I q => h.run pins s σ H Q I (i _ _ _ q)⟩
theorem sif_nil : SIf T Φ gl X c.io W G [] [] o o := PTs.imp pts_nil fun σ H Q ⟨F, A, ρ, R, P⟩ => P F H A true R (.refl F) .refl rfl
theorem sif_one {e : Expr} {ie : E} (h : ST T Φ gl X c.io W G e ie o o1) : SIf T Φ gl X c.io W G [e] [ie] o o1 := PTs.imp (pts_one h) fun σ H Q ⟨F, A, ρ, R, P⟩ => by
  refine ⟨F, A, ρ, R, ?_⟩
  have e1 : evIfs Φ gl [ie] ρ = evC Φ gl ie ρ := by
    unfold evC
    show ((evE Φ gl ie ρ).bind fun x ρ1 => (truR x ρ1).bind fun k ρ2 => if k = true then PX.R.ok true ρ2 else .ok false ρ2) = _
    congr 1; funext x ρ1
    cases truR x ρ1 with
    | ok b ρ2 => cases b <;> rfl
    | _ => rfl
  rw [e1] at P
  exact PostR.mono (tc := tchs [ie]) P fun j h z => h (by simp [tchs]; exact z)
theorem wipe_setIn {own : List Nat} {σ σ' : L2.St} (h : SetIn own (L2.wipe σ own) σ') : L2.wipe σ' own = L2.wipe σ own := by
  apply List.ext_getElem?
  intro j
  by_cases z : j ∈ own
  · by_cases hl : j < σ.length
    · rw [wipe_at z (by rw [h.1, L2.wipe_length]; exact hl), wipe_at z hl]
    · rw [List.getElem?_eq_none (by rw [L2.wipe_length, h.1, L2.wipe_length]; omega), List.getElem?_eq_none (by rw [L2.wipe_length]; omega)]
  · rw [wipe_in z, h.2 j z]
/-- the run of a comprehension -/
def lcF (Φ : Fns) (gl : Nat → D) (own : List Nat) (tg : Tg) (ik : IK) (its ifs : List E) (elt : E) (ρ : Env) : R D := evE Φ gl (.comp own tg ik its ifs elt) ρ
theorem comp_inner {own : List Nat} {tg : Tg} {its ifs : List E} {elt : E} {σ : L2.St} {Q : VK} {xs : List PX.D} {ρ1 : Env} {F1 H1 : Hp} {A1 : Nat → List Addr} {J : It} (htg : ∀ i ∈ tgsOf tg, i ∈ own) (hown : ∀ i ∈ own, ow o1 i = false) (hio : ∀ i ∈ own, i ∉ c.io)
    (hpk : ∀ j ∈ pksL its, j ∉ own ++ (tchs ifs ++ tch elt)) (R1 : Rel X.K c.io G F1 H1 o1 A1 ρ1 σ) (sq : SeqOk X.K G F1 H1 o1 A1 ρ1 (pksL its) J xs)
    (P1 : PostR (RE .fresh X.K G o1 []) T X.K c.io W G F1 H1 o1 A1 ρ1 (own ++ (tchs ifs ++ tch elt)) o1 σ Q ((compL own (asg tg) (evIfs Φ gl ifs) (evE Φ gl elt) xs ρ1).noex.bind fun ys ρ3 => if fits ys.length = true then .ok (.lst ys) (rest own ρ1 ρ3) else .fail)) :
    ∀ D, H1 D = none → ∃ Wm : Nat → Nat → Hp → Prop, (∃ m, Wm 0 m (upd H1 D (.lst []))) ∧ ∀ i m H, Wm i m H →
      (J.stop i H ∧ Q (.ref D) H) ∨ (J.go i H ∧ ∃ Nx : Hp → Prop, (∀ H', Nx H' → ∃ m', m' < m ∧ Wm (i + 1) m' H') ∧ ∀ x H', J.yld i H x H' → tTg X c.io o1 own tg x (L2.wipe σ own) H' fun σ2 H2 => L2.wipe σ2 own = L2.wipe σ own ∧ (fun σ H Q => ∃ G, TX RT T X.K c.io WF G o1 (tchs ifs) o1 (evIfs Φ gl ifs) σ H Q) σ2 H2 fun b H3 =>
        if b = true then (fun σ H Q => ∃ G, TEx T X.K c.io WF G o1 (tch elt) o1 .keep (pks elt) (evE Φ gl elt) σ H Q) σ2 H3 fun y H4 => ∃ acc, H4 D = some (.lst acc) ∧ acc.length < PySem.sizeLine ∧ Nx (upd H4 D (.lst (acc ++ [y]))) else Nx H3) := by
  cases hc : compL own (asg tg) (evIfs Φ gl ifs) (evE Φ gl elt) xs ρ1 with
  | fail => rw [hc] at P1; exact False.elim P1
  | exc cc d ρ' => rw [hc] at P1; exact False.elim P1
  | ok ys ρ3 =>
    rw [hc] at P1
    have P1 : PostR (RE .fresh X.K G o1 []) T X.K c.io W G F1 H1 o1 A1 ρ1 (own ++ (tchs ifs ++ tch elt)) o1 σ Q (if fits ys.length = true then .ok (.lst ys) (rest own ρ1 ρ3) else .fail) := P1
    by_cases hfit : fits ys.length = true
    · rw [if_pos hfit] at P1
      have hfit := fits_le hfit
      intro D hD
      have fD : F1 D = none := R1.sub.free hD
      have f0D : G.F0 D = none := by
        cases q : G.F0 D with
        | none => rfl
        | some u => rw [R1.f0 _ _ q] at fD; cases fD
      have h0D : G.H0 D = none := by
        cases q : G.H0 D with
        | none => rfl
        | some u => exact absurd hD (R1.dom.1 D (by rw [q]; exact fun z => nomatch z))
      have apD : ∀ j d, gt (PX.wipe own ρ1) j = some d → ow o1 j = true → D ∉ A1 j := fun j d e w z => by
        obtain ⟨v, _, q⟩ := R1.owned (gt_wipe_some e).2 w
        exact q.has D z hD
      let peek : Hp → Prop := fun Hc => ∀ j d, j ∈ pksL its → ow o1 j = true → gt ρ1 j = some d → ∀ a ∈ A1 j, Hc a = H1 a
      let Pv : Nat → Hp → Prop := fun i Hc => ∃ (Fc : Hp) (Ac : Nat → List Addr) (ρc : Env) (ds : List PX.D) (acc : List V) (ys' : List PX.D),
        Rel X.K c.io (Gd G D acc) Fc Hc o1 Ac (PX.wipe own ρc) (L2.wipe σ own) ∧ RepL X.K Fc ds acc ∧ Grow F1 Fc ∧ Frm (own ++ (tchs ifs ++ tch elt)) o1 o1 A1 Ac ρ1 ρc H1 Hc ∧
        compL own (asg tg) (evIfs Φ gl ifs) (evE Φ gl elt) (xs.drop i) ρc = .ok ys' ρ3 ∧ ds ++ ys' = ys
      have hpeek : ∀ {i Hc}, Pv i Hc → ∃ Fc, Grow F1 Fc ∧ Sub Fc G.Lk Hc ∧ peek Hc := fun {i Hc} ⟨Fc, Ac, ρc, ds, acc, ys', Rc, rl, gc, fc, _, _⟩ => by
        refine ⟨Fc, gc, Rc.sub, fun j d hj wj e a ha => ?_⟩
        obtain ⟨_, _, _, k⟩ := fc j d (hpk j hj) wj e
        exact k a ha
      refine lc_it (g := tTg X c.io o1 own tg) (tt := fun σ H Q => ∃ G, TX RT T X.K c.io WF G o1 (tchs ifs) o1 (evIfs Φ gl ifs) σ H Q) (te := fun σ H Q => ∃ G, TEx T X.K c.io WF G o1 (tch elt) o1 .keep (pks elt) (evE Φ gl elt) σ H Q) (vs := own) (σ := σ) (H1 := H1) (D := D) (Qd := fun H => Q (.ref D) H) (n := xs.length) (G := fun Hc => ∃ Fc, Grow F1 Fc ∧ Sub Fc G.Lk Hc ∧ peek Hc) (Y := fun i Hc x H' => J.yld i Hc x H') ⟨fun i Hc hi ⟨Fc, g, s, k⟩ => (sq Fc Hc g s k).1 i hi, fun Hc ⟨Fc, g, s, k⟩ => (sq Fc Hc g s k).2.1, fun _ _ _ _ _ _ y => y⟩ Pv ?_ (fun i Hc _ p => hpeek p) ?_ ?_
      · refine ⟨F1, A1, ρ1, [], [], ys, ?_, .nil, .refl F1, ?_, by rw [List.drop_zero]; exact hc, rfl⟩
        · exact (R1.blk hio).putAcc h0D fD apD
        · exact fun j d _ wj e => ⟨wj, rfl, e, fun a ha => upd_ne fun z => by
            obtain ⟨v, _, q⟩ := R1.owned e wj
            exact q.has a ha (by rw [z]; exact hD)⟩
      · rintro i x Hc H' hi ⟨Fc, Ac, ρc, ds, acc, ys', Rc, rl, gc, fc, hcomp, hys⟩ y
        have pk : peek Hc := fun j d hj wj e a ha => by
          obtain ⟨_, _, _, k⟩ := fc j d (hpk j hj) wj e
          exact k a ha
        obtain ⟨d, F2, hd, hs, g2, hn, rd⟩ := (sq Fc Hc gc Rc.sub pk).2.2 i x H' hi y
        have R2 := Rc.ext2 hs g2 hn
        have hdrop : xs.drop i = d :: xs.drop (i + 1) := by
          have hh := List.getElem?_eq_some_iff.mp hd
          obtain ⟨h1, h2⟩ := hh
          rw [List.drop_eq_getElem_cons h1, h2]
        rw [hdrop] at hcomp
        have hcomp : (match asg tg d (PX.wipe own ρc) with | none => .fail | some ρ1 => (evIfs Φ gl ifs ρ1).bind fun b ρ2 => if b = true then (evE Φ gl elt ρ2).bind fun y ρ3 => (compL own (asg tg) (evIfs Φ gl ifs) (evE Φ gl elt) (xs.drop (i + 1)) ρ3).bind fun ys ρ4 => PX.R.ok (y :: ys) ρ4 else compL own (asg tg) (evIfs Φ gl ifs) (evE Φ gl elt) (xs.drop (i + 1)) ρ2) = PX.R.ok ys' ρ3 := hcomp
        cases ha : asg tg d (PX.wipe own ρc) with
        | none => rw [ha] at hcomp; cases hcomp
        | some ρa =>
          rw [ha] at hcomp
          dsimp only at hcomp
          refine ⟨Gd G D acc, F2, Ac, PX.wipe own ρc, d, ρa, R2, rd, ha, fun σ' R3 si => ⟨?_, Gd G D acc, F2, Ac, ρa, R3, ?_⟩⟩
          · exact wipe_setIn si
          have fA : Frm (own ++ (tchs ifs ++ tch elt)) o1 o1 Ac Ac ρc ρa Hc H' := fun j e hj wj he => by
            have jo : j ∉ own := fun z => hj (List.mem_append_left _ z)
            have he' : gt (PX.wipe own ρc) j = some e := by rw [gt_wipe_out jo]; exact he
            refine ⟨wj, rfl, by rw [asg_out ha j (fun z => jo (htg j z))]; exact he', fun a hA => ?_⟩
            obtain ⟨v, _, q⟩ := Rc.owned he' wj
            have nz := q.has a hA
            cases w : Hc a with
            | none => exact absurd w nz
            | some u => exact hs _ _ w
          cases hb : evIfs Φ gl ifs ρa with
          | fail => rw [hb] at hcomp; cases hcomp
          | exc cc dd ρ' => rw [hb] at hcomp; cases hcomp
          | ok b ρb =>
            rw [hb] at hcomp
            have hcomp : (if b = true then (evE Φ gl elt ρb).bind fun y ρ3 => (compL own (asg tg) (evIfs Φ gl ifs) (evE Φ gl elt) (xs.drop (i + 1)) ρ3).bind fun ys ρ4 => PX.R.ok (y :: ys) ρ4 else compL own (asg tg) (evIfs Φ gl ifs) (evE Φ gl elt) (xs.drop (i + 1)) ρb) = PX.R.ok ys' ρ3 := hcomp
            intro F4 H4 A4 b' R4 g4 f4 eb
            have eb : b = b' := eb
            subst eb
            have fB := (fc.trans fA (fun _ h => h) (fun _ h => h)).trans f4 (tc := own ++ (tchs ifs ++ tch elt)) (fun _ h => h) (fun j h z => h (List.mem_append_right _ (List.mem_append_left _ z)))
            cases b with
            | false =>
              rw [if_neg Bool.false_ne_true] at hcomp
              show Pv (i + 1) H4
              obtain ⟨fD4, hD4, ap4⟩ := R4.accAt f0D
              have R5 := ((R4.unacc h0D ⟨_, hD4, fun _ z => nomatch z⟩).blk hio)
              have R6 := R5.putAcc (acc := acc) h0D fD4 (fun j e he wj => ap4 j e (gt_wipe_some he).2 wj)
              rw [upd_eq hD4, wipe_setIn si] at R6
              exact ⟨F4, A4, ρb, ds, acc, ys', R6, (rl.grow g2).grow g4, (gc.trans g2).trans g4, fB, hcomp, hys⟩
            | true =>
              rw [if_pos rfl] at hcomp
              show ∃ G, TEx T X.K c.io WF G o1 (tch elt) o1 .keep (pks elt) (evE Φ gl elt) σ' H4 _
              refine ⟨Gd G D acc, F4, A4, ρb, R4, ?_⟩
              cases hy : evE Φ gl elt ρb with
              | fail => rw [hy] at hcomp; cases hcomp
              | exc cc dd ρ' => rw [hy] at hcomp; cases hcomp
              | ok yd ρ5 =>
                rw [hy] at hcomp
                have hcomp : (compL own (asg tg) (evIfs Φ gl ifs) (evE Φ gl elt) (xs.drop (i + 1)) ρ5).bind (fun ys ρ4 => PX.R.ok (yd :: ys) ρ4) = PX.R.ok ys' ρ3 := hcomp
                cases hr : compL own (asg tg) (evIfs Φ gl ifs) (evE Φ gl elt) (xs.drop (i + 1)) ρ5 with
                | fail => rw [hr] at hcomp; cases hcomp
                | exc cc dd ρ' => rw [hr] at hcomp; cases hcomp
                | ok zs ρ6 =>
                  rw [hr] at hcomp
                  obtain ⟨rfl, rfl⟩ : yd :: zs = ys' ∧ ρ6 = ρ3 := by
                    have h := PX.R.ok.inj (show PX.R.ok (yd :: zs) ρ6 = PX.R.ok ys' ρ3 from hcomp)
                    exact h
                  intro F6 H6 A6 w R6 g6 f6 rw'
                  obtain ⟨fD6, hD6, ap6⟩ := R6.accAt f0D
                  have hlen : acc.length < PySem.sizeLine := by
                    rw [← line_eq, ← rl.length]
                    have := congrArg List.length hys
                    rw [List.length_append, List.length_cons] at this
                    omega
                  refine ⟨acc, hD6, hlen, F6, A6, ρ5, ds ++ [yd], acc ++ [w], zs, ?_, (((rl.grow g2).grow g4).grow g6).app (.cons rw' .nil), ((gc.trans g2).trans g4).trans g6, ?_, hr, by rw [List.append_assoc]; exact hys⟩
                  · have R7 := (R6.unacc h0D ⟨_, hD6, fun _ z => nomatch z⟩).blk hio
                    rw [wipe_setIn si] at R7
                    exact R7.putAcc h0D fD6 fun j e he wj => ap6 j e (gt_wipe_some he).2 wj
                  · have fE := fB.trans f6 (tc := own ++ (tchs ifs ++ tch elt)) (fun _ h => h) (fun j h z => h (List.mem_append_right _ (List.mem_append_right _ z)))
                    intro j e hj wj he
                    obtain ⟨a1, a2, a3, a4⟩ := fE j e hj wj he
                    refine ⟨a1, a2, a3, fun a hA => ?_⟩
                    have nz : a ≠ D := fun z => ap6 j e a3 a1 (by rw [a2, ← z]; exact hA)
                    rw [upd_ne nz]
                    exact a4 a hA
      · rintro Hc ⟨Fc, Ac, ρc, ds, acc, ys', Rc, rl, gc, fc, hcomp, hys⟩
        rw [List.drop_length] at hcomp
        obtain ⟨rfl, rfl⟩ : [] = ys' ∧ ρc = ρ3 := by
          have h := PX.R.ok.inj (show PX.R.ok [] ρc = PX.R.ok ys' ρ3 from hcomp)
          exact h
        rw [List.append_nil] at hys
        subst hys
        obtain ⟨fDc, hDc, apc⟩ := Rc.accAt f0D
        have R7 := (Rc.unacc h0D ⟨_, hDc, fun _ z => nomatch z⟩).back R1 gc hown
        refine P1 Fc Hc Ac (.ref D) R7 gc ?_ ⟨[D], .lst hDc hfit rl, fun b hb => ?_, fun b hb => ?_, fun j e he wj b hb => ?_⟩
        · intro j e hj wj he
          obtain ⟨a1, a2, a3, a4⟩ := fc j e hj wj he
          exact ⟨a1, a2, by rw [gt_rest_out (fun z => hj (List.mem_append_left _ z))]; exact a3, a4⟩
        · rw [List.mem_singleton.mp hb]; exact fDc
        · rw [List.mem_singleton.mp hb]; exact h0D
        · rw [List.mem_singleton.mp hb]
          have jo : j ∉ own := fun z => by rw [hown j z] at wj; cases wj
          rw [gt_rest_out jo] at he
          exact apc j e (by rw [gt_wipe_out jo]; exact he) wj
    · rw [if_neg hfit] at P1; exact False.elim P1
theorem comp_core {own : List Nat} {tg : Tg} {ik : IK} {its ifs : List E} {elt : E} {m : Md} {σ : L2.St} {H : Hp} {Q : VK} (htg : ∀ i ∈ tgsOf tg, i ∈ own) (hown : ∀ i ∈ own, ow o1 i = false) (hio : ∀ i ∈ own, i ∉ c.io)
    (hpk : ∀ j ∈ pksL its, j ∉ own ++ (tchs ifs ++ tch elt))
    (P : TEx T X.K c.io W G o (tch (.comp own tg ik its ifs elt)) o1 .fresh [] (evE Φ gl (.comp own tg ik its ifs elt)) σ H Q) :
    tLc (TX (fun F H A ρ xs J => SeqOk X.K G F H o1 A ρ (pksL its) J xs) T X.K c.io W G o (tchs its) o1 fun ρ => (evEs Φ gl its ρ).bind fun ds ρ1 => optR (itD ik ds) ρ1) (tTg X c.io o1 own tg)
      (fun σ H Q => ∃ G, TX RT T X.K c.io WF G o1 (tchs ifs) o1 (evIfs Φ gl ifs) σ H Q) (fun σ H Q => ∃ G, TEx T X.K c.io WF G o1 (tch elt) o1 .keep (pks elt) (evE Φ gl elt) σ H Q) own σ H Q := by
  obtain ⟨F, A, ρ, R, P⟩ := P
  have e0 : evE Φ gl (.comp own tg ik its ifs elt) ρ = ((evEs Φ gl its ρ).bind fun ds ρ1 => optR (itD ik ds) ρ1).bind fun xs ρ2 => (compL own (asg tg) (evIfs Φ gl ifs) (evE Φ gl elt) xs ρ2).noex.bind fun ys ρ3 => if fits ys.length = true then .ok (.lst ys) (rest own ρ2 ρ3) else .fail := by
    cases h : evEs Φ gl its ρ with
    | ok ds ρ1 =>
      have : evE Φ gl (.comp own tg ik its ifs elt) ρ = (evEs Φ gl its ρ).bind fun ds ρ1 => (optR (itD ik ds) ρ1).bind fun xs ρ2 => (compL own (asg tg) (evIfs Φ gl ifs) (evE Φ gl elt) xs ρ2).noex.bind fun ys ρ3 => if fits ys.length = true then .ok (.lst ys) (rest own ρ2 ρ3) else .fail := rfl
      rw [this, h]; rfl
    | exc cc d ρ1 =>
      have : evE Φ gl (.comp own tg ik its ifs elt) ρ = (evEs Φ gl its ρ).bind fun ds ρ1 => (optR (itD ik ds) ρ1).bind fun xs ρ2 => (compL own (asg tg) (evIfs Φ gl ifs) (evE Φ gl elt) xs ρ2).noex.bind fun ys ρ3 => if fits ys.length = true then .ok (.lst ys) (rest own ρ2 ρ3) else .fail := rfl
      rw [this, h]; rfl
    | fail =>
      have : evE Φ gl (.comp own tg ik its ifs elt) ρ = (evEs Φ gl its ρ).bind fun ds ρ1 => (optR (itD ik ds) ρ1).bind fun xs ρ2 => (compL own (asg tg) (evIfs Φ gl ifs) (evE Φ gl elt) xs ρ2).noex.bind fun ys ρ3 => if fits ys.length = true then .ok (.lst ys) (rest own ρ2 ρ3) else .fail := rfl
      rw [this, h]; rfl
  rw [e0] at P
  refine ⟨F, A, ρ, R, PostR.bind (tc1 := tchs its) (tc2 := own ++ (tchs ifs ++ tch elt)) P (fun j h z => h (List.mem_append_left _ z)) (fun j h z => h (List.mem_append_right _ z)) fun xs ρ1 F1 H1 A1 J R1 g1 f1 sq P1 => ?_⟩
  exact comp_inner htg hown hio hpk R1 sq P1
/-- within a comprehension -/
def blkC (c : Ctx) (scope : Scope) : Ctx := { N := c.N, sc := relS scope c.sc, io := c.io, fr := c.fr, fn := fun x => scope.names.lookup x == some .cell }
theorem XOk.blk (XO : XOk T Φ gl c X W) (scope : Scope) (s : Shared) (H : Hp) (C : Addr) (cl : List (Str × Addr)) (fp : List Addr) : XOk T Φ gl (blkC c scope) (X.blk s H scope (compEnvC scope cl C X.env) fp) WF where
  hN := XO.hN
  hs := by
    show relabel scope X.env = relS scope c.sc
    rw [← XO.hs]; rfl
  nd := XO.nd
  calm := XO.calm
  takes := fun u s' ⟨_, _, _, _, _, _, _, _, _, _, _, _, _, _, _, _, w⟩ => w
  pass := .never
  fn := fun x h => h
  frees := XO.frees
  hu := XO.hu
  fns := XO.fns
  gls := XO.gls
def BodyOk (T : Tab) (Φ : Fns) (gl : Nat → PX.D) (c : Ctx) (K : PySem.W.Frag) (scope : Scope) (own : List Nat) (o : List Bool) (tgE : Expr) (tg : Tg) (ifs : List Expr) (ifsI : List E) (elt : Expr) (eltI : E) : Prop :=
  ∀ Xb : Cx, Xb.K = K → XOk T Φ gl (blkC c scope) Xb WF → PG Xb tgE (tTg Xb c.io o own tg) ∧ (∀ G, SIf T Φ gl Xb c.io WF G ifs ifsI o o) ∧ ∀ G, SE T Φ gl Xb c.io WF G elt eltI o o .keep
section
variable {elt tgE iter : Expr} {ifs : List Expr} {scope : Scope} {ownN : List (Str × Nat)} {pos : Pos} {tg : Tg} {ik : IK} {its ifsI : List E} {eltI : E}
theorem comp_parts (XO : XOk T Φ gl c X W) (b : BodyOk T Φ gl c X.K scope (ownN.map (·.2)) o1 tgE tg ifs ifsI elt eltI) (s : Shared) (H : Hp) (C : Addr) (cl : List (Str × Addr)) (fp : List Addr) :
    PG (X.blk s H scope (compEnvC scope cl C X.env) fp) tgE (tTg X c.io o1 (ownN.map (·.2)) tg) ∧ PTs (X.blk s H scope (compEnvC scope cl C X.env) fp) ifs (fun σ H Q => ∃ G, TX RT T X.K c.io WF G o1 (tchs ifsI) o1 (evIfs Φ gl ifsI) σ H Q) ∧
      PE (X.blk s H scope (compEnvC scope cl C X.env) fp) elt (fun σ H Q => ∃ G, TEx T X.K c.io WF G o1 (tch eltI) o1 .keep (pks eltI) (evE Φ gl eltI) σ H Q) := by
  obtain ⟨b1, b2, b3⟩ := b (X.blk s H scope (compEnvC scope cl C X.env) fp) rfl (XO.blk scope s H C cl fp)
  exact ⟨b1, PTs.ex b2, PE.ex b3⟩
theorem se_comp (XO : XOk T Φ gl c X W) (hi : SI T Φ gl X c.io W G tgE iter ik its o o1) (ok : BlkOk c.N c.sc scope ownN) (htg : ∀ i ∈ tgsOf tg, i ∈ ownN.map (·.2)) (hown : ∀ i ∈ ownN.map (·.2), ow o1 i = false) (hio : ∀ i ∈ ownN.map (·.2), i ∉ c.io)
    (hpk : ∀ j ∈ pksL its, j ∉ ownN.map (·.2) ++ (tchs ifsI ++ tch eltI)) (hfs : ∀ x, foldedSetIterable iter X.env x = pure x) (b : BodyOk T Φ gl c X.K scope (ownN.map (·.2)) o1 tgE tg ifs ifsI elt eltI) :
    SE T Φ gl X c.io W G (.ListComp elt [⟨tgE, iter, ifs, 0⟩] scope pos) (.comp (ownN.map (·.2)) tg ik its ifsI eltI) o o1 .fresh :=
  PE.imp (pe_lc XO.calm (by rw [XO.hN]; exact XO.nd) hi (by rw [XO.hN, XO.hs]; exact ok) (fun s H C cl fp => (comp_parts XO b s H C cl fp).1) (fun s H C cl fp => (comp_parts XO b s H C cl fp).2.1) (fun s H C cl fp => (comp_parts XO b s H C cl fp).2.2) hfs) fun σ H Q P => comp_core (m := .fresh) htg hown hio hpk P
end
end
end PX
end
section
set_option Elab.async false
set_option linter.all false
set_option maxRecDepth 100000
set_option maxHeartbeats 4000000
namespace PX
open PySem L2

mutual
def tchS : S → List Nat
  | .set i e => tch e ++ [i]
  | .tset ts e => tch e ++ tgsOfs ts
  | .par i j a b => (tch a ++ tch b) ++ [i, j]
  | .setix i k e => tch e ++ (tch k ++ [i])
  | .swap i k1 j k2 a b => (tch a ++ tch b) ++ ((tch k1 ++ [i]) ++ (tch k2 ++ [j]))
  | .app i e => tch e ++ [i]
  | .ext i e => tch e ++ [i]
  | .frz i => [i]
  | .drop e => tch e
  | .ifs c a b => tch c ++ (tchSs a ++ tchSs b)
  | .loop kill tg ik its body => tchs its ++ (tgsOf tg ++ tchSs body)
  | .whl kill c body => tch c ++ tchSs body
  | .ret e => tch e
  | .pass => []
def tchSs : List S → List Nat
  | [] => []
  | s :: ss => tchS s ++ tchSs ss
end

/-- what is to be shown of a statement's run -/
def PostS (T : Tab) (K : PySem.W.Frag) (io : List Nat) (W : WX) (G : Gh) (F H : Hp) (o : List Bool) (A : Nat → List Addr) (ρ : Env) (tc : List Nat) (o' : List Bool) (fr : Bool) (E : Ends) (r : R Out) : Prop := match r with
  | .ok .next ρ' => ∀ (F' H' : Hp) (A' : Nat → List Addr) (σ' : L2.St), Rel K io G F' H' o' A' ρ' σ' → Grow F F' → Frm tc o o' A A' ρ ρ' H H' → E.nx σ' H'
  | .ok (.ret d) ρ' => ∀ (F' H' : Hp) (A' : Nat → List Addr) (o2 : List Bool) (σ' : L2.St) (v : V), Rel K io G F' H' o2 A' ρ' σ' → RM (if fr = true then .fresh else .keep) K G F' H' o2 A' ρ' [] d v → E.rt v H'
  | .exc c d ρ' => ∀ (F' H' : Hp) (A' : Nat → List Addr) (o2 : List Bool) (σ' : L2.St) (cls : Value) (od : Option Addr), Rel K io G F' H' o2 A' ρ' σ' → ExcAt T K F' H' c d cls od → W cls od σ' H'
  | .fail => False
abbrev TSt (T : Tab) (K : PySem.W.Frag) (io : List Nat) (W : WX) (G : Gh) (o : List Bool) (tc : List Nat) (o' : List Bool) (fr : Bool) (f : Env → R Out) : TS :=
  fun E σ H => ∃ (F : Hp) (A : Nat → List Addr) (ρ : Env), Rel K io G F H o A ρ σ ∧ PostS T K io W G F H o A ρ tc o' fr E (f ρ)
section
variable {T : Tab} {K : PySem.W.Frag} {io : List Nat} {W : WX} {G : Gh} {F F' H H' : Hp} {o o' o1 : List Bool} {A A' : Nat → List Addr} {ρ ρ' : Env} {tc tc1 tc2 : List Nat} {σ : L2.St} {fr : Bool} {E : Ends}
/-- an expression, then what a statement does with it -/
theorem PostS.expr {α β : Type} {RMa : Hp → Hp → (Nat → List Addr) → Env → α → β → Prop} {r : R α} {k : α → Env → R Out} {Q1 : β → Hp → Prop}
    (P : PostS T K io W G F H o A ρ tc o' fr E (r.bind k)) (h1 : ∀ j, j ∉ tc → j ∉ tc1) (h2 : ∀ j, j ∉ tc → j ∉ tc2)
    (h : ∀ (a : α) (ρ1 : Env) (F1 H1 : Hp) (A1 : Nat → List Addr) (v : β), r = .ok a ρ1 → Rel K io G F1 H1 o1 A1 ρ1 σ → Grow F F1 → Frm tc1 o o1 A A1 ρ ρ1 H H1 → RMa F1 H1 A1 ρ1 a v → PostS T K io W G F1 H1 o1 A1 ρ1 tc2 o' fr E (k a ρ1) → Q1 v H1) :
    PostR RMa T K io W G F H o A ρ tc1 o1 σ Q1 r := by
  cases r with
  | fail => exact P
  | exc c d ρ' => exact fun F1 H1 A1 o2 cls od R x => P F1 H1 A1 o2 σ cls od R x
  | ok a ρ1 =>
    intro F1 H1 A1 v R1 g1 f1 m1
    refine h a ρ1 F1 H1 A1 v rfl R1 g1 f1 m1 ?_
    have P' : PostS T K io W G F H o A ρ tc o' fr E (k a ρ1) := P
    cases e : k a ρ1 with
    | fail => rw [e] at P'; exact P'
    | exc c d ρ' => rw [e] at P'; exact P'
    | ok b ρ2 =>
      rw [e] at P'
      cases b with
      | next => exact fun F2 H2 A2 σ2 R2 g2 f2 => P' F2 H2 A2 σ2 R2 (g1.trans g2) (f1.trans f2 h1 h2)
      | ret d => exact P'
/-- what follows a statement -/
def thenO (k : Env → R Out) : Out → Env → R Out := fun o ρ => match o with
  | .next => k ρ
  | .ret d => .ok (.ret d) ρ
theorem PostS.seq {r : R Out} {k : Env → R Out} {N : L2.St → Hp → Prop} {bk ct : L2.St → Hp → Prop}
    (P : PostS T K io W G F H o A ρ tc o' fr E (r.bind (thenO k))) (h1 : ∀ j, j ∉ tc → j ∉ tc1) (h2 : ∀ j, j ∉ tc → j ∉ tc2)
    (h : ∀ (ρ1 : Env) (F1 H1 : Hp) (A1 : Nat → List Addr) (σ1 : L2.St), Rel K io G F1 H1 o1 A1 ρ1 σ1 → Grow F F1 → Frm tc1 o o1 A A1 ρ ρ1 H H1 → PostS T K io W G F1 H1 o1 A1 ρ1 tc2 o' fr E (k ρ1) → N σ1 H1) :
    PostS T K io W G F H o A ρ tc1 o1 fr { nx := N, rt := E.rt, bk := bk, ct := ct } r := by
  cases r with
  | fail => exact P
  | exc c d ρ' => exact P
  | ok a ρ1 =>
    cases a with
    | ret d => exact P
    | next =>
      intro F1 H1 A1 σ1 R1 g1 f1
      refine h ρ1 F1 H1 A1 σ1 R1 g1 f1 ?_
      have P' : PostS T K io W G F H o A ρ tc o' fr E (k ρ1) := P
      cases e : k ρ1 with
      | fail => rw [e] at P'; exact P'
      | exc c d ρ' => rw [e] at P'; exact P'
      | ok b ρ2 =>
        rw [e] at P'
        cases b with
        | next => exact fun F2 H2 A2 σ2 R2 g2 f2 => P' F2 H2 A2 σ2 R2 (g1.trans g2) (f1.trans f2 h1 h2)
        | ret d => exact P'
theorem PostS.mono {r : R Out} (P : PostS T K io W G F H o A ρ tc o' fr E r) (h : ∀ j, j ∉ tc → j ∉ tc1) : PostS T K io W G F H o A ρ tc1 o' fr E r := by
  cases r with
  | fail => exact P
  | exc c d ρ' => exact P
  | ok a ρ1 =>
    cases a with
    | next => exact fun F1 H1 A1 σ1 R1 g1 f1 => P F1 H1 A1 σ1 R1 g1 (f1.mono h)
    | ret d => exact P
end
section
variable {T : Tab} {Φ : Fns} {gl : Nat → PX.D} {c : Ctx} {X : Cx} {W : WX} {G : Gh} {o o1 o2 o3 : List Bool} {tc : List Nat}
/-- what is dropped at a join was touched -/
def leT (tc : List Nat) (o1 o : List Bool) : Bool := decide (o1.length = o.length) && (List.range o.length).all fun i => (!(ow o1 i) || ow o i) && (!(ow o i) || ow o1 i || tc.contains i)
theorem leT_ok (h : leT tc o1 o = true) : leO o1 o ∧ (∀ i, o.length ≤ i → ow o1 i = ow o i) ∧ ∀ i, ow o i = true → ow o1 i = false → i ∈ tc := by
  unfold leT at h
  rw [Bool.and_eq_true] at h
  obtain ⟨h1, h2⟩ := h
  have h1 := of_decide_eq_true h1
  rw [List.all_eq_true] at h2
  have big : ∀ i, o.length ≤ i → ow o1 i = false ∧ ow o i = false := fun i hi => by
    unfold ow
    rw [List.getElem?_eq_none hi, List.getElem?_eq_none (by omega)]
    exact ⟨rfl, rfl⟩
  refine ⟨fun i hi => ?_, fun i hi => by rw [(big i hi).1, (big i hi).2], fun i hi hi1 => ?_⟩
  · by_cases q : i < o.length
    · have := h2 i (List.mem_range.mpr q)
      simp only [hi, Bool.not_true, Bool.false_or, Bool.and_eq_true] at this
      exact this.1
    · rw [(big i (by omega)).1] at hi; cases hi
  · by_cases q : i < o.length
    · have := h2 i (List.mem_range.mpr q)
      simp only [hi, hi1, Bool.not_true, Bool.false_or, Bool.or_false, Bool.and_eq_true, Bool.not_false, Bool.true_or, true_and] at this
      simpa using this
    · rw [(big i (by omega)).2] at hi; cases hi
theorem rel_le' {K : PySem.W.Frag} {io : List Nat} {G : Gh} {o o1 : List Bool} {F H : Hp} {A : Nat → List Addr} {ρ : Env} {σ : L2.St} (n : Nat) (R : Rel K io G F H o A ρ σ) (l : leO o1 o) (hio : ∀ i ∈ io, ow o1 i = true) (hn : ∀ i, n ≤ i → ow o1 i = ow o i) : ∃ F', Grow F F' ∧ Rel K io G F' H o1 A ρ σ := by
  induction n generalizing o F with
  | zero =>
    refine ⟨F, .refl F, ?_⟩
    have e : ∀ i, ow o1 i = ow o i := fun i => hn i (Nat.zero_le _)
    exact ⟨R.sub, R.lkF, R.f0, R.new, R.dom, R.keep, R.len, fun i d h => by rw [e i]; exact R.sl i d h, fun i d h w => R.own i d h (by rw [← e i]; exact w), fun i j d f ij hi hj wi wj => R.dis i j d f ij hi hj (by rw [← e i]; exact wi) (by rw [← e j]; exact wj), fun i hi => ⟨hio i hi, (R.ioo i hi).2⟩⟩
  | succ n ih =>
    by_cases q : ow o1 n = ow o n
    · exact ih R l fun i hi => by
        by_cases z : i = n
        · rw [z]; exact q
        · exact hn i (by omega)
    · have w1 : ow o1 n = false := by
        cases h : ow o1 n with
        | false => rfl
        | true => exact absurd (h.trans (l n h).symm) q
      have nio : n ∉ io := fun z => by rw [hio n z] at w1; cases w1
      obtain ⟨F1, g1, R1⟩ := R.freeze nio
      obtain ⟨F2, g2, R2⟩ := ih R1 (fun i hi => by
        have ne : n ≠ i := fun z => by rw [← z, w1] at hi; cases hi
        rw [ow_set_ne ne]; exact l i hi) (fun i hi => by
        by_cases z : i = n
        · rw [z, w1, ow_set_false]
        · rw [ow_set_ne (fun q => z q.symm)]; exact hn i (by omega))
      exact ⟨F2, g1.trans g2, R2⟩
/-- an end is weakened -/
theorem PostS.le {io : List Nat} {K : PySem.W.Frag} {F H : Hp} {A : Nat → List Addr} {ρ : Env} {r : R Out} {E : Ends} {fr : Bool} {tc1 : List Nat} (l : leT tc o2 o1 = true) (hio : ∀ i ∈ io, ow o2 i = true) (ht : ∀ j, j ∉ tc → j ∉ tc1)
    (P : PostS T K io W G F H o A ρ tc o2 fr E r) : PostS T K io W G F H o A ρ tc1 o1 fr E r := by
  obtain ⟨l1, l2, l3⟩ := leT_ok l
  cases r with
  | fail => exact P
  | exc c d ρ' => exact P
  | ok a ρ1 =>
    cases a with
    | ret d => exact P
    | next =>
      intro F1 H1 A1 σ1 R1 g1 f1
      obtain ⟨F2, g2, R2⟩ := rel_le' o1.length R1 l1 hio l2
      refine P F2 H1 A1 σ1 R2 (g1.trans g2) fun j d hj wj he => ?_
      obtain ⟨a1, a2, a3, a4⟩ := f1 j d (ht j hj) wj he
      refine ⟨?_, a2, a3, a4⟩
      cases q : ow o2 j with
      | true => rfl
      | false => exact absurd (l3 j a1 q) hj
theorem Rel.ow_none {K : PySem.W.Frag} {io : List Nat} {F H : Hp} {A : Nat → List Addr} {ρ : Env} {σ : L2.St} {i : Nat} {b : Bool} (r : Rel K io G F H o A ρ σ) (h : gt ρ i = none) (hio : i ∉ io) : Rel K io G F H (o.set i b) A ρ σ := by
  have ne : ∀ j d, gt ρ j = some d → ow (o.set i b) j = ow o j := fun j d e => ow_set_ne fun z => by subst z; rw [h] at e; cases e
  exact ⟨r.sub, r.lkF, r.f0, r.new, r.dom, r.keep, r.len, fun j d e => by rw [ne j d e]; exact r.sl j d e, fun j d e w => r.own j d e (by rw [← ne j d e]; exact w), fun j k d e jk hj hk wj wk => r.dis j k d e jk hj hk (by rw [← ne j d hj]; exact wj) (by rw [← ne k e hk]; exact wk),
    fun j hj => by rw [ow_set_ne (fun z : i = j => hio (by rw [z]; exact hj))]; exact r.ioo j hj⟩
theorem gt_out : ∀ {ρ : Env} {i : Nat}, ρ.length ≤ i → gt ρ i = none := fun {ρ i} h => by
  cases e : gt ρ i with
  | none => rfl
  | some d => exact absurd (gt_some_lt e) (by omega)
theorem Rel.asgS {K : PySem.W.Frag} {io : List Nat} {F H : Hp} {A : Nat → List Addr} {ρ : Env} {σ : L2.St} {i : Nat} {d : PX.D} {v : V} (r : Rel K io G F H o A ρ σ) (hio : i ∉ io) (rp : Rep K F d v) : Rel K io G F H (o.set i false) A (st ρ i (some d)) (σ.set i (some v)) := by
  by_cases hl : i < ρ.length
  · exact r.setSh hl hio rp
  · have e : σ.set i (some v) = σ := List.set_eq_of_length_le (by rw [← r.len]; omega)
    rw [st_out (by omega), e]
    exact r.ow_none (gt_out (by omega)) hio
theorem Rel.A_congr {K : PySem.W.Frag} {io : List Nat} {F H : Hp} {A A1 : Nat → List Addr} {ρ : Env} {σ : L2.St} (h : Rel K io G F H o A ρ σ) (e : ∀ j d, gt ρ j = some d → A1 j = A j) : Rel K io G F H o A1 ρ σ := by
  refine ⟨h.sub, h.lkF, h.f0, h.new, h.dom, h.keep, h.len, fun j d q => ?_, fun j d q w a ha => ?_, fun j k d f jk hj hk wj wk a ha => ?_, h.ioo⟩
  · rw [e j d q]; exact h.sl j d q
  · rw [e j d q] at ha; exact h.own j d q w a ha
  · rw [e k f hk]; rw [e j d hj] at ha
    exact h.dis j k d f jk hj hk wj wk a ha
theorem Rel.asgO {K : PySem.W.Frag} {io : List Nat} {F H : Hp} {A : Nat → List Addr} {ρ : Env} {σ : L2.St} {i : Nat} {d : PX.D} {v : V} {B : List Addr} (r : Rel K io G F H o A ρ σ) (ho : i < o.length) (hio : i ∉ io) (x : Own K F H d v B) (ap : Apart G F H o A ρ B) :
    Rel K io G F H (o.set i true) (updA A i B) (st ρ i (some d)) (σ.set i (some v)) := by
  by_cases hl : i < ρ.length
  · exact r.setOw hl ho hio x ap
  · have e : σ.set i (some v) = σ := List.set_eq_of_length_le (by rw [← r.len]; omega)
    rw [st_out (by omega), e]
    have hn : gt ρ i = none := gt_out (by omega)
    exact (r.ow_none (b := true) hn hio).A_congr fun j d q => updA_ne fun z => by subst z; rw [hn] at q; cases q
theorem Frm.set {H : Hp} {A A1 : Nat → List Addr} {ρ : Env} {i : Nat} {d : Option PX.D} {b : Bool} (hA : ∀ j, j ≠ i → A1 j = A j) : Frm [i] o (o.set i b) A A1 ρ (st ρ i d) H H := fun j e hj wj he => by
  have ne : i ≠ j := fun z => hj (by simp [z])
  exact ⟨by rw [ow_set_ne ne]; exact wj, hA j (Ne.symm ne), by rw [gt_st_ne ne]; exact he, fun _ _ => rfl⟩
variable (XO : XOk T Φ gl c X W)
include XO
abbrev SS (T : Tab) (Φ : Fns) (gl : Nat → PX.D) (X : Cx) (c : Ctx) (W : WX) (G : Gh) (s : Stmt) (ir : S) (o o' : List Bool) : Prop := PS X s (TSt T X.K c.io W G o (tchS ir) o' c.fr (evS Φ gl ir))
abbrev SSs (T : Tab) (Φ : Fns) (gl : Nat → PX.D) (X : Cx) (c : Ctx) (W : WX) (G : Gh) (s : List Stmt) (ir : List S) (o o' : List Bool) : Prop := PSs X s (TSt T X.K c.io W G o (tchSs ir) o' c.fr (evSs Φ gl ir))
omit XO in
theorem sss_nil : SSs T Φ gl X c W G [] [] o o := PSs.imp pss_nil fun E σ H ⟨F, A, ρ, R, P⟩ => P F H A σ R (.refl F) .refl
omit XO in
theorem evSs_cons (s : S) (ss : List S) (ρ : Env) : evSs Φ gl (s :: ss) ρ = (evS Φ gl s ρ).bind (thenO (evSs Φ gl ss)) := by
  simp only [evSs]
  congr 1
omit XO in
theorem mem_l {a b : List Nat} : ∀ j, j ∉ a ++ b → j ∉ a := fun j h z => h (List.mem_append_left _ z)
omit XO in
theorem mem_r {a b : List Nat} : ∀ j, j ∉ a ++ b → j ∉ b := fun j h z => h (List.mem_append_right _ z)
omit XO in
theorem sss_cons {s : Stmt} {ss : List Stmt} {ir : S} {irs : List S} (h : SS T Φ gl X c W G s ir o o1) (hr : SSs T Φ gl X c W G ss irs o1 o2) : SSs T Φ gl X c W G (s :: ss) (ir :: irs) o o2 := by
  refine PSs.imp (pss_cons h hr) fun E σ H ⟨F, A, ρ, R, P⟩ => ?_
  rw [evSs_cons] at P
  exact ⟨F, A, ρ, R, PostS.seq (tc1 := tchS ir) (tc2 := tchSs irs) P mem_l mem_r fun ρ1 F1 H1 A1 σ1 R1 g1 f1 P1 => ⟨F1, A1, ρ1, R1, P1⟩⟩
omit XO in
/-- a slot is let go ahead of what follows -/
theorem sss_frz {i : Nat} {ss : List Stmt} {irs : List S} (hio : i ∉ c.io) (hr : SSs T Φ gl X c W G ss irs (o.set i false) o2) : SSs T Φ gl X c W G ss (.frz i :: irs) o o2 := by
  refine PSs.imp hr fun E σ H ⟨F, A, ρ, R, P⟩ => ?_
  rw [evSs_cons] at P
  have P : PostS T X.K c.io W G F H o A ρ ([i] ++ tchSs irs) o2 c.fr E (evSs Φ gl irs ρ) := P
  obtain ⟨F1, g1, R1⟩ := R.freeze hio
  refine ⟨F1, A, ρ, R1, ?_⟩
  cases e : evSs Φ gl irs ρ with
  | fail => rw [e] at P; exact P
  | exc cc d ρ' => rw [e] at P; exact P
  | ok a ρ' =>
    rw [e] at P
    cases a with
    | ret d => exact P
    | next =>
      intro F2 H2 A2 σ2 R2 g2 f2
      refine P F2 H2 A2 σ2 R2 (g1.trans g2) fun j d hj wj he => ?_
      have ne : i ≠ j := fun z => hj (by simp [z])
      exact f2 j d (fun z => hj (List.mem_append_right _ z)) (by rw [ow_set_ne ne]; exact wj) he
omit XO in
theorem ss_pass {pos : Pos} : SS T Φ gl X c W G (.Pass pos) .pass o o := PS.imp ps_pass fun E σ H ⟨F, A, ρ, R, P⟩ => P F H A σ R (.refl F) .refl
/-- where a comprehension's list goes straight to a name -/
def swC (c : Ctx) (e : Expr) (x : Str) (p : Pos) : Bool := match e with
  | .ListComp _ _ s _ => decide (c.sc.names.lookup x = some .local) && p.line == e.pos.line && !(s.names.any fun (n, k) => n == x && (k == .local || k == .cell))
  | _ => false
def noSC : Expr → Bool
  | .SetComp _ _ _ _ => false
  | .DictComp _ _ _ _ _ => false
  | _ => true
theorem swaps_ok {e : Expr} {x : Str} {p : Pos} {n : Nat} (hk : c.sc.kind = .function) (hs : noSC e = true) : swapsWith e (some (.Name x p)) n X.env = pure (swC c e x p) := by
  cases e with
  | ListComp a b s q =>
    have hb : X.env.blockKind = .function := by
      unfold PySem.Env.blockKind
      rw [XO.hs, hk]; rfl
    show pure (X.env.blockKind == .function && X.env.kindOf x == some .local && p.line == _ && !_) = _
    rw [hb]
    have e1 : (X.env.kindOf x == some NameKind.local) = decide (c.sc.names.lookup x = some .local) := by
      unfold PySem.Env.kindOf
      rw [XO.hs]
      rw [Bool.eq_iff_iff]; simp
    rw [e1]
    rfl
  | SetComp _ _ _ _ => cases hs
  | DictComp _ _ _ _ _ => cases hs
  | _ => rfl
omit XO in
theorem tex_keep {K : PySem.W.Frag} {io : List Nat} {o' : List Bool} {tc pk : List Nat} {f : Env → R PX.D} {σ : L2.St} {H : Hp} {Q : VK} (h : TEx T K io W G o tc o' .keep pk f σ H Q) : TEx T K io W G o tc o' .fresh pk f σ H Q := by
  obtain ⟨F, A, ρ, R, P⟩ := h
  refine ⟨F, A, ρ, R, ?_⟩
  cases q : f ρ with
  | fail => rw [q] at P; exact P
  | exc c d ρ' => rw [q] at P; exact P
  | ok d ρ' =>
    rw [q] at P
    intro F' H' A' v R' g fr m
    obtain ⟨F2, g2, R2, rp⟩ := RM.frozen R' m
    exact P F2 H' A' v R2 (g.trans g2) fr rp
omit XO in
theorem set_coreS {st : Stmt} {te : TE} {i : Nat} {ie : E} (hio : i ∉ c.io) (h : PS X st (tAsg te (gName i))) (imp : ∀ σ H Q, TEx T X.K c.io W G o (tch ie) o1 .keep (pks ie) (evE Φ gl ie) σ H Q → te σ H Q) : SS T Φ gl X c W G st (.set i ie) o (o1.set i false) := by
  refine PS.imp h fun E σ H ⟨F, A, ρ, R, P⟩ => imp _ _ _ ⟨F, A, ρ, R, ?_⟩
  refine PostS.expr (tc1 := tch ie) (tc2 := [i]) P mem_l mem_r fun d ρ1 F1 H1 A1 v _ R1 g1 f1 w1 P1 => ?_
  exact P1 F1 H1 A1 _ (R1.asgS hio w1) (.refl F1) (.set fun _ _ => rfl)
omit XO in
theorem set_coreO {st : Stmt} {te : TE} {i : Nat} {ie : E} (hio : i ∉ c.io) (hl : i < o1.length) (h : PS X st (tAsg te (gName i))) (imp : ∀ σ H Q, TEx T X.K c.io W G o (tch ie) o1 .fresh (pks ie) (evE Φ gl ie) σ H Q → te σ H Q) : SS T Φ gl X c W G st (.set i ie) o (o1.set i true) := by
  refine PS.imp h fun E σ H ⟨F, A, ρ, R, P⟩ => imp _ _ _ ⟨F, A, ρ, R, ?_⟩
  refine PostS.expr (tc1 := tch ie) (tc2 := [i]) P mem_l mem_r fun d ρ1 F1 H1 A1 v _ R1 g1 f1 w1 P1 => ?_
  obtain ⟨B, w, ap⟩ := w1
  exact P1 F1 H1 _ _ (R1.asgO hl hio w ap) (.refl F1) (.set fun j hj => updA_ne hj)
theorem ps_setE {e : Expr} {x : Str} {p pos : Pos} {i : Nat} {te : TE} (hi : c.N[i]? = some x) (hs : sto c x = true) (hk : c.sc.kind = .function) (hn : noSC e = true) (hw : swC c e x p = false) (he : PE X e te) : PS X (.Assign [.Name x p] e pos) (tAsg te (gName i)) := by
  obtain ⟨h1, h2⟩ := sto_ok XO hs
  exact ps_set (by rw [XO.hN]; exact XO.nd) (by rw [XO.hN]; exact hi) h1 he (by rw [swaps_ok XO hk hn, hw]) h2
theorem ss_setS {e : Expr} {x : Str} {p pos : Pos} {i : Nat} {ie : E} (hi : c.N[i]? = some x) (hs : sto c x = true) (hio : i ∉ c.io) (hk : c.sc.kind = .function) (hn : noSC e = true) (hw : swC c e x p = false) (he : SE T Φ gl X c.io W G e ie o o1 .keep) :
    SS T Φ gl X c W G (.Assign [.Name x p] e pos) (.set i ie) o (o1.set i false) := set_coreS hio (ps_setE XO hi hs hk hn hw he) fun _ _ _ h => h
theorem ss_setO {e : Expr} {x : Str} {p pos : Pos} {i : Nat} {ie : E} (hi : c.N[i]? = some x) (hs : sto c x = true) (hio : i ∉ c.io) (hl : i < o1.length) (hk : c.sc.kind = .function) (hn : noSC e = true) (hw : swC c e x p = false) (he : SE T Φ gl X c.io W G e ie o o1 .fresh) :
    SS T Φ gl X c W G (.Assign [.Name x p] e pos) (.set i ie) o (o1.set i true) := set_coreO hio hl (ps_setE XO hi hs hk hn hw he) fun _ _ _ h => h
section
variable {elt tgE iter : Expr} {ifs : List Expr} {scope : Scope} {ownN : List (Str × Nat)} {pos : Pos} {tg : Tg} {ik : IK} {its ifsI : List E} {eltI : E}
theorem ps_setC {x : Str} {p spos : Pos} {i : Nat} (hx : c.N[i]? = some x) (hxl : c.sc.names.lookup x = some .local) (hk : c.sc.kind = .function) (hw : swC c (.ListComp elt [⟨tgE, iter, ifs, 0⟩] scope pos) x p = true)
    (hi : SI T Φ gl X c.io W G tgE iter ik its o o1) (ok : BlkOk c.N c.sc scope ownN) (hfs : ∀ x, foldedSetIterable iter X.env x = pure x) (b : BodyOk T Φ gl c X.K scope (ownN.map (·.2)) o1 tgE tg ifs ifsI elt eltI) :
    PS X (.Assign [.Name x p] (.ListComp elt [⟨tgE, iter, ifs, 0⟩] scope pos) spos) (tAsg (tLc (TX (fun F H A ρ xs J => SeqOk X.K G F H o1 A ρ (pksL its) J xs) T X.K c.io W G o (tchs its) o1 fun ρ => (evEs Φ gl its ρ).bind fun ds ρ1 => optR (itD ik ds) ρ1) (tTg X c.io o1 (ownN.map (·.2)) tg)
      (fun σ H Q => ∃ G, TX RT T X.K c.io WF G o1 (tchs ifsI) o1 (evIfs Φ gl ifsI) σ H Q) (fun σ H Q => ∃ G, TEx T X.K c.io WF G o1 (tch eltI) o1 .keep (pks eltI) (evE Φ gl eltI) σ H Q) (ownN.map (·.2))) (gName i)) :=
  ps_setLc XO.calm (by rw [XO.hN]; exact XO.nd) (by rw [XO.hN]; exact hx) (by rw [XO.hs]; exact hxl) (by rw [swaps_ok XO hk rfl, hw]) hi (by rw [XO.hN, XO.hs]; exact ok)
    (fun s H C cl fp => (comp_parts XO b s H C cl fp).1) (fun s H C cl fp => (comp_parts XO b s H C cl fp).2.1) (fun s H C cl fp => (comp_parts XO b s H C cl fp).2.2) hfs
theorem ss_setCO {x : Str} {p spos : Pos} {i : Nat} (hx : c.N[i]? = some x) (hxl : c.sc.names.lookup x = some .local) (hk : c.sc.kind = .function) (hw : swC c (.ListComp elt [⟨tgE, iter, ifs, 0⟩] scope pos) x p = true) (hixo : i ∉ c.io) (hl : i < o1.length)
    (hi : SI T Φ gl X c.io W G tgE iter ik its o o1) (ok : BlkOk c.N c.sc scope ownN) (htg : ∀ i ∈ tgsOf tg, i ∈ ownN.map (·.2)) (hown : ∀ i ∈ ownN.map (·.2), ow o1 i = false) (hio : ∀ i ∈ ownN.map (·.2), i ∉ c.io)
    (hpk : ∀ j ∈ pksL its, j ∉ ownN.map (·.2) ++ (tchs ifsI ++ tch eltI)) (hfs : ∀ x, foldedSetIterable iter X.env x = pure x) (b : BodyOk T Φ gl c X.K scope (ownN.map (·.2)) o1 tgE tg ifs ifsI elt eltI) :
    SS T Φ gl X c W G (.Assign [.Name x p] (.ListComp elt [⟨tgE, iter, ifs, 0⟩] scope pos) spos) (.set i (.comp (ownN.map (·.2)) tg ik its ifsI eltI)) o (o1.set i true) :=
  set_coreO hixo hl (ps_setC XO hx hxl hk hw hi ok hfs b) fun σ H Q P => comp_core (m := .fresh) htg hown hio hpk P
theorem ss_setCS {x : Str} {p spos : Pos} {i : Nat} (hx : c.N[i]? = some x) (hxl : c.sc.names.lookup x = some .local) (hk : c.sc.kind = .function) (hw : swC c (.ListComp elt [⟨tgE, iter, ifs, 0⟩] scope pos) x p = true) (hixo : i ∉ c.io)
    (hi : SI T Φ gl X c.io W G tgE iter ik its o o1) (ok : BlkOk c.N c.sc scope ownN) (htg : ∀ i ∈ tgsOf tg, i ∈ ownN.map (·.2)) (hown : ∀ i ∈ ownN.map (·.2), ow o1 i = false) (hio : ∀ i ∈ ownN.map (·.2), i ∉ c.io)
    (hpk : ∀ j ∈ pksL its, j ∉ ownN.map (·.2) ++ (tchs ifsI ++ tch eltI)) (hfs : ∀ x, foldedSetIterable iter X.env x = pure x) (b : BodyOk T Φ gl c X.K scope (ownN.map (·.2)) o1 tgE tg ifs ifsI elt eltI) :
    SS T Φ gl X c W G (.Assign [.Name x p] (.ListComp elt [⟨tgE, iter, ifs, 0⟩] scope pos) spos) (.set i (.comp (ownN.map (·.2)) tg ik its ifsI eltI)) o (o1.set i false) :=
  set_coreS hixo (ps_setC XO hx hxl hk hw hi ok hfs b) fun σ H Q P => comp_core (m := .fresh) htg hown hio hpk (tex_keep P)
end
/-- e, ret, if -/
theorem ss_ret {e : Expr} {ie : E} {pos : Pos} {m : Md} (hm : m = (if c.fr = true then .fresh else .keep)) (he : SE T Φ gl X c.io W G e ie o o1 m) (hpk : pks ie = []) : SS T Φ gl X c W G (.Return (some e) pos) (.ret ie) o o2 := by
  subst hm
  refine PS.imp (ps_ret he) fun E σ H ⟨F, A, ρ, R, P⟩ => ⟨F, A, ρ, R, ?_⟩
  refine PostS.expr (tc1 := tch ie) (tc2 := []) P (fun _ h => h) (fun _ _ => by simp) fun d ρ1 F1 H1 A1 v _ R1 g1 f1 w1 P1 => ?_
  have w1 : RM (if c.fr = true then .fresh else .keep) X.K G F1 H1 o1 A1 ρ1 [] d v := by rw [← hpk]; exact w1
  exact P1 F1 H1 A1 o1 σ v R1 w1
theorem ss_if {t : Expr} {a b : List Stmt} {it : E} {ia ib : List S} {pos : Pos} (ht : ST T Φ gl X c.io W G t it o o1) (hio : ∀ i ∈ c.io, ow o3 i = true) {oa ob : List Bool} (ha : SSs T Φ gl X c W G a ia o1 oa) (hb : SSs T Φ gl X c W G b ib o1 ob)
    (la : leT (tchSs ia ++ tchSs ib) o3 oa = true) (lb : leT (tchSs ia ++ tchSs ib) o3 ob = true) : SS T Φ gl X c W G (.If t a b pos) (.ifs it ia ib) o o3 := by
  refine PS.imp (ps_if ht ha hb) fun E σ H ⟨F, A, ρ, R, P⟩ => ⟨F, A, ρ, R, ?_⟩
  have e : evS Φ gl (.ifs it ia ib) ρ = (evC Φ gl it ρ).bind fun k ρ1 => if k = true then evSs Φ gl ia ρ1 else evSs Φ gl ib ρ1 := by
    simp only [evS]
  rw [e] at P
  refine PostS.expr (tc1 := tch it) (tc2 := tchSs ia ++ tchSs ib) P mem_l mem_r fun k ρ1 F1 H1 A1 v _ R1 g1 f1 w1 P1 => ?_
  have w1 : k = v := w1
  subst w1
  cases k with
  | true => exact iteT ⟨F1, A1, ρ1, R1, P1.le la hio mem_l⟩
  | false => exact iteF ⟨F1, A1, ρ1, R1, P1.le lb hio mem_r⟩
end
end PX
end
section
set_option Elab.async false
set_option linter.all false
set_option maxRecDepth 100000
set_option maxHeartbeats 4000000
namespace PX
open PySem L2
section
variable {T : Tab} {Φ : Fns} {gl : Nat → PX.D} {c : Ctx} {X : Cx} {W : WX} {G : Gh} {o o1 o2 o3 : List Bool} {tc : List Nat}
theorem PS.or {e : Stmt} {t t' : TS} (h : PS X e t) (h' : PS X e t') : PS X e (fun E σ H => t E σ H ∨ t' E σ H) := ⟨fun pins s σ H E I q => q.elim (h.run pins s σ H E I) (h'.run pins s σ H E I)⟩
variable (XO : XOk T Φ gl c X W)
include XO
/-- a, b = x, y, stored from the right -/
def parOk (c : Ctx) (x : Str) (px : Pos) (y : Str) (py : Pos) (a b : Expr) : Bool :=
  decide (c.sc.names.lookup x = some .local) && decide (c.sc.names.lookup y = some .local) && (py.line == px.line) && !(x == y) && notStar a && notStar b && !(foldedForSure 8 a && foldedForSure 8 b) && !(constantsAlone 8 a && constantsAlone 8 b)
theorem swapped_ok {x y : Str} {px py pt pt2 : Pos} {kt k2 : Nat} {a b : Expr} (hk : c.sc.kind = .function) (h : parOk c x px y py a b = true) :
    swappedStores [.Tuple [.Name x px, .Name y py] kt pt] (.Tuple [a, b] k2 pt2) X.env = pure (some [x, y]) := by
  unfold parOk at h
  simp only [Bool.and_eq_true, Bool.not_eq_true'] at h
  obtain ⟨⟨⟨⟨⟨⟨⟨h1, h2⟩, h3⟩, h4⟩, h5⟩, h6⟩, h7⟩, h8⟩ := h
  have hb : X.env.blockKind = .function := by
    unfold PySem.Env.blockKind
    rw [XO.hs, hk]; rfl
  have e1 : (X.env.kindOf x == some NameKind.local) = true := by
    unfold PySem.Env.kindOf
    rw [XO.hs, of_decide_eq_true h1]; rfl
  have e2 : (X.env.kindOf y == some NameKind.local) = true := by
    unfold PySem.Env.kindOf
    rw [XO.hs, of_decide_eq_true h2]; rfl
  have s1 : ∀ e : Expr, notStar e = true → (match e with | .Starred .. => true | _ => false) = false := fun e he => by
    cases e <;> first | rfl | cases he
  have ne : (x == y) = false := h4
  have ne' : (y == x) = false := by
    rw [Bool.eq_false_iff] at ne ⊢
    intro z; exact ne (by rw [eq_of_beq z]; simp)
  unfold swappedStores
  have l0 : (Option.map (fun e : Expr => e.pos.line) [Expr.Name x px, Expr.Name y py].head?).getD 0 = px.line := rfl
  have l1 : (px.line == px.line) = true := beq_self_eq_true _
  simp only [hb, List.length_cons, List.length_nil, List.filterMap_cons, List.filterMap_nil, e1, e2, l0, l1, h3, Bool.and_self, if_true, List.all_cons, List.all_nil, Bool.and_true]
  rw [if_neg (by decide)]
  rw [if_neg (fun z => by
    obtain ⟨e, he, hz⟩ := List.any_eq_true.mp z
    have hn : notStar e = true := by
      rcases List.mem_cons.mp he with rfl | he
      · exact h5
      · rw [List.mem_singleton.mp he]; exact h6
    cases e <;> first | exact absurd hn Bool.false_ne_true | exact absurd hz Bool.false_ne_true)]
  have ed : ([x, y] : List Str).eraseDups = [x, y] := by
    simp [List.eraseDups_cons, ne, ne']
  rw [ed]
  rw [if_neg (by simp), h7, h8]
  rfl
theorem ss_par {x y : Str} {px py pt pt2 pos : Pos} {kt k2 : Nat} {a b : Expr} {ia ib : E} {i j : Nat} (hk : c.sc.kind = .function) (h : parOk c x px y py a b = true) (hi : c.N[i]? = some x) (hj : c.N[j]? = some y) (hij : i ≠ j) (hio : i ∉ c.io) (hjo : j ∉ c.io)
    (ha : SA T Φ gl X c.io W G [a, b] [ia, ib] o o1) : SS T Φ gl X c W G (.Assign [.Tuple [.Name x px, .Name y py] kt pt] (.Tuple [a, b] k2 pt2) pos) (.par i j ia ib) o ((o1.set i false).set j false) := by
  have hx : X.env.scope.names.lookup x = some .local := by
    rw [XO.hs]; unfold parOk at h
    simp only [Bool.and_eq_true] at h
    exact of_decide_eq_true h.1.1.1.1.1.1.1
  have hy : X.env.scope.names.lookup y = some .local := by
    rw [XO.hs]; unfold parOk at h
    simp only [Bool.and_eq_true] at h
    exact of_decide_eq_true h.1.1.1.1.1.1.2
  refine PS.imp (ps_par XO.calm (by rw [XO.hN]; exact XO.nd) (by rw [XO.hN]; exact hi) (by rw [XO.hN]; exact hj) hij hx hy ha (swapped_ok XO hk h)) fun E σ H ⟨F, A, ρ, R, P⟩ => ?_
  have e : evS Φ gl (.par i j ia ib) ρ = (evEs Φ gl [ia, ib] ρ).bind fun ds ρ2 => match ds with
      | [x, y] => .ok .next (st (st ρ2 i (some x)) j (some y))
      | _ => .fail := by
    show ((evE Φ gl ia ρ).bind fun x ρ1 => (evE Φ gl ib ρ1).bind fun y ρ2 => PX.R.ok Out.next (st (st ρ2 i (some x)) j (some y))) = ((evE Φ gl ia ρ).bind fun x ρ1 => ((evE Φ gl ib ρ1).bind fun y ρ2 => (PX.R.ok [] ρ2).bind fun ys ρ3 => PX.R.ok (y :: ys) ρ3).bind fun xs ρ2 => PX.R.ok (x :: xs) ρ2).bind _
    cases evE Φ gl ia ρ with
    | ok x ρ1 =>
      show (evE Φ gl ib ρ1).bind _ = (((evE Φ gl ib ρ1).bind _).bind _).bind _
      cases evE Φ gl ib ρ1 <;> rfl
    | _ => rfl
  rw [e] at P
  refine ⟨F, A, ρ, R, PostS.expr (tc1 := tchs [ia, ib]) (tc2 := [i, j]) P (fun q h z => h (by show q ∈ (tch ia ++ tch ib) ++ [i, j]; simp only [tchs, List.append_nil] at z; exact List.mem_append_left _ z)) mem_r fun ds ρ1 F1 H1 A1 vs ex R1 g1 f1 w1 P1 => ?_⟩
  have hlen := evEs_len XO ex
  cases w1 with
  | nil => cases hlen
  | @cons d ds v vs r w1 =>
    cases w1 with
    | nil => cases hlen
    | @cons d2 ds v2 vs r2 w1 =>
      cases w1 with
      | cons _ _ => cases hlen
      | nil =>
        refine ⟨v, v2, rfl, ?_⟩
        refine P1 F1 H1 A1 _ ((R1.asgS hio r).asgS hjo r2) (.refl F1) fun q e hq wq he => ?_
        have n1 : i ≠ q := fun z => hq (by simp [z])
        have n2 : j ≠ q := fun z => hq (by simp [z])
        exact ⟨by rw [ow_set_ne n2, ow_set_ne n1]; exact wq, rfl, by rw [gt_st_ne n2, gt_st_ne n1]; exact he, fun _ _ => rfl⟩
/-- (a, ..) = e, e no display -/
def noTup : Expr → Bool
  | .Tuple _ _ _ => false
  | .List _ _ => false
  | _ => true
theorem ss_tset {es : List Expr} {k : Nat} {tpos pos : Pos} {e : Expr} {ts : List Tg} {ie : E} (hn : noTup e = true) (htgs : PG X (.Tuple es k tpos) (tTg X c.io o1 (tgsOfs ts) (.tp ts)))
    (he : SE T Φ gl X c.io W G e ie o o1 .keep) (hown : ∀ i ∈ tgsOfs ts, ow o1 i = false) : SS T Φ gl X c W G (.Assign [.Tuple es k tpos] e pos) (.tset ts ie) o o1 := by
  refine PS.imp (ps_asg he htgs (by cases e <;> rfl) (by cases e <;> first | rfl | cases hn) rfl) fun E σ H ⟨F, A, ρ, R, P⟩ => ?_
  refine ⟨F, A, ρ, R, PostS.expr (tc1 := tch ie) (tc2 := tgsOfs ts) (k := fun x ρ1 => (optR (asg (.tp ts) x ρ1) ρ1).bind fun ρ2 _ => PX.R.ok Out.next ρ2) P mem_l mem_r fun d ρ1 F1 H1 A1 v ex R1 g1 f1 w1 P1 => ?_⟩
  cases ha : asg (.tp ts) d ρ1 with
  | none => rw [ha] at P1; exact False.elim P1
  | some ρ2 =>
    rw [ha] at P1
    refine ⟨G, F1, A1, ρ1, d, ρ2, R1, w1, ha, fun σ' R' si => P1 F1 H1 A1 σ' R' (.refl F1) fun j e hj wj he => ⟨wj, rfl, ?_, fun _ _ => rfl⟩⟩
    rw [asg_out ha j hj]; exact he
theorem ss_app {i : Nat} {y : Str} {py apos cpos pos : Pos} {e : Expr} {ie : E} (hi : c.N[i]? = some y) (hv : vis c y = true) (ho : ow o i = true) (hl : (apos.endLine == cpos.line) = true) (hn : notStar e = true) (ht : i ∉ tch ie) (h : SE T Φ gl X c.io W G e ie o o1 .keep) :
    SS T Φ gl X c W G (.Expr (.Call (.Attribute (.Name y py) "append" apos) [e] [] cpos) pos) (.app i ie) o o1 := by
  refine PS.imp (ps_expr (se_app XO hi hv ho hl hn ht h) rfl) fun E σ H ⟨F, A, ρ, R, P⟩ => ?_
  have e1 : evS Φ gl (.app i ie) ρ = (appR Φ gl appD i ie ρ).bind fun _ ρ' => PX.R.ok Out.next ρ' := by
    simp only [evS, appR, bind_assoc XO]
    congr 1; funext _ ρ0; congr 1; funext y ρ1
    cases gt ρ1 i with
    | none => rfl
    | some x => dsimp only; cases appD x y <;> rfl
  rw [e1] at P
  refine ⟨F, A, ρ, R, PostS.expr (tc1 := tch ie ++ [i]) (tc2 := []) P (fun _ h => h) (fun _ _ => by simp) fun d ρ1 F1 H1 A1 v ex R1 g1 f1 w1 P1 => ?_⟩
  exact P1 F1 H1 A1 σ R1 (.refl F1) .refl
end
end PX
end
section
set_option Elab.async false
set_option linter.all false
set_option maxRecDepth 100000
set_option maxHeartbeats 4000000
namespace PX
open PySem L2
section
variable {K : PySem.W.Frag} {io : List Nat} {G : Gh} {F H : Hp} {o : List Bool} {A : Nat → List Addr} {ρ : Env} {σ : L2.St} {i : Nat} {d : PX.D} {v : V} {B : List Addr}
/-- an owned dict gets an item -/
theorem Rel.dicAt {t : Bool} {es : List (PX.D × PX.D)} (r : Rel K io G F H o A ρ σ) (hg : gt ρ i = some (.dic t es)) (ho : ow o i = true) : ∃ a, σ[i]? = some (some (.ref a)) ∧
    ∀ k d y w, isKey t k = true → es.length < PX.sizeLine → View K F H k y → Rep K F d w → ∃ H', DPut H a y w H' ∧ Rel K io G F H' o A (st ρ i (some (.dic t (PX.putK k d es)))) σ ∧ ∀ tc, i ∈ tc → Frm tc o o A A ρ (st ρ i (some (.dic t (PX.putK k d es)))) H H' := by
  obtain ⟨v, hv, x⟩ := r.owned hg ho
  have frm : ∀ {a : Addr} {u : HO} {d' : PX.D}, A i = [a] → ∀ tc, i ∈ tc → Frm tc o o A A ρ (st ρ i (some d')) H (upd H a u) := fun {a u d'} hA tc hi j e hj wj he => by
    have ne : j ≠ i := fun z => hj (by rw [z]; exact hi)
    refine ⟨wj, rfl, by rw [gt_st_ne (Ne.symm ne)]; exact he, fun b hb => upd_ne fun z => ?_⟩
    exact r.dis j i e _ ne he hg wj ho b hb (by rw [hA, z]; simp)
  generalize hA : A i = B at x
  cases x with
  | shr m _ => cases m
  | @dK a kvs es ha ra =>
    refine ⟨a, hv, fun k d y w hk hl vy rd => ?_⟩
    have put : ∀ q, keyV k = some q → y = kV q → ∃ H', DPut H a y w H' ∧ Rel K io G F H' o A (st ρ i (some (.dic false (PX.putK k d es)))) σ ∧ ∀ tc, i ∈ tc → Frm tc o o A A ρ (st ρ i (some (.dic false (PX.putK k d es)))) H H' := fun q hq hy => by
      refine ⟨_, .inl ⟨kvs, q, ha, hy, by rw [← ra.length, ← line_eq]; exact hl, rfl⟩, r.mut hg ho (by rw [hA]; simp) hv (by rw [hA]; exact .dK upd_same (ra.put hq rd)), frm hA⟩
    cases vy with
    | int n => exact put (.inl n) rfl rfl
    | str s => exact put (.inr s) rfl rfl
    | _ => cases hk
  | @dT a kvs es ha ra =>
    refine ⟨a, hv, fun k d y w hk hl vy rd => ?_⟩
    cases vy with
    | @tup b xs ds fb hb lb rb =>
      have hk' : (true && (nums ds).isSome) = true := hk
      rw [Bool.true_and] at hk'
      obtain ⟨ns, e⟩ := Option.isSome_iff_exists.mp hk'
      obtain rfl := nums_eq e
      rw [rb.nums e] at hb
      refine ⟨_, .inr ⟨kvs, ns.map Sum.inl, b, ha, rfl, by rw [inl_map]; exact hb, by rw [← ra.length, ← line_eq]; exact hl, rfl⟩, r.mut hg ho (by rw [hA]; simp) hv (by rw [hA]; exact .dT upd_same (ra.put (by rw [List.length_map] at lb; exact lb) rd)), frm hA⟩
    | _ => cases hk
end
section
variable {T : Tab} {Φ : Fns} {gl : Nat → PX.D} {c : Ctx} {X : Cx} {W : WX} {G : Gh} {o o1 o2 o3 : List Bool} {tc : List Nat}
variable (XO : XOk T Φ gl c X W)
include XO
theorem ss_setix {i : Nat} {y : Str} {py spos pos : Pos} {k e : Expr} {ik ie : E} {m : Md} (hm : m ≠ .fresh) (hpl : plainIx k = true) (hi : c.N[i]? = some y) (hv : vis c y = true) (ho : ow o i = true) (ht : i ∉ tch ie) (ht2 : i ∉ tch ik) (he : SE T Φ gl X c.io W G e ie o o1 .keep) (hk : SE T Φ gl X c.io W G k ik o1 o2 m) :
    SS T Φ gl X c W G (.Assign [.Subscript (.Name y py) k spos] e pos) (.setix i ik ie) o o2 := by
  have hs : swapsWith e (some (.Subscript (.Name y py) k spos)) pos.line X.env = pure false := by cases e <;> rfl
  refine PS.imp (PS.or (ps_asg he (pg_sub (pos := spos) (pe_slot XO hi hv) hk set_list (by intro v; cases k <;> first | rfl | exact absurd hpl Bool.false_ne_true)) hs (by cases e <;> rfl) rfl) (ps_dput (by have := XO.hu; omega) (pe_slot XO hi hv) hk he hs)) fun E σ H ⟨F, A, ρ, R, P⟩ => ?_
  have P : PostS T X.K c.io W G F H o A ρ (tchS (.setix i ik ie)) o2 c.fr E ((hasAt ρ i).bind fun _ ρ => (evE Φ gl ie ρ).bind fun v ρ1 => (evE Φ gl ik ρ1).bind fun kv ρ2 => match gt ρ2 i with
      | none => .fail
      | some x => (optR (setD x kv v) ρ2).bind fun y ρ3 => .ok .next (st ρ3 i (some y))) := P
  cases hx : gt ρ i with
  | none => unfold hasAt at P; rw [hx] at P; exact False.elim P
  | some x =>
  have e0 : hasAt ρ i = .ok () ρ := by unfold hasAt; rw [hx]
  rw [e0] at P
  have core : ∀ (Q1 : V → V → V → Hp → Prop), (∀ (d kv : PX.D) (ρ2 : Env) (F2 H2 : Hp) (A2 : Nat → List Addr) (v w a : V), gt ρ2 i = some x → ow o2 i = true → σ[i]? = some (some a) → Rel X.K c.io G F2 H2 o2 A2 ρ2 σ → Rep X.K F2 d v → View X.K F2 H2 kv w →
      PostS T X.K c.io W G F2 H2 o2 A2 ρ2 [i] o2 c.fr E ((optR (setD x kv d) ρ2).bind fun y ρ3 => .ok .next (st ρ3 i (some y))) → Q1 v a w H2) →
      TEx T X.K c.io W G o (tch ie) o1 .keep (pks ie) (evE Φ gl ie) σ H fun v H1 => tVar i σ H1 fun a H2 => TEx T X.K c.io W G o1 (tch ik) o2 m (pks ik) (evE Φ gl ik) σ H2 fun w H3 => Q1 v a w H3 := by
    intro Q1 fin
    refine ⟨F, A, ρ, R, PostS.expr (tc1 := tch ie) (tc2 := tch ik ++ [i]) (k := fun v ρ1 => (evE Φ gl ik ρ1).bind fun kv ρ2 => match gt ρ2 i with
      | none => .fail
      | some x => (optR (setD x kv v) ρ2).bind fun y ρ3 => .ok .next (st ρ3 i (some y))) P mem_l mem_r fun d ρ1 F1 H1 A1 v ex R1 g1 f1 w1 P1 => ?_⟩
    obtain ⟨a1, a2, a3, a4⟩ := f1 i x ht ho hx
    obtain ⟨a, ha, _⟩ := R1.owned a3 a1
    refine ⟨a, ha, F1, A1, ρ1, R1, PostS.expr (tc1 := tch ik) (tc2 := [i]) P1 mem_l mem_r fun kv ρ2 F2 H2 A2 w ex2 R2 g2 f2 w2 P2 => ?_⟩
    obtain ⟨b1, b2, b3, b4⟩ := f2 i x ht2 a1 a3
    rw [b3] at P2
    exact fin d kv ρ2 F2 H2 A2 v w a b3 b1 ha R2 (Rep.grow g2 w1) (w2.view R2) P2
  by_cases isd : ∃ t es, x = .dic t es
  · obtain ⟨t, es, rfl⟩ := isd
    refine .inr (core (fun v a w H3 => ∃ p H4, a = .ref p ∧ DPut H3 p w v H4 ∧ E.nx σ H4) fun d kv ρ2 F2 H2 A2 v w a hx2 ho2 ha R2 rd vk P2 => ?_)
    obtain ⟨p, hp, put⟩ := R2.dicAt hx2 ho2
    rw [ha] at hp
    cases hp
    have e1 : setD (.dic t es) kv d = if (isKey t kv && decide (es.length < PX.sizeLine)) = true then some (.dic t (PX.putK kv d es)) else none := rfl
    rw [e1] at P2
    by_cases q : (isKey t kv && decide (es.length < PX.sizeLine)) = true
    · rw [if_pos q] at P2
      rw [Bool.and_eq_true] at q
      obtain ⟨H4, dp, R4, fr⟩ := put kv d w v q.1 (of_decide_eq_true q.2) vk rd
      exact ⟨p, H4, rfl, dp, P2 F2 H4 A2 σ R4 (.refl F2) (fr [i] (by simp))⟩
    · rw [if_neg q] at P2; exact False.elim P2
  · refine .inl (core (fun v a w H3 => rSetL a w v H3 fun H4 => E.nx σ H4) fun d kv ρ2 F2 H2 A2 v w a hx2 ho2 ha R2 rd vk P2 => ?_)
    cases x with
    | dic t es => exact absurd ⟨t, es, rfl⟩ isd
    | lst ds =>
      obtain ⟨p, vs, hp, hA, hH, hl, rl, mu⟩ := R2.lstAt hx2 ho2
      rw [ha] at hp
      cases hp
      cases vk with
      | int n =>
        have e1 : setD (.lst ds) (.int n) d = (plc ds.length n).map fun j => .lst (ds.set j d) := rfl
        rw [e1] at P2
        cases hpl : plc ds.length n with
        | none => rw [hpl] at P2; exact False.elim P2
        | some j =>
          rw [hpl] at P2
          obtain ⟨R4, fr⟩ := mu (ds.set j d) (vs.set j v) (by rw [List.length_set]; exact hl) (RepL.set rd j rl)
          exact ⟨p, vs, n, j, rfl, rfl, hH, by rw [← rl.length]; exact plc_ix hpl, P2 F2 _ A2 σ R4 (.refl F2) (fr [i] (by simp))⟩
      | _ => exact False.elim P2
    | _ => exact False.elim P2
omit XO in
theorem swapped_sub {o1 i1 o2 i2 a b : Expr} {p1 p2 pt pt2 : Pos} {kt k2 : Nat} : swappedStores [.Tuple [.Subscript o1 i1 p1, .Subscript o2 i2 p2] kt pt] (.Tuple [a, b] k2 pt2) X.env = pure none := by
  unfold swappedStores
  simp only [List.filterMap_cons, List.filterMap_nil]
  split
  · rfl
  · split
    · rfl
    · rfl
/-- an item of a list at a slot is stored -/
theorem sub_step {i : Nat} {ik : E} {tcs : List Nat} {of : List Bool} {E : Ends} {F H : Hp} {A : Nat → List Addr} {ρ : Env} {σ : L2.St} {d : PX.D} {v : V} {m : Md} {TAIL : Env → R Out} {ds : List PX.D} (hm : m ≠ .fresh) (ho : ow o i = true) (ht : i ∉ tch ik)
    (R : Rel X.K c.io G F H o A ρ σ) (hg : gt ρ i = some (.lst ds)) (rd : Rep X.K F d v)
    (P : PostS T X.K c.io W G F H o A ρ ((tch ik ++ [i]) ++ tcs) of c.fr E ((evE Φ gl ik ρ).bind fun kv ρ3 => match gt ρ3 i with | none => .fail | some u => (optR (setD u kv d) ρ3).bind fun u' ρ4 => TAIL (st ρ4 i (some u'))))
    (Q : L2.St → Hp → Prop) (fin : ∀ (F2 H2 : Hp) (A2 : Nat → List Addr) (ρ2 : Env), Rel X.K c.io G F2 H2 o1 A2 ρ2 σ → Grow F F2 → (∃ ds', gt ρ2 i = some (.lst ds')) → (∀ j e, j ∉ tch ik → j ≠ i → ow o j = true → gt ρ j = some e → ow o1 j = true ∧ gt ρ2 j = some e) → ow o1 i = true → PostS T X.K c.io W G F2 H2 o1 A2 ρ2 tcs of c.fr E (TAIL ρ2) → Q σ H2) :
    gSub (tVar i) (TEx T X.K c.io W G o (tch ik) o1 m (pks ik) (evE Φ gl ik)) rSetL v σ H Q := by
  obtain ⟨a, vs, hs, hA, hH, hl, rl, mu⟩ := R.lstAt hg ho
  refine ⟨_, hs, F, A, ρ, R, PostS.expr (tc1 := tch ik) (tc2 := [i] ++ tcs) P (fun j h z => h (List.mem_append_left _ (List.mem_append_left _ z))) (fun j h z => h (by rcases List.mem_append.mp z with z | z; exact List.mem_append_left _ (List.mem_append_right _ z); exact List.mem_append_right _ z)) fun kv ρ2 F2 H2 A2 w ex2 R2 g2 f2 w2 P2 => ?_⟩
  obtain ⟨b1, b2, b3, b4⟩ := f2 i _ ht ho hg
  obtain ⟨a', vs', hs', hA', hH', hl', rl', mu'⟩ := R2.lstAt b3 b1
  rw [hs] at hs'
  cases hs'
  rw [b3] at P2
  have vk := w2.view R2
  cases vk with
  | int n =>
    have e1 : setD (.lst ds) (.int n) d = (plc ds.length n).map fun j => .lst (ds.set j d) := rfl
    dsimp only at P2
    rw [e1] at P2
    cases hpl : plc ds.length n with
    | none => rw [hpl] at P2; exact False.elim P2
    | some j =>
      rw [hpl] at P2
      have P2 : PostS T X.K c.io W G F2 H2 o1 A2 ρ2 ([i] ++ tcs) of c.fr E (TAIL (st ρ2 i (some (.lst (ds.set j d))))) := P2
      obtain ⟨R4, fr⟩ := mu' (ds.set j d) (vs'.set j v) (by rw [List.length_set]; exact hl') (RepL.set (rd.grow g2) j rl')
      refine ⟨a, vs', n, j, rfl, rfl, hH', by rw [← rl'.length]; exact plc_ix hpl, fin F2 _ A2 _ R4 g2 ⟨_, gt_st_self (gt_some_lt b3)⟩ (fun q e hq nq wq he => ?_) b1 ?_⟩
      · obtain ⟨c1, c2, c3, c4⟩ := f2 q e hq wq he
        exact ⟨c1, by rw [gt_st_ne (Ne.symm nq)]; exact c3⟩
      · cases ht : TAIL (st ρ2 i (some (.lst (ds.set j d)))) with
        | fail => rw [ht] at P2; exact P2
        | exc cc dd ρ' => rw [ht] at P2; exact P2
        | ok o' ρ' =>
          rw [ht] at P2
          cases o' with
          | ret dd => exact P2
          | next => exact fun F3 H3 A3 σ3 R3 g3 f3 => P2 F3 H3 A3 σ3 R3 g3 ((fr [i] (by simp)).trans f3 (fun q h z => h (List.mem_append_left _ z)) (fun q h z => h (List.mem_append_right _ z)))
  | _ => exact False.elim P2
theorem ss_swap {i j : Nat} {y1 y2 : Str} {q1 q2 s1 s2 pt pt2 pos : Pos} {kt kv2 : Nat} {k1 k2 a b : Expr} {ik1 ik2 ia ib : E} {m1 m2 : Md} (hm1 : m1 ≠ .fresh) (hm2 : m2 ≠ .fresh) (hp1 : plainIx k1 = true) (hp2 : plainIx k2 = true) (hi : c.N[i]? = some y1) (hv : vis c y1 = true) (hj : c.N[j]? = some y2) (hv2 : vis c y2 = true)
    (ho : ow o i = true) (hoj : ow o j = true) (ht : i ∉ tch ia ++ tch ib) (htj : j ∉ tch ia ++ tch ib) (ht1 : i ∉ tch ik1) (htj1 : j ∉ tch ik1) (ht2 : j ∉ tch ik2) {o4 : List Bool}
    (hab : SA T Φ gl X c.io W G [a, b] [ia, ib] o o1) (hk1 : SE T Φ gl X c.io W G k1 ik1 o1 o2 m1) (hk2 : SE T Φ gl X c.io W G k2 ik2 o2 o4 m2) :
    SS T Φ gl X c W G (.Assign [.Tuple [.Subscript (.Name y1 q1) k1 s1, .Subscript (.Name y2 q2) k2 s2] kt pt] (.Tuple [a, b] kv2 pt2) pos) (.swap i ik1 j ik2 ia ib) o o4 := by
  have he : SE T Φ gl X c.io W G (.Tuple [a, b] kv2 pt2) (.tup [ia, ib]) o o1 .keep := pe_keep (se_tup XO (by show 2 ≤ 1000; decide) hab)
  have g1 := pg_sub (pos := s1) (pe_slot (pos := q1) XO hi hv) hk1 set_list (by intro v; cases k1 <;> first | rfl | exact absurd hp1 Bool.false_ne_true)
  have g2 := pg_sub (pos := s2) (pe_slot (pos := q2) XO hj hv2) hk2 set_list (by intro v; cases k2 <;> first | rfl | exact absurd hp2 Bool.false_ne_true)
  refine PS.imp (ps_asg he (pg_tup (n := 2) XO.calm (pgs_cons g1 (pgs_cons g2 pgs_nil rfl) rfl) rfl rfl) rfl swapped_sub rfl) fun E σ H ⟨F, A, ρ, R, P⟩ => ?_
  let TAIL2 : PX.D → Env → PX.R Out := fun y ρ => (evE Φ gl ik2 ρ).bind fun lv ρ5 => match gt ρ5 j with
        | none => .fail
        | some z => (optR (setD z lv y) ρ5).bind fun z' ρ6 => (fun ρ => PX.R.ok Out.next ρ) (st ρ6 j (some z'))
  let TAIL1 : PX.D → PX.D → Env → PX.R Out := fun x y ρ => (evE Φ gl ik1 ρ).bind fun kv ρ3 => match gt ρ3 i with
      | none => .fail
      | some u => (optR (setD u kv x) ρ3).bind fun u' ρ4 => TAIL2 y (st ρ4 i (some u'))
  have P : PostS T X.K c.io W G F H o A ρ ((tch ia ++ tch ib) ++ ((tch ik1 ++ [i]) ++ (tch ik2 ++ [j]))) o4 c.fr E ((PX.lstAt ρ i).bind fun _ ρ => (PX.lstAt ρ j).bind fun _ ρ => (evE Φ gl ia ρ).bind fun x ρ1 => (evE Φ gl ib ρ1).bind fun y ρ2 => TAIL1 x y ρ2) := P
  have nf : ∀ {r : PX.R Out}, PostS T X.K c.io W G F H o A ρ ((tch ia ++ tch ib) ++ ((tch ik1 ++ [i]) ++ (tch ik2 ++ [j]))) o4 c.fr E r → r ≠ .fail := fun P e => by rw [e] at P; exact P
  obtain ⟨ds1, hg1⟩ := lstAt_ok (nf P)
  have e1 : PX.lstAt ρ i = .ok () ρ := by unfold PX.lstAt; rw [hg1]
  rw [e1] at P
  obtain ⟨ds2, hg2⟩ := lstAt_ok (nf (show PostS T X.K c.io W G F H o A ρ ((tch ia ++ tch ib) ++ ((tch ik1 ++ [i]) ++ (tch ik2 ++ [j]))) o4 c.fr E ((PX.lstAt ρ j).bind fun _ ρ => (evE Φ gl ia ρ).bind fun x ρ1 => (evE Φ gl ib ρ1).bind fun y ρ2 => TAIL1 x y ρ2) from P))
  have e2 : PX.lstAt ρ j = .ok () ρ := by unfold PX.lstAt; rw [hg2]
  have P : PostS T X.K c.io W G F H o A ρ ((tch ia ++ tch ib) ++ ((tch ik1 ++ [i]) ++ (tch ik2 ++ [j]))) o4 c.fr E ((PX.lstAt ρ j).bind fun _ ρ => (evE Φ gl ia ρ).bind fun x ρ1 => (evE Φ gl ib ρ1).bind fun y ρ2 => TAIL1 x y ρ2) := P
  rw [e2] at P
  have P : PostS T X.K c.io W G F H o A ρ ((tch ia ++ tch ib) ++ ((tch ik1 ++ [i]) ++ (tch ik2 ++ [j]))) o4 c.fr E ((evE Φ gl ia ρ).bind fun x ρ1 => (evE Φ gl ib ρ1).bind fun y ρ2 => TAIL1 x y ρ2) := P
  have e3 : ((evE Φ gl ia ρ).bind fun x ρ1 => (evE Φ gl ib ρ1).bind fun y ρ2 => TAIL1 x y ρ2) = (evE Φ gl (.tup [ia, ib]) ρ).bind fun d ρ2 => match d with
      | .tup [x, y] => TAIL1 x y ρ2
      | _ => .fail := by
    simp only [evE, evEs, bind_assoc XO]
    rfl
  rw [e3] at P
  refine ⟨F, A, ρ, R, PostS.expr (tc1 := tch (.tup [ia, ib])) (tc2 := (tch ik1 ++ [i]) ++ (tch ik2 ++ [j])) P (fun q h z => h (by show q ∈ (tch ia ++ tch ib) ++ _; simp only [tch, tchs, List.append_nil] at z; exact List.mem_append_left _ z)) mem_r fun d ρ1 F1 H1 A1 v ex R1 g1 f1 w1 P1 => ?_⟩
  have htt : ∀ q, q ∉ tch ia ++ tch ib → q ∉ tch (.tup [ia, ib]) := fun q h z => h (by simp only [tch, tchs, List.append_nil] at z; exact z)
  obtain ⟨a1, a2, a3, a4⟩ := f1 i _ (htt i ht) ho hg1
  obtain ⟨b1, b2, b3, b4⟩ := f1 j _ (htt j htj) hoj hg2
  have fin : ∀ (x y : PX.D), d = .tup [x, y] → gTup X.K 2 (gCons (gSub (tVar i) (TEx T X.K c.io W G o1 (tch ik1) o2 m1 (pks ik1) (evE Φ gl ik1)) rSetL) (gCons (gSub (tVar j) (TEx T X.K c.io W G o2 (tch ik2) o4 m2 (pks ik2) (evE Φ gl ik2)) rSetL) gNil)) v σ H1 E.nx := by
    rintro x y rfl
    obtain ⟨p, xs, rfl, hx, rl⟩ := (RM.view R1 w1).tupI
    cases rl with
    | @cons _ _ vx vs rx rl =>
      cases rl with
      | @cons _ _ vy vs ry rl =>
        cases rl
        refine ⟨p, [vx, vy], rfl, hx, rfl, vx, [vy], rfl, ?_⟩
        refine sub_step XO hm1 a1 ht1 R1 a3 rx (TAIL := TAIL2 y) (tcs := tch ik2 ++ [j]) (of := o4) (E := E) P1 _ fun F2 H2 A2 ρ2 R2 g2 hl2 kp ho2 P2 => ?_
        have hj2 : ow o2 j = true ∧ ∃ ds', gt ρ2 j = some (.lst ds') := by
          by_cases q : j = i
          · subst q; exact ⟨ho2, hl2⟩
          · obtain ⟨c1, c2⟩ := kp j _ htj1 q b1 b3
            exact ⟨c1, _, c2⟩
        obtain ⟨hj2, ds', hd'⟩ := hj2
        refine ⟨vy, [], rfl, ?_⟩
        refine sub_step XO hm2 hj2 ht2 R2 hd' (ry.grow g2) (TAIL := fun ρ => PX.R.ok Out.next ρ) (tcs := []) (of := o4) (E := E) (by rw [List.append_nil]; exact P2) _ fun F3 H3 A3 ρ3 R3 g3 hl3 kp3 ho3 P3 => ⟨rfl, P3 F3 H3 A3 σ R3 (.refl F3) .refl⟩
  cases d with
  | tup xs =>
    cases xs with
    | nil => exact False.elim P1
    | cons x xs =>
      cases xs with
      | nil => exact False.elim P1
      | cons y xs =>
        cases xs with
        | nil => exact fin x y rfl
        | cons z zs => exact False.elim P1
  | _ => exact False.elim P1
end
end PX
end
section
set_option Elab.async false
set_option linter.all false
set_option maxRecDepth 100000
set_option maxHeartbeats 4000000
namespace PX
open PySem L2
section
variable {T : Tab} {Φ : Fns} {gl : Nat → PX.D} {c : Ctx} {X : Cx} {W : WX} {G : Gh} {o o1 o2 o3 oH oB : List Bool} {tc : List Nat}
theorem PSs.ex {ι : Type} {ss : List Stmt} {t : ι → TS} (h : ∀ i, PSs X ss (t i)) : PSs X ss (fun E σ H => ∃ i, t i E σ H) := ⟨fun pins s σ H E I ⟨i, q⟩ => (h i).run pins s σ H E I q⟩
/-- a run that is looked at from a later frozen part, from less that is owned -/
theorem PostS.start {K : PySem.W.Frag} {io : List Nat} {F F' H : Hp} {A : Nat → List Addr} {ρ : Env} {fr : Bool} {E : Ends} {r : PX.R Out} (g : Grow F F') (h : ∀ j, j ∉ tc → ow o j = true → ow o1 j = true)
    (P : PostS T K io W G F H o A ρ tc o2 fr E r) : PostS T K io W G F' H o1 A ρ tc o2 fr E r := by
  cases r with
  | fail => exact P
  | exc cc d ρ' => exact P
  | ok a ρ' =>
    cases a with
    | ret d => exact P
    | next => exact fun F2 H2 A2 σ2 R2 g2 f2 => P F2 H2 A2 σ2 R2 (g.trans g2) fun j d hj wj he => f2 j d hj (h j hj wj) he
/-- the inner part of a for -/
theorem loop_core {tg : Tg} {body : List S} {J : It} {xs : List PX.D} {F1 H1 : Hp} {A1 : Nat → List Addr} {ρ1 : Env} {σ : L2.St} {E : Ends} {pk : List Nat} {fr : Bool} {K : PySem.W.Frag} {io : List Nat}
    (hpk : ∀ j ∈ pk, j ∉ tgsOf tg ++ tchSs body) (hio : ∀ i ∈ io, ow oH i = true) (lB : leT (tgsOf tg ++ tchSs body) oH oB = true)
    (R1 : Rel K io G F1 H1 oH A1 ρ1 σ) (sq : SeqOk K G F1 H1 oH A1 ρ1 pk J xs) (P : PostS T K io W G F1 H1 oH A1 ρ1 (tgsOf tg ++ tchSs body) oH fr E (forL [] (asg tg) (evSs Φ gl body) xs ρ1)) :
    ∃ Wm : Nat → Nat → L2.St → Hp → Prop, (∃ m, Wm 0 m σ H1) ∧ ∀ i m σ H, Wm i m σ H →
      (J.stop i H ∧ E.nx σ H) ∨ (J.go i H ∧ ∃ N : L2.St → Hp → Prop, (∀ σ' H', N σ' H' → ∃ m', m' < m ∧ Wm (i + 1) m' σ' H') ∧ ∀ x H', J.yld i H x H' →
        (fun v σ H (Q : L2.St → Hp → Prop) => ∃ (G : Gh) (F : Hp) (A : Nat → List Addr) (ρ : Env) (d : PX.D) (ρ' : Env), Rel K io G F H oH A ρ σ ∧ Rep K F d v ∧ asg tg d ρ = some ρ' ∧ ∀ σ', Rel K io G F H oH A ρ' σ' → SetIn (tgsOf tg) σ σ' → Q σ' H) x σ H' fun σ2 H2 =>
          (fun E σ H => ∃ G, TSt T K io W G oH (tchSs body) oB fr (evSs Φ gl body) E σ H) { E with nx := N, ct := N, bk := E.nx } σ2 H2) := by
  let peek : Hp → Prop := fun Hc => ∀ j d, j ∈ pk → ow oH j = true → gt ρ1 j = some d → ∀ a ∈ A1 j, Hc a = H1 a
  let Pv : Nat → L2.St → Hp → Prop := fun i σ Hc => ∃ (Fc : Hp) (Ac : Nat → List Addr) (ρc : Env), Rel K io G Fc Hc oH Ac ρc σ ∧ Grow F1 Fc ∧ Frm (tgsOf tg ++ tchSs body) oH oH A1 Ac ρ1 ρc H1 Hc ∧
    PostS T K io W G Fc Hc oH Ac ρc (tgsOf tg ++ tchSs body) oH fr E (forL [] (asg tg) (evSs Φ gl body) (xs.drop i) ρc)
  have pkOf : ∀ {Ac : Nat → List Addr} {ρc : Env} {Hc : Hp}, Frm (tgsOf tg ++ tchSs body) oH oH A1 Ac ρ1 ρc H1 Hc → peek Hc := fun {Ac ρc Hc} fc j d hj wj e a ha => by
    obtain ⟨_, _, _, k⟩ := fc j d (hpk j hj) wj e
    exact k a ha
  refine for_it (g := fun v σ H (Q : L2.St → Hp → Prop) => ∃ (G : Gh) (F : Hp) (A : Nat → List Addr) (ρ : Env) (d : PX.D) (ρ' : Env), Rel K io G F H oH A ρ σ ∧ Rep K F d v ∧ asg tg d ρ = some ρ' ∧ ∀ σ', Rel K io G F H oH A ρ' σ' → SetIn (tgsOf tg) σ σ' → Q σ' H)
    (tb := fun E σ H => ∃ G, TSt T K io W G oH (tchSs body) oB fr (evSs Φ gl body) E σ H) (D := E) (σ := σ) (H := H1) (n := xs.length) (G := fun Hc => ∃ Fc, Grow F1 Fc ∧ Sub Fc G.Lk Hc ∧ peek Hc) (Y := fun i Hc x H' => J.yld i Hc x H')
    ⟨fun i Hc hi ⟨Fc, g, s, k⟩ => (sq Fc Hc g s k).1 i hi, fun Hc ⟨Fc, g, s, k⟩ => (sq Fc Hc g s k).2.1, fun _ _ _ _ _ _ y => y⟩ Pv ⟨F1, A1, ρ1, R1, .refl F1, .refl, by rw [List.drop_zero]; exact P⟩
    (fun i σ Hc _ ⟨Fc, Ac, ρc, Rc, gc, fc, _⟩ => ⟨Fc, gc, Rc.sub, pkOf fc⟩) ?_ ?_
  · rintro i x σ Hc H' hi ⟨Fc, Ac, ρc, Rc, gc, fc, Pc⟩ y
    obtain ⟨d, F2, hd, hs, g2, hn, rd⟩ := (sq Fc Hc gc Rc.sub (pkOf fc)).2.2 i x H' hi y
    have R2 := Rc.ext2 hs g2 hn
    have hdrop : xs.drop i = d :: xs.drop (i + 1) := by
      obtain ⟨h1, h2⟩ := List.getElem?_eq_some_iff.mp hd
      rw [List.drop_eq_getElem_cons h1, h2]
    rw [hdrop] at Pc
    have Pc : PostS T K io W G Fc Hc oH Ac ρc (tgsOf tg ++ tchSs body) oH fr E (match asg tg d ρc with | none => .fail | some ρ1 => (evSs Φ gl body ρ1).bind (thenO (forL [] (asg tg) (evSs Φ gl body) (xs.drop (i + 1))))) := Pc
    cases ha : asg tg d ρc with
    | none => rw [ha] at Pc; exact False.elim Pc
    | some ρa =>
      rw [ha] at Pc
      dsimp only at Pc
      refine ⟨G, F2, Ac, ρc, d, ρa, R2, rd, ha, fun σ' R3 si => ⟨G, F2, Ac, ρa, R3, ?_⟩⟩
      have fA : Frm (tgsOf tg ++ tchSs body) oH oH Ac Ac ρc ρa Hc H' := fun j e hj wj he => by
        refine ⟨wj, rfl, by rw [asg_out ha j (fun z => hj (List.mem_append_left _ z))]; exact he, fun a hA => ?_⟩
        obtain ⟨v, _, q⟩ := Rc.owned he wj
        have nz := q.has a hA
        cases w : Hc a with
        | none => exact absurd w nz
        | some u => exact hs _ _ w
      -- the run from here
      have Pd : PostS T K io W G F2 H' oH Ac ρa (tgsOf tg ++ tchSs body) oH fr E ((evSs Φ gl body ρa).bind (thenO (forL [] (asg tg) (evSs Φ gl body) (xs.drop (i + 1))))) := by
        cases hr : (evSs Φ gl body ρa).bind (thenO (forL [] (asg tg) (evSs Φ gl body) (xs.drop (i + 1)))) with
        | fail => rw [hr] at Pc; exact Pc
        | exc cc dd ρ' => rw [hr] at Pc; exact Pc
        | ok o' ρ' =>
          rw [hr] at Pc
          cases o' with
          | ret dd => exact Pc
          | next => exact fun F3 H3 A3 σ3 R3 g3 f3 => Pc F3 H3 A3 σ3 R3 (g2.trans g3) (fA.trans f3 (fun _ h => h) (fun _ h => h))
      refine PostS.le (tc := tgsOf tg ++ tchSs body) lB hio mem_r ?_
      exact PostS.seq (tc2 := tgsOf tg ++ tchSs body) Pd (fun _ h => h) (fun _ h => h) fun ρ4 F4 H4 A4 σ4 R4 g4 f4 P4 =>
        ⟨F4, A4, ρ4, R4, (gc.trans g2).trans g4, (fc.trans fA (fun _ h => h) (fun _ h => h)).trans f4 (fun _ h => h) (fun _ h => h), P4⟩
  · rintro σ Hc ⟨Fc, Ac, ρc, Rc, gc, fc, Pc⟩
    rw [List.drop_length] at Pc
    exact Pc Fc Hc Ac σ Rc (.refl Fc) .refl
variable (XO : XOk T Φ gl c X W)
include XO
theorem ss_for {tgE iter : Expr} {bodyE : List Stmt} {pos : Pos} {tg : Tg} {ik : IK} {its : List E} {body : List S} (hik : ∀ r : PX.R Out, nox ik r = r) (hi : SI T Φ gl X c.io W G tgE iter ik its o o1) (l0 : leT (tgsOf tg ++ tchSs body) oH o1 = true) (hio : ∀ i ∈ c.io, ow oH i = true)
    (htg : PG X tgE (tTg X c.io oH (tgsOf tg) tg)) (hpk : ∀ j ∈ pksL its, j ∉ tgsOf tg ++ tchSs body) (hfs : ∀ x, foldedSetIterable iter X.env x = pure x) (hb : ∀ G, SSs T Φ gl X c W G bodyE body oH oB) (lB : leT (tgsOf tg ++ tchSs body) oH oB = true) :
    SS T Φ gl X c W G (.For tgE iter bodyE [] pos) (.loop [] tg ik its body) o oH := by
  refine PS.imp (ps_for XO.pass XO.calm hi htg (PSs.ex hb) hfs) fun E σ H ⟨F, A, ρ, R, P⟩ => ?_
  have e : evS Φ gl (.loop [] tg ik its body) ρ = ((evEs Φ gl its ρ).bind fun ds ρ1 => optR (itD ik ds) ρ1).bind fun xs ρ2 => forL [] (asg tg) (evSs Φ gl body) xs ρ2 := by
    simp only [evS, bind_assoc XO, hik]
  rw [e] at P
  refine ⟨F, A, ρ, R, PostS.expr (tc1 := tchs its) (tc2 := tgsOf tg ++ tchSs body) P mem_l mem_r fun xs ρ1 F1 H1 A1 J _ R1 g1 f1 sq P1 => ?_⟩
  obtain ⟨l1, l2, l3⟩ := leT_ok l0
  obtain ⟨F2, g2, R2⟩ := rel_le' o1.length R1 l1 hio l2
  have kp : ∀ j, j ∉ tgsOf tg ++ tchSs body → ow o1 j = true → ow oH j = true := fun j hj wj => by
    cases q : ow oH j with
    | true => rfl
    | false => exact absurd (l3 j wj q) hj
  refine loop_core hpk hio lB R2 (fun F' H' g s k => sq F' H' (g2.trans g) s fun j d hj wj he => k j d hj (kp j (hpk j hj) wj) he) (P1.start g2 kp)
theorem ss_while {t : Expr} {bodyE : List Stmt} {pos : Pos} {it : E} {body : List S} (l0 : leT (tch it ++ tchSs body) oH o = true) (hio : ∀ i ∈ c.io, ow oH i = true) (ht : ST T Φ gl X c.io W G t it oH o1) (hb : SSs T Φ gl X c W G bodyE body o1 oB)
    (l1 : leT (tch it ++ tchSs body) oH o1 = true) (lB : leT (tch it ++ tchSs body) oH oB = true) :
    SS T Φ gl X c W G (.While t bodyE [] pos) (.whl [] it body) o oH := by
  refine PS.imp (ps_while XO.pass ht hb) fun E σ H ⟨F, A, ρ, R, P⟩ => ?_
  have P : PostS T X.K c.io W G F H o A ρ (tch it ++ tchSs body) oH c.fr E (whlR [] (evC Φ gl it) (evSs Φ gl body) ρ) := by
    have e : evS Φ gl (.whl [] it body) ρ = whlR [] (evC Φ gl it) (evSs Φ gl body) ρ := by simp only [evS]
    rw [← e]; exact P
  unfold whlR at P
  by_cases hn : ∃ n, whlN [] (evC Φ gl it) (evSs Φ gl body) n ρ ≠ .fail
  · rw [dif_pos hn] at P
    generalize Classical.choose hn = n at P
    obtain ⟨q1, q2, q3⟩ := leT_ok l0
    obtain ⟨F2, g2, R2⟩ := rel_le' o.length R q1 hio q2
    have kp : ∀ j, j ∉ tch it ++ tchSs body → ow o j = true → ow oH j = true := fun j hj wj => by
      cases q : ow oH j with
      | true => rfl
      | false => exact absurd (q3 j wj q) hj
    refine ⟨fun m σ H => ∃ (Fc : Hp) (Ac : Nat → List Addr) (ρc : Env), Rel X.K c.io G Fc H oH Ac ρc σ ∧ PostS T X.K c.io W G Fc H oH Ac ρc (tch it ++ tchSs body) oH c.fr E (whlN [] (evC Φ gl it) (evSs Φ gl body) m ρc), ⟨n, F2, A, ρ, R2, P.start g2 kp⟩, ?_⟩
    rintro m σ H ⟨Fc, Ac, ρc, Rc, Pc⟩
    cases m with
    | zero => exact False.elim Pc
    | succ m =>
      have Pc : PostS T X.K c.io W G Fc H oH Ac ρc (tch it ++ tchSs body) oH c.fr E ((evC Φ gl it ρc).bind fun b ρ1 => if b = true then (evSs Φ gl body ρ1).bind (thenO (whlN [] (evC Φ gl it) (evSs Φ gl body) m)) else .ok .next ρ1) := Pc
      refine ⟨Fc, Ac, ρc, Rc, PostS.expr (tc1 := tch it) (tc2 := tch it ++ tchSs body) Pc mem_l (fun _ h => h) fun b ρ1 F1 H1 A1 b' _ R1 g1 f1 w1 P1 => ?_⟩
      have w1 : b = b' := w1
      subst w1
      cases b with
      | true =>
        refine iteT ⟨fun σ H => ∃ (Fc : Hp) (Ac : Nat → List Addr) (ρc : Env), Rel X.K c.io G Fc H oH Ac ρc σ ∧ PostS T X.K c.io W G Fc H oH Ac ρc (tch it ++ tchSs body) oH c.fr E (whlN [] (evC Φ gl it) (evSs Φ gl body) m ρc), fun σ' H' h => ⟨m, Nat.lt_succ_self _, h⟩, F1, A1, ρ1, R1, ?_⟩
        rw [if_pos rfl] at P1
        refine PostS.le (tc := tch it ++ tchSs body) lB hio mem_r ?_
        exact PostS.seq (tc2 := tch it ++ tchSs body) P1 (fun _ h => h) (fun _ h => h) fun ρ4 F4 H4 A4 σ4 R4 g4 f4 P4 => ⟨F4, A4, ρ4, R4, P4⟩
      | false =>
        rw [if_neg Bool.false_ne_true] at P1
        have P2 := PostS.le (tc1 := tch it ++ tchSs body) l1 hio (fun _ h => h) P1
        exact iteF (P2 F1 H1 A1 σ R1 (.refl F1) .refl)
  · rw [dif_neg hn] at P
    exact False.elim P
end
end PX
end
section
set_option Elab.async false
set_option linter.all false
set_option maxRecDepth 100000
set_option maxHeartbeats 4000000
namespace PX
open PySem L2
/-- the dict at d is locked -/
def lkG (G : Gh) (d : Addr) (od : Obj) : Gh := { G with Lk := fun a => if a = d then some od else G.Lk a }
section
variable {K : PySem.W.Frag} {io : List Nat} {G : Gh} {F F' H H' : Hp} {o o' : List Bool} {A A' : Nat → List Addr} {ρ ρ' : Env} {σ σ' : L2.St} {d : Addr} {u : HO} {od : Obj}
theorem Rel.lock (r : Rel K io G F H o A ρ σ) (h : F d = some u) (hu : isDic u = true) (l : G.Lk d = none) : Rel K io (lkG G d od) F (upd H d (.frz od u)) o A ρ σ := by
  have hd : H d = some u := by have := r.sub d u h; rw [l] at this; exact this
  have nA : ∀ i e, gt ρ i = some e → ow o i = true → d ∉ A i := fun i e he w z => by rw [(r.own i e he w d z).1] at h; cases h
  refine ⟨fun a w e => ?_, fun a e => ?_, r.f0, r.new, ⟨fun a e => ?_, fun a ha => ?_⟩, fun a w e m k => ?_, r.len, fun i e he => ?_, r.own, r.dis, r.ioo⟩
  · by_cases z : a = d
    · subst z
      rw [h] at e; cases e
      show match (if a = a then some od else G.Lk a) with | none => _ | some od' => _
      rw [if_pos rfl]
      exact ⟨hu, upd_same⟩
    · show match (if a = d then some od else G.Lk a) with | none => _ | some od' => _
      rw [if_neg z, upd_ne z]
      exact r.sub a w e
  · have z : a ≠ d := fun z => by subst z; rw [h] at e; cases e
    show (if a = d then some od else G.Lk a) = none
    rw [if_neg z]; exact r.lkF a e
  · by_cases z : a = d
    · subst z; rw [upd_same]; exact fun z => nomatch z
    · rw [upd_ne z]; exact r.dom.1 a e
  · by_cases z : a = d
    · subst z; rw [upd_same]; exact ⟨_, rfl, fun _ z => nomatch z⟩
    · rw [upd_ne z]; exact r.dom.2 a ha
  · have k : (if a = d then some od else G.Lk a) = none := k
    by_cases z : a = d
    · rw [if_pos z] at k; cases k
    · rw [if_neg z] at k
      rw [upd_ne z]; exact r.keep a w e m k
  · obtain ⟨v, h1, h2⟩ := r.sl i e he
    refine ⟨v, h1, ?_⟩
    by_cases w : ow o i = true
    · rw [if_pos w] at h2 ⊢
      exact h2.keep (.refl F) fun b hb => upd_ne fun z => nA i e he w (by rw [← z]; exact hb)
    · rw [if_neg w] at h2 ⊢; exact h2
theorem Rel.unlock (r : Rel K io (lkG G d od) F H o A ρ σ) (h : F d = some u) (hu : isDic u = true) (l : G.Lk d = none) (hk : ∀ w, G.H0 d = some w → d ∉ G.M → w = u) : H d = some (.frz od u) ∧ Rel K io G F (upd H d u) o A ρ σ := by
  have hd : H d = some (.frz od u) := by
    have q := r.sub d u h
    have e : (lkG G d od).Lk d = some od := if_pos rfl
    rw [e] at q; exact q.2
  have nA : ∀ i e, gt ρ i = some e → ow o i = true → d ∉ A i := fun i e he w z => by rw [(r.own i e he w d z).1] at h; cases h
  have nt : notTup u := fun vs z => by subst z; cases hu
  refine ⟨hd, fun a w e => ?_, fun a e => ?_, r.f0, r.new, ⟨fun a e => ?_, fun a ha => ?_⟩, fun a w e m k => ?_, r.len, fun i e he => ?_, r.own, r.dis, r.ioo⟩
  · by_cases z : a = d
    · subst z
      rw [h] at e; cases e
      rw [l]; exact upd_same
    · have q := r.sub a w e
      have e1 : (lkG G d od).Lk a = G.Lk a := if_neg z
      rw [e1] at q
      rw [upd_ne z]; exact q
  · have q := r.lkF a e
    have z : a ≠ d := fun z => by subst z; rw [h] at e; cases e
    have e1 : (lkG G d od).Lk a = G.Lk a := if_neg z
    rw [e1] at q; exact q
  · by_cases z : a = d
    · subst z; rw [upd_same]; exact fun z => nomatch z
    · rw [upd_ne z]; exact r.dom.1 a e
  · by_cases z : a = d
    · subst z; rw [upd_same]; exact ⟨_, rfl, nt⟩
    · rw [upd_ne z]; exact r.dom.2 a ha
  · by_cases z : a = d
    · subst z; rw [upd_same, hk w e m]
    · have e1 : (lkG G d od).Lk a = G.Lk a := if_neg z
      rw [upd_ne z]; exact r.keep a w e m (by rw [e1]; exact k)
  · obtain ⟨v, h1, h2⟩ := r.sl i e he
    refine ⟨v, h1, ?_⟩
    by_cases w : ow o i = true
    · rw [if_pos w] at h2 ⊢
      exact h2.keep (.refl F) fun b hb => upd_ne fun z => nA i e he w (by rw [← z]; exact hb)
    · rw [if_neg w] at h2 ⊢; exact h2
/-- what a lock's ends ask -/
theorem lock_same (r : Rel K io G F H o A ρ σ) (h : F d = some u) (l : G.Lk d = none) : ∀ w, G.H0 d = some w → d ∉ G.M → w = u := fun w e m => by
  have h1 := r.keep d w e m l
  have h2 := r.sub d u h
  rw [l] at h2
  have h2 : H d = some u := h2
  rw [h1] at h2; exact Option.some.inj h2
theorem Frm.lock {tc : List Nat} (r : Rel K io G F H o A ρ σ) (h : F d = some u) (f : Frm tc o o' A A' ρ ρ' (upd H d (.frz od u)) H') : Frm tc o o' A A' ρ ρ' H (upd H' d u) := fun j e hj wj he => by
  obtain ⟨a1, a2, a3, a4⟩ := f j e hj wj he
  refine ⟨a1, a2, a3, fun a ha => ?_⟩
  have z : a ≠ d := fun z => by subst z; rw [(r.own j e he wj a ha).1] at h; cases h
  rw [upd_ne z]
  have := a4 a ha
  rw [upd_ne z] at this; exact this
end
theorem RepK.keyAt {K : PySem.W.Frag} {F : Hp} : ∀ {es : List (PX.D × PX.D)} {kvs : List (L2.Key × V)}, RepK K F es kvs → ∀ {i : Nat} {q : L2.Key} {v : V}, kvs[i]? = some (q, v) → ∃ d, (es.map (·.1))[i]? = some d ∧ keyV d = some q
  | _, _, .nil, i, q, v, h => by simp at h
  | _, _, @RepK.cons _ _ k d es q' v' kvs hk n rd t, 0, q, v, h => by
    cases h; exact ⟨k, rfl, hk⟩
  | _, _, @RepK.cons _ _ k d es q' v' kvs hk n rd t, i + 1, q, v, h => RepK.keyAt t (i := i) h
theorem RepT.keyAt {K : PySem.W.Frag} {F : Hp} : ∀ {es : List (PX.D × PX.D)} {kvs : List (List L2.Key × V)}, RepT K F es kvs → ∀ {i : Nat} {q : List L2.Key} {v : V}, kvs[i]? = some (q, v) → ∃ ns : List Int, (es.map (·.1))[i]? = some (.tup (ns.map .int)) ∧ q = ns.map Sum.inl ∧ ns.length ≤ PX.sizeLine
  | _, _, .nil, i, q, v, h => by simp at h
  | _, _, @RepT.cons _ _ ns d es v' kvs hl n rd t, 0, q, v, h => by
    cases h; exact ⟨ns, rfl, rfl, hl⟩
  | _, _, @RepT.cons _ _ ns d es v' kvs hl n rd t, i + 1, q, v, h => RepT.keyAt t (i := i) h
/-- the keys, one after the other -/
theorem keys_seq {K : PySem.W.Frag} {G : Gh} {F H : Hp} {o : List Bool} {A : Nat → List Addr} {ρ : Env} {es : List (PX.D × PX.D)} {a : Addr} {od : Obj} {t : Bool} (r : Rep K F (.dic t es) (.ref a)) (l : G.Lk a = some od) :
    ∃ J, SeqOk K G F H o A ρ [] J (es.map (·.1)) ∧ ((∃ kvs, F a = some (.dK kvs) ∧ J = Itk a od kvs) ∨ ∃ kvs, F a = some (.dT kvs) ∧ J = Itkt a od kvs) := by
  cases r with
  | @dK _ kvs es ha ra =>
    refine ⟨Itk a od kvs, fun F' H' g s k => ?_, .inl ⟨kvs, ha, rfl⟩⟩
    have hd : H' a = some (.frz od (.dK kvs)) := by
      have q := s a _ (g _ _ ha)
      rw [l] at q; exact q.2
    rw [List.length_map, ra.length]
    refine ⟨fun i hi => ⟨hd, hi⟩, ⟨hd, Nat.le_refl _⟩, fun i x H'' hi y => ?_⟩
    obtain ⟨rfl, q, v, hq, rfl⟩ := y
    obtain ⟨d, h1, h2⟩ := RepK.keyAt ra hq
    refine ⟨d, F', h1, .refl _, .refl _, fun _ _ e => .inl e, ?_⟩
    cases d with
    | int n => cases h2; exact .int n
    | str n => cases h2; exact .str n
    | _ => cases h2
  | @dT _ kvs es ha ra =>
    refine ⟨Itkt a od kvs, fun F' H' g s k => ?_, .inr ⟨kvs, ha, rfl⟩⟩
    have hd : H' a = some (.frz od (.dT kvs)) := by
      have q := s a _ (g _ _ ha)
      rw [l] at q; exact q.2
    rw [List.length_map, ra.length]
    refine ⟨fun i hi => ⟨hd, hi⟩, ⟨hd, Nat.le_refl _⟩, fun i x H'' hi y => ?_⟩
    obtain ⟨rfl, q, v, p, hq, rfl, hp⟩ := y
    obtain ⟨ns, h1, rfl, h3⟩ := RepT.keyAt ra hq
    have hp' : H'' p = some (.tup (ns.map V.int)) := by rw [← inl_map]; exact hp
    have fin : ∀ F2, Grow F' F2 → F2 p = some (.tup (ns.map V.int)) → Rep K F2 (.tup (ns.map .int)) (.ref p) := fun F2 g2 h => .tup h (by rw [List.length_map]; exact h3) (RepL.ofInts K F2 ns)
    cases hf : F' p with
    | some u =>
      have q := s p u hf
      cases lk : G.Lk p with
      | none =>
        rw [lk] at q
        have q : H'' p = some u := q
        rw [hp'] at q; cases q
        exact ⟨_, F', h1, .refl _, .refl _, fun _ _ e => .inl e, fin F' (.refl _) hf⟩
      | some od' =>
        rw [lk] at q
        rw [hp'] at q; cases q.2
    | none =>
      refine ⟨_, upd F' p (.tup (ns.map V.int)), h1, .refl _, .upd hf, fun b w e => ?_, fin _ (.upd hf) upd_same⟩
      by_cases z : b = p
      · subst z; rw [upd_same] at e; cases e; exact .inr ⟨hp', .inr ⟨_, hp'⟩⟩
      · rw [upd_ne z] at e; exact .inl e
section
variable {T : Tab} {Φ : Fns} {gl : Nat → PX.D} {c : Ctx} {X : Cx} {W : WX} {G : Gh} {o o1 o2 o3 oH oB : List Bool} {tc : List Nat}
theorem onlyNext_ok {r : PX.R Out} (h : onlyNext r ≠ .fail) : ∃ ρ, r = .ok .next ρ := by
  cases r with
  | ok a ρ =>
    cases a with
    | next => exact ⟨ρ, rfl⟩
    | ret d => exact absurd rfl h
  | _ => exact absurd rfl h
/-- the ends of what runs under a lock -/
def lkE (d : Addr) (od : Obj) (u : HO) (E : Ends) : Ends := ⟨fun σ' H' => H' d = some (.frz od u) ∧ E.nx σ' (upd H' d u), fun v H' => H' d = some (.frz od u) ∧ E.rt v (upd H' d u), fun σ' H' => H' d = some (.frz od u) ∧ E.bk σ' (upd H' d u), fun σ' H' => H' d = some (.frz od u) ∧ E.ct σ' (upd H' d u)⟩
theorem PostS.lock {K : PySem.W.Frag} {io : List Nat} {F H : Hp} {A : Nat → List Addr} {ρ : Env} {σ : L2.St} {fr : Bool} {E : Ends} {ρ' : Env} {d : Addr} {u : HO} {od : Obj} (r : Rel K io G F H o A ρ σ) (h : F d = some u) (hu : isDic u = true) (l : G.Lk d = none)
    (P : PostS T K io W G F H o A ρ tc o2 fr E (.ok .next ρ')) : PostS T K io W (lkG G d od) F (upd H d (.frz od u)) o A ρ tc o2 fr (lkE d od u E) (.ok .next ρ') := by
  have sm := lock_same r h l
  intro F' H' A' σ' R' g f
  obtain ⟨h1, R2⟩ := R'.unlock (g _ _ h) hu l sm
  exact ⟨h1, P F' _ A' σ' R2 g (Frm.lock r h f)⟩
theorem mut_dic {u : HO} (h : isDic u = true) : Mut (some u) := by
  cases u <;> first | exact True.intro | cases h
theorem dic_at {K : PySem.W.Frag} {F : Hp} {t : Bool} {es : List (PX.D × PX.D)} {v : V} (r : Rep K F (.dic t es) v) : ∃ a u, v = .ref a ∧ F a = some u ∧ isDic u = true := by
  cases r with
  | dK h _ => exact ⟨_, _, rfl, h, rfl⟩
  | dT h _ => exact ⟨_, _, rfl, h, rfl⟩
variable (XO : XOk T Φ gl c X W)
include XO
/-- for x in d -/
theorem ss_forK {tgE : Expr} {i : Nat} {y : Str} {py pos : Pos} {bodyE : List Stmt} {tg : Tg} {body : List S} (hi : c.N[i]? = some y) (hv : vis c y = true) (ho : ow o i = false) (l0 : leT (tgsOf tg ++ tchSs body) oH o = true) (hio : ∀ i ∈ c.io, ow oH i = true)
    (htg : PG X tgE (tTg X c.io oH (tgsOf tg) tg)) (hb : ∀ G, SSs T Φ gl X c W G bodyE body oH oB) (lB : leT (tgsOf tg ++ tchSs body) oH oB = true) :
    SS T Φ gl X c W G (.For tgE (.Name y py) bodyE [] pos) (.loop [] tg .keys [.pk i] body) o oH := by
  have base : PS X (.For tgE (.Name y py) bodyE [] pos) _ := ps_for XO.pass XO.calm (pi_keys (tg := tgE) (pe_slot (pos := py) XO hi hv)) htg (PSs.ex hb) (by intro _; rfl)
  refine PS.imp (PS.or (ps_lock base) base) fun E σ H ⟨F, A, ρ, R, P⟩ => ?_
  have e : evS Φ gl (.loop [] tg .keys [.pk i] body) ρ = (optR (gt ρ i) ρ).bind fun d ρ1 => (optR (itD .keys [d]) ρ1).bind fun xs ρ2 => onlyNext (forL [] (asg tg) (evSs Φ gl body) xs ρ2) := by
    simp only [evS]
    rw [evEs_one]
    rfl
  rw [e] at P
  cases hd : gt ρ i with
  | none => rw [hd] at P; exact False.elim P
  | some d =>
    rw [hd] at P
    have P : PostS T X.K c.io W G F H o A ρ (tchS (.loop [] tg .keys [.pk i] body)) oH c.fr E ((optR (itD .keys [d]) ρ).bind fun xs ρ2 => onlyNext (forL [] (asg tg) (evSs Φ gl body) xs ρ2)) := P
    obtain ⟨v, hs, rp⟩ := R.shr hd ho
    cases d with
    | dic t es =>
      have P : PostS T X.K c.io W G F H o A ρ (tgsOf tg ++ tchSs body) oH c.fr E (onlyNext (forL [] (asg tg) (evSs Φ gl body) (es.map (·.1)) ρ)) := P
      obtain ⟨ρ', hr⟩ := onlyNext_ok (fun z => by rw [z] at P; exact P)
      rw [hr] at P
      have P : PostS T X.K c.io W G F H o A ρ (tgsOf tg ++ tchSs body) oH c.fr E (.ok .next ρ') := P
      obtain ⟨a, u, rfl, ha, hu⟩ := dic_at rp
      obtain ⟨l1, l2, l3⟩ := leT_ok l0
      have kp : ∀ j, j ∉ tgsOf tg ++ tchSs body → ow o j = true → ow oH j = true := fun j hj wj => by
        cases q : ow oH j with
        | true => rfl
        | false => exact absurd (l3 j wj q) hj
      -- the walk, once it is locked
      have walk : ∀ (G' : Gh) (od : Obj) (H' : Hp) (E' : Ends), G'.Lk a = some od → Rel X.K c.io G' F H' o A ρ σ → PostS T X.K c.io W G' F H' o A ρ (tgsOf tg ++ tchSs body) oH c.fr E' (.ok .next ρ') →
          tFor (iKeys (tVar i)) (tTg X c.io oH (tgsOf tg) tg) (fun E σ H => ∃ G, TSt T X.K c.io W G oH (tchSs body) oB c.fr (evSs Φ gl body) E σ H) E' σ H' := fun G' od H' E' hl R' P' => by
        obtain ⟨F2, g2, R2⟩ := rel_le' o.length R' l1 hio l2
        obtain ⟨J, sq, hJ⟩ := keys_seq (F := F2) (H := H') (o := oH) (A := A) (ρ := ρ) (rp.grow g2) hl
        rw [← hr] at P'
        have core := loop_core (pk := []) (fun j hj => by cases hj) hio lB R2 sq (P'.start g2 kp)
        have hH : ∀ w, F2 a = some w → H' a = some (.frz od w) := fun w hw => by
          have q := R2.sub a w hw
          rw [hl] at q; exact q.2
        refine ⟨_, hs, a, od, rfl, ?_⟩
        rcases hJ with ⟨kvs, hk, rfl⟩ | ⟨kvs, hk, rfl⟩
        · exact .inl ⟨kvs, hH _ hk, core⟩
        · exact .inr ⟨kvs, hH _ hk, core⟩
      cases hl : G.Lk a with
      | some od => exact .inr (walk G od H E hl R P)
      | none =>
        refine .inl ⟨a, u, ?_, mut_dic hu, fun od => ?_⟩
        · have q := R.sub a u ha
          rw [hl] at q; exact q
        · exact walk (lkG G a od) od _ (lkE a od u E) (if_pos rfl) (R.lock ha hu hl) (P.lock R ha hu hl)
    | _ => exact False.elim P
omit XO in
theorem PostR.lock {K : PySem.W.Frag} {io : List Nat} {F H : Hp} {A : Nat → List Addr} {ρ : Env} {σ : L2.St} {Q : VK} {r : PX.R PX.D} {a : Addr} {u : HO} {od : Obj} (R : Rel K io G F H o A ρ σ) (h : F a = some u) (hu : isDic u = true) (l : G.Lk a = none) (hne : ∀ c d ρ', r ≠ .exc c d ρ')
    (P : PostR (RE .fresh K G o1 []) T K io W G F H o A ρ tc o1 σ Q r) : PostR (RE .fresh K (lkG G a od) o1 []) T K io W (lkG G a od) F (upd H a (.frz od u)) o A ρ tc o1 σ (fun v H' => H' a = some (.frz od u) ∧ Q v (upd H' a u)) r := by
  have sm := lock_same R h l
  cases r with
  | fail => exact P
  | exc c d ρ' => exact absurd rfl (hne c d ρ')
  | ok d ρ' =>
    intro F' H' A' v R' g f m
    obtain ⟨h1, R2⟩ := R'.unlock (g _ _ h) hu l sm
    refine ⟨h1, P F' _ A' v R2 g (Frm.lock R h f) ?_⟩
    obtain ⟨B, w, ap⟩ := m
    refine ⟨B, w.keep (.refl F') fun b hb => upd_ne fun z => ?_, ap.f, ap.h0, ap.sl⟩
    have := ap.f b hb
    rw [z, g _ _ h] at this; cases this
theorem se_compK {elt tgE : Expr} {ifs : List Expr} {scope : Scope} {ownN : List (Str × Nat)} {pos py : Pos} {tg : Tg} {ifsI : List E} {eltI : E} {i : Nat} {y : Str} (hi : c.N[i]? = some y) (hv : vis c y = true) (ho : ow o i = false) (ok : BlkOk c.N c.sc scope ownN) (htg : ∀ i ∈ tgsOf tg, i ∈ ownN.map (·.2)) (hown : ∀ i ∈ ownN.map (·.2), ow o i = false) (hio : ∀ i ∈ ownN.map (·.2), i ∉ c.io)
    (b : BodyOk T Φ gl c X.K scope (ownN.map (·.2)) o tgE tg ifs ifsI elt eltI) :
    SE T Φ gl X c.io W G (.ListComp elt [⟨tgE, .Name y py, ifs, 0⟩] scope pos) (.comp (ownN.map (·.2)) tg .keys [.pk i] ifsI eltI) o o .fresh := by
  have base := pe_lc (elt := elt) (pos := pos) (ifs := ifs) XO.calm (by rw [XO.hN]; exact XO.nd) (pi_keys (tg := tgE) (pe_slot (pos := py) XO hi hv)) (by rw [XO.hN, XO.hs]; exact ok) (fun s H C cl fp => (comp_parts XO b s H C cl fp).1) (fun s H C cl fp => (comp_parts XO b s H C cl fp).2.1) (fun s H C cl fp => (comp_parts XO b s H C cl fp).2.2) (by intro _; rfl)
  refine PE.imp (PE.or2 (pe_lock base) base) fun σ H Q ⟨F, A, ρ, R, P⟩ => ?_
  have e : evE Φ gl (.comp (ownN.map (·.2)) tg .keys [.pk i] ifsI eltI) ρ = (optR (gt ρ i) ρ).bind fun d ρ1 => (optR (itD .keys [d]) ρ1).bind fun xs ρ2 => (compL (ownN.map (·.2)) (asg tg) (evIfs Φ gl ifsI) (evE Φ gl eltI) xs ρ2).noex.bind fun ys ρ3 => if fits ys.length = true then .ok (.lst ys) (rest (ownN.map (·.2)) ρ2 ρ3) else .fail := by
    have e0 : evE Φ gl (.comp (ownN.map (·.2)) tg .keys [.pk i] ifsI eltI) ρ = (evEs Φ gl [.pk i] ρ).bind fun ds ρ1 => (optR (itD .keys ds) ρ1).bind fun xs ρ2 => (compL (ownN.map (·.2)) (asg tg) (evIfs Φ gl ifsI) (evE Φ gl eltI) xs ρ2).noex.bind fun ys ρ3 => if fits ys.length = true then .ok (.lst ys) (rest (ownN.map (·.2)) ρ2 ρ3) else .fail := rfl
    rw [e0, evEs_one]; rfl
  rw [e] at P
  cases hd : gt ρ i with
  | none => rw [hd] at P; exact False.elim P
  | some d =>
    rw [hd] at P
    obtain ⟨v, hs, rp⟩ := R.shr hd ho
    cases d with
    | dic t es =>
      have P : PostR (RE .fresh X.K G o []) T X.K c.io W G F H o A ρ (ownN.map (·.2) ++ (tchs ifsI ++ tch eltI)) o σ Q ((compL (ownN.map (·.2)) (asg tg) (evIfs Φ gl ifsI) (evE Φ gl eltI) (es.map (·.1)) ρ).noex.bind fun ys ρ3 => if fits ys.length = true then .ok (.lst ys) (rest (ownN.map (·.2)) ρ ρ3) else .fail) := P
      obtain ⟨a, u, rfl, ha, hu⟩ := dic_at rp
      have walk : ∀ (G' : Gh) (od : Obj) (H' : Hp) (Q' : VK), G'.Lk a = some od → Rel X.K c.io G' F H' o A ρ σ → PostR (RE .fresh X.K G' o []) T X.K c.io W G' F H' o A ρ (ownN.map (·.2) ++ (tchs ifsI ++ tch eltI)) o σ Q' ((compL (ownN.map (·.2)) (asg tg) (evIfs Φ gl ifsI) (evE Φ gl eltI) (es.map (·.1)) ρ).noex.bind fun ys ρ3 => if fits ys.length = true then .ok (.lst ys) (rest (ownN.map (·.2)) ρ ρ3) else .fail) →
          tLc (iKeys (tVar i)) (tTg X c.io o (ownN.map (·.2)) tg) (fun σ H Q => ∃ G, TX RT T X.K c.io WF G o (tchs ifsI) o (evIfs Φ gl ifsI) σ H Q) (fun σ H Q => ∃ G, TEx T X.K c.io WF G o (tch eltI) o .keep (pks eltI) (evE Φ gl eltI) σ H Q) (ownN.map (·.2)) σ H' Q' := fun G' od H' Q' hl R' P' => by
        obtain ⟨J, sq, hJ⟩ := keys_seq (F := F) (H := H') (o := o) (A := A) (ρ := ρ) rp hl
        have core := comp_inner (its := []) htg hown hio (fun j hj => by cases hj) R' sq P'
        have hH : ∀ w, F a = some w → H' a = some (.frz od w) := fun w hw => by
          have q := R'.sub a w hw
          rw [hl] at q; exact q.2
        refine ⟨_, hs, a, od, rfl, ?_⟩
        rcases hJ with ⟨kvs, hk, rfl⟩ | ⟨kvs, hk, rfl⟩
        · exact .inl ⟨kvs, hH _ hk, core⟩
        · exact .inr ⟨kvs, hH _ hk, core⟩
      cases hl : G.Lk a with
      | some od => exact .inr (walk G od H Q hl R P)
      | none =>
        refine .inl ⟨a, u, ?_, mut_dic hu, fun od => ?_⟩
        · have q := R.sub a u ha
          rw [hl] at q; exact q
        · refine walk (lkG G a od) od _ _ (if_pos rfl) (R.lock ha hu hl) (PostR.lock R ha hu hl (fun c d ρ' z => ?_) P)
          cases hc : compL (ownN.map (·.2)) (asg tg) (evIfs Φ gl ifsI) (evE Φ gl eltI) (es.map (·.1)) ρ with
          | ok ys ρ3 =>
            rw [hc] at z
            have z : (if fits ys.length = true then PX.R.ok (PX.D.lst ys) (rest (ownN.map (·.2)) ρ ρ3) else .fail) = .exc c d ρ' := z
            split at z <;> cases z
          | _ => rw [hc] at z; cases z
    | _ => exact False.elim P
end
end PX
end
section
set_option Elab.async false
set_option linter.all false
set_option maxRecDepth 100000
set_option maxHeartbeats 4000000
namespace PX
open PySem L2

def ioL : Option Nat → List Nat
  | none => []
  | some p => [p]
/-- what is owned at a def's entry -/
def o00 (n : Nat) (io : Option Nat) : List Bool := (List.range n).map fun i => decide (io = some i)
theorem ow00 {n : Nat} {io : Option Nat} {i : Nat} (h : ow (o00 n io) i = true) : io = some i := by
  unfold ow o00 at h
  rw [List.getElem?_map] at h
  by_cases q : i < n
  · rw [List.getElem?_range q] at h
    exact of_decide_eq_true h
  · rw [List.getElem?_eq_none (by simpa using q)] at h; cases h
theorem ow00' {n : Nat} {io : Option Nat} {i : Nat} (h : io = some i) (q : i < n) : ow (o00 n io) i = true := by
  unfold ow o00
  rw [List.getElem?_map, List.getElem?_range q]
  exact decide_eq_true h
def env00 (n : Nat) (ds : List PX.D) : Env := ds.map some ++ List.replicate (n - ds.length) none
theorem gt_map : ∀ {ds : List PX.D} {m i : Nat} {d : PX.D}, gt (ds.map some ++ List.replicate m none) i = some d → ds[i]? = some d
  | [], m, i, d, h => by
    have : ∀ (m i : Nat), gt (List.replicate m (none : Option PX.D)) i = none := fun m => by
      induction m with
      | zero => intro i; rfl
      | succ m ih => intro i; cases i with
        | zero => rfl
        | succ i => exact ih i
    rw [List.map_nil, List.nil_append, this] at h; cases h
  | e :: ds, m, 0, d, h => by
    have h : some e = some d := h
    rw [List.getElem?_cons_zero]; exact h
  | e :: ds, m, i + 1, d, h => by
    rw [List.getElem?_cons_succ]
    exact gt_map (ds := ds) (m := m) (i := i) h
theorem start_at {N : List Str} {vs : List V} {i : Nat} {v : V} (h : vs[i]? = some v) : (start N vs)[i]? = some (some v) := by
  unfold L2.start
  have hl : i < vs.length := (List.getElem?_eq_some_iff.mp h).1
  rw [List.getElem?_append_left (by simpa using hl), List.getElem?_map, h]; rfl
section
variable {T : Tab} {K : PySem.W.Frag} {fi : FnI} {N : List Str} {F H : Hp} {Lk : Addr → Option Obj} {ds : List PX.D} {vs : List V} {B : List Addr}
def G00 (F H : Hp) (Lk : Addr → Option Obj) (B : List Addr) (s0 : L2.St) : Gh := { F0 := F, H0 := H, M := B, s0 := s0, Lk := Lk }
def A00 (io : Option Nat) (B : List Addr) : Nat → List Addr := fun i => if io = some i then B else []
/-- at the entry -/
theorem rel_entry (hlen : vs.length ≤ N.length) (hs : Sub F Lk H) (hlk : ∀ a, F a = none → Lk a = none) (ao : ArgsOk K F H fi.io ds vs B) (hio : ∀ p, fi.io = some p → p < vs.length) :
    Rel K (ioL fi.io) (G00 F H Lk B (start N vs)) F H (o00 N.length fi.io) (A00 fi.io B) (env00 N.length ds) (start N vs) := by
  obtain ⟨hl, at', bn, bf⟩ := ao
  have arg : ∀ i d, gt (env00 N.length ds) i = some d → ds[i]? = some d ∧ ∃ v, vs[i]? = some v := fun i d e => by
    have h := gt_map e
    have lt : i < ds.length := (List.getElem?_eq_some_iff.mp h).1
    exact ⟨h, _, List.getElem?_eq_getElem (by omega)⟩
  refine ⟨hs, hlk, .refl F, fun a h => .inl h, ⟨fun a h => h, fun a ha => ?_⟩, fun a u h _ _ => h, ?_, fun i d e => ?_, fun i d e w a ha => ?_, fun i j d e ij hi hj wi wj => ?_, fun i hi => ?_⟩
  · cases hp : fi.io with
    | none => rw [show B = [] from bn hp] at ha; cases ha
    | some p =>
      have lt := hio p hp
      have h1 := at' p _ _ (List.getElem?_eq_getElem (by omega : p < ds.length)) (List.getElem?_eq_getElem lt)
      rw [if_pos hp] at h1
      exact h1.noTup ha
  · unfold env00 L2.start
    rw [List.length_append, List.length_append, List.length_map, List.length_map, List.length_replicate, List.length_replicate, hl]
  · obtain ⟨h1, v, h2⟩ := arg i d e
    refine ⟨v, start_at h2, ?_⟩
    have h3 := at' i d v h1 h2
    by_cases w : ow (o00 N.length fi.io) i = true
    · rw [if_pos w]
      have q := ow00 w
      rw [if_pos q] at h3
      show Own K F H d v (if fi.io = some i then B else [])
      rw [if_pos q]; exact h3
    · rw [if_neg w]
      have lt : i < N.length := by
        have := (List.getElem?_eq_some_iff.mp h2).1; omega
      rw [if_neg (fun q => w (ow00' q lt))] at h3
      exact h3
  · have q := ow00 w
    have ha : a ∈ (if fi.io = some i then B else []) := ha
    rw [if_pos q] at ha
    exact ⟨bf a ha, .inr ⟨by rw [q]; simp [ioL], ha⟩⟩
  · have q1 := ow00 wi
    have q2 := ow00 wj
    rw [q1] at q2; exact absurd (Option.some.inj q2) ij
  · cases hp : fi.io with
    | none => rw [hp] at hi; cases hi
    | some p =>
      rw [hp] at hi
      have e : i = p := by simpa [ioL] using hi
      subst e
      have := hio i hp
      exact ⟨ow00' rfl (by omega), rfl⟩
/-- at the end -/
theorem rel_exit {F' H' : Hp} {o2 : List Bool} {A' : Nat → List Addr} {ρ' : Env} {σ' : L2.St} {ios : List PX.D} (hs : Sub F Lk H) (hlk : ∀ a, F a = none → Lk a = none) (ao : ArgsOk K F H fi.io ds vs B) (hio : ∀ p, fi.io = some p → p < vs.length)
    (R : Rel K (ioL fi.io) (G00 F H Lk B (start N vs)) F' H' o2 A' ρ' σ') (hp : pick (ioL fi.io) ρ' = some ios) :
    ∃ B', Aft F H F' H' B ∧ IoOk K F H F' H' fi.io vs ios B B' ∧ ∀ d v, RM (if fi.fr = true then .fresh else .keep) K (G00 F H Lk B (start N vs)) F' H' o2 A' ρ' [] d v → RetOk K fi.fr H F' H' B' d v := by
  obtain ⟨hl, at', bn, bf⟩ := ao
  have aft : Aft F H F' H' B := by
    refine ⟨R.f0, fun a u e => ?_, R.dom.2, fun a u e hB => ?_, R.dom.1⟩
    · cases hF : F a with
      | some w => exact .inl ((R.f0 _ _ hF).symm.trans e)
      | none =>
        have q := R.sub a u e
        have lk : (G00 F H Lk B (start N vs)).Lk a = none := hlk a hF
        rw [lk] at q
        refine .inr ⟨q, ?_⟩
        rcases R.new a (by rw [e]; exact fun z => nomatch z) with z | z | z
        · exact absurd hF z
        · exact .inl z
        · exact .inr z
    · cases lk : Lk a with
      | none => exact R.keep a u e hB lk
      | some od =>
        have hF : F a ≠ none := fun z => by rw [hlk a z] at lk; cases lk
        cases w : F a with
        | none => exact absurd w hF
        | some w' =>
          have q := hs a w' w
          rw [lk] at q
          have q' := R.sub a w' (R.f0 _ _ w)
          have lk' : (G00 F H Lk B (start N vs)).Lk a = some od := lk
          rw [lk'] at q'
          rw [q'.2, ← q.2]; exact e
  cases hq : fi.io with
  | none =>
    rw [hq] at hp
    have hp : some [] = some ios := hp
    refine ⟨[], aft, ⟨(Option.some.inj hp).symm, rfl⟩, fun d v m => ?_⟩
    unfold RetOk
    by_cases f : fi.fr = true
    · rw [if_pos f] at m ⊢
      obtain ⟨C, w, ap⟩ := m
      exact ⟨C, w, fun b hb => ⟨ap.f b hb, ap.h0 b hb, by simp⟩⟩
    · rw [if_neg f] at m ⊢; exact m
  | some p =>
    rw [hq] at hp
    have hp : (gt ρ' p).bind (fun d => (some []).map (d :: ·)) = some ios := hp
    cases hd : gt ρ' p with
    | none => rw [hd] at hp; cases hp
    | some d' =>
      rw [hd] at hp
      obtain rfl := Option.some.inj (show some [d'] = some ios from hp)
      obtain ⟨oo, so⟩ := R.ioo p (by rw [hq]; simp [ioL])
      obtain ⟨v', hv', w'⟩ := R.owned hd oo
      have lt := hio p hq
      have hv : vs[p]? = some vs[p] := List.getElem?_eq_getElem lt
      have e1 : σ'[p]? = some (some vs[p]) := by rw [so]; exact start_at hv
      rw [e1] at hv'
      cases hv'
      refine ⟨A' p, aft, ⟨d', _, rfl, hv, w', fun b hb => ?_⟩, fun d v m => ?_⟩
      · obtain ⟨h1, h2⟩ := R.own p d' hd oo b hb
        exact ⟨h1, h2.elim .inr fun z => .inl z.2⟩
      · unfold RetOk
        by_cases f : fi.fr = true
        · rw [if_pos f] at m ⊢
          obtain ⟨C, w, ap⟩ := m
          exact ⟨C, w, fun b hb => ⟨ap.f b hb, ap.h0 b hb, ap.sl p d' hd oo b hb⟩⟩
        · rw [if_neg f] at m ⊢; exact m
/-- the context of a def's body -/
def defC (N : List Str) (sc : Scope) (fi : FnI) : Ctx := { N := N, sc := sc, io := ioL fi.io, fr := fi.fr, fn := fun _ => true }
def fnIR (N : List Str) (fi : FnI) (body : List S) : Fn := { n := N.length, ps := fi.ps.length, io := ioL fi.io, body := body }
theorem def_ok {P : Program} {w : World} {mg : Str → Option Value} {base : Heap} {k : Nat} {Φ : Fns} {gl : Nat → PX.D} {x qual : Str} {st : Stmt} {f : Addr} {fd : FuncData} {body : List S} {oE : List Bool}
    (Fu : Fun K x qual st f fd) (S : FnScope N fi.ps (defScope st)) (hio : ∀ p, fi.io = some p → p < fi.ps.length)
    (hfr : ∀ y ∈ T.frees, mg y = none) (hgl : ∀ i z d, T.gls i = some (z, d) → gl i = d ∧ ∃ u v, mg z = some u ∧ RelV v u ∧ ∀ F, Rep K F d v)
    (hfn : ∀ i fj, T.fn i = some fj → ∃ f fd, FnOk P w K mg base (L2.CX P w) k f fd fj.ps (SpF T K fj (Φ i)) ∧ mg fj.name = some (.ref f) ∧ PySem.W.keepIn K (.ref f) = true ∧ Binds K fd fj.ps [])
    (hbody : ∀ (X : Cx) (W : WX), X.K = K → XOk T Φ gl (defC N (defScope st) fi) X W → ∀ G, SSs T Φ gl X (defC N (defScope st) fi) W G (defBody st) body (o00 N.length fi.io) oE) :
    FnOk P w K mg base (L2.CX P w) (k + 1) f fd fi.ps (SpF T K fi (runFn Φ gl (fnIR N fi body))) := by
  refine Fu.okX S (fun vs H Q E ⟨F, Lk, ds, B, h, _⟩ => h) fun cdv A outer s H vs Q E hr ⟨F, Lk, ds, B, hl, hs, hlk, ao, hm⟩ => ?_
  let X := cxOf (L2.CX P w) P w K mg base N qual (defScope st) f cdv A outer s H E
  have XO : XOk T Φ gl (defC N (defScope st) fi) X (fun cls d _ H => E cls d H) := {
    hN := rfl, hs := rfl, nd := S.nd, calm := rfl, takes := takes_of rfl rfl rfl rfl, pass := passes_of rfl, fn := fun _ _ => rfl, frees := hfr
    hu := by have := hr.un; show (A.deeper _).units + 65 < _; omega
    fns := fun i fj hj => by
      obtain ⟨f', fd', h1, h2, h3, h4⟩ := hfn i fj hj
      exact ⟨k, f', fd', h1, hr, h2, h3, h4⟩
    gls := hgl }
  refine ⟨_, hbody X _ rfl XO (G00 F H Lk B (start N vs)), F, A00 fi.io B, env00 N.length ds, ?_, ?_⟩
  · refine rel_entry ?_ hs hlk ao fun p hp => by rw [hl]; exact hio p hp
    have := congrArg List.length S.pre
    rw [List.length_take] at this; omega
  · have hio' : ∀ p, fi.io = some p → p < vs.length := fun p hp => by rw [hl]; exact hio p hp
    have hdl : ds.length = (fnIR N fi body).ps := ao.1.trans hl
    have e0 : runFn Φ gl (fnIR N fi body) ds = match evSs Φ gl body (env00 N.length ds) with
      | .ok o ρ => (match pick (ioL fi.io) ρ with
        | none => .fail
        | some io => (match o with
          | .next => .ok .non io
          | .ret d => .ok d io))
      | .exc c d ρ => (match pick (ioL fi.io) ρ with
        | none => .fail
        | some io => .exc c d io)
      | .fail => .fail := by
      unfold runFn
      rw [if_pos hdl]
      show (match evSs Φ gl body (ds.map some ++ List.replicate (N.length - fi.ps.length) none) with | .ok o ρ => _ | .exc c d ρ => _ | .fail => _) = _
      have e : ds.map some ++ List.replicate (N.length - fi.ps.length) none = env00 N.length ds := by
        unfold env00; rw [hdl]; rfl
      rw [e]; rfl
    rw [e0] at hm
    cases hr : evSs Φ gl body (env00 N.length ds) with
    | fail => rw [hr] at hm; exact hm
    | exc c d ρ' =>
      rw [hr] at hm
      dsimp only at hm
      cases hp : pick (ioL fi.io) ρ' with
      | none => rw [hp] at hm; exact False.elim hm
      | some ios =>
        rw [hp] at hm
        intro F' H' A' o2 σ' cls od R' ex
        obtain ⟨B', af, io', _⟩ := rel_exit hs hlk ao hio' R' hp
        exact hm F' H' cls od B' af io' ex
    | ok o' ρ' =>
      rw [hr] at hm
      dsimp only at hm
      cases hp : pick (ioL fi.io) ρ' with
      | none => rw [hp] at hm; exact False.elim hm
      | some ios =>
        rw [hp] at hm
        cases o' with
        | next =>
          intro F' H' A' σ' R' g fr
          obtain ⟨B', af, io', ret⟩ := rel_exit hs hlk ao hio' R' hp
          refine hm F' H' .non B' af io' (ret .non .non ?_)
          by_cases f : fi.fr = true
          · rw [if_pos f]
            exact ⟨[], .shr rfl .non, ⟨fun b hb => (by cases hb), fun b hb => (by cases hb), fun i d _ _ b hb => (by cases hb)⟩⟩
          · rw [if_neg f]; exact Rep.non
        | ret d =>
          intro F' H' A' o2 σ' v R' m
          obtain ⟨B', af, io', ret⟩ := rel_exit hs hlk ao hio' R' hp
          exact hm F' H' v B' af io' (ret d v m)
end
end PX
end
section
set_option Elab.async false
set_option linter.all false
set_option maxRecDepth 100000
set_option maxHeartbeats 4000000
namespace PX
open PySem L2

/-- how an expression is checked: as a value, as a test, as the rest of an and/or -/
structure Ck where
  e : Ctx → List Bool → Expr → Option (List Bool × Md)
  t : Ctx → List Bool → Expr → Option (List Bool)
  v : Ctx → List Bool → BoolOp → List Expr → Option (List Bool × Md)
  w : Ctx → List Bool → BoolOp → List Expr → Option (List Bool)
def disj (xs ys : List Nat) : Bool := xs.all fun x => !ys.contains x
theorem disj_ok {xs ys : List Nat} (h : disj xs ys = true) : ∀ j ∈ xs, j ∉ ys := fun j hj hy => by
  have := List.all_eq_true.mp h j hj
  simp at this
  exact this hy
def nf : Md → Md
  | .fresh => .keep
  | m => m
theorem nf_ne (m : Md) : nf m ≠ .fresh := by cases m <;> exact fun z => nomatch z
def glb (c : Ctx) (x : Str) : Bool := decide (c.sc.names.lookup x = some .globalImplicit) && !(x == ("__debug__" : Str))
def conOk (e : Expr) (d : PX.D) : Bool := match e, d with
  | .Constant (.int i) _ _, .int j => decide (i = j)
  | .Constant (.str s) _ _, .str t => decide (s = t)
  | .Constant .none _ _, .non => true
  | .Constant (.bool b) _ _, .bl k => b == k
  | _, _ => false
section
variable {T : Tab} {Φ : Fns} {gl : Nat → PX.D} {c : Ctx} {X : Cx} {W : WX} {G : Gh} {o o1 o2 : List Bool}
theorem SE.nf {io : List Nat} {e : Expr} {ir : E} {m : Md} (h : SE T Φ gl X io W G e ir o o1 m) : SE T Φ gl X io W G e ir o o1 (nf m) := by
  cases m with
  | fresh => exact pe_keep h
  | _ => exact h
theorem SE.toP {io : List Nat} {e : Expr} {ir : E} {m : Md} (h : SE T Φ gl X io W G e ir o o1 m) : SE T Φ gl X io W G e ir o o1 .peek := by
  cases m with
  | fresh => exact pe_peek (pe_keep h)
  | keep => exact pe_peek h
  | peek => exact h
theorem SE.toK {io : List Nat} {e : Expr} {ir : E} {m : Md} (h : SE T Φ gl X io W G e ir o o1 m) (k : m ≠ .peek) : SE T Φ gl X io W G e ir o o1 .keep := by
  cases m with
  | fresh => exact pe_keep h
  | keep => exact h
  | peek => exact absurd rfl k
theorem glb_ok (XO : XOk T Φ gl c X W) {x : Str} (h : glb c x = true) : Gl X x ∧ (x == ("__debug__" : Str)) = false := by
  unfold glb at h
  rw [Bool.and_eq_true, Bool.not_eq_true'] at h
  refine ⟨?_, h.2⟩
  show X.env.scope.names.lookup x = _
  rw [XO.hs]; exact of_decide_eq_true h.1
theorem con_ok {e : Expr} {d : PX.D} (h : conOk e d = true) : ∃ v, PE X e (tC v) ∧ ∀ F, Rep X.K F d v := by
  unfold conOk at h
  split at h
  · rw [← of_decide_eq_true h]; exact ⟨_, pe_int, fun F => .int _⟩
  · rw [← of_decide_eq_true h]; exact ⟨_, pe_str, fun F => .str _⟩
  · exact ⟨_, pe_non, fun F => .non⟩
  · rename_i b _ _ k
    rw [← eq_of_beq h]; exact ⟨.bl b, pe_bl, fun F => .bl b⟩
  · cases h
end
/-- a check is right -/
structure Sd (T : Tab) (ir : E) (k : Ck) : Prop where
  e : ∀ c o ex o' m, k.e c o ex = some (o', m) → ∀ {Φ gl X W}, XOk T Φ gl c X W → ∀ G, SE T Φ gl X c.io W G ex ir o o' m
  t : ∀ c o ex o', k.t c o ex = some o' → ∀ {Φ gl X W}, XOk T Φ gl c X W → ∀ G, ST T Φ gl X c.io W G ex ir o o'
  v : ∀ c o op xs o' m, k.v c o op xs = some (o', m) → ∀ {Φ gl X W}, XOk T Φ gl c X W → ∀ G pos, SE T Φ gl X c.io W G (.BoolOp op xs pos) ir o o' m
  w : ∀ c o op xs o', k.w c o op xs = some o' → ∀ {Φ gl X W}, XOk T Φ gl c X W → ∀ G pos, SW T Φ gl X c.io W G (.BoolOp op xs pos) ir o o'
def vOne (e : Ctx → List Bool → Expr → Option (List Bool × Md)) : Ctx → List Bool → BoolOp → List Expr → Option (List Bool × Md) := fun c o op xs => match xs with
  | [z] => e c o z
  | _ => none
def wOne (t : Ctx → List Bool → Expr → Option (List Bool)) : Ctx → List Bool → BoolOp → List Expr → Option (List Bool) := fun c o op xs => match xs with
  | [z] => t c o z
  | _ => none
/-- with tests of its own -/
def mkT (e : Ctx → List Bool → Expr → Option (List Bool × Md)) (t : Ctx → List Bool → Expr → Option (List Bool)) : Ck := ⟨e, t, vOne e, wOne t⟩
def mk (e : Ctx → List Bool → Expr → Option (List Bool × Md)) : Ck := mkT e fun c o ex => if plainT ex = true then (e c o ex).map (·.1) else none
section
variable {T : Tab} {ir : E}
theorem mkT_ok {e : Ctx → List Bool → Expr → Option (List Bool × Md)} {t : Ctx → List Bool → Expr → Option (List Bool)}
    (he : ∀ c o ex o' m, e c o ex = some (o', m) → ∀ {Φ gl X W}, XOk T Φ gl c X W → ∀ G, SE T Φ gl X c.io W G ex ir o o' m)
    (ht : ∀ c o ex o', t c o ex = some o' → ∀ {Φ gl X W}, XOk T Φ gl c X W → ∀ G, ST T Φ gl X c.io W G ex ir o o') : Sd T ir (mkT e t) where
  e := he
  t := ht
  v := fun c o op xs o' m h Φ gl X W XO G pos => by
    have h : vOne e c o op xs = some (o', m) := h
    unfold vOne at h
    split at h
    · exact se_one XO (he _ _ _ _ _ h XO G)
    · cases h
  w := fun c o op xs o' h Φ gl X W XO G pos => by
    have h : wOne t c o op xs = some o' := h
    unfold wOne at h
    split at h
    · cases op with
      | And => exact sw_and1 XO (ht _ _ _ _ h XO G)
      | Or => exact sw_or1 XO (ht _ _ _ _ h XO G)
    · cases h
theorem mk_ok {e : Ctx → List Bool → Expr → Option (List Bool × Md)} (he : ∀ c o ex o' m, e c o ex = some (o', m) → ∀ {Φ gl X W}, XOk T Φ gl c X W → ∀ G, SE T Φ gl X c.io W G ex ir o o' m) : Sd T ir (mk e) :=
  mkT_ok he fun c o ex o' h Φ gl X W XO G => by
    split at h
    · rename_i hp
      obtain ⟨⟨o'', m⟩, h1, h2⟩ := Option.map_eq_some_iff.mp h
      cases h2
      exact st_truth XO hp (he _ _ _ _ _ h1 XO G)
    · cases h
end
def kCon (d : PX.D) : Ck := mk fun c o ex => if conOk ex d = true then some (o, .keep) else none
theorem kCon_ok {T : Tab} {d : PX.D} : Sd T (.con d) (kCon d) := mk_ok fun c o ex o' m h Φ gl X W XO G => by
  split at h
  · rename_i hc
    cases h
    exact se_con XO (con_ok hc)
  · cases h
def nmOk (c : Ctx) (i : Nat) (ex : Expr) : Bool := match ex with
  | .Name x _ => decide (c.N[i]? = some x) && vis c x
  | _ => false
def kVar (i : Nat) : Ck := mk fun c o ex => if (nmOk c i ex && !c.io.contains i) = true then some (o.set i false, .keep) else none
theorem kVar_ok {T : Tab} {i : Nat} : Sd T (.var i) (kVar i) := mk_ok fun c o ex o' m h Φ gl X W XO G => by
  split at h
  · rename_i hc
    cases h
    rw [Bool.and_eq_true, Bool.not_eq_true'] at hc
    unfold nmOk at hc
    split at hc
    · obtain ⟨h1, h2⟩ := hc
      rw [Bool.and_eq_true] at h1
      exact se_var XO (of_decide_eq_true h1.1) h1.2 (by simpa using h2)
    · cases hc.1
  · cases h
def kPk (i : Nat) : Ck := mk fun c o ex => if nmOk c i ex = true then some (o, .peek) else none
theorem kPk_ok {T : Tab} {i : Nat} : Sd T (.pk i) (kPk i) := mk_ok fun c o ex o' m h Φ gl X W XO G => by
  split at h
  · rename_i hc
    cases h
    unfold nmOk at hc
    split at hc
    · rw [Bool.and_eq_true] at hc
      exact se_pk XO (of_decide_eq_true hc.1) hc.2
    · cases hc
  · cases h
def kGl (T : Tab) (k : Nat) : Ck := mk fun c o ex => match ex, T.gls k with
  | .Name x _, some (y, _) => if (decide (x = y) && glb c x) = true then some (o, .keep) else none
  | _, _ => none
theorem kGl_ok {T : Tab} {k : Nat} : Sd T (.gl k) (kGl T k) := mk_ok fun c o ex o' m h Φ gl X W XO G => by
  split at h
  · rename_i x pp y d hk
    split at h
    · rename_i hc
      cases h
      rw [Bool.and_eq_true] at hc
      obtain rfl := of_decide_eq_true hc.1
      obtain ⟨g1, g2⟩ := glb_ok XO hc.2
      exact se_gl XO (e := .Name x pp) hk g1 g2
    · cases h
  · cases h
def kBin (op : Bop) (ia ib : E) (a b : Ck) : Ck := mk fun c o ex => match ex with
  | .BinOp l p r _ => if (decide (p = opO op) && disj (pks ia) (tch ib)) = true then (a.e c o l).bind fun p1 => (b.e c p1.1 r).bind fun p2 => some (p2.1, .fresh) else none
  | _ => none
theorem kBin_ok {T : Tab} {op : Bop} {ia ib : E} {a b : Ck} (ha : Sd T ia a) (hb : Sd T ib b) : Sd T (.bin op ia ib) (kBin op ia ib a b) := mk_ok fun c o ex o' m h Φ gl X W XO G => by
  split at h
  · split at h
    · rename_i hc
      rw [Bool.and_eq_true] at hc
      obtain rfl := of_decide_eq_true hc.1
      obtain ⟨⟨o1, m1⟩, h1, h⟩ := Option.bind_eq_some_iff.mp h
      obtain ⟨⟨o2, m2⟩, h2, h⟩ := Option.bind_eq_some_iff.mp h
      cases h
      exact se_bin XO (nf_ne m1) (disj_ok hc.2) (ha.e _ _ _ _ _ h1 XO G).nf (hb.e _ _ _ _ _ h2 XO G)
    · cases h
  · cases h
def kNeg (a : Ck) : Ck := mk fun c o ex => match ex with
  | .UnaryOp .USub l _ => (a.e c o l).bind fun p => some (p.1, .keep)
  | _ => none
theorem kNeg_ok {T : Tab} {ia : E} {a : Ck} (ha : Sd T ia a) : Sd T (.neg ia) (kNeg a) := mk_ok fun c o ex o' m h Φ gl X W XO G => by
  split at h
  · obtain ⟨⟨o1, m1⟩, h1, h⟩ := Option.bind_eq_some_iff.mp h
    cases h
    exact se_neg XO (ha.e _ _ _ _ _ h1 XO G)
  · cases h
def kNot (a : Ck) : Ck := mkT (fun c o ex => match ex with
  | .UnaryOp .Not l _ => (a.e c o l).bind fun p => some (p.1, .keep)
  | _ => none) fun c o ex => match ex with
  | .UnaryOp .Not l _ => a.t c o l
  | _ => none
theorem kNot_ok {T : Tab} {ia : E} {a : Ck} (ha : Sd T ia a) : Sd T (.not ia) (kNot a) := mkT_ok (fun c o ex o' m h Φ gl X W XO G => by
  split at h
  · obtain ⟨⟨o1, m1⟩, h1, h⟩ := Option.bind_eq_some_iff.mp h
    cases h
    exact se_not XO (ha.e _ _ _ _ _ h1 XO G)
  · cases h) fun c o ex o' h Φ gl X W XO G => by
  split at h
  · exact st_not XO (ha.t _ _ _ _ h XO G)
  · cases h
def noSet : Expr → Bool
  | .Set _ _ _ => false
  | _ => true
theorem noSet_ok {e : Expr} : noSet e = true → (match e with | .Set _ _ _ => false | _ => true) = true := by
  intro h
  cases e <;> first | rfl | cases h
def cmpK (op : Cop) (ia ib : E) (a b : Ck) (c : Ctx) (o : List Bool) (ex : Expr) : Option (List Bool) := match ex with
  | .Compare l [p] [r] _ => if (decide (p = opC op) && disj (pks ia) (tch ib) && noSet r) = true then (a.e c o l).bind fun p1 => (b.e c p1.1 r).map (·.1) else none
  | _ => none
def kCmp (op : Cop) (ia ib : E) (a b : Ck) : Ck := mkT (fun c o ex => (cmpK op ia ib a b c o ex).map fun o' => (o', .keep)) (cmpK op ia ib a b)
theorem cmpK_ok {T : Tab} {op : Cop} {ia ib : E} {a b : Ck} (ha : Sd T ia a) (hb : Sd T ib b) {c : Ctx} {o o' : List Bool} {ex : Expr} (h : cmpK op ia ib a b c o ex = some o') {Φ : Fns} {gl : Nat → PX.D} {X : Cx} {W : WX} (XO : XOk T Φ gl c X W) (G : Gh) :
    SE T Φ gl X c.io W G ex (.cmp op ia ib) o o' .keep ∧ ST T Φ gl X c.io W G ex (.cmp op ia ib) o o' := by
  unfold cmpK at h
  split at h
  · split at h
    · rename_i hc
      rw [Bool.and_eq_true, Bool.and_eq_true] at hc
      obtain ⟨⟨hc1, hc2⟩, hc3⟩ := hc
      obtain rfl := of_decide_eq_true hc1
      obtain ⟨⟨o1, m1⟩, h1, h⟩ := Option.bind_eq_some_iff.mp h
      obtain ⟨⟨o2, m2⟩, h2, h⟩ := Option.map_eq_some_iff.mp h
      cases h
      exact ⟨se_cmp XO (nf_ne m1) (disj_ok hc2) (noSet_ok hc3) (ha.e _ _ _ _ _ h1 XO G).nf (hb.e _ _ _ _ _ h2 XO G), st_cmp XO (nf_ne m1) (disj_ok hc2) (noSet_ok hc3) (ha.e _ _ _ _ _ h1 XO G).nf (hb.e _ _ _ _ _ h2 XO G)⟩
    · cases h
  · cases h
theorem kCmp_ok {T : Tab} {op : Cop} {ia ib : E} {a b : Ck} (ha : Sd T ia a) (hb : Sd T ib b) : Sd T (.cmp op ia ib) (kCmp op ia ib a b) := mkT_ok (fun c o ex o' m h Φ gl X W XO G => by
  obtain ⟨o1, h1, h2⟩ := Option.map_eq_some_iff.mp h
  cases h2
  exact (cmpK_ok ha hb h1 XO G).1) fun c o ex o' h Φ gl X W XO G => (cmpK_ok ha hb h XO G).2
def chnK (p1 p2 : Cop) (ia ib id : E) (a b d : Ck) (c : Ctx) (o : List Bool) (ex : Expr) : Option (List Bool) := match ex with
  | .Compare l [q1, q2] [r, s] _ => if (decide (q1 = opC p1) && decide (q2 = opC p2) && disj (pks ia) (tch ib) && disj (pks ib) (tch id) && noSet s) = true then (a.e c o l).bind fun x1 => (b.e c x1.1 r).bind fun x2 => (d.e c x2.1 s).bind fun x3 => if x3.1 = x2.1 then some x2.1 else none else none
  | _ => none
def kChn (p1 p2 : Cop) (ia ib id : E) (a b d : Ck) : Ck := mkT (fun c o ex => (chnK p1 p2 ia ib id a b d c o ex).map fun o' => (o', .keep)) (chnK p1 p2 ia ib id a b d)
theorem chnK_ok {T : Tab} {p1 p2 : Cop} {ia ib id : E} {a b d : Ck} (ha : Sd T ia a) (hb : Sd T ib b) (hd : Sd T id d) {c : Ctx} {o o' : List Bool} {ex : Expr} (h : chnK p1 p2 ia ib id a b d c o ex = some o') {Φ : Fns} {gl : Nat → PX.D} {X : Cx} {W : WX} (XO : XOk T Φ gl c X W) (G : Gh) :
    SE T Φ gl X c.io W G ex (.chn p1 p2 ia ib id) o o' .keep ∧ ST T Φ gl X c.io W G ex (.chn p1 p2 ia ib id) o o' := by
  unfold chnK at h
  split at h
  · split at h
    · rename_i hc
      simp only [Bool.and_eq_true] at hc
      obtain ⟨⟨⟨⟨hc1, hc2⟩, hc3⟩, hc4⟩, hc5⟩ := hc
      obtain rfl := of_decide_eq_true hc1
      obtain rfl := of_decide_eq_true hc2
      obtain ⟨⟨o1, m1⟩, h1, h⟩ := Option.bind_eq_some_iff.mp h
      obtain ⟨⟨o2, m2⟩, h2, h⟩ := Option.bind_eq_some_iff.mp h
      obtain ⟨⟨o3, m3⟩, h3, h⟩ := Option.bind_eq_some_iff.mp h
      split at h
      · rename_i he
        cases h
        have he : o3 = o2 := he
        subst he
        exact ⟨se_chn XO (nf_ne m1) (nf_ne m2) (disj_ok hc3) (disj_ok hc4) (noSet_ok hc5) (ha.e _ _ _ _ _ h1 XO G).nf (hb.e _ _ _ _ _ h2 XO G).nf (hd.e _ _ _ _ _ h3 XO G), st_chn XO (nf_ne m1) (nf_ne m2) (disj_ok hc3) (disj_ok hc4) (noSet_ok hc5) (ha.e _ _ _ _ _ h1 XO G).nf (hb.e _ _ _ _ _ h2 XO G).nf (hd.e _ _ _ _ _ h3 XO G)⟩
      · cases h
    · cases h
  · cases h
theorem kChn_ok {T : Tab} {p1 p2 : Cop} {ia ib id : E} {a b d : Ck} (ha : Sd T ia a) (hb : Sd T ib b) (hd : Sd T id d) : Sd T (.chn p1 p2 ia ib id) (kChn p1 p2 ia ib id a b d) := mkT_ok (fun c o ex o' m h Φ gl X W XO G => by
  obtain ⟨o1, h1, h2⟩ := Option.map_eq_some_iff.mp h
  cases h2
  exact (chnK_ok ha hb hd h1 XO G).1) fun c o ex o' h Φ gl X W XO G => (chnK_ok ha hb hd h XO G).2
end PX
end
section
set_option Elab.async false
set_option linter.all false
set_option maxRecDepth 100000
set_option maxHeartbeats 4000000
namespace PX
open PySem L2
def isAnd : BoolOp → Bool → Bool
  | .And, b => b
  | .Or, b => !b
/-- b: and; not b: or -/
def vCh (b : Bool) (x y : Ck) : Ctx → List Bool → BoolOp → List Expr → Option (List Bool × Md) := fun c o op es => match es with
  | e1 :: e2 :: r => if isAnd op b = true then (x.e c o e1).bind fun p1 => if p1.2 ≠ .peek then (y.v c p1.1 op (e2 :: r)).bind fun p2 => if p2.1 = p1.1 ∧ p2.2 ≠ .peek then some (p1.1, .keep) else none else none else none
  | _ => none
def wCh (b : Bool) (x y : Ck) : Ctx → List Bool → BoolOp → List Expr → Option (List Bool) := fun c o op es => match es with
  | e1 :: e2 :: r => if isAnd op b = true then (x.t c o e1).bind fun o1 => (y.w c o1 op (e2 :: r)).bind fun o2 => if o2 = o1 then some o1 else none else none
  | _ => none
def eCh (b : Bool) (x y : Ck) : Ctx → List Bool → Expr → Option (List Bool × Md) := fun c o ex => match ex with
  | .BoolOp op es _ => vCh b x y c o op es
  | _ => none
def tCh (b : Bool) (x y : Ck) : Ctx → List Bool → Expr → Option (List Bool) := fun c o ex => match ex with
  | .BoolOp op es _ => wCh b x y c o op es
  | _ => none
def vTop (b : Bool) (x y : Ck) (c : Ctx) (o : List Bool) (op : BoolOp) (es : List Expr) : Option (List Bool × Md) := match es with
  | [z] => eCh b x y c o z
  | es => vCh b x y c o op es
def wTop (b : Bool) (x y : Ck) (c : Ctx) (o : List Bool) (op : BoolOp) (es : List Expr) : Option (List Bool) := match es with
  | [z] => tCh b x y c o z
  | es => wCh b x y c o op es
def kCh (b : Bool) (x y : Ck) : Ck := ⟨eCh b x y, tCh b x y, vTop b x y, wTop b x y⟩
def irCh : Bool → E → E → E
  | true, a, b => .and a b
  | false, a, b => .or a b
section
variable {T : Tab} {b : Bool} {ia ib : E} {x y : Ck} (hx : Sd T ia x) (hy : Sd T ib y)
include hx hy
theorem vCh_ok {c : Ctx} {o o' : List Bool} {op : BoolOp} {es : List Expr} {m : Md} (h : vCh b x y c o op es = some (o', m)) {Φ : Fns} {gl : Nat → PX.D} {X : Cx} {W : WX} (XO : XOk T Φ gl c X W) (G : Gh) (pos : Pos) :
    SE T Φ gl X c.io W G (.BoolOp op es pos) (irCh b ia ib) o o' m := by
  unfold vCh at h
  split at h
  · split at h
    · rename_i hop
      obtain ⟨⟨o1, m1⟩, h1, h⟩ := Option.bind_eq_some_iff.mp h
      split at h
      · rename_i k1
        obtain ⟨⟨o2, m2⟩, h2, h⟩ := Option.bind_eq_some_iff.mp h
        split at h
        · rename_i k2
          cases h
          obtain ⟨k2, k3⟩ := k2
          have k2 : o2 = o1 := k2
          subst k2
          cases op with
          | And =>
            have : b = true := hop
            subst this
            exact se_and XO ((hx.e _ _ _ _ _ h1 XO G).toK k1) ((hy.v _ _ _ _ _ _ h2 XO G pos).toK k3)
          | Or =>
            have : b = false := by simpa [isAnd] using hop
            subst this
            exact se_or XO ((hx.e _ _ _ _ _ h1 XO G).toK k1) ((hy.v _ _ _ _ _ _ h2 XO G pos).toK k3)
        · cases h
      · cases h
    · cases h
  · cases h
theorem wCh_ok {c : Ctx} {o o' : List Bool} {op : BoolOp} {es : List Expr} (h : wCh b x y c o op es = some o') {Φ : Fns} {gl : Nat → PX.D} {X : Cx} {W : WX} (XO : XOk T Φ gl c X W) (G : Gh) (pos : Pos) :
    SW T Φ gl X c.io W G (.BoolOp op es pos) (irCh b ia ib) o o' := by
  unfold wCh at h
  split at h
  · split at h
    · rename_i hop
      obtain ⟨o1, h1, h⟩ := Option.bind_eq_some_iff.mp h
      obtain ⟨o2, h2, h⟩ := Option.bind_eq_some_iff.mp h
      split at h
      · rename_i k2
        cases h
        subst k2
        cases op with
        | And =>
          have : b = true := hop
          subst this
          exact sw_and XO (hx.t _ _ _ _ h1 XO G) (hy.w _ _ _ _ _ h2 XO G pos)
        | Or =>
          have : b = false := by simpa [isAnd] using hop
          subst this
          exact sw_or XO (hx.t _ _ _ _ h1 XO G) (hy.w _ _ _ _ _ h2 XO G pos)
      · cases h
    · cases h
  · cases h
theorem eCh_ok {c : Ctx} {o o' : List Bool} {ex : Expr} {m : Md} (h : eCh b x y c o ex = some (o', m)) {Φ : Fns} {gl : Nat → PX.D} {X : Cx} {W : WX} (XO : XOk T Φ gl c X W) (G : Gh) : SE T Φ gl X c.io W G ex (irCh b ia ib) o o' m := by
  unfold eCh at h
  split at h
  · exact vCh_ok hx hy h XO G _
  · cases h
theorem tCh_ok {c : Ctx} {o o' : List Bool} {ex : Expr} (h : tCh b x y c o ex = some o') {Φ : Fns} {gl : Nat → PX.D} {X : Cx} {W : WX} (XO : XOk T Φ gl c X W) (G : Gh) : ST T Φ gl X c.io W G ex (irCh b ia ib) o o' := by
  unfold tCh at h
  split at h
  · exact (wCh_ok hx hy h XO G _).pt
  · cases h
theorem kCh_ok : Sd T (irCh b ia ib) (kCh b x y) where
  e := fun c o ex o' m h Φ gl X W XO G => eCh_ok hx hy h XO G
  t := fun c o ex o' h Φ gl X W XO G => tCh_ok hx hy h XO G
  v := fun c o op es o' m h Φ gl X W XO G pos => by
    have h : vTop b x y c o op es = some (o', m) := h
    unfold vTop at h
    split at h
    · exact se_one XO (eCh_ok hx hy h XO G)
    · exact vCh_ok hx hy h XO G pos
  w := fun c o op es o' h Φ gl X W XO G pos => by
    have h : wTop b x y c o op es = some o' := h
    unfold wTop at h
    split at h
    · cases op with
      | And => exact sw_and1 XO (tCh_ok hx hy h XO G)
      | Or => exact sw_or1 XO (tCh_ok hx hy h XO G)
    · exact wCh_ok hx hy h XO G pos
end
def kIte (t a b : Ck) : Ck := mk fun c o ex => match ex with
  | .IfExp et ea eb _ => (t.t c o et).bind fun o1 => (a.e c o1 ea).bind fun p => (b.e c o1 eb).bind fun q => if p.1 = q.1 ∧ p.2 ≠ .peek ∧ q.2 ≠ .peek then some (p.1, .keep) else none
  | _ => none
theorem kIte_ok {T : Tab} {it ia ib : E} {t a b : Ck} (ht : Sd T it t) (ha : Sd T ia a) (hb : Sd T ib b) : Sd T (.ite it ia ib) (kIte t a b) := mkT_ok (fun c o ex o' m h Φ gl X W XO G => by
  split at h
  · obtain ⟨o1, h1, h⟩ := Option.bind_eq_some_iff.mp h
    obtain ⟨⟨o2, m2⟩, h2, h⟩ := Option.bind_eq_some_iff.mp h
    obtain ⟨⟨o3, m3⟩, h3, h⟩ := Option.bind_eq_some_iff.mp h
    split at h
    · rename_i k
      cases h
      obtain ⟨k1, k2, k3⟩ := k
      have k1 : o2 = o3 := k1
      subst k1
      exact se_ite XO (m := .keep) (fun _ => trivial) (ht.t _ _ _ _ h1 XO G) ((ha.e _ _ _ _ _ h2 XO G).toK k2) ((hb.e _ _ _ _ _ h3 XO G).toK k3)
    · cases h
  · cases h) fun c o ex o' h Φ gl X W XO G => by
    split at h
    · rename_i hp
      cases ex <;> first | (exact absurd hp Bool.false_ne_true) | (cases h)
    · cases h
def saK : List Ck → Ctx → List Bool → List Expr → Option (List Bool)
  | [], _, o, [] => some o
  | k :: ks, c, o, e :: es => if notStar e = true then (k.e c o e).bind fun p => if p.2 ≠ .peek then saK ks c p.1 es else none else none
  | _, _, _, _ => none
def spK : List E → List Ck → Ctx → List Bool → List Expr → Option (List Bool)
  | [], [], _, o, [] => some o
  | i :: irs, k :: ks, c, o, e :: es => if (notStar e && disj (pks i) (tchs irs)) = true then (k.e c o e).bind fun p => spK irs ks c p.1 es else none
  | _, _, _, _, _ => none
def scK : List E → List Ck → Ctx → List Bool → List Expr → Option (List Bool)
  | [], [], _, o, [] => some o
  | .io i :: irs, _ :: ks, c, o, e :: es => if (nmOk c i e && ow o i && !(tchs irs).contains i) = true then scK irs ks c o es else none
  | ie :: irs, k :: ks, c, o, e :: es => if (notStar e && plainA ie) = true then (k.e c o e).bind fun p => if p.2 ≠ .peek then scK irs ks c p.1 es else none else none
  | _, _, _, _, _ => none
inductive SdL (T : Tab) : List E → List Ck → Prop
  | nil : SdL T [] []
  | cons {i : E} {irs : List E} {k : Ck} {ks : List Ck} : Sd T i k → SdL T irs ks → SdL T (i :: irs) (k :: ks)
section
variable {T : Tab} {c : Ctx}
theorem saK_ok {irs : List E} {ks : List Ck} (H : SdL T irs ks) : ∀ {o o' : List Bool} {es : List Expr}, saK ks c o es = some o' → ∀ {Φ : Fns} {gl : Nat → PX.D} {X : Cx} {W : WX}, XOk T Φ gl c X W → ∀ G, SA T Φ gl X c.io W G es irs o o' := by
  induction H with
  | nil =>
    intro o o' es h Φ gl X W XO G
    cases es with
    | nil => cases h; exact sa_nil XO
    | cons _ _ => cases h
  | @cons i irs k ks hk _ ih =>
    intro o o' es h Φ gl X W XO G
    cases es with
    | nil => cases h
    | cons e es =>
      unfold saK at h
      split at h
      · rename_i hn
        obtain ⟨⟨o1, m1⟩, h1, h⟩ := Option.bind_eq_some_iff.mp h
        split at h
        · rename_i km
          exact sa_cons XO hn ((hk.e _ _ _ _ _ h1 XO G).toK km) (ih h XO G)
        · cases h
      · cases h
theorem spK_ok {irs : List E} {ks : List Ck} (H : SdL T irs ks) : ∀ {o o' : List Bool} {es : List Expr}, spK irs ks c o es = some o' → ∀ {Φ : Fns} {gl : Nat → PX.D} {X : Cx} {W : WX}, XOk T Φ gl c X W → ∀ G, SP T Φ gl X c.io W G es irs o o' := by
  induction H with
  | nil =>
    intro o o' es h Φ gl X W XO G
    cases es with
    | nil => cases h; exact sp_nil XO
    | cons _ _ => cases h
  | @cons i irs k ks hk _ ih =>
    intro o o' es h Φ gl X W XO G
    cases es with
    | nil => cases h
    | cons e es =>
      unfold spK at h
      split at h
      · rename_i hn
        rw [Bool.and_eq_true] at hn
        obtain ⟨⟨o1, m1⟩, h1, h⟩ := Option.bind_eq_some_iff.mp h
        exact sp_cons XO hn.1 (disj_ok hn.2) (hk.e _ _ _ _ _ h1 XO G).toP (ih h XO G)
      · cases h
theorem scK_ok {irs : List E} {ks : List Ck} (H : SdL T irs ks) : ∀ {o o' : List Bool} {es : List Expr}, scK irs ks c o es = some o' → ∀ {Φ : Fns} {gl : Nat → PX.D} {X : Cx} {W : WX}, XOk T Φ gl c X W → ∀ G, SC T Φ gl X c.io W G es irs o o' := by
  induction H with
  | nil =>
    intro o o' es h Φ gl X W XO G
    cases es with
    | nil => cases h; exact sc_nil
    | cons _ _ => cases h
  | @cons i irs k ks hk _ ih =>
    intro o o' es h Φ gl X W XO G
    cases es with
    | nil => cases i <;> cases h
    | cons e es =>
      have gen : (if (notStar e && plainA i) = true then (k.e c o e).bind fun p => if p.2 ≠ .peek then scK irs ks c p.1 es else none else none) = some o' → SC T Φ gl X c.io W G (e :: es) (i :: irs) o o' := fun h => by
        split at h
        · rename_i hn
          rw [Bool.and_eq_true] at hn
          obtain ⟨⟨o1, m1⟩, h1, h⟩ := Option.bind_eq_some_iff.mp h
          split at h
          · rename_i km
            exact sc_cons XO hn.1 hn.2 ((hk.e _ _ _ _ _ h1 XO G).toK km) (ih h XO G)
          · cases h
        · cases h
      cases i with
      | io j =>
        have hz : (if (nmOk c j e && ow o j && !(tchs irs).contains j) = true then scK irs ks c o es else none) = some o' := h
        clear h gen
        split at hz
        · rename_i hn
          simp only [Bool.and_eq_true, Bool.not_eq_true'] at hn
          obtain ⟨⟨h1, h2⟩, h3⟩ := hn
          unfold nmOk at h1
          split at h1
          · rw [Bool.and_eq_true] at h1
            exact sc_io XO (of_decide_eq_true h1.1) h1.2 h2 (by simpa using h3) (ih hz XO G)
          · cases h1
        · cases hz
      | _ => exact gen h
end
end PX
end
section
set_option Elab.async false
set_option linter.all false
set_option maxRecDepth 100000
set_option maxHeartbeats 4000000
namespace PX
open PySem L2
def kTup (n : Nat) (ks : List Ck) : Ck := mk fun c o ex => match ex with
  | .Tuple es _ _ => if n ≤ 1000 then (saK ks c o es).map fun o' => (o', .fresh) else none
  | _ => none
theorem kTup_ok {T : Tab} {irs : List E} {ks : List Ck} (H : SdL T irs ks) : Sd T (.tup irs) (kTup irs.length ks) := mk_ok fun c o ex o' m h Φ gl X W XO G => by
  split at h
  · split at h
    · rename_i hl
      obtain ⟨o1, h1, h2⟩ := Option.map_eq_some_iff.mp h
      cases h2
      exact se_tup XO hl (saK_ok H h1 XO G)
    · cases h
  · cases h
def kLst (n : Nat) (ks : List Ck) : Ck := mk fun c o ex => match ex with
  | .List es _ => if n ≤ 1000 then (saK ks c o es).map fun o' => (o', .fresh) else none
  | _ => none
theorem kLst_ok {T : Tab} {irs : List E} {ks : List Ck} (H : SdL T irs ks) : Sd T (.lst irs) (kLst irs.length ks) := mk_ok fun c o ex o' m h Φ gl X W XO G => by
  split at h
  · split at h
    · rename_i hl
      obtain ⟨o1, h1, h2⟩ := Option.map_eq_some_iff.mp h
      cases h2
      exact se_lst XO hl (saK_ok H h1 XO G)
    · cases h
  · cases h
def kDic (t : Bool) (iks ivs : List E) : Ck := mk fun c o ex => match iks, ivs, ex with
  | [], [], .Dict [] [] _ => some (o, .fresh)
  | [.tup []], [.con d], .Dict [some (.Tuple [] _ _)] [e] _ => if (t && conOk e d) = true then some (o, .fresh) else none
  | _, _, _ => none
theorem kDic_ok {T : Tab} {t : Bool} {iks ivs : List E} : Sd T (.dic t iks ivs) (kDic t iks ivs) := mk_ok fun c o ex o' m h Φ gl X W XO G => by
  split at h
  · cases h; exact se_dic0 XO
  · split at h
    · rename_i hc
      cases h
      rw [Bool.and_eq_true] at hc
      obtain ⟨rfl, hc⟩ := hc
      exact se_dic1 XO (con_ok hc)
    · cases h
  · cases h
def kIx (ia ib : E) (a b : Ck) : Ck := mk fun c o ex => match ex with
  | .Subscript l r _ => if (plainIx r && disj (pks ia) (tch ib)) = true then (a.e c o l).bind fun p1 => (b.e c p1.1 r).bind fun p2 => some (p2.1, .keep) else none
  | _ => none
theorem kIx_ok {T : Tab} {ia ib : E} {a b : Ck} (ha : Sd T ia a) (hb : Sd T ib b) : Sd T (.ix ia ib) (kIx ia ib a b) := mk_ok fun c o ex o' m h Φ gl X W XO G => by
  split at h
  · split at h
    · rename_i hc
      rw [Bool.and_eq_true] at hc
      obtain ⟨⟨o1, m1⟩, h1, h⟩ := Option.bind_eq_some_iff.mp h
      obtain ⟨⟨o2, m2⟩, h2, h⟩ := Option.bind_eq_some_iff.mp h
      cases h
      exact se_ix XO (nf_ne m1) (disj_ok hc.2) hc.1 (ha.e _ _ _ _ _ h1 XO G).nf (hb.e _ _ _ _ _ h2 XO G)
    · cases h
  · cases h
/-- a part of a slice -/
def soK (ir : E) (k : Ck) (c : Ctx) (o : List Bool) (e : Option Expr) : Bool := match e with
  | none => (match ir with | .con .non => true | _ => false)
  | some e => (match k.e c o e with | some (o', _) => decide (o' = o) | none => false)
theorem soK_ok {T : Tab} {ir : E} {k : Ck} (hk : Sd T ir k) {c : Ctx} {o : List Bool} {e : Option Expr} (h : soK ir k c o e = true) {Φ : Fns} {gl : Nat → PX.D} {X : Cx} {W : WX} (XO : XOk T Φ gl c X W) (G : Gh) : SO T Φ gl X c.io W G e ir o := by
  unfold soK at h
  split at h
  · split at h
    · exact so_none
    · cases h
  · split at h
    · rename_i o' m he
      have := of_decide_eq_true h
      subst this
      exact so_some XO (hk.e _ _ _ _ _ he XO G)
    · cases h
def kSlc (ia il ih : E) (a l h : Ck) : Ck := mk fun c o ex => match ex with
  | .Subscript e (.Slice lo hi none _) _ => if disj (pks ia) (tch il ++ tch ih) = true then (a.e c o e).bind fun p => if (soK il l c p.1 lo && soK ih h c p.1 hi) = true then some (p.1, .fresh) else none else none
  | _ => none
theorem kSlc_ok {T : Tab} {ia il ih : E} {a l h : Ck} (ha : Sd T ia a) (hl : Sd T il l) (hh : Sd T ih h) : Sd T (.slc ia il ih) (kSlc ia il ih a l h) := mk_ok fun c o ex o' m h Φ gl X W XO G => by
  split at h
  · split at h
    · rename_i hc
      obtain ⟨⟨o1, m1⟩, h1, h⟩ := Option.bind_eq_some_iff.mp h
      split at h
      · rename_i hs
        cases h
        rw [Bool.and_eq_true] at hs
        exact se_slc XO (nf_ne m1) (disj_ok hc) (ha.e _ _ _ _ _ h1 XO G).nf (soK_ok hl hs.1 XO G) (soK_ok hh hs.2 XO G)
      · cases h
    · cases h
  · cases h
def kGet2 (ia ik ix : E) (a k x : Ck) : Ck := mk fun c o ex => match ex with
  | .Call (.Attribute (.Name y py) m ap) [e, f] [] cp => if (decide (m = "get") && disj (pks ia) (tch ik ++ tch ix) && disj (pks ik) (tch ix) && notStar e && notStar f && (ap.endLine == cp.line)) = true then
      (a.e c o (.Name y py)).bind fun p1 => (k.e c p1.1 e).bind fun p2 => (x.e c p2.1 f).bind fun p3 => if p3.2 ≠ .peek then some (p3.1, .keep) else none else none
  | _ => none
theorem kGet2_ok {T : Tab} {ia ik ix : E} {a k x : Ck} (ha : Sd T ia a) (hk : Sd T ik k) (hx : Sd T ix x) : Sd T (.get2 ia ik ix) (kGet2 ia ik ix a k x) := mk_ok fun c o ex o' m h Φ gl X W XO G => by
  split at h
  · split at h
    · rename_i hc
      simp only [Bool.and_eq_true] at hc
      obtain ⟨⟨⟨⟨⟨h0, h1⟩, h2⟩, h3⟩, h4⟩, h5⟩ := hc
      obtain rfl := of_decide_eq_true h0
      obtain ⟨⟨o1, m1⟩, e1, h⟩ := Option.bind_eq_some_iff.mp h
      obtain ⟨⟨o2, m2⟩, e2, h⟩ := Option.bind_eq_some_iff.mp h
      obtain ⟨⟨o3, m3⟩, e3, h⟩ := Option.bind_eq_some_iff.mp h
      split at h
      · rename_i km
        cases h
        exact se_get2 (mx := .keep) XO (nf_ne m1) (disj_ok h1) h3 h4 h5 (nf_ne m2) (disj_ok h2) (ha.e _ _ _ _ _ e1 XO G).nf (hk.e _ _ _ _ _ e2 XO G).nf ((hx.e _ _ _ _ _ e3 XO G).toK km)
      · cases h
    · cases h
  · cases h
def callK (T : Tab) (f : Nat) (irs : List E) (ks : List Ck) (c : Ctx) (o : List Bool) (ex : Expr) : Option (List Bool × Md) := match ex, T.fn f with
  | .Call (.Name x _) (e :: es) [] _, some fi => if (decide (fi.name = x) && glb c x && notStar e && es.all notStar && ioOk fi.io irs && decide (irs.length = fi.ps.length)) = true then (scK irs ks c o (e :: es)).map fun o' => (o', if fi.fr = true then .fresh else .keep) else none
  | _, _ => none
theorem callK_ok {T : Tab} {f : Nat} {irs : List E} {ks : List Ck} (H : SdL T irs ks) {c : Ctx} {o o' : List Bool} {ex : Expr} {m : Md} (h : callK T f irs ks c o ex = some (o', m)) {Φ : Fns} {gl : Nat → PX.D} {X : Cx} {W : WX} (XO : XOk T Φ gl c X W) (G : Gh) :
    SE T Φ gl X c.io W G ex (.callF f irs) o o' m := by
  unfold callK at h
  split at h
  · rename_i fi hfi
    split at h
    · rename_i hc
      simp only [Bool.and_eq_true] at hc
      obtain ⟨⟨⟨⟨⟨h0, h1⟩, h2⟩, h3⟩, h4⟩, h5⟩ := hc
      obtain ⟨o1, e1, e2⟩ := Option.map_eq_some_iff.mp h
      cases e2
      obtain ⟨g1, g2⟩ := glb_ok XO h1
      exact se_call XO hfi (of_decide_eq_true h0) g1 g2 h2 h3 h4 (of_decide_eq_true h5) (scK_ok H e1 XO G)
    · cases h
  · cases h
def kCallF (T : Tab) (f : Nat) (irs : List E) (ks : List Ck) : Ck := mk (callK T f irs ks)
theorem kCallF_ok {T : Tab} {f : Nat} {irs : List E} {ks : List Ck} (H : SdL T irs ks) : Sd T (.callF f irs) (kCallF T f irs ks) := mk_ok fun c o ex o' m h Φ gl X W XO G => callK_ok H h XO G
/-- a new thing is given away -/
def tmpK (T : Tab) (f : Nat) (irs : List E) (ks : List Ck) (c : Ctx) (o : List Bool) (ex : Expr) : Option (List Bool × Md) := match irs, ks, ex, T.fn f with
  | [.tmp _], [k], .Call (.Name x _) [e] [] _, some fi => if (decide (fi.name = x) && glb c x && notStar e && decide (fi.io = some 0) && decide (fi.ps.length = 1) && !fi.fr) = true then (k.e c o e).bind fun p => if p.2 = .fresh then some (p.1, .keep) else none else none
  | _, _, _, _ => none
def callAny (T : Tab) (f : Nat) (irs : List E) (ks : List Ck) (c : Ctx) (o : List Bool) (ex : Expr) : Option (List Bool × Md) := match tmpK T f irs ks c o ex with
  | some r => some r
  | none => callK T f irs ks c o ex
def kCall (T : Tab) (f : Nat) (irs : List E) (ks : List Ck) : Ck := mk (callAny T f irs ks)
theorem kCall_ok {T : Tab} {f : Nat} {irs : List E} {ks : List Ck} (H : SdL T irs ks) : Sd T (.call f irs) (kCall T f irs ks) := mk_ok fun c o ex o' m h Φ gl X W XO G => by
  unfold callAny at h
  split at h
  · rename_i r hr
    cases h
    unfold tmpK at hr
    split at hr
    · rename_i ia k x _ e _ fi hfi
      split at hr
      · rename_i hc
        simp only [Bool.and_eq_true, Bool.not_eq_true'] at hc
        obtain ⟨⟨⟨⟨⟨h0, h1⟩, h2⟩, h3⟩, h4⟩, h5⟩ := hc
        obtain ⟨⟨o1, m1⟩, e1, h⟩ := Option.bind_eq_some_iff.mp hr
        split at h
        · rename_i km
          cases h
          have km : m1 = .fresh := km
          subst km
          obtain ⟨g1, g2⟩ := glb_ok XO h1
          cases H with
          | cons hk _ => exact se_callT XO hfi (of_decide_eq_true h0) g1 g2 h2 (of_decide_eq_true h3) (of_decide_eq_true h4) h5 (by
              have := hk.e _ _ _ _ _ e1 XO G
              exact this)
        · cases h
      · cases hr
    · cases hr
  · have := callK_ok H h XO G
    exact this
def kTmp (k : Ck) : Ck := mk fun c o ex => (k.e c o ex).bind fun p => if p.2 = .fresh then some (p.1, .fresh) else none
theorem kTmp_ok {T : Tab} {ia : E} {k : Ck} (hk : Sd T ia k) : Sd T (.tmp ia) (kTmp k) := mk_ok fun c o ex o' m h Φ gl X W XO G => by
  obtain ⟨⟨o1, m1⟩, e1, h⟩ := Option.bind_eq_some_iff.mp h
  split at h
  · rename_i km
    cases h
    have km : m1 = .fresh := km
    subst km
    exact hk.e _ _ _ _ _ e1 XO G
  · cases h
def kNo : Ck := mk fun _ _ _ => none
theorem kNo_ok {T : Tab} {ir : E} : Sd T ir kNo := mk_ok fun c o ex o' m h => by cases h
def kBi (T : Tab) (b : Bi) (irs : List E) (ks : List Ck) : Ck := mk fun c o ex => match ex with
  | .Call (.Name x _) args [] _ => (match biNm b, args with
    | some (y, _, _), e :: es => if (decide (x = y) && glb c x && T.frees.contains x && notStar e && es.all notStar) = true then (spK irs ks c o (e :: es)).map fun o' => (o', .fresh) else none
    | none, [e, .Name z _] => (match isT b, irs, ks with
      | some (n, _), [_], [k] => if (decide (x = "isinstance") && decide (z = .ofString n) && glb c x && glb c z && T.frees.contains x && T.frees.contains z && notStar e) = true then (k.e c o e).map fun p => (p.1, .fresh) else none
      | _, _, _ => none)
    | _, _ => none)
  | _ => none
theorem mem_of {x : Str} {xs : List Str} (h : xs.contains x = true) : x ∈ xs := by simpa using h
theorem kBi_ok {T : Tab} {b : Bi} {irs : List E} {ks : List Ck} (H : SdL T irs ks) : Sd T (.bi b irs) (kBi T b irs ks) := mk_ok fun c o ex o' m h Φ gl X W XO G => by
  split at h
  · split at h
    · rename_i hb
      split at h
      · rename_i hc
        simp only [Bool.and_eq_true] at hc
        obtain ⟨⟨⟨⟨h0, h1⟩, h2⟩, h3⟩, h4⟩ := hc
        obtain ⟨o1, e1, e2⟩ := Option.map_eq_some_iff.mp h
        cases e2
        obtain rfl := of_decide_eq_true h0
        exact se_bi XO hb (glb_ok XO h1).1 (mem_of h2) h3 h4 (spK_ok H e1 XO G)
      · cases h
    · split at h
      · rename_i n f i1 k1 hi
        split at h
        · rename_i hc
          simp only [Bool.and_eq_true] at hc
          obtain ⟨⟨⟨⟨⟨⟨h0, h1⟩, h2⟩, h3⟩, h4⟩, h5⟩, h6⟩ := hc
          obtain ⟨⟨o1, m1⟩, e1, e2⟩ := Option.map_eq_some_iff.mp h
          cases e2
          obtain rfl := of_decide_eq_true h0
          cases H with
          | cons hk _ => exact se_isi XO hi (of_decide_eq_true h1) (glb_ok XO h2).1 (mem_of h4) (glb_ok XO h3).1 (mem_of h5) h6 (hk.e _ _ _ _ _ e1 XO G).nf (nf_ne m1)
        · cases h
      · cases h
    · cases h
  · cases h
def kPop (i : Nat) (irs : List E) (ks : List Ck) : Ck := mk fun c o ex => match ex with
  | .Call (.Attribute (.Name y py) m ap) args [] cp => if (decide (m = "pop") && nmOk c i (.Name y py) && ow o i && (ap.endLine == cp.line)) = true then (match args, irs, ks with
    | [], [], [] => some (o, .keep)
    | [e], [ie], [k] => if (notStar e && !(tch ie).contains i) = true then (k.e c o e).bind fun p => if p.2 ≠ .peek then some (p.1, .keep) else none else none
    | _, _, _ => none) else none
  | _ => none
theorem kPop_ok {T : Tab} {i : Nat} {irs : List E} {ks : List Ck} (H : SdL T irs ks) : Sd T (.pop i irs) (kPop i irs ks) := mk_ok fun c o ex o' m h Φ gl X W XO G => by
  split at h
  · split at h
    · rename_i hc
      simp only [Bool.and_eq_true] at hc
      obtain ⟨⟨⟨h0, h1⟩, h2⟩, h3⟩ := hc
      obtain rfl := of_decide_eq_true h0
      unfold nmOk at h1
      rw [Bool.and_eq_true] at h1
      split at h
      · cases h
        exact se_pop0 XO (of_decide_eq_true h1.1) h1.2 h2 h3
      · split at h
        · rename_i hn
          rw [Bool.and_eq_true, Bool.not_eq_true'] at hn
          obtain ⟨⟨o1, m1⟩, e1, h⟩ := Option.bind_eq_some_iff.mp h
          split at h
          · rename_i km
            cases h
            cases H with
            | cons hk _ => exact se_pop1 XO (of_decide_eq_true h1.1) h1.2 h2 h3 hn.1 (by simpa using hn.2) ((hk.e _ _ _ _ _ e1 XO G).toK km)
          · cases h
        · cases h
      · cases h
    · cases h
  · cases h
mutual
def tgK (c : Ctx) (o : List Bool) (is : List Nat) : Tg → Expr → Bool
  | .nm i, .Name x _ => decide (c.N[i]? = some x) && sto c x && !ow o i && is.contains i && !c.io.contains i
  | .tp ts, .Tuple es _ _ => es.all notStar && decide (es.length = ts.length) && tgsK c o is ts es
  | _, _ => false
def tgsK (c : Ctx) (o : List Bool) (is : List Nat) : List Tg → List Expr → Bool
  | [], [] => true
  | t :: ts, e :: es => notStar e && tgK c o is t e && tgsK c o is ts es
  | _, _ => false
end
mutual
theorem tgK_ok {T : Tab} {c : Ctx} {o : List Bool} {is : List Nat} : ∀ {t : Tg} {e : Expr}, tgK c o is t e = true → ∀ {Φ : Fns} {gl : Nat → PX.D} {X : Cx} {W : WX}, XOk T Φ gl c X W → PG X e (tTg X c.io o is t)
  | .nm i, e, h, Φ, gl, X, W, XO => by
    cases e with
    | Name x pos =>
      have h : (decide (c.N[i]? = some x) && sto c x && !ow o i && is.contains i && !c.io.contains i) = true := by simpa [tgK] using h
      simp only [Bool.and_eq_true, Bool.not_eq_true'] at h
      obtain ⟨⟨⟨⟨h1, h2⟩, h3⟩, h4⟩, h5⟩ := h
      exact pg_nm XO (of_decide_eq_true h1) h2 h3 (by simpa using h4) (by simpa using h5)
    | _ => simp [tgK] at h
  | .tp ts, e, h, Φ, gl, X, W, XO => by
    cases e with
    | Tuple es k pos =>
      have h : (es.all notStar && decide (es.length = ts.length) && tgsK c o is ts es) = true := by simpa [tgK] using h
      simp only [Bool.and_eq_true] at h
      obtain ⟨⟨h1, h2⟩, h3⟩ := h
      exact pg_tp XO h1 (of_decide_eq_true h2) (tgsK_ok h3 XO)
    | _ => simp [tgK] at h
theorem tgsK_ok {T : Tab} {c : Ctx} {o : List Bool} {is : List Nat} : ∀ {ts : List Tg} {es : List Expr}, tgsK c o is ts es = true → ∀ {Φ : Fns} {gl : Nat → PX.D} {X : Cx} {W : WX}, XOk T Φ gl c X W → PGs X es (tTgs X c.io o is ts)
  | [], es, h, Φ, gl, X, W, XO => by
    cases es with
    | nil => exact pg_nil XO
    | cons _ _ => simp [tgsK] at h
  | t :: ts, es, h, Φ, gl, X, W, XO => by
    cases es with
    | nil => simp [tgsK] at h
    | cons e es =>
      have h : (notStar e && tgK c o is t e && tgsK c o is ts es) = true := by simpa [tgsK] using h
      simp only [Bool.and_eq_true] at h
      exact pg_cons XO h.1.1 (tgK_ok h.1.2 XO) (tgsK_ok h.2 XO)
end
def itK (T : Tab) (ik : IK) (irs : List E) (ks : List Ck) (c : Ctx) (o : List Bool) (tgE iter : Expr) : Option (List Bool) := match ik with
  | .seq => (match irs, ks with
    | [_], [k] => if noSet iter = true then (k.e c o iter).map (·.1) else none
    | _, _ => none)
  | .range => (match iter with
    | .Call (.Name x _) args [] _ => if (decide (x = "range") && glb c x && T.frees.contains x && args.all notStar) = true then (match irs, args with
      | [_], [_] => spK irs ks c o args
      | [_, _], [_, _] => spK irs ks c o args
      | _, _ => none) else none
    | _ => none)
  | .zip => (match tgE, iter with
    | .Tuple _ _ _, .Call (.Name x _) args [] _ => if (decide (x = "zip") && glb c x && T.frees.contains x && args.all notStar) = true then (match irs, args with
      | [_, _], [_, _] => spK irs ks c o args
      | _, _ => none) else none
    | _, _ => none)
  | .enum => (match tgE, iter with
    | .Tuple _ _ _, .Call (.Name x _) args [] _ => if (decide (x = "enumerate") && glb c x && T.frees.contains x && args.all notStar) = true then (match irs, args with
      | [_], [_] => spK irs ks c o args
      | _, _ => none) else none
    | _, _ => none)
  | _ => none
theorem itK_ok {T : Tab} {ik : IK} {irs : List E} {ks : List Ck} (H : SdL T irs ks) {c : Ctx} {o o' : List Bool} {tgE iter : Expr} (h : itK T ik irs ks c o tgE iter = some o') {Φ : Fns} {gl : Nat → PX.D} {X : Cx} {W : WX} (XO : XOk T Φ gl c X W) (G : Gh) :
    SI T Φ gl X c.io W G tgE iter ik irs o o' ∧ (∀ x, foldedSetIterable iter X.env x = pure x) ∧ ∀ r : PX.R Out, nox ik r = r := by
  unfold itK at h
  split at h
  · split at h
    · split at h
      · rename_i hn
        obtain ⟨⟨o1, m1⟩, e1, e2⟩ := Option.map_eq_some_iff.mp h
        cases e2
        cases H with
        | cons hk hr =>
          exact ⟨si_seq XO (nf_ne m1) (hk.e _ _ _ _ _ e1 XO G).nf, fun x => by cases iter <;> first | rfl | exact absurd hn Bool.false_ne_true, fun _ => rfl⟩
      · cases h
    · cases h
  · split at h
    · split at h
      · rename_i hc
        simp only [Bool.and_eq_true] at hc
        obtain ⟨⟨⟨h0, h1⟩, h2⟩, h3⟩ := hc
        obtain rfl := of_decide_eq_true h0
        split at h
        · simp only [List.all_cons, Bool.and_eq_true] at h3
          exact ⟨si_range1 XO (glb_ok XO h1).1 (mem_of h2) h3.1 (spK_ok H h XO G), fun _ => rfl, fun _ => rfl⟩
        · simp only [List.all_cons, Bool.and_eq_true] at h3
          exact ⟨si_range2 XO (glb_ok XO h1).1 (mem_of h2) h3.1 h3.2.1 (spK_ok H h XO G), fun _ => rfl, fun _ => rfl⟩
        · cases h
      · cases h
    · cases h
  · split at h
    · split at h
      · rename_i hc
        simp only [Bool.and_eq_true] at hc
        obtain ⟨⟨⟨h0, h1⟩, h2⟩, h3⟩ := hc
        obtain rfl := of_decide_eq_true h0
        split at h
        · simp only [List.all_cons, Bool.and_eq_true] at h3
          exact ⟨si_zip XO (glb_ok XO h1).1 (mem_of h2) h3.1 h3.2.1 (spK_ok H h XO G), fun _ => rfl, fun _ => rfl⟩
        · cases h
      · cases h
    · cases h
  · split at h
    · split at h
      · rename_i hc
        simp only [Bool.and_eq_true] at hc
        obtain ⟨⟨⟨h0, h1⟩, h2⟩, h3⟩ := hc
        obtain rfl := of_decide_eq_true h0
        split at h
        · simp only [List.all_cons, Bool.and_eq_true] at h3
          exact ⟨si_enum XO (glb_ok XO h1).1 (mem_of h2) h3.1 (spK_ok H h XO G), fun _ => rfl, fun _ => rfl⟩
        · cases h
      · cases h
    · cases h
  · cases h
end PX
end
section
set_option Elab.async false
set_option linter.all false
set_option maxRecDepth 100000
set_option maxHeartbeats 4000000
namespace PX
open PySem L2
def ownNm (N : List Str) (own : List Nat) : List (Str × Nat) := own.map fun i => ((N[i]?).getD default, i)
theorem ownNm_snd (N : List Str) (own : List Nat) : (ownNm N own).map (·.2) = own := by
  unfold ownNm
  rw [List.map_map]
  exact List.map_id' own
def blkB (N : List Str) (sc scope : Scope) (own : List Nat) : Bool :=
  decide (scope.kind = .function) && (scope.names.all fun y => decide (scope.names.lookup y.1 = some y.2)) && (own.all fun i => decide (i < N.length)) &&
    (scope.names.all fun y => !decide (y.2 = .free) || decide (sc.names.lookup y.1 = some .cell) || decide (sc.names.lookup y.1 = some .free)) &&
    (scope.names.all fun y => (!decide (y.2 = .local) && !decide (y.2 = .cell)) || ((ownNm N own).map (·.1)).contains y.1 || !N.contains y.1)
theorem blkB_ok {N : List Str} {sc scope : Scope} {own : List Nat} (h : blkB N sc scope own = true) : BlkOk N sc scope (ownNm N own) := by
  unfold blkB at h
  simp only [Bool.and_eq_true] at h
  obtain ⟨⟨⟨⟨h1, h2⟩, h3⟩, h4⟩, h5⟩ := h
  refine ⟨of_decide_eq_true h1, fun y hy => of_decide_eq_true (List.all_eq_true.mp h2 y hy), fun p hp => ?_, fun y hy hf => ?_, fun y hy hl => ?_⟩
  · unfold ownNm at hp
    obtain ⟨i, hi, rfl⟩ := List.mem_map.mp hp
    have lt := of_decide_eq_true (List.all_eq_true.mp h3 i hi)
    show N[i]? = some ((N[i]?).getD default)
    rw [List.getElem?_eq_getElem lt]; rfl
  · have := List.all_eq_true.mp h4 y hy
    rw [hf] at this
    simp only [decide_true, Bool.not_true, Bool.false_or, Bool.or_eq_true, decide_eq_true_eq] at this
    exact this
  · have := List.all_eq_true.mp h5 y hy
    simp only [Bool.or_eq_true, Bool.and_eq_true, Bool.not_eq_true', decide_eq_false_iff_not] at this
    rcases this with (⟨q1, q2⟩ | q) | q
    · rcases hl with z | z
      · exact absurd z q1
      · exact absurd z q2
    · exact .inl (by simpa using q)
    · exact .inr (by simpa using q)
/-- the tests of a clause -/
def ifK : List Ck → Ctx → List Bool → List Expr → Bool
  | [], _, _, [] => true
  | [k], c, o, [e] => (match k.t c o e with | some o' => decide (o' = o) | none => false)
  | _, _, _, _ => false
theorem ifK_ok {T : Tab} {irs : List E} {ks : List Ck} (H : SdL T irs ks) {c : Ctx} {o : List Bool} {es : List Expr} (h : ifK ks c o es = true) {Φ : Fns} {gl : Nat → PX.D} {X : Cx} {W : WX} (XO : XOk T Φ gl c X W) (G : Gh) : SIf T Φ gl X c.io W G es irs o o := by
  cases H with
  | nil =>
    cases es with
    | nil => exact sif_nil
    | cons _ _ => cases h
  | @cons i irs k ks hk hr =>
    cases hr with
    | cons _ _ => cases es <;> cases h
    | nil =>
      cases es with
      | nil => cases h
      | cons e es =>
        cases es with
        | cons _ _ => cases h
        | nil =>
          have h : (match k.t c o e with | some o' => decide (o' = o) | none => false) = true := h
          split at h
          · rename_i o' he
            have := of_decide_eq_true h
            subst this
            exact sif_one (hk.t _ _ _ _ he XO G)
          · cases h
/-- what a comprehension's block must be -/
def bodyK (c : Ctx) (scope : Scope) (own : List Nat) (o : List Bool) (tgE : Expr) (tg : Tg) (ifs : List Expr) (kifs : List Ck) (elt : Expr) (kelt : Ck) : Bool :=
  tgK (blkC c scope) o own tg tgE && ifK kifs (blkC c scope) o ifs && (match kelt.e (blkC c scope) o elt with | some (o', m) => decide (o' = o) && decide (m ≠ .peek) | none => false)
theorem bodyK_ok {T : Tab} {c : Ctx} {scope : Scope} {own : List Nat} {o : List Bool} {tgE : Expr} {tg : Tg} {ifs : List Expr} {ifsI : List E} {kifs : List Ck} {elt : Expr} {eltI : E} {kelt : Ck} (Hi : SdL T ifsI kifs) (He : Sd T eltI kelt)
    (h : bodyK c scope own o tgE tg ifs kifs elt kelt = true) {Φ : Fns} {gl : Nat → PX.D} {K : PySem.W.Frag} : BodyOk T Φ gl c K scope own o tgE tg ifs ifsI elt eltI := by
  unfold bodyK at h
  simp only [Bool.and_eq_true] at h
  obtain ⟨⟨h1, h2⟩, h3⟩ := h
  intro Xb hK XO
  refine ⟨tgK_ok h1 XO, fun G => ifK_ok Hi h2 XO G, fun G => ?_⟩
  split at h3
  · rename_i o' m he
    rw [Bool.and_eq_true] at h3
    have := of_decide_eq_true h3.1
    subst this
    exact (He.e _ _ _ _ _ he XO G).toK (of_decide_eq_true h3.2)
  · cases h3
def compK (T : Tab) (own : List Nat) (tg : Tg) (ik : IK) (its ifsI : List E) (eltI : E) (kits kifs : List Ck) (kelt : Ck) (c : Ctx) (o : List Bool) (ex : Expr) : Option (List Bool × Md) := match ex with
  | .ListComp elt [⟨tgE, iter, ifs, 0⟩] scope _ =>
    if (blkB c.N c.sc scope own && (tgsOf tg).all own.contains && (own.all fun i => !c.io.contains i)) = true then (match ik, its, iter with
      | .keys, [.pk i], .Name y py => if (nmOk c i (.Name y py) && !ow o i && (own.all fun j => !ow o j) && bodyK c scope own o tgE tg ifs kifs elt kelt) = true then some (o, .fresh) else none
      | _, _, _ => (itK T ik its kits c o tgE iter).bind fun o1 => if ((own.all fun j => !ow o1 j) && disj (pksL its) (own ++ (tchs ifsI ++ tch eltI)) && bodyK c scope own o1 tgE tg ifs kifs elt kelt) = true then some (o1, .fresh) else none) else none
  | _ => none
def kComp (T : Tab) (own : List Nat) (tg : Tg) (ik : IK) (its ifsI : List E) (eltI : E) (kits kifs : List Ck) (kelt : Ck) : Ck := mk (compK T own tg ik its ifsI eltI kits kifs kelt)
theorem all_ow {own : List Nat} {o : List Bool} (h : (own.all fun j => !ow o j) = true) : ∀ i ∈ own, ow o i = false := fun i hi => by
  have := List.all_eq_true.mp h i hi
  simpa using this
/-- what the check of a comprehension tells -/
structure CompOk (T : Tab) (own : List Nat) (c : Ctx) (scope : Scope) (tg : Tg) : Prop where
  blk : BlkOk c.N c.sc scope (ownNm c.N own)
  tgs : ∀ i ∈ tgsOf tg, i ∈ own
  io : ∀ i ∈ own, i ∉ c.io
theorem compOk_of {T : Tab} {own : List Nat} {c : Ctx} {scope : Scope} {tg : Tg} (h : (blkB c.N c.sc scope own && (tgsOf tg).all own.contains && (own.all fun i => !c.io.contains i)) = true) : CompOk T own c scope tg := by
  simp only [Bool.and_eq_true] at h
  obtain ⟨⟨h1, h2⟩, h3⟩ := h
  refine ⟨blkB_ok h1, fun i hi => by simpa using List.all_eq_true.mp h2 i hi, fun i hi => by simpa using List.all_eq_true.mp h3 i hi⟩
theorem kComp_ok {T : Tab} {own : List Nat} {tg : Tg} {ik : IK} {its ifsI : List E} {eltI : E} {kits kifs : List Ck} {kelt : Ck} (H1 : SdL T its kits) (H2 : SdL T ifsI kifs) (H3 : Sd T eltI kelt) : Sd T (.comp own tg ik its ifsI eltI) (kComp T own tg ik its ifsI eltI kits kifs kelt) := mk_ok fun c o ex o' m h Φ gl X W XO G => by
  unfold compK at h
  split at h
  · split at h
    · rename_i elt tgE iter ifs scope pos hc
      have CO := compOk_of (T := T) hc
      have ns := ownNm_snd c.N own
      split at h
      · rename_i i y py
        split at h
        · rename_i hk
          cases h
          simp only [Bool.and_eq_true, Bool.not_eq_true'] at hk
          obtain ⟨⟨⟨k1, k2⟩, k3⟩, k4⟩ := hk
          unfold nmOk at k1
          rw [Bool.and_eq_true] at k1
          have r := se_compK (pos := pos) (py := py) (ownN := ownNm c.N own) (G := G) (o := o) (gl := gl) (tgE := tgE) (elt := elt) (ifs := ifs) (tg := tg) (ifsI := ifsI) (eltI := eltI) XO (of_decide_eq_true k1.1) k1.2 k2 CO.blk (by rw [ns]; exact CO.tgs) (by rw [ns]; exact all_ow k3) (by rw [ns]; exact CO.io) (by rw [ns]; exact bodyK_ok H2 H3 k4)
          rw [ns] at r
          exact r
        · cases h
      · obtain ⟨o1, e1, h⟩ := Option.bind_eq_some_iff.mp h
        split at h
        · rename_i hk
          cases h
          simp only [Bool.and_eq_true] at hk
          obtain ⟨⟨k1, k2⟩, k3⟩ := hk
          obtain ⟨si, hf, _⟩ := itK_ok H1 e1 XO G
          have r := se_comp (pos := pos) (ownN := ownNm c.N own) (tg := tg) XO si CO.blk (by rw [ns]; exact CO.tgs) (by rw [ns]; exact all_ow k1) (by rw [ns]; exact CO.io) (by rw [ns]; exact disj_ok k2) hf (by rw [ns]; exact bodyK_ok H2 H3 k3)
          rw [ns] at r
          exact r
        · cases h
    · cases h
  · cases h
mutual
def chk (T : Tab) : E → Ck
  | .con d => kCon d
  | .var i => kVar i
  | .pk i => kPk i
  | .io _ => kNo
  | .tmp e => kTmp (chk T e)
  | .gl k => kGl T k
  | .bin op a b => kBin op a b (chk T a) (chk T b)
  | .neg a => kNeg (chk T a)
  | .not a => kNot (chk T a)
  | .cmp op a b => kCmp op a b (chk T a) (chk T b)
  | .chn p q a b d => kChn p q a b d (chk T a) (chk T b) (chk T d)
  | .and a b => kCh true (chk T a) (chk T b)
  | .or a b => kCh false (chk T a) (chk T b)
  | .ite t a b => kIte (chk T t) (chk T a) (chk T b)
  | .tup es => kTup es.length (chks T es)
  | .lst es => kLst es.length (chks T es)
  | .dic t ks vs => kDic t ks vs
  | .ix a i => kIx a i (chk T a) (chk T i)
  | .slc a l h => kSlc a l h (chk T a) (chk T l) (chk T h)
  | .get2 a k x => kGet2 a k x (chk T a) (chk T k) (chk T x)
  | .call f es => kCall T f es (chks T es)
  | .callF f es => kCallF T f es (chks T es)
  | .bi b es => kBi T b es (chks T es)
  | .comp own tg ik its ifs elt => kComp T own tg ik its ifs elt (chks T its) (chks T ifs) (chk T elt)
  | .pop i es => kPop i es (chks T es)
def chks (T : Tab) : List E → List Ck
  | [] => []
  | e :: es => chk T e :: chks T es
end
mutual
theorem chk_ok (T : Tab) : ∀ ir, Sd T ir (chk T ir)
  | .con d => by rw [chk]; exact kCon_ok
  | .var i => by rw [chk]; exact kVar_ok
  | .pk i => by rw [chk]; exact kPk_ok
  | .io _ => by rw [chk]; exact kNo_ok
  | .tmp e => by rw [chk]; exact kTmp_ok (chk_ok T e)
  | .gl k => by rw [chk]; exact kGl_ok
  | .bin op a b => by rw [chk]; exact kBin_ok (chk_ok T a) (chk_ok T b)
  | .neg a => by rw [chk]; exact kNeg_ok (chk_ok T a)
  | .not a => by rw [chk]; exact kNot_ok (chk_ok T a)
  | .cmp op a b => by rw [chk]; exact kCmp_ok (chk_ok T a) (chk_ok T b)
  | .chn p q a b d => by rw [chk]; exact kChn_ok (chk_ok T a) (chk_ok T b) (chk_ok T d)
  | .and a b => by rw [chk]; exact kCh_ok (b := true) (chk_ok T a) (chk_ok T b)
  | .or a b => by rw [chk]; exact kCh_ok (b := false) (chk_ok T a) (chk_ok T b)
  | .ite t a b => by rw [chk]; exact kIte_ok (chk_ok T t) (chk_ok T a) (chk_ok T b)
  | .tup es => by rw [chk]; exact kTup_ok (chks_ok T es)
  | .lst es => by rw [chk]; exact kLst_ok (chks_ok T es)
  | .dic t ks vs => by rw [chk]; exact kDic_ok
  | .ix a i => by rw [chk]; exact kIx_ok (chk_ok T a) (chk_ok T i)
  | .slc a l h => by rw [chk]; exact kSlc_ok (chk_ok T a) (chk_ok T l) (chk_ok T h)
  | .get2 a k x => by rw [chk]; exact kGet2_ok (chk_ok T a) (chk_ok T k) (chk_ok T x)
  | .call f es => by rw [chk]; exact kCall_ok (chks_ok T es)
  | .callF f es => by rw [chk]; exact kCallF_ok (chks_ok T es)
  | .bi b es => by rw [chk]; exact kBi_ok (chks_ok T es)
  | .comp own tg ik its ifs elt => by rw [chk]; exact kComp_ok (chks_ok T its) (chks_ok T ifs) (chk_ok T elt)
  | .pop i es => by rw [chk]; exact kPop_ok (chks_ok T es)
theorem chks_ok (T : Tab) : ∀ irs, SdL T irs (chks T irs)
  | [] => by rw [chks]; exact .nil
  | e :: es => by rw [chks]; exact .cons (chk_ok T e) (chks_ok T es)
end
end PX
end
section
set_option Elab.async false
set_option linter.all false
set_option maxRecDepth 100000
set_option maxHeartbeats 4000000
namespace PX
open PySem L2
abbrev SRes := Option (Option (List Bool))
/-- where two ways meet -/
def meet (a b : List Bool) : List Bool := List.zipWith (· && ·) a b
def SdS (T : Tab) (ir : S) (f : Ctx → List Bool → Stmt → SRes) : Prop := ∀ c o s, ∀ {Φ gl X W}, XOk T Φ gl c X W → ∀ G,
  (∀ o', f c o s = some (some o') → SS T Φ gl X c W G s ir o o') ∧ (f c o s = some none → ∀ o2, SS T Φ gl X c W G s ir o o2)
def SdSs (T : Tab) (irs : List S) (f : Ctx → List Bool → List Stmt → SRes) : Prop := ∀ c o s, ∀ {Φ gl X W}, XOk T Φ gl c X W → ∀ G,
  (∀ o', f c o s = some (some o') → SSs T Φ gl X c W G s irs o o') ∧ (f c o s = some none → ∀ o2, SSs T Φ gl X c W G s irs o o2)
def goOn (x : Option (List Bool)) : SRes := x.map some
/-- checks that always come to an end -/
theorem SdS.plain {T : Tab} {ir : S} {f : Ctx → List Bool → Stmt → Option (List Bool)} (h : ∀ c o s o', f c o s = some o' → ∀ {Φ gl X W}, XOk T Φ gl c X W → ∀ G, SS T Φ gl X c W G s ir o o') : SdS T ir (fun c o s => goOn (f c o s)) := fun c o s Φ gl X W XO G => by
  refine ⟨fun o' e => ?_, fun e => ?_⟩
  · obtain ⟨z, h1, h2⟩ := Option.map_eq_some_iff.mp (show (f c o s).map some = some (some o') from e)
    cases h2; exact h c o s _ h1 XO G
  · obtain ⟨z, h1, h2⟩ := Option.map_eq_some_iff.mp (show (f c o s).map some = some none from e)
    cases h2
def fnK (c : Ctx) : Bool := decide (c.sc.kind = .function)
def setK (T : Tab) (i : Nat) (ie : E) (c : Ctx) (o : List Bool) (s : Stmt) : Option (List Bool) := match s with
  | .Assign [.Name x p] e _ => if (decide (c.N[i]? = some x) && sto c x && !c.io.contains i && fnK c && noSC e) = true then
      if swC c e x p = true then (match ie, e with
        | .comp own tg ik its ifsI eltI, .ListComp elt [⟨tgE, iter, ifs, 0⟩] scope _ =>
          if (blkB c.N c.sc scope own && (tgsOf tg).all own.contains && (own.all fun i => !c.io.contains i)) = true then
            (itK T ik its (chks T its) c o tgE iter).bind fun o1 => if ((own.all fun j => !ow o1 j) && disj (pksL its) (own ++ (tchs ifsI ++ tch eltI)) && bodyK c scope own o1 tgE tg ifs (chks T ifsI) elt (chk T eltI) && decide (i < o1.length)) = true then some (o1.set i true) else none else none
        | _, _ => none)
      else ((chk T ie).e c o e).bind fun q => match q.2 with
        | .peek => none
        | .keep => some (q.1.set i false)
        | .fresh => if i < q.1.length then some (q.1.set i true) else none
    else none
  | _ => none
theorem swC_loc {c : Ctx} {e : Expr} {x : Str} {p : Pos} (h : swC c e x p = true) : c.sc.names.lookup x = some .local := by
  unfold swC at h
  split at h
  · simp only [Bool.and_eq_true] at h
    exact of_decide_eq_true h.1.1
  · cases h
theorem setK_ok {T : Tab} {i : Nat} {ie : E} : ∀ c o s o', setK T i ie c o s = some o' → ∀ {Φ gl X W}, XOk T Φ gl c X W → ∀ G, SS T Φ gl X c W G s (.set i ie) o o' := fun c o s o' h Φ gl X W XO G => by
  unfold setK at h
  split at h
  · split at h
    · rename_i x p e pos hc
      simp only [Bool.and_eq_true, Bool.not_eq_true'] at hc
      obtain ⟨⟨⟨⟨h1, h2⟩, h3⟩, h4⟩, h5⟩ := hc
      have h1 := of_decide_eq_true h1
      have h4 := of_decide_eq_true (show decide (c.sc.kind = .function) = true from h4)
      have h3 : i ∉ c.io := by simpa using h3
      split at h
      · rename_i hw
        split at h
        · rename_i own tg ik its ifsI eltI elt tgE iter ifs scope cp
          split at h
          · rename_i hb
            have CO := compOk_of (T := T) hb
            have ns := ownNm_snd c.N own
            obtain ⟨o1, e1, h⟩ := Option.bind_eq_some_iff.mp h
            split at h
            · rename_i hk
              cases h
              simp only [Bool.and_eq_true] at hk
              obtain ⟨⟨⟨k1, k2⟩, k3⟩, k4⟩ := hk
              obtain ⟨si, hf, _⟩ := itK_ok (chks_ok T its) e1 XO G
              have r := ss_setCO (pos := cp) (spos := pos) (ownN := ownNm c.N own) (tg := tg) XO h1 (swC_loc hw) h4 hw h3 (of_decide_eq_true k4) si CO.blk (by rw [ns]; exact CO.tgs) (by rw [ns]; exact all_ow k1) (by rw [ns]; exact CO.io) (by rw [ns]; exact disj_ok k2) hf (by rw [ns]; exact bodyK_ok (chks_ok T ifsI) (chk_ok T eltI) k3)
              rw [ns] at r
              exact r
            · cases h
          · cases h
        · cases h
      · rename_i hw
        have hw : swC c e x p = false := by simpa using hw
        obtain ⟨⟨o1, m1⟩, e1, h⟩ := Option.bind_eq_some_iff.mp h
        have se := (chk_ok T ie).e _ _ _ _ _ e1 XO G
        cases m1 with
        | peek => cases h
        | keep => cases h; exact ss_setS XO h1 h2 h3 h4 h5 hw se
        | fresh =>
          have h : (if i < o1.length then some (o1.set i true) else none) = some o' := h
          split at h
          · rename_i hl
            cases h; exact ss_setO XO h1 h2 h3 hl h4 h5 hw se
          · cases h
    · cases h
  · cases h
def tsetK (T : Tab) (ts : List Tg) (ie : E) (c : Ctx) (o : List Bool) (s : Stmt) : Option (List Bool) := match s with
  | .Assign [.Tuple es k tp] e _ => if noTup e = true then ((chk T ie).e c o e).bind fun q => if (decide (q.2 ≠ .peek) && tgK c q.1 (tgsOfs ts) (.tp ts) (.Tuple es k tp) && (tgsOfs ts).all fun j => !ow q.1 j) = true then some q.1 else none else none
  | _ => none
theorem tsetK_ok {T : Tab} {ts : List Tg} {ie : E} : ∀ c o s o', tsetK T ts ie c o s = some o' → ∀ {Φ gl X W}, XOk T Φ gl c X W → ∀ G, SS T Φ gl X c W G s (.tset ts ie) o o' := fun c o s o' h Φ gl X W XO G => by
  unfold tsetK at h
  split at h
  · split at h
    · rename_i hn
      obtain ⟨⟨o1, m1⟩, e1, h⟩ := Option.bind_eq_some_iff.mp h
      split at h
      · rename_i hc
        cases h
        simp only [Bool.and_eq_true] at hc
        obtain ⟨⟨h1, h2⟩, h3⟩ := hc
        exact ss_tset XO hn (tgK_ok h2 XO) (((chk_ok T ie).e _ _ _ _ _ e1 XO G).toK (of_decide_eq_true h1)) (all_ow h3)
      · cases h
    · cases h
  · cases h
def parK (T : Tab) (i j : Nat) (ia ib : E) (c : Ctx) (o : List Bool) (s : Stmt) : Option (List Bool) := match s with
  | .Assign [.Tuple [.Name x px, .Name y py] _ _] (.Tuple [a, b] _ _) _ => if (fnK c && parOk c x px y py a b && decide (c.N[i]? = some x) && decide (c.N[j]? = some y) && decide (i ≠ j) && !c.io.contains i && !c.io.contains j) = true then
      (saK [chk T ia, chk T ib] c o [a, b]).map fun o1 => (o1.set i false).set j false else none
  | _ => none
theorem parK_ok {T : Tab} {i j : Nat} {ia ib : E} : ∀ c o s o', parK T i j ia ib c o s = some o' → ∀ {Φ gl X W}, XOk T Φ gl c X W → ∀ G, SS T Φ gl X c W G s (.par i j ia ib) o o' := fun c o s o' h Φ gl X W XO G => by
  unfold parK at h
  split at h
  · split at h
    · rename_i hc
      simp only [Bool.and_eq_true, Bool.not_eq_true'] at hc
      obtain ⟨⟨⟨⟨⟨⟨h1, h2⟩, h3⟩, h4⟩, h5⟩, h6⟩, h7⟩ := hc
      obtain ⟨o1, e1, e2⟩ := Option.map_eq_some_iff.mp h
      cases e2
      exact ss_par XO (of_decide_eq_true h1) h2 (of_decide_eq_true h3) (of_decide_eq_true h4) (of_decide_eq_true h5) (by simpa using h6) (by simpa using h7) (saK_ok (.cons (chk_ok T ia) (.cons (chk_ok T ib) .nil)) e1 XO G)
    · cases h
  · cases h
def setixK (T : Tab) (i : Nat) (ik ie : E) (c : Ctx) (o : List Bool) (s : Stmt) : Option (List Bool) := match s with
  | .Assign [.Subscript (.Name y py) k _] e _ => if (plainIx k && nmOk c i (.Name y py) && ow o i && !(tch ie).contains i && !(tch ik).contains i) = true then
      ((chk T ie).e c o e).bind fun q => if q.2 ≠ .peek then ((chk T ik).e c q.1 k).map (·.1) else none else none
  | _ => none
theorem setixK_ok {T : Tab} {i : Nat} {ik ie : E} : ∀ c o s o', setixK T i ik ie c o s = some o' → ∀ {Φ gl X W}, XOk T Φ gl c X W → ∀ G, SS T Φ gl X c W G s (.setix i ik ie) o o' := fun c o s o' h Φ gl X W XO G => by
  unfold setixK at h
  split at h
  · split at h
    · rename_i hc
      simp only [Bool.and_eq_true, Bool.not_eq_true'] at hc
      obtain ⟨⟨⟨⟨h1, h2⟩, h3⟩, h4⟩, h5⟩ := hc
      unfold nmOk at h2
      rw [Bool.and_eq_true] at h2
      obtain ⟨⟨o1, m1⟩, e1, h⟩ := Option.bind_eq_some_iff.mp h
      split at h
      · rename_i km
        obtain ⟨⟨o2, m2⟩, e2, e3⟩ := Option.map_eq_some_iff.mp h
        cases e3
        exact ss_setix XO (nf_ne m2) h1 (of_decide_eq_true h2.1) h2.2 h3 (by simpa using h4) (by simpa using h5) (((chk_ok T ie).e _ _ _ _ _ e1 XO G).toK km) ((chk_ok T ik).e _ _ _ _ _ e2 XO G).nf
      · cases h
    · cases h
  · cases h
def swapK (T : Tab) (i : Nat) (ik1 : E) (j : Nat) (ik2 ia ib : E) (c : Ctx) (o : List Bool) (s : Stmt) : Option (List Bool) := match s with
  | .Assign [.Tuple [.Subscript (.Name y1 q1) k1 _, .Subscript (.Name y2 q2) k2 _] _ _] (.Tuple [a, b] _ _) _ =>
    if (plainIx k1 && plainIx k2 && nmOk c i (.Name y1 q1) && nmOk c j (.Name y2 q2) && ow o i && ow o j && !(tch ia ++ tch ib).contains i && !(tch ia ++ tch ib).contains j && !(tch ik1).contains i && !(tch ik1).contains j && !(tch ik2).contains j) = true then
      (saK [chk T ia, chk T ib] c o [a, b]).bind fun o1 => ((chk T ik1).e c o1 k1).bind fun p1 => ((chk T ik2).e c p1.1 k2).map (·.1) else none
  | _ => none
theorem swapK_ok {T : Tab} {i j : Nat} {ik1 ik2 ia ib : E} : ∀ c o s o', swapK T i ik1 j ik2 ia ib c o s = some o' → ∀ {Φ gl X W}, XOk T Φ gl c X W → ∀ G, SS T Φ gl X c W G s (.swap i ik1 j ik2 ia ib) o o' := fun c o s o' h Φ gl X W XO G => by
  unfold swapK at h
  split at h
  · split at h
    · rename_i hc
      simp only [Bool.and_eq_true, Bool.not_eq_true'] at hc
      obtain ⟨⟨⟨⟨⟨⟨⟨⟨⟨⟨h1, h2⟩, h3⟩, h4⟩, h5⟩, h6⟩, h7⟩, h8⟩, h9⟩, h10⟩, h11⟩ := hc
      unfold nmOk at h3 h4
      rw [Bool.and_eq_true] at h3 h4
      obtain ⟨o1, e1, h⟩ := Option.bind_eq_some_iff.mp h
      obtain ⟨⟨o2, m2⟩, e2, h⟩ := Option.bind_eq_some_iff.mp h
      obtain ⟨⟨o4, m4⟩, e3, e4⟩ := Option.map_eq_some_iff.mp h
      cases e4
      exact ss_swap XO (nf_ne m2) (nf_ne m4) h1 h2 (of_decide_eq_true h3.1) h3.2 (of_decide_eq_true h4.1) h4.2 h5 h6 (by simpa using h7) (by simpa using h8) (by simpa using h9) (by simpa using h10) (by simpa using h11) (saK_ok (.cons (chk_ok T ia) (.cons (chk_ok T ib) .nil)) e1 XO G) ((chk_ok T ik1).e _ _ _ _ _ e2 XO G).nf ((chk_ok T ik2).e _ _ _ _ _ e3 XO G).nf
    · cases h
  · cases h
def appK (T : Tab) (i : Nat) (ie : E) (c : Ctx) (o : List Bool) (s : Stmt) : Option (List Bool) := match s with
  | .Expr (.Call (.Attribute (.Name y py) m ap) [e] [] cp) _ => if (decide (m = "append") && nmOk c i (.Name y py) && ow o i && (ap.endLine == cp.line) && notStar e && !(tch ie).contains i) = true then ((chk T ie).e c o e).bind fun q => if q.2 ≠ .peek then some q.1 else none else none
  | _ => none
theorem appK_ok {T : Tab} {i : Nat} {ie : E} : ∀ c o s o', appK T i ie c o s = some o' → ∀ {Φ gl X W}, XOk T Φ gl c X W → ∀ G, SS T Φ gl X c W G s (.app i ie) o o' := fun c o s o' h Φ gl X W XO G => by
  unfold appK at h
  split at h
  · split at h
    · rename_i hc
      simp only [Bool.and_eq_true, Bool.not_eq_true'] at hc
      obtain ⟨⟨⟨⟨⟨h0, h1⟩, h2⟩, h3⟩, h4⟩, h5⟩ := hc
      obtain rfl := of_decide_eq_true h0
      unfold nmOk at h1
      rw [Bool.and_eq_true] at h1
      obtain ⟨⟨o1, m1⟩, e1, h⟩ := Option.bind_eq_some_iff.mp h
      split at h
      · rename_i km
        cases h
        exact ss_app XO (of_decide_eq_true h1.1) h1.2 h2 h3 h4 (by simpa using h5) (((chk_ok T ie).e _ _ _ _ _ e1 XO G).toK km)
      · cases h
    · cases h
  · cases h
def retMd (fr : Bool) (m : Md) : Bool := if fr = true then decide (m = .fresh) else decide (m ≠ .peek)
def retK (T : Tab) (ie : E) (c : Ctx) (o : List Bool) (s : Stmt) : SRes := match s with
  | .Return (some e) _ => ((chk T ie).e c o e).bind fun q => if (decide (pks ie = []) && retMd c.fr q.2) = true then some none else none
  | _ => none
theorem retK_ok {T : Tab} {ie : E} : SdS T (.ret ie) (retK T ie) := fun c o s Φ gl X W XO G => by
  have key : ∀ r, retK T ie c o s = some r → r = none ∧ ∀ o2, SS T Φ gl X c W G s (.ret ie) o o2 := fun r h => by
    unfold retK at h
    split at h
    · obtain ⟨⟨o1, m1⟩, e1, h⟩ := Option.bind_eq_some_iff.mp h
      split at h
      · rename_i hc
        cases h
        rw [Bool.and_eq_true] at hc
        have se := (chk_ok T ie).e _ _ _ _ _ e1 XO G
        refine ⟨rfl, fun o2 => ?_⟩
        by_cases f : c.fr = true
        · have h2 := hc.2
          unfold retMd at h2
          rw [if_pos f] at h2
          have km : m1 = .fresh := of_decide_eq_true h2
          subst km
          exact ss_ret XO (by rw [if_pos f]) se (of_decide_eq_true hc.1)
        · have h2 := hc.2
          unfold retMd at h2
          rw [if_neg f] at h2
          exact ss_ret XO (by rw [if_neg f]) (se.toK (of_decide_eq_true h2)) (of_decide_eq_true hc.1)
      · cases h
    · cases h
  exact ⟨fun o' h => (by have := (key _ h).1; cases this), fun h => (key _ h).2⟩
end PX
end
section
set_option Elab.async false
set_option linter.all false
set_option maxRecDepth 100000
set_option maxHeartbeats 4000000
namespace PX
open PySem L2
def isFrz : S → Option Nat
  | .frz i => some i
  | _ => none
def finK (c : Ctx) (tc : List Nat) (o3 oa ob : List Bool) : SRes := if (leT tc o3 oa && leT tc o3 ob && c.io.all (ow o3)) = true then some (some o3) else none
def joinK (c : Ctx) (tc : List Nat) (o1 : List Bool) (ra rb : SRes) : SRes := match ra, rb with
  | some (some oa), some (some ob) => finK c tc (meet oa ob) oa ob
  | some (some oa), some none => finK c tc oa oa oa
  | some none, some (some ob) => finK c tc ob ob ob
  | some none, some none => finK c tc o1 o1 o1
  | _, _ => none
def orElse (r : SRes) (o : List Bool) : Option (List Bool) := match r with
  | some (some x) => some x
  | some none => some o
  | none => none
def loopFix (f : List Bool → SRes) : Nat → List Bool → List Bool
  | 0, o => o
  | n + 1, o => match f o with
    | some (some oB) => if meet o oB = o then o else loopFix f n (meet o oB)
    | _ => o
def clr (is : List Nat) (o : List Bool) : List Bool := is.foldl (fun o i => o.set i false) o
def afterK (r : SRes) (k : List Bool → SRes) (last : Bool) : SRes := match r with
  | some (some o1) => k o1
  | some none => if last = true then some none else none
  | none => none
abbrev FSs := Ctx → List Bool → List Stmt → SRes
def ifsF (tc : List Nat) (k : Ck) (fa fb : FSs) (c : Ctx) (o : List Bool) (s : Stmt) : SRes := match s with
  | .If t a b _ => (k.t c o t).bind fun o1 => joinK c tc o1 (fa c o1 a) (fb c o1 b)
  | _ => none
def pkOk (ik : IK) (its : List E) (tc : List Nat) : Bool := match ik with
  | .keys => true
  | _ => disj (pksL its) tc
theorem pkOk_ok {T : Tab} {ik : IK} {its : List E} {ks : List Ck} {c : Ctx} {o o' : List Bool} {tgE iter : Expr} {tc : List Nat} (h : itK T ik its ks c o tgE iter = some o') (k : pkOk ik its tc = true) : disj (pksL its) tc = true := by
  cases ik <;> first | exact k | cases h
def loopF (T : Tab) (kill : List Nat) (tg : Tg) (ik : IK) (its : List E) (tcb : List Nat) (fb : FSs) (c : Ctx) (o : List Bool) (s : Stmt) : SRes := match s with
  | .For tgE iter bodyE [] _ => if kill = [] then
      (match ik, its, iter with
      | .keys, [.pk i], .Name y py => if (nmOk c i (.Name y py) && !ow o i) = true then some o else none
      | _, _, _ => itK T ik its (chks T its) c o tgE iter).bind fun o1 =>
        let oH := loopFix (fun oH => fb c oH bodyE) 4 (clr (tgsOf tg) o1)
        (orElse (fb c oH bodyE) oH).bind fun oB => if (leT (tgsOf tg ++ tcb) oH o1 && leT (tgsOf tg ++ tcb) oH oB && c.io.all (ow oH) && tgK c oH (tgsOf tg) tg tgE && pkOk ik its (tgsOf tg ++ tcb)) = true then some (some oH) else none
      else none
  | _ => none
def whlF (kill : List Nat) (tc : List Nat) (k : Ck) (fb : FSs) (c : Ctx) (o : List Bool) (s : Stmt) : SRes := match s with
  | .While t bodyE [] _ => if kill = [] then
      let oH := loopFix (fun oH => (k.t c oH t).bind fun o1 => fb c o1 bodyE) 4 o
      (k.t c oH t).bind fun o1 => (orElse (fb c o1 bodyE) oH).bind fun oB => if (leT tc oH o && leT tc oH o1 && leT tc oH oB && c.io.all (ow oH)) = true then some (some oH) else none
      else none
  | _ => none
def passF (o : List Bool) (s : Stmt) : SRes := match s with
  | .Pass _ => some (some o)
  | _ => none
def nilF (o : List Bool) (ss : List Stmt) : SRes := match ss with
  | [] => some (some o)
  | _ => none
def consF (ir : S) (last : Bool) (f : Ctx → List Bool → Stmt → SRes) (fs : FSs) (c : Ctx) (o : List Bool) (ss : List Stmt) : SRes := match isFrz ir with
  | some i => if c.io.contains i = true then none else fs c (o.set i false) ss
  | none => match ss with
    | [] => none
    | s :: ss => afterK (f c o s) (fun o1 => fs c o1 ss) (last && ss.isEmpty)
mutual
def chkS (T : Tab) : S → Ctx → List Bool → Stmt → SRes
  | .set i e => fun c o s => goOn (setK T i e c o s)
  | .tset ts e => fun c o s => goOn (tsetK T ts e c o s)
  | .par i j a b => fun c o s => goOn (parK T i j a b c o s)
  | .setix i k e => fun c o s => goOn (setixK T i k e c o s)
  | .swap i k1 j k2 a b => fun c o s => goOn (swapK T i k1 j k2 a b c o s)
  | .app i e => fun c o s => goOn (appK T i e c o s)
  | .ext _ _ => fun _ _ _ => none
  | .frz _ => fun _ _ _ => none
  | .drop _ => fun _ _ _ => none
  | .ifs ic ia ib => ifsF (tchSs ia ++ tchSs ib) (chk T ic) (chkSs T ia) (chkSs T ib)
  | .loop kill tg ik its body => loopF T kill tg ik its (tchSs body) (chkSs T body)
  | .whl kill ic body => whlF kill (tch ic ++ tchSs body) (chk T ic) (chkSs T body)
  | .ret e => retK T e
  | .pass => fun _ o s => passF o s
def chkSs (T : Tab) : List S → FSs
  | [] => fun _ o ss => nilF o ss
  | ir :: irs => consF ir irs.isEmpty (chkS T ir) (chkSs T irs)
end
section
variable {T : Tab}
theorem fin_ok {ic : E} {ia ib : List S} {c : Ctx} {o o1 o3 oa ob : List Bool} {t : Expr} {a b : List Stmt} {pos : Pos} {Φ : Fns} {gl : Nat → PX.D} {X : Cx} {W : WX} (XO : XOk T Φ gl c X W) {G : Gh} (ht : ST T Φ gl X c.io W G t ic o o1)
    (ha : SSs T Φ gl X c W G a ia o1 oa) (hb : SSs T Φ gl X c W G b ib o1 ob) {r : Option (List Bool)} (h : finK c (tchSs ia ++ tchSs ib) o3 oa ob = some r) : ∃ o', r = some o' ∧ SS T Φ gl X c W G (.If t a b pos) (.ifs ic ia ib) o o' := by
  unfold finK at h
  split at h
  · rename_i hc
    cases h
    simp only [Bool.and_eq_true] at hc
    exact ⟨o3, rfl, ss_if XO ht (fun i hi => List.all_eq_true.mp hc.2 i hi) ha hb hc.1.1 hc.1.2⟩
  · cases h
mutual
theorem chkS_ok : ∀ ir, SdS T ir (chkS T ir)
  | .set i e => by
    have h := SdS.plain (setK_ok (T := T) (i := i) (ie := e))
    rw [chkS]; exact h
  | .tset ts e => by
    have h := SdS.plain (tsetK_ok (T := T) (ts := ts) (ie := e))
    rw [chkS]; exact h
  | .par i j a b => by
    have h := SdS.plain (parK_ok (T := T) (i := i) (j := j) (ia := a) (ib := b))
    rw [chkS]; exact h
  | .setix i k e => by
    have h := SdS.plain (setixK_ok (T := T) (i := i) (ik := k) (ie := e))
    rw [chkS]; exact h
  | .swap i k1 j k2 a b => by
    have h := SdS.plain (swapK_ok (T := T) (i := i) (j := j) (ik1 := k1) (ik2 := k2) (ia := a) (ib := b))
    rw [chkS]; exact h
  | .app i e => by
    have h := SdS.plain (appK_ok (T := T) (i := i) (ie := e))
    rw [chkS]; exact h
  | .ext _ _ => by rw [chkS]; intro c o s Φ gl X W XO G; exact ⟨fun _ h => (by cases h), fun h => (by cases h)⟩
  | .frz _ => by rw [chkS]; intro c o s Φ gl X W XO G; exact ⟨fun _ h => (by cases h), fun h => (by cases h)⟩
  | .drop _ => by rw [chkS]; intro c o s Φ gl X W XO G; exact ⟨fun _ h => (by cases h), fun h => (by cases h)⟩
  | .ret e => by
    have h := retK_ok (T := T) (ie := e)
    rw [chkS]; exact h
  | .pass => by
    rw [chkS]; intro c o s Φ gl X W XO G
    cases s with
    | Pass pos => exact ⟨fun o' h => (by cases h; exact ss_pass), fun h => (by cases h)⟩
    | _ => exact ⟨fun _ h => (by cases h), fun h => (by cases h)⟩
  | .ifs ic ia ib => by
    intro c o s Φ gl X W XO G
    have key : ∀ r, chkS T (.ifs ic ia ib) c o s = some r → ∃ o', r = some o' ∧ SS T Φ gl X c W G s (.ifs ic ia ib) o o' := fun r h => by
      rw [chkS] at h
      unfold ifsF at h
      split at h
      · rename_i t a b pos
        obtain ⟨o1, h1, h⟩ := Option.bind_eq_some_iff.mp h
        have ht := (chk_ok T ic).t _ _ _ _ h1 XO G
        have A := chkSs_ok ia c o1 a XO G
        have B := chkSs_ok ib c o1 b XO G
        unfold joinK at h
        split at h
        · rename_i oa ob ea eb
          exact fin_ok XO ht (A.1 _ ea) (B.1 _ eb) h
        · rename_i oa ea eb
          exact fin_ok XO ht (A.1 _ ea) (B.2 eb _) h
        · rename_i ob ea eb
          exact fin_ok XO ht (A.2 ea _) (B.1 _ eb) h
        · rename_i ea eb
          exact fin_ok XO ht (A.2 ea _) (B.2 eb _) h
        · cases h
      · cases h
    refine ⟨fun o' h => ?_, fun h => ?_⟩
    · obtain ⟨z, e, r⟩ := key _ h
      cases e; exact r
    · obtain ⟨z, e, r⟩ := key _ h
      cases e
  | .loop kill tg ik its body => by
    intro c o s Φ gl X W XO G
    have key : ∀ r, chkS T (.loop kill tg ik its body) c o s = some r → ∃ o', r = some o' ∧ SS T Φ gl X c W G s (.loop kill tg ik its body) o o' := fun r h => by
      rw [chkS] at h
      unfold loopF at h
      split at h
      · rename_i tgE iter bodyE pos
        split at h
        · rename_i hk
          subst hk
          obtain ⟨o1, h1, h⟩ := Option.bind_eq_some_iff.mp h
          dsimp only at h
          generalize loopFix (fun oH => chkSs T body c oH bodyE) 4 (clr (tgsOf tg) o1) = oH at h
          obtain ⟨oB, h2, h⟩ := Option.bind_eq_some_iff.mp h
          split at h
          · rename_i hc
            cases h
            simp only [Bool.and_eq_true] at hc
            obtain ⟨⟨⟨⟨l0, lB⟩, hio⟩, htg⟩, hpk⟩ := hc
            have hio : ∀ i ∈ c.io, ow oH i = true := fun i hi => List.all_eq_true.mp hio i hi
            have hb : ∀ G, SSs T Φ gl X c W G bodyE body oH oB := fun G => by
              have B := chkSs_ok body c oH bodyE XO G
              unfold orElse at h2
              split at h2
              · rename_i x e; cases h2; exact B.1 _ e
              · rename_i e; exact B.2 e _
              · cases h2
            refine ⟨oH, rfl, ?_⟩
            split at h1
            · rename_i i y py
              split at h1
              · rename_i hn
                cases h1
                rw [Bool.and_eq_true, Bool.not_eq_true'] at hn
                obtain ⟨n1, n2⟩ := hn
                unfold nmOk at n1
                rw [Bool.and_eq_true] at n1
                exact ss_forK XO (of_decide_eq_true n1.1) n1.2 n2 l0 hio (tgK_ok htg XO) hb lB
              · cases h1
            · obtain ⟨si, hf, hn⟩ := itK_ok (chks_ok T its) h1 XO G
              exact ss_for XO hn si l0 hio (tgK_ok htg XO) (disj_ok (pkOk_ok h1 hpk)) hf hb lB
          · cases h
        · cases h
      · cases h
    refine ⟨fun o' h => ?_, fun h => ?_⟩
    · obtain ⟨z, e, r⟩ := key _ h
      cases e; exact r
    · obtain ⟨z, e, r⟩ := key _ h
      cases e
  | .whl kill ic body => by
    intro c o s Φ gl X W XO G
    have key : ∀ r, chkS T (.whl kill ic body) c o s = some r → ∃ o', r = some o' ∧ SS T Φ gl X c W G s (.whl kill ic body) o o' := fun r h => by
      rw [chkS] at h
      unfold whlF at h
      split at h
      · rename_i t bodyE pos
        split at h
        · rename_i hk
          subst hk
          dsimp only at h
          generalize loopFix (fun oH => ((chk T ic).t c oH t).bind fun o1 => chkSs T body c o1 bodyE) 4 o = oH at h
          obtain ⟨o1, h1, h⟩ := Option.bind_eq_some_iff.mp h
          obtain ⟨oB, h2, h⟩ := Option.bind_eq_some_iff.mp h
          split at h
          · rename_i hc
            cases h
            simp only [Bool.and_eq_true] at hc
            obtain ⟨⟨⟨l0, l1⟩, lB⟩, hio⟩ := hc
            have hio : ∀ i ∈ c.io, ow oH i = true := fun i hi => List.all_eq_true.mp hio i hi
            have B := chkSs_ok body c o1 bodyE XO G
            have hb : SSs T Φ gl X c W G bodyE body o1 oB := by
              unfold orElse at h2
              split at h2
              · rename_i x e; cases h2; exact B.1 _ e
              · rename_i e; exact B.2 e _
              · cases h2
            exact ⟨oH, rfl, ss_while XO l0 hio ((chk_ok T ic).t _ _ _ _ h1 XO G) hb l1 lB⟩
          · cases h
        · cases h
      · cases h
    refine ⟨fun o' h => ?_, fun h => ?_⟩
    · obtain ⟨z, e, r⟩ := key _ h
      cases e; exact r
    · obtain ⟨z, e, r⟩ := key _ h
      cases e
theorem chkSs_ok : ∀ irs, SdSs T irs (chkSs T irs)
  | [] => by
    rw [chkSs]; intro c o ss Φ gl X W XO G
    cases ss with
    | nil => exact ⟨fun o' h => (by cases h; exact sss_nil), fun h => (by cases h)⟩
    | cons _ _ => exact ⟨fun _ h => (by cases h), fun h => (by cases h)⟩
  | ir :: irs => by
    rw [chkSs]; intro c o ss Φ gl X W XO G
    unfold consF
    cases hz : isFrz ir with
    | some i =>
      have e : ir = .frz i := by cases ir <;> first | (cases hz; rfl) | cases hz
      subst e
      dsimp only
      split
      · exact ⟨fun _ h => (by cases h), fun h => (by cases h)⟩
      · rename_i hi
        have R := chkSs_ok irs c (o.set i false) ss XO G
        exact ⟨fun o' h => sss_frz (by simpa using hi) (R.1 o' h), fun h o2 => sss_frz (by simpa using hi) (R.2 h o2)⟩
    | none =>
      dsimp only
      cases ss with
      | nil => exact ⟨fun _ h => (by cases h), fun h => (by cases h)⟩
      | cons s ss =>
        dsimp only
        have A := chkS_ok ir c o s XO G
        cases hs : chkS T ir c o s with
        | none => exact ⟨fun _ h => (by cases h), fun h => (by cases h)⟩
        | some r =>
          cases r with
          | some o1 =>
            have R := chkSs_ok irs c o1 ss XO G
            exact ⟨fun o' h => sss_cons (A.1 _ hs) (R.1 o' h), fun h o2 => sss_cons (A.1 _ hs) (R.2 h o2)⟩
          | none =>
            have e : afterK (some none) (fun o1 => chkSs T irs c o1 ss) (irs.isEmpty && ss.isEmpty) = if (irs.isEmpty && ss.isEmpty) = true then some none else none := rfl
            rw [e]
            split
            · rename_i hl
              rw [Bool.and_eq_true] at hl
              have e1 : irs = [] := List.isEmpty_iff.mp hl.1
              have e2 : ss = [] := List.isEmpty_iff.mp hl.2
              subst e1 e2
              exact ⟨fun _ h => (by cases h), fun _ o2 => sss_cons (A.2 hs o2) sss_nil⟩
            · exact ⟨fun _ h => (by cases h), fun h => (by cases h)⟩
end
end
end PX
end
section
set_option Elab.async false
set_option linter.all false
set_option maxRecDepth 100000
set_option maxHeartbeats 4000000
namespace PX
open PySem L2
/-- a def of the text, checked: its slots N, its small form, where it stands -/
structure DefOk (T : Tab) (K : PySem.W.Frag) (mg : Str → Option Value) (fns : Nat → Option Fn) (i : Nat) (fi : FnI) : Prop where
  ex : ∃ (N : List Str) (body : List S) (st : Stmt) (x qual : Str) (f : Addr) (fd : FuncData), fns i = some (fnIR N fi body) ∧ Fun K x qual st f fd ∧ FnScope N fi.ps (defScope st) ∧ (∀ p, fi.io = some p → p < fi.ps.length) ∧
    mg fi.name = some (.ref f) ∧ PySem.W.keepIn K (.ref f) = true ∧ Binds K fd fi.ps [] ∧ (chkSs T body (defC N (defScope st) fi) (o00 N.length fi.io) (defBody st)).isSome = true
theorem level_ok {P : Program} {w : World} {K : PySem.W.Frag} {mg : Str → Option Value} {base : Heap} {T : Tab} {gl : Nat → PX.D} {fns : Nat → Option Fn}
    (hfr : ∀ y ∈ T.frees, mg y = none) (hgl : ∀ i z d, T.gls i = some (z, d) → gl i = d ∧ ∃ u v, mg z = some u ∧ RelV v u ∧ ∀ F, Rep K F d v)
    (hd : ∀ i fi, T.fn i = some fi → DefOk T K mg fns i fi) : ∀ n i fi, T.fn i = some fi → ∃ f fd, FnOk P w K mg base (L2.CX P w) n f fd fi.ps (SpF T K fi (Phi fns gl n i)) ∧ mg fi.name = some (.ref f) ∧ PySem.W.keepIn K (.ref f) = true ∧ Binds K fd fi.ps [] := by
  intro n
  induction n with
  | zero =>
    intro i fi hi
    obtain ⟨N, body, st, x, qual, f, fd, h1, h2, h3, h4, h5, h6, h7, h8⟩ := (hd i fi hi).ex
    refine ⟨f, fd, ⟨fun vs H Q E ⟨F, Lk, ds, B, hl, _⟩ => hl, fun A outer s H args us vs Q E _ _ _ _ ⟨F, Lk, ds, B, hl, _, _, _, m⟩ => False.elim m⟩, h5, h6, h7⟩
  | succ n ih =>
    intro i fi hi
    obtain ⟨N, body, st, x, qual, f, fd, h1, h2, h3, h4, h5, h6, h7, h8⟩ := (hd i fi hi).ex
    refine ⟨f, fd, ?_, h5, h6, h7⟩
    have e : Phi fns gl (n + 1) i = runFn (Phi fns gl n) gl (fnIR N fi body) := by
      funext ds
      show (match fns i with | none => RF.fail | some F => runFn (Phi fns gl n) gl F ds) = _
      rw [h1]
    rw [e]
    cases hc : chkSs T body (defC N (defScope st) fi) (o00 N.length fi.io) (defBody st) with
    | none => rw [hc] at h8; cases h8
    | some r =>
      refine def_ok (oE := r.getD []) h2 h3 h4 hfr hgl (fun j fj hj => ih j fj hj) fun X W _ XO G => ?_
      have B := chkSs_ok body (defC N (defScope st) fi) (o00 N.length fi.io) (defBody st) XO G
      cases r with
      | none => exact B.2 hc _
      | some o' => exact B.1 _ hc
/-- the same of one def that is given -/
theorem level_at {P : Program} {w : World} {K : PySem.W.Frag} {mg : Str → Option Value} {base : Heap} {T : Tab} {gl : Nat → PX.D} {fns : Nat → Option Fn}
    (hfr : ∀ y ∈ T.frees, mg y = none) (hgl : ∀ i z d, T.gls i = some (z, d) → gl i = d ∧ ∃ u v, mg z = some u ∧ RelV v u ∧ ∀ F, Rep K F d v)
    (hd : ∀ i fi, T.fn i = some fi → DefOk T K mg fns i fi) (n i : Nat) {fi : FnI} {N : List Str} {body : List S} {st : Stmt} {x qual : Str} {f : Addr} {fd : FuncData} (h1 : fns i = some (fnIR N fi body)) (h2 : Fun K x qual st f fd) (h3 : FnScope N fi.ps (defScope st))
    (h4 : ∀ p, fi.io = some p → p < fi.ps.length) (h8 : (chkSs T body (defC N (defScope st) fi) (o00 N.length fi.io) (defBody st)).isSome = true) : FnOk P w K mg base (L2.CX P w) (n + 1) f fd fi.ps (SpF T K fi (Phi fns gl (n + 1) i)) := by
  have e : Phi fns gl (n + 1) i = runFn (Phi fns gl n) gl (fnIR N fi body) := by
    funext ds
    show (match fns i with | none => RF.fail | some F => runFn (Phi fns gl n) gl F ds) = _
    rw [h1]
  rw [e]
  cases hc : chkSs T body (defC N (defScope st) fi) (o00 N.length fi.io) (defBody st) with
  | none => rw [hc] at h8; cases h8
  | some r =>
    refine def_ok (oE := r.getD []) h2 h3 h4 hfr hgl (fun j fj hj => level_ok hfr hgl hd n j fj hj) fun X W _ XO G => ?_
    have B := chkSs_ok body (defC N (defScope st) fi) (o00 N.length fi.io) (defBody st) XO G
    cases r with
    | none => exact B.2 hc _
    | some o' => exact B.1 _ hc
/-- the entry: the script comes in, True goes out -/
theorem entry_ok {T : Tab} {K : PySem.W.Frag} {fi : FnI} {φ : List PX.D → RF} {H : Hp} {a : Addr} {ns : List Int} (hp : fi.ps.length = 1) (hio : fi.io = none) (hfr : fi.fr = false) (h : φ [.scr ns] = .ok (.bl true) []) (hS : SqL K H a (ns.map V.int)) :
    SpF T K fi φ [.ref a] H (fun v _ => v = .bl true) fun _ _ _ => False := by
  refine ⟨H, fun _ => none, [.scr ns], [], by rw [hp]; rfl, fun b u e => e, fun _ _ => rfl, ⟨rfl, fun k d v hd hv => ?_, fun _ => rfl, fun b hb => by cases hb⟩, ?_⟩
  · rw [if_neg (by rw [hio]; exact fun z => nomatch z)]
    cases k with
    | zero => cases hd; cases hv; exact .scr hS
    | succ k => cases hd
  · rw [h]
    intro F' H' v B' _ _ ret
    unfold RetOk at ret
    rw [if_neg (by rw [hfr]; exact Bool.false_ne_true)] at ret
    cases ret
    rfl
/-- walk_ofE for defs that may raise -/
theorem walk_px {l : PySem.W.OpenLaw} {n k : Nat} {q : Program} {loose : List Str} {XP : (Str → Option Value) → Heap → Prop} {YP : World → Heap → Prop} {d : DefRec} {x : Str}
    (hn : l.most = some n) (hn2 : n ≤ PySem.sizeLine) (hdf : d.params.defaults = []) (hr : Room k callerA)
    (F : ∀ (w : World) (mg : Str → Option Value) (fa : Addr) (h : Heap), YP w h → h.Ns mainGlobals mg → mg d.name = some (.ref fa) →
      ∃ (K : PySem.W.Frag) (fd : FuncData) (sp : Sp), K.In h ∧ (∀ (s : Shared) (u : Value), BindsTo s fd ⟨[u], []⟩ [(x, u)]) ∧
        (∀ (H : Hp) (a : Addr) (ns : List Int), ns.length ≤ n → L2.Only H → SqL K H a (ns.map V.int) → sp [.ref a] H (fun v _ => v = .bl true) fun _ _ _ => False) ∧
        ∀ base : Heap, K.In base → base.Ns mainGlobals mg → FnOk l.prog w K mg base (L2.CX l.prog w) k fa fd [x] sp) :
    PySem.W.WalkO q loose XP YP l.row.toRowW d [] (fun f vs => PySem.call f vs) := by
  refine Att.attach_call hn hdf fun w s₀ s₁ mg mb fa o pm cd doc a vs ns G Y ho hd hcd hmg hobj hints hlen hg => ?_
  obtain ⟨K, fd, sp, KX, hb, hsp, hF⟩ := F w mg fa _ Y G.T.g hmg
  refine law_call KX G.T.g G.T.b G.T.builtins G.T.nolimit hg hobj hints (Nat.le_trans hlen hn2) hr hF hb (fun H hO hS => hsp H a ns hlen hO hS) fun H e s' z => ?_
  obtain ⟨_, _, _, _, _, _, _, _, _, _, _, _, z⟩ := z
  exact z
end PX
end
section
set_option Elab.async false
set_option linter.all false
set_option maxRecDepth 100000
set_option maxHeartbeats 0
namespace K00
open PX PySem L2
def N_shared : List Str := ["one", "other"]
def I_shared : FnI := ⟨"shared", ["one", "other"], none, false⟩
def b_shared : List S := [.set 0 (.bi .abs [.var 0]), .frz 0, .set 1 (.bi .abs [.var 1]), .frz 1, .whl [] (.cmp .ne (.var 1) (.con (.int 0))) [.par 0 1 (.var 1) (.bin .mod (.var 0) (.var 1))], .ret (.var 0)]
def N_shared_all : List Str := ["numbers", "found", "number"]
def I_shared_all : FnI := ⟨"shared_all", ["numbers"], none, false⟩
def b_shared_all : List S := [.set 1 (.con (.int 0)), .frz 1, .loop [] (.nm 2) .seq [.var 0] [.set 1 (.call 0 [.var 1, .var 2]), .frz 1], .ret (.var 1)]
def N_lowest : List Str := ["numbers", "common", "number"]
def I_lowest : FnI := ⟨"lowest", ["numbers"], none, false⟩
def b_lowest : List S := [.set 1 (.bi .max2 [.call 1 [.var 0], .con (.int 1)]), .frz 1, .ret (.bi .tupleOf [.comp [2] (.nm 2) .seq [.var 0] [] (.bin .fdiv (.var 2) (.var 1))])]
def N_place_of : List Str := ["numbers", "under", "number"]
def I_place_of : FnI := ⟨"place_of", ["numbers", "under"], none, false⟩
def b_place_of : List S := [.ifs (.cmp .lt (.var 1) (.con (.int 0))) [.ret (.call 2 [.bin .add (.comp [2] (.nm 2) .seq [.var 0] [] (.neg (.var 2))) (.lst [.neg (.var 1)])])] [], .ret (.call 2 [.bin .add (.bi .listOf [.var 0]) (.lst [.var 1])])]
def N_is_place : List Str := ["place", "size"]
def I_is_place : FnI := ⟨"is_place", ["place", "size"], none, false⟩
def b_is_place : List S := [.ret (.and (.cmp .eq (.bi .len [.var 0]) (.bin .add (.var 1) (.con (.int 1)))) (.and (.cmp .gt (.ix (.var 0) (.neg (.con (.int 1)))) (.con (.int 0))) (.cmp .eq (.call 1 [.var 0]) (.con (.int 1)))))]
def N_dot : List Str := ["one", "other", "a", "b"]
def I_dot : FnI := ⟨"dot", ["one", "other"], none, false⟩
def b_dot : List S := [.ret (.bi .sum [.comp [2, 3] (.tp [.nm 2, .nm 3]) .zip [.var 0, .var 1] [] (.bin .mul (.var 2) (.var 3))])]
def N_plus : List Str := ["one", "other", "a", "b"]
def I_plus : FnI := ⟨"plus", ["one", "other"], none, false⟩
def b_plus : List S := [.ret (.bi .tupleOf [.comp [2, 3] (.tp [.nm 2, .nm 3]) .zip [.var 0, .var 1] [] (.bin .add (.var 2) (.var 3))])]
def N_less : List Str := ["one", "other", "a", "b"]
def I_less : FnI := ⟨"less", ["one", "other"], none, false⟩
def b_less : List S := [.ret (.bi .tupleOf [.comp [2, 3] (.tp [.nm 2, .nm 3]) .zip [.var 0, .var 1] [] (.bin .sub (.var 2) (.var 3))])]
def N_times : List Str := ["row", "factor", "number"]
def I_times : FnI := ⟨"times", ["row", "factor"], none, false⟩
def b_times : List S := [.ret (.bi .tupleOf [.comp [2] (.nm 2) .seq [.var 0] [] (.bin .mul (.var 2) (.var 1))])]
def N_combined : List Str := ["factors", "rows", "width", "whole", "factor", "row", "a", "b"]
def I_combined : FnI := ⟨"combined", ["factors", "rows", "width"], none, false⟩
def b_combined : List S := [.set 3 (.bin .mul (.lst [.con (.int 0)]) (.var 2)), .frz 3, .loop [] (.tp [.nm 4, .nm 5]) .zip [.var 0, .var 1] [.ifs (.cmp .ne (.var 4) (.con (.int 0))) [.set 3 (.comp [6, 7] (.tp [.nm 6, .nm 7]) .zip [.var 3, .var 5] [] (.bin .add (.var 6) (.bin .mul (.var 4) (.var 7)))), .frz 3] []], .ret (.bi .tupleOf [.var 3])]
def N_area : List Str := ["rows", "left", "sign", "under", "column", "at", "head", "k", "row", "j"]
def I_area : FnI := ⟨"area", ["rows"], none, false⟩
def b_area : List S := [.set 1 (.comp [8] (.nm 8) .seq [.var 0] [] (.bi .listOf [.var 8])), .set 2 (.con (.int 1)), .frz 2, .set 3 (.con (.int 1)), .frz 3, .loop [] (.nm 4) .range [.bi .len [.pk 1]] [.set 5 (.comp [7] (.nm 7) .range [.var 4, .bi .len [.pk 1]] [.cmp .ne (.ix (.ix (.pk 1) (.var 7)) (.var 4)) (.con (.int 0))] (.var 7)), .ifs (.not (.pk 5)) [.ret (.con (.int 0))] [], .ifs (.cmp .ne (.ix (.pk 5) (.con (.int 0))) (.var 4)) [.swap 1 (.var 4) 1 (.ix (.pk 5) (.con (.int 0))) (.ix (.pk 1) (.ix (.pk 5) (.con (.int 0)))) (.ix (.pk 1) (.var 4)), .set 2 (.neg (.var 2)), .frz 2] [], .set 6 (.ix (.pk 1) (.var 4)), .frz 6, .loop [] (.nm 7) .range [.bin .add (.var 4) (.con (.int 1)), .bi .len [.pk 1]] [.set 8 (.ix (.pk 1) (.var 7)), .frz 8, .setix 1 (.var 7) (.comp [9] (.nm 9) .range [.bi .len [.pk 1]] [] (.bin .fdiv (.bin .sub (.bin .mul (.ix (.var 8) (.var 9)) (.ix (.var 6) (.var 4))) (.bin .mul (.ix (.var 8) (.var 4)) (.ix (.var 6) (.var 9)))) (.var 3)))], .set 3 (.ix (.var 6) (.var 4)), .frz 3], .ret (.bin .mul (.var 2) (.var 3))]
def N_stairs : List Str := ["rows", "width", "left", "found", "pivots", "column", "at", "row", "head", "k", "number"]
def I_stairs : FnI := ⟨"stairs", ["rows", "width"], none, false⟩
def b_stairs : List S := [.set 2 (.comp [7] (.nm 7) .seq [.var 0] [] (.bi .listOf [.var 7])), .set 3 (.lst []), .frz 3, .set 4 (.lst []), .loop [] (.nm 5) .range [.var 1] [.set 6 (.comp [9, 7] (.tp [.nm 9, .nm 7]) .enum [.pk 2] [.cmp .ne (.ix (.var 7) (.var 5)) (.con (.int 0))] (.var 9)), .frz 6, .ifs (.var 6) [.set 8 (.pop 2 [.ix (.var 6) (.con (.int 0))]), .frz 8, .ifs (.cmp .lt (.ix (.var 8) (.var 5)) (.con (.int 0))) [.set 8 (.comp [10] (.nm 10) .seq [.var 8] [] (.neg (.var 10))), .frz 8] [], .set 8 (.bi .listOf [.call 2 [.var 8]]), .frz 8, .set 2 (.comp [7] (.nm 7) .seq [.pk 2] [] (.call 12 [.var 7, .var 8, .var 5])), .set 3 (.bin .add (.comp [7] (.nm 7) .seq [.var 3] [] (.call 12 [.var 7, .var 8, .var 5])) (.lst [.var 8])), .frz 3, .app 4 (.var 5)] []], .ret (.tup [.bi .tupleOf [.comp [7] (.nm 7) .seq [.var 3] [] (.bi .tupleOf [.var 7])], .bi .tupleOf [.pk 4]])]
def N__without : List Str := ["row", "head", "column", "made", "number", "own"]
def I__without : FnI := ⟨"_without", ["row", "head", "column"], none, false⟩
def b__without : List S := [.ifs (.cmp .eq (.ix (.var 0) (.var 2)) (.con (.int 0))) [.ret (.bi .listOf [.var 0])] [], .set 3 (.comp [4, 5] (.tp [.nm 4, .nm 5]) .zip [.var 0, .var 1] [] (.bin .sub (.bin .mul (.var 4) (.ix (.var 1) (.var 2))) (.bin .mul (.ix (.var 0) (.var 2)) (.var 5)))), .frz 3, .ret (.bi .listOf [.call 2 [.var 3]])]
def N_rank : List Str := ["rows", "width"]
def I_rank : FnI := ⟨"rank", ["rows", "width"], none, false⟩
def b_rank : List S := [.ret (.bi .len [.ix (.call 11 [.var 0, .var 1]) (.con (.int 0))])]
def N_zeros : List Str := ["rows", "width", "found", "pivots", "base", "free", "under", "row", "pivot", "word", "column"]
def I_zeros : FnI := ⟨"zeros", ["rows", "width"], none, false⟩
def b_zeros : List S := [.tset [.nm 2, .nm 3] (.call 11 [.var 0, .var 1]), .set 4 (.lst []), .loop [] (.nm 5) .seq [.comp [10] (.nm 10) .range [.var 1] [.cmp .notin (.var 10) (.var 3)] (.var 10)] [.set 6 (.con (.int 1)), .frz 6, .loop [] (.tp [.nm 7, .nm 8]) .zip [.var 2, .var 3] [.set 6 (.bin .fdiv (.bin .mul (.var 6) (.ix (.var 7) (.var 8))) (.call 0 [.var 6, .ix (.var 7) (.var 8)])), .frz 6], .set 9 (.bin .mul (.lst [.con (.int 0)]) (.var 1)), .setix 9 (.var 5) (.var 6), .loop [] (.tp [.nm 7, .nm 8]) .zip [.var 2, .var 3] [.setix 9 (.var 8) (.bin .fdiv (.bin .mul (.neg (.ix (.var 7) (.var 5))) (.var 6)) (.ix (.var 7) (.var 8)))], .app 4 (.call 2 [.var 9])], .ret (.bi .tupleOf [.pk 4])]
def N_solved : List Str := ["rows", "due", "width", "wide", "pivots", "under", "row", "pivot", "place", "number"]
def I_solved : FnI := ⟨"solved", ["rows", "due", "width"], none, false⟩
def b_solved : List S := [.tset [.nm 3, .nm 4] (.call 11 [.comp [6, 9] (.tp [.nm 6, .nm 9]) .zip [.var 0, .var 1] [] (.bin .add (.bi .tupleOf [.var 6]) (.tup [.var 9])), .bin .add (.var 2) (.con (.int 1))]), .ifs (.cmp .isin (.var 2) (.var 4)) [.ret (.con .non)] [], .set 5 (.con (.int 1)), .frz 5, .loop [] (.tp [.nm 6, .nm 7]) .zip [.var 3, .var 4] [.set 5 (.bin .fdiv (.bin .mul (.var 5) (.ix (.var 6) (.var 7))) (.call 0 [.var 5, .ix (.var 6) (.var 7)])), .frz 5], .set 8 (.bin .mul (.lst [.con (.int 0)]) (.var 2)), .loop [] (.tp [.nm 6, .nm 7]) .zip [.var 3, .var 4] [.setix 8 (.var 7) (.bin .fdiv (.bin .mul (.ix (.var 6) (.var 2)) (.var 5)) (.ix (.var 6) (.var 7)))], .ret (.call 3 [.var 8, .var 5])]
def N__law_cell : List Str := ["script", "k"]
def I__law_cell : FnI := ⟨"_law_cell", ["script", "k"], none, false⟩
def b__law_cell : List S := [.ifs (.cmp .lt (.var 1) (.bi .len [.var 0])) [.ret (.ix (.var 0) (.var 1))] [], .ret (.con (.int 0))]
def N__law_source : List Str := ["cell", "k"]
def I__law_source : FnI := ⟨"_law_source", ["cell", "k"], none, true⟩
def b__law_source : List S := [.ifs (.cmp .ge (.var 0) (.bin .pow (.con (.int 10)) (.con (.int 18)))) [.ret (.lst [.bin .sub (.var 0) (.bin .pow (.con (.int 10)) (.con (.int 18))), .bin .add (.var 1) (.con (.int 1))])] [], .ret (.lst [.con (.int 0), .bin .mod (.bi .intOf [.bin .add (.bin .add (.bin .mul (.var 0) (.con (.int 7919))) (.bin .mul (.var 1) (.con (.int 104729)))) (.con (.int 1))]) (.con (.int 2147483647))])]
def N__law_pick : List Str := ["source", "many", "mixed", "picked"]
def I__law_pick : FnI := ⟨"_law_pick", ["source", "many"], some 0, false⟩
def b__law_pick : List S := [.ifs (.cmp .gt (.ix (.pk 0) (.con (.int 0))) (.con (.int 1))) [.set 3 (.bin .mod (.bi .intOf [.ix (.pk 0) (.con (.int 0))]) (.var 1)), .frz 3, .setix 0 (.con (.int 0)) (.bin .fdiv (.ix (.pk 0) (.con (.int 0))) (.var 1)), .ret (.var 3)] [], .setix 0 (.con (.int 1)) (.bin .mod (.bi .intOf [.bin .add (.bin .mul (.ix (.pk 0) (.con (.int 1))) (.con (.int 48271))) (.con (.int 12345))]) (.con (.int 2147483647))), .set 2 (.bin .mod (.bi .intOf [.bin .add (.bin .add (.bin .mul (.ix (.pk 0) (.con (.int 1))) (.con (.int 69621))) (.bin .fdiv (.ix (.pk 0) (.con (.int 1))) (.con (.int 127)))) (.con (.int 7))]) (.con (.int 2147483629))), .frz 2, .ret (.bin .mod (.bi .intOf [.bin .fdiv (.var 2) (.con (.int 16))]) (.var 1))]
def N__law_same : List Str := ["told", "due", "k"]
def I__law_same : FnI := ⟨"_law_same", ["told", "due"], none, false⟩
def b__law_same : List S := [.ifs (.bi .isTup [.var 1]) [.ifs (.or (.not (.bi .isTup [.var 0])) (.cmp .ne (.bi .len [.var 0]) (.bi .len [.var 1]))) [.ret (.con (.bl false))] [], .ret (.cmp .eq (.comp [2] (.nm 2) .range [.bi .len [.var 1]] [.not (.call 19 [.ix (.var 0) (.var 2), .ix (.var 1) (.var 2)])] (.var 2)) (.lst []))] [], .ifs (.bi .isList [.var 1]) [.ifs (.or (.not (.bi .isList [.var 0])) (.cmp .ne (.bi .len [.var 0]) (.bi .len [.var 1]))) [.ret (.con (.bl false))] [], .ret (.cmp .eq (.comp [2] (.nm 2) .range [.bi .len [.var 1]] [.not (.call 19 [.ix (.var 0) (.var 2), .ix (.var 1) (.var 2)])] (.var 2)) (.lst []))] [], .ifs (.cmp .is (.var 1) (.con .non)) [.ret (.cmp .is (.var 0) (.con .non))] [], .ifs (.bi .isBool [.var 1]) [.ret (.and (.bi .isBool [.var 0]) (.cmp .eq (.var 0) (.var 1)))] [], .ifs (.bi .isInt [.var 1]) [.ret (.and (.bi .isInt [.var 0]) (.and (.not (.bi .isBool [.var 0])) (.cmp .eq (.var 0) (.var 1))))] [], .ret (.and (.bi .isStr [.var 0]) (.cmp .eq (.var 0) (.var 1)))]
def N__law_gcd : List Str := ["one", "other", "step"]
def I__law_gcd : FnI := ⟨"_law_gcd", ["one", "other"], none, false⟩
def b__law_gcd : List S := [.par 0 1 (.bi .abs [.var 0]) (.bi .abs [.var 1]), .loop [] (.nm 2) .range [.con (.int 20000)] [.ifs (.cmp .eq (.var 1) (.con (.int 0))) [.ret (.var 0)] [], .par 0 1 (.var 1) (.bin .mod (.bi .intOf [.var 0]) (.var 1))], .ret (.var 0)]
def N__law_gcds : List Str := ["numbers", "found", "number"]
def I__law_gcds : FnI := ⟨"_law_gcds", ["numbers"], none, false⟩
def b__law_gcds : List S := [.set 1 (.con (.int 0)), .frz 1, .loop [] (.nm 2) .seq [.var 0] [.set 1 (.call 20 [.var 1, .var 2]), .frz 1], .ret (.var 1)]
def N__law_dot : List Str := ["one", "other", "a", "b"]
def I__law_dot : FnI := ⟨"_law_dot", ["one", "other"], none, false⟩
def b__law_dot : List S := [.ret (.bi .sum [.comp [2, 3] (.tp [.nm 2, .nm 3]) .zip [.var 0, .var 1] [] (.bin .mul (.var 2) (.var 3))])]
def N__law_is_place : List Str := ["place", "size"]
def I__law_is_place : FnI := ⟨"_law_is_place", ["place", "size"], none, false⟩
def b__law_is_place : List S := [.ret (.and (.cmp .eq (.bi .len [.var 0]) (.bin .add (.var 1) (.con (.int 1)))) (.and (.cmp .gt (.ix (.var 0) (.neg (.con (.int 1)))) (.con (.int 0))) (.cmp .eq (.call 21 [.var 0]) (.con (.int 1)))))]
def N__law_sum : List Str := ["rows", "shares", "width", "k", "share", "row"]
def I__law_sum : FnI := ⟨"_law_sum", ["rows", "shares", "width"], none, false⟩
def b__law_sum : List S := [.ret (.bi .tupleOf [.comp [3] (.nm 3) .range [.var 2] [] (.bi .sum [.comp [4, 5] (.tp [.nm 4, .nm 5]) .zip [.var 1, .var 0] [] (.bin .mul (.var 4) (.ix (.var 5) (.var 3)))])])]
def N__law_place : List Str := ["numbers", "under", "common", "number"]
def I__law_place : FnI := ⟨"_law_place", ["numbers", "under"], none, false⟩
def b__law_place : List S := [.set 2 (.call 21 [.bin .add (.bi .listOf [.var 0]) (.lst [.var 1])]), .frz 2, .ret (.bi .tupleOf [.comp [3] (.nm 3) .seq [.bin .add (.bi .listOf [.var 0]) (.lst [.var 1])] [] (.bin .fdiv (.var 3) (.var 2))])]
def N__law_table : List Str := ["source", "height", "width", "scale", "rows", "k", "row"]
def I__law_table : FnI := ⟨"_law_table", ["source", "height", "width"], some 0, false⟩
def b__law_table : List S := [.set 3 (.ix (.lst [.con (.int 2), .con (.int 3), .bin .pow (.con (.int 10)) (.con (.int 6))]) (.call 18 [.io 0, .con (.int 3)])), .frz 3, .set 4 (.comp [6] (.nm 6) .range [.var 1] [] (.bi .tupleOf [.comp [5] (.nm 5) .range [.var 2] [] (.bin .mul (.bi .intOf [.cmp .gt (.call 18 [.io 0, .con (.int 3)]) (.con (.int 0))]) (.bin .sub (.call 18 [.io 0, .bin .add (.bin .mul (.con (.int 2)) (.var 3)) (.con (.int 1))]) (.var 3)))])), .loop [] (.nm 5) .range [.con (.int 1), .var 1] [.ifs (.cmp .eq (.call 18 [.io 0, .con (.int 4)]) (.con (.int 0))) [.setix 4 (.var 5) (.call 24 [.slc (.pk 4) (.con .non) (.var 5), .comp [6] (.nm 6) .range [.var 5] [] (.bin .sub (.call 18 [.io 0, .con (.int 5)]) (.con (.int 2))), .var 2])] []], .ret (.var 4)]
def N__law_area : List Str := ["rows", "ways", "row", "wide", "some", "column", "before", "key", "k"]
def I__law_area : FnI := ⟨"_law_area", ["rows"], none, false⟩
def b__law_area : List S := [.set 1 (.dic true [.tup []] [.con (.int 1)]), .frz 1, .loop [] (.nm 2) .seq [.var 0] [.set 3 (.dic true [] []), .loop [] (.nm 4) .keys [.pk 1] [.loop [] (.nm 5) .range [.bi .len [.var 2]] [.ifs (.cmp .notin (.var 5) (.var 4)) [.set 6 (.bi .len [.comp [8] (.nm 8) .seq [.var 4] [.cmp .gt (.var 8) (.var 5)] (.var 8)]), .frz 6, .set 7 (.bi .tupleOf [.bi .sorted [.bin .add (.var 4) (.tup [.var 5])]]), .frz 7, .setix 3 (.var 7) (.bin .add (.get2 (.pk 3) (.var 7) (.con (.int 0))) (.bin .mul (.bin .mul (.ix (.var 1) (.var 4)) (.ix (.var 2) (.var 5))) (.bin .sub (.con (.int 1)) (.bin .mul (.con (.int 2)) (.bin .mod (.bi .intOf [.var 6]) (.con (.int 2)))))))] []]], .set 1 (.var 3), .frz 1], .ret (.bi .sum [.comp [4] (.nm 4) .keys [.pk 1] [] (.ix (.var 1) (.var 4))])]
def N__law_rank : List Str := ["rows", "width", "left", "count", "column", "at", "row", "head", "k", "own", "j"]
def I__law_rank : FnI := ⟨"_law_rank", ["rows", "width"], none, false⟩
def b__law_rank : List S := [.set 2 (.comp [6] (.nm 6) .seq [.var 0] [] (.bi .listOf [.var 6])), .set 3 (.con (.int 0)), .frz 3, .loop [] (.nm 4) .range [.var 1] [.set 5 (.comp [8] (.nm 8) .range [.var 3, .bi .len [.pk 2]] [.cmp .ne (.ix (.ix (.pk 2) (.var 8)) (.var 4)) (.con (.int 0))] (.var 8)), .ifs (.cmp .ne (.pk 5) (.lst [])) [.swap 2 (.var 3) 2 (.ix (.pk 5) (.con (.int 0))) (.ix (.pk 2) (.ix (.pk 5) (.con (.int 0)))) (.ix (.pk 2) (.var 3)), .set 7 (.bi .listOf [.ix (.pk 2) (.var 3)]), .frz 7, .loop [] (.nm 8) .range [.bin .add (.var 3) (.con (.int 1)), .bi .len [.pk 2]] [.set 9 (.ix (.pk 2) (.var 8)), .frz 9, .setix 2 (.var 8) (.comp [10] (.nm 10) .range [.var 1] [] (.bin .sub (.bin .mul (.ix (.var 9) (.var 10)) (.ix (.var 7) (.var 4))) (.bin .mul (.ix (.var 9) (.var 4)) (.ix (.var 7) (.var 10)))))], .set 3 (.bin .add (.var 3) (.con (.int 1))), .frz 3] []], .ret (.var 3)]
def N__law_first : List Str := ["row", "some", "k"]
def I__law_first : FnI := ⟨"_law_first", ["row"], none, false⟩
def b__law_first : List S := [.set 1 (.comp [2] (.nm 2) .range [.bi .len [.var 0]] [.cmp .ne (.ix (.var 0) (.var 2)) (.con (.int 0))] (.var 2)), .frz 1, .ret (.ix (.bin .add (.var 1) (.lst [.bi .len [.var 0]])) (.con (.int 0)))]
def N__law_right : List Str := ["source", "height", "width", "rows", "square", "found", "pivots", "own", "k", "base", "free", "column", "word", "under", "due", "a", "b", "one", "other", "told", "place", "row", "x", "y", "j", "number", "n"]
def I__law_right : FnI := ⟨"_law_right", ["source"], some 0, false⟩
def b__law_right : List S := [.set 1 (.bin .add (.con (.int 1)) (.call 18 [.io 0, .con (.int 5)])), .frz 1, .set 2 (.bin .add (.con (.int 1)) (.call 18 [.io 0, .con (.int 5)])), .frz 2, .set 3 (.call 26 [.io 0, .var 1, .var 2]), .frz 3, .set 4 (.call 26 [.io 0, .var 1, .var 1]), .frz 4, .ifs (.not (.call 19 [.call 10 [.comp [21] (.nm 21) .seq [.var 4] [] (.bi .listOf [.var 21])], .call 27 [.var 4]])) [.ret (.con (.bl false))] [], .tset [.nm 5, .nm 6] (.call 11 [.comp [21] (.nm 21) .seq [.var 3] [] (.bi .listOf [.var 21]), .var 2]), .set 7 (.call 28 [.var 3, .var 2]), .frz 7, .ifs (.or (.not (.bi .isTup [.var 5])) (.or (.not (.bi .isTup [.var 6])) (.or (.cmp .ne (.bi .len [.var 5]) (.var 7)) (.or (.cmp .ne (.bi .len [.var 6]) (.var 7)) (.not (.call 19 [.call 13 [.var 3, .var 2], .var 7])))))) [.ret (.con (.bl false))] [], .loop [] (.nm 8) .range [.var 7] [.set 21 (.ix (.var 5) (.var 8)), .frz 21, .ifs (.or (.not (.bi .isTup [.var 21])) (.or (.cmp .ne (.bi .len [.var 21]) (.var 2)) (.or (.cmp .ne (.call 29 [.var 21]) (.ix (.var 6) (.var 8))) (.or (.cmp .lt (.ix (.var 21) (.ix (.var 6) (.var 8))) (.con (.int 1))) (.cmp .ne (.call 21 [.var 21]) (.con (.int 1))))))) [.ret (.con (.bl false))] [], .ifs (.or (.cmp .ne (.comp [24] (.nm 24) .range [.var 7] [.and (.cmp .ne (.var 24) (.var 8)) (.cmp .ne (.ix (.ix (.var 5) (.var 24)) (.ix (.var 6) (.var 8))) (.con (.int 0)))] (.var 24)) (.lst [])) (.and (.cmp .gt (.var 8) (.con (.int 0))) (.cmp .le (.ix (.var 6) (.var 8)) (.ix (.var 6) (.bin .sub (.var 8) (.con (.int 1))))))) [.ret (.con (.bl false))] []], .ifs (.cmp .ne (.call 28 [.bin .add (.bi .listOf [.var 3]) (.bi .listOf [.var 5]), .var 2]) (.var 7)) [.ret (.con (.bl false))] [], .set 9 (.call 14 [.comp [21] (.nm 21) .seq [.var 3] [] (.bi .listOf [.var 21]), .var 2]), .frz 9, .set 10 (.comp [11] (.nm 11) .range [.var 2] [.cmp .notin (.var 11) (.var 6)] (.var 11)), .frz 10, .ifs (.or (.not (.bi .isTup [.var 9])) (.cmp .ne (.bi .len [.var 9]) (.bi .len [.var 10]))) [.ret (.con (.bl false))] [], .loop [] (.tp [.nm 11, .nm 12]) .zip [.var 10, .var 9] [.ifs (.or (.cmp .ne (.bi .len [.var 12]) (.var 2)) (.or (.cmp .lt (.ix (.var 12) (.var 11)) (.con (.int 1))) (.or (.cmp .ne (.call 21 [.var 12]) (.con (.int 1))) (.cmp .ne (.comp [8] (.nm 8) .seq [.var 10] [.and (.cmp .ne (.var 8) (.var 11)) (.cmp .ne (.ix (.var 12) (.var 8)) (.con (.int 0)))] (.var 8)) (.lst []))))) [.ret (.con (.bl false))] [], .ifs (.cmp .ne (.comp [21] (.nm 21) .seq [.var 3] [.cmp .ne (.call 22 [.var 21, .var 12]) (.con (.int 0))] (.var 21)) (.lst [])) [.ret (.con (.bl false))] []], .set 12 (.comp [8] (.nm 8) .range [.var 2] [] (.bin .sub (.call 18 [.io 0, .con (.int 9)]) (.con (.int 4)))), .frz 12, .set 13 (.bin .add (.con (.int 1)) (.call 18 [.io 0, .con (.int 4)])), .frz 13, .loop [] (.nm 14) .seq [.lst [.bi .tupleOf [.comp [21] (.nm 21) .seq [.var 3] [] (.call 22 [.var 21, .var 12])], .bi .tupleOf [.comp [21] (.nm 21) .seq [.var 3] [] (.bin .sub (.call 18 [.io 0, .con (.int 7)]) (.con (.int 3)))]]] [.set 19 (.call 15 [.var 3, .bi .listOf [.var 14], .var 2]), .frz 19, .ifs (.cmp .ne (.cmp .is (.var 19) (.con .non)) (.cmp .gt (.call 28 [.comp [21, 25] (.tp [.nm 21, .nm 25]) .zip [.var 3, .var 14] [] (.bin .add (.var 21) (.tup [.var 25])), .bin .add (.var 2) (.con (.int 1))]) (.var 7))) [.ret (.con (.bl false))] [], .ifs (.cmp .isnot (.var 19) (.con .non)) [.ifs (.or (.not (.bi .isTup [.var 19])) (.or (.not (.call 23 [.var 19, .var 2])) (.cmp .ne (.comp [8] (.nm 8) .seq [.var 10] [.cmp .ne (.ix (.var 19) (.var 8)) (.con (.int 0))] (.var 8)) (.lst [])))) [.ret (.con (.bl false))] [], .ifs (.cmp .ne (.comp [8] (.nm 8) .range [.var 1] [.cmp .ne (.call 22 [.ix (.var 3) (.var 8), .var 19]) (.bin .mul (.ix (.var 14) (.var 8)) (.ix (.var 19) (.neg (.con (.int 1)))))] (.var 8)) (.lst [])) [.ret (.con (.bl false))] []] []], .par 15 16 (.ix (.var 12) (.con (.int 0))) (.ix (.var 12) (.neg (.con (.int 1)))), .ifs (.not (.call 19 [.tup [.call 0 [.var 15, .var 16], .call 1 [.var 12], .call 2 [.var 12]], .tup [.call 20 [.var 15, .var 16], .call 21 [.var 12], .bi .tupleOf [.comp [26] (.nm 26) .seq [.var 12] [] (.bin .fdiv (.var 26) (.bi .max2 [.call 21 [.var 12], .con (.int 1)]))]]])) [.ret (.con (.bl false))] [], .ifs (.not (.call 19 [.tup [.call 3 [.var 12, .var 13], .call 3 [.var 12, .bin .sub (.con (.int 0)) (.var 13)]], .tup [.call 25 [.var 12, .var 13], .call 25 [.comp [26] (.nm 26) .seq [.var 12] [] (.bin .sub (.con (.int 0)) (.var 26)), .var 13]]])) [.ret (.con (.bl false))] [], .par 17 18 (.ix (.var 3) (.con (.int 0))) (.ix (.var 3) (.neg (.con (.int 1)))), .set 19 (.tup [.call 6 [.var 17, .var 18], .call 7 [.var 17, .var 18], .call 8 [.var 17, .bin .sub (.con (.int 0)) (.con (.int 3))], .call 5 [.var 17, .var 18], .call 9 [.bin .mul (.slc (.var 12) (.con .non) (.con (.int 1))) (.var 1), .var 3, .var 2]]), .frz 19, .set 14 (.tup [.bi .tupleOf [.comp [22, 23] (.tp [.nm 22, .nm 23]) .zip [.var 17, .var 18] [] (.bin .add (.var 22) (.var 23))], .bi .tupleOf [.comp [22, 23] (.tp [.nm 22, .nm 23]) .zip [.var 17, .var 18] [] (.bin .sub (.var 22) (.var 23))], .bi .tupleOf [.comp [22] (.nm 22) .seq [.var 17] [] (.bin .sub (.con (.int 0)) (.bin .mul (.con (.int 3)) (.var 22)))], .call 22 [.var 17, .var 18]]), .frz 14, .ifs (.not (.call 19 [.var 19, .bin .add (.var 14) (.tup [.call 24 [.var 3, .bin .mul (.slc (.var 12) (.con .non) (.con (.int 1))) (.var 1), .var 2]])])) [.ret (.con (.bl false))] [], .set 20 (.bin .add (.bi .tupleOf [.var 12]) (.tup [.var 13])), .frz 20, .ret (.and (.cmp .eq (.call 4 [.var 20, .var 2]) (.call 23 [.var 20, .var 2])) (.and (.cmp .is (.call 4 [.var 20, .bin .add (.var 2) (.con (.int 1))]) (.con (.bl false))) (.cmp .is (.call 4 [.bin .add (.slc (.var 20) (.con .non) (.neg (.con (.int 1)))) (.tup [.con (.int 0)]), .var 2]) (.con (.bl false)))))]
def N_law : List Str := ["script", "k"]
def I_law : FnI := ⟨"law", ["script"], none, false⟩
def b_law : List S := [.loop [] (.nm 1) .range [.bin .add (.bi .min2 [.bi .len [.var 0], .con (.int 6)]) (.con (.int 3))] [.ifs (.not (.call 30 [.tmp (.callF 17 [.call 16 [.var 0, .var 1], .var 1])])) [.ret (.con (.bl false))] []], .ret (.con (.bl true))]
def fnIs : List FnI := [I_shared, I_shared_all, I_lowest, I_place_of, I_is_place, I_dot, I_plus, I_less, I_times, I_combined, I_area, I_stairs, I__without, I_rank, I_zeros, I_solved, I__law_cell, I__law_source, I__law_pick, I__law_same, I__law_gcd, I__law_gcds, I__law_dot, I__law_is_place, I__law_sum, I__law_place, I__law_table, I__law_area, I__law_rank, I__law_first, I__law_right, I_law]
def fnNs : List (List Str) := [N_shared, N_shared_all, N_lowest, N_place_of, N_is_place, N_dot, N_plus, N_less, N_times, N_combined, N_area, N_stairs, N__without, N_rank, N_zeros, N_solved, N__law_cell, N__law_source, N__law_pick, N__law_same, N__law_gcd, N__law_gcds, N__law_dot, N__law_is_place, N__law_sum, N__law_place, N__law_table, N__law_area, N__law_rank, N__law_first, N__law_right, N_law]
def fnBs : List (List S) := [b_shared, b_shared_all, b_lowest, b_place_of, b_is_place, b_dot, b_plus, b_less, b_times, b_combined, b_area, b_stairs, b__without, b_rank, b_zeros, b_solved, b__law_cell, b__law_source, b__law_pick, b__law_same, b__law_gcd, b__law_gcds, b__law_dot, b__law_is_place, b__law_sum, b__law_place, b__law_table, b__law_area, b__law_rank, b__law_first, b__law_right, b_law]

def frees0 : List Str := ["abs", "max", "min", "tuple", "list", "sum", "len", "any", "all", "int"]
def frees1 : List Str := ["sorted", "range", "zip", "enumerate", "isinstance", "bool", "str"]
def tab : Tab := { fn := fun i => fnIs[i]?, gls := fun _ => none, frees := frees0 ++ frees1, cad := fun _ => 0, cat := fun _ => "" }
abbrev prog : Program := PySem.Challenge.pw_polywhole_k00_whole_areas_and_stairs
def defsOf : List Stmt → List Stmt
  | [] => []
  | s :: r => (match s with | .FunctionDef .. => [s] | _ => []) ++ defsOf r
def sts : List Stmt := defsOf prog.main.body
def stA (i : Nat) : Stmt := sts.getD i (.Pass ⟨0, 0, 0, 0⟩)
def okA (i : Nat) : Bool := match fnIs[i]?, fnNs[i]?, fnBs[i]? with
  | some fi, some N, some b => (chkSs tab b (defC N (defScope (stA i)) fi) (o00 N.length fi.io) (defBody (stA i))).isSome
  | _, _, _ => false
theorem all_ok : ((List.range fnIs.length).all okA) = true := by decide +kernel
end K00
end
section
set_option Elab.async false
set_option linter.all false
set_option maxRecDepth 100000
set_option maxHeartbeats 0
namespace K00
open PySem PySem.Spec PyProof.Rows L2
def nameOf : Stmt → Str
  | .FunctionDef x _ _ _ _ _ _ _ _ _ => x
  | _ => default
def dOf (st : Stmt) : He.DefD := ⟨(nameOf st, none), nameOf st, nameOf st, defArgs st, defBody st, defScope st, [], []⟩
def fnD : List He.DefD := sts.map dOf
def fa0 : List He.Fa := [.glo "shared", .glo "shared_all", .glo "lowest", .glo "place_of", .glo "is_place", .glo "dot", .glo "plus", .glo "less", .glo "times", .glo "combined", .glo "area", .glo "stairs"]
def fa1 : List He.Fa := [.glo "_without", .glo "rank", .glo "zeros", .glo "solved", .glo "_law_cell", .glo "_law_source", .glo "_law_pick", .glo "_law_same", .glo "_law_gcd", .glo "_law_gcds", .glo "_law_dot", .glo "_law_is_place"]
def fa2 : List He.Fa := [.glo "_law_sum", .glo "_law_place", .glo "_law_table", .glo "_law_area", .glo "_law_rank", .glo "_law_first", .glo "_law_right", .glo "law", .free "abs", .free "max", .free "min", .free "tuple"]
def fa3 : List He.Fa := [.free "list", .free "sum", .free "len", .free "any", .free "all", .free "int", .free "sorted", .free "range", .free "zip", .free "enumerate", .free "isinstance", .free "bool"]
def fa4 : List He.Fa := [.free "str"]
def fa : List He.Fa := fa0 ++ fa1 ++ fa2 ++ fa3 ++ fa4
def loose0 : List Str := ["shared", "shared_all", "lowest", "place_of", "is_place", "dot", "plus", "less", "times", "combined", "area", "stairs"]
def loose1 : List Str := ["_without", "rank", "zeros", "solved", "_law_cell", "_law_source", "_law_pick", "_law_same", "_law_gcd", "_law_gcds", "_law_dot", "_law_is_place"]
def loose2 : List Str := ["_law_sum", "_law_place", "_law_table", "_law_area", "_law_rank", "_law_first", "_law_right"]
def loose : List Str := loose0 ++ loose1 ++ loose2
abbrev R : PySem.W.OpenRow := PySem.W.OpenLaw.row PySem.Challenge.rw_polywhole_k00_whole_areas_and_stairs
abbrev hk : PySem.W.Hook := He.hookD 5 fa fnD
def ob (s : PySem.W.SharedT) : He.AlD := He.obsDG 5 fa fnD (HandSHeadRun.getT s)
theorem ob_eq (s : PySem.W.SharedT) : ob s = hk.obs s.abs := He.obsDG_eq (HandSHeadRun.getT_eq s)
theorem run (w : World) : HandSHeadRun.RunEq R (PySem.W.view R.prog [33]) hk ob 6000 loose w := by
  intro os
  kernel_rfl
end K00
end
section
set_option Elab.async false
set_option linter.all false
set_option maxRecDepth 100000
set_option maxHeartbeats 0
namespace K00
open PX PySem PySem.Spec PyProof.Rows L2
def fns : Nat → Option Fn := fun i => match fnIs[i]?, fnNs[i]?, fnBs[i]? with
  | some fi, some N, some b => some (fnIR N fi b)
  | _, _, _ => none
section
variable {K : PySem.W.Frag} {h : Heap} {mg : Str → Option Value}
theorem okD_0 (X : K.In h) (G : h.Ns mainGlobals mg) (c : He.SaysD fa fnD K) : DefOk tab K mg fns 0 I_shared := by
  obtain ⟨fd, F⟩ := c.def_ 0 (d := dOf (stA 0)) (by kernel_rfl)
  have Fu : Fun K "shared" "shared" (stA 0) _ fd := He5.fun_of F
  exact ⟨N_shared, b_shared, stA 0, _, _, _, fd, rfl, Fu, ⟨by kernel_rfl, by kernel_rfl, by kernel_rfl, by decide +kernel, by kernel_rfl, by decide +kernel, by decide +kernel⟩, (fun p hp => by cases hp <;> decide), He.glo_ok X G (c.fact 0 (f := .glo "shared") rfl), F.kp, F.bindsN (fun _ _ _ _ _ _ us hl => match us, hl with | [_, _], _ => rfl), by decide +kernel⟩
theorem okD_1 (X : K.In h) (G : h.Ns mainGlobals mg) (c : He.SaysD fa fnD K) : DefOk tab K mg fns 1 I_shared_all := by
  obtain ⟨fd, F⟩ := c.def_ 1 (d := dOf (stA 1)) (by kernel_rfl)
  have Fu : Fun K "shared_all" "shared_all" (stA 1) _ fd := He5.fun_of F
  exact ⟨N_shared_all, b_shared_all, stA 1, _, _, _, fd, rfl, Fu, ⟨by kernel_rfl, by kernel_rfl, by kernel_rfl, by decide +kernel, by kernel_rfl, by decide +kernel, by decide +kernel⟩, (fun p hp => by cases hp <;> decide), He.glo_ok X G (c.fact 1 (f := .glo "shared_all") rfl), F.kp, F.bindsN (fun _ _ _ _ _ _ us hl => match us, hl with | [_], _ => rfl), by decide +kernel⟩
theorem okD_2 (X : K.In h) (G : h.Ns mainGlobals mg) (c : He.SaysD fa fnD K) : DefOk tab K mg fns 2 I_lowest := by
  obtain ⟨fd, F⟩ := c.def_ 2 (d := dOf (stA 2)) (by kernel_rfl)
  have Fu : Fun K "lowest" "lowest" (stA 2) _ fd := He5.fun_of F
  exact ⟨N_lowest, b_lowest, stA 2, _, _, _, fd, rfl, Fu, ⟨by kernel_rfl, by kernel_rfl, by kernel_rfl, by decide +kernel, by kernel_rfl, by decide +kernel, by decide +kernel⟩, (fun p hp => by cases hp <;> decide), He.glo_ok X G (c.fact 2 (f := .glo "lowest") rfl), F.kp, F.bindsN (fun _ _ _ _ _ _ us hl => match us, hl with | [_], _ => rfl), by decide +kernel⟩
theorem okD_3 (X : K.In h) (G : h.Ns mainGlobals mg) (c : He.SaysD fa fnD K) : DefOk tab K mg fns 3 I_place_of := by
  obtain ⟨fd, F⟩ := c.def_ 3 (d := dOf (stA 3)) (by kernel_rfl)
  have Fu : Fun K "place_of" "place_of" (stA 3) _ fd := He5.fun_of F
  exact ⟨N_place_of, b_place_of, stA 3, _, _, _, fd, rfl, Fu, ⟨by kernel_rfl, by kernel_rfl, by kernel_rfl, by decide +kernel, by kernel_rfl, by decide +kernel, by decide +kernel⟩, (fun p hp => by cases hp <;> decide), He.glo_ok X G (c.fact 3 (f := .glo "place_of") rfl), F.kp, F.bindsN (fun _ _ _ _ _ _ us hl => match us, hl with | [_, _], _ => rfl), by decide +kernel⟩
theorem okD_4 (X : K.In h) (G : h.Ns mainGlobals mg) (c : He.SaysD fa fnD K) : DefOk tab K mg fns 4 I_is_place := by
  obtain ⟨fd, F⟩ := c.def_ 4 (d := dOf (stA 4)) (by kernel_rfl)
  have Fu : Fun K "is_place" "is_place" (stA 4) _ fd := He5.fun_of F
  exact ⟨N_is_place, b_is_place, stA 4, _, _, _, fd, rfl, Fu, ⟨by kernel_rfl, by kernel_rfl, by kernel_rfl, by decide +kernel, by kernel_rfl, by decide +kernel, by decide +kernel⟩, (fun p hp => by cases hp <;> decide), He.glo_ok X G (c.fact 4 (f := .glo "is_place") rfl), F.kp, F.bindsN (fun _ _ _ _ _ _ us hl => match us, hl with | [_, _], _ => rfl), by decide +kernel⟩
theorem okD_5 (X : K.In h) (G : h.Ns mainGlobals mg) (c : He.SaysD fa fnD K) : DefOk tab K mg fns 5 I_dot := by
  obtain ⟨fd, F⟩ := c.def_ 5 (d := dOf (stA 5)) (by kernel_rfl)
  have Fu : Fun K "dot" "dot" (stA 5) _ fd := He5.fun_of F
  exact ⟨N_dot, b_dot, stA 5, _, _, _, fd, rfl, Fu, ⟨by kernel_rfl, by kernel_rfl, by kernel_rfl, by decide +kernel, by kernel_rfl, by decide +kernel, by decide +kernel⟩, (fun p hp => by cases hp <;> decide), He.glo_ok X G (c.fact 5 (f := .glo "dot") rfl), F.kp, F.bindsN (fun _ _ _ _ _ _ us hl => match us, hl with | [_, _], _ => rfl), by decide +kernel⟩
theorem okD_6 (X : K.In h) (G : h.Ns mainGlobals mg) (c : He.SaysD fa fnD K) : DefOk tab K mg fns 6 I_plus := by
  obtain ⟨fd, F⟩ := c.def_ 6 (d := dOf (stA 6)) (by kernel_rfl)
  have Fu : Fun K "plus" "plus" (stA 6) _ fd := He5.fun_of F
  exact ⟨N_plus, b_plus, stA 6, _, _, _, fd, rfl, Fu, ⟨by kernel_rfl, by kernel_rfl, by kernel_rfl, by decide +kernel, by kernel_rfl, by decide +kernel, by decide +kernel⟩, (fun p hp => by cases hp <;> decide), He.glo_ok X G (c.fact 6 (f := .glo "plus") rfl), F.kp, F.bindsN (fun _ _ _ _ _ _ us hl => match us, hl with | [_, _], _ => rfl), by decide +kernel⟩
theorem okD_7 (X : K.In h) (G : h.Ns mainGlobals mg) (c : He.SaysD fa fnD K) : DefOk tab K mg fns 7 I_less := by
  obtain ⟨fd, F⟩ := c.def_ 7 (d := dOf (stA 7)) (by kernel_rfl)
  have Fu : Fun K "less" "less" (stA 7) _ fd := He5.fun_of F
  exact ⟨N_less, b_less, stA 7, _, _, _, fd, rfl, Fu, ⟨by kernel_rfl, by kernel_rfl, by kernel_rfl, by decide +kernel, by kernel_rfl, by decide +kernel, by decide +kernel⟩, (fun p hp => by cases hp <;> decide), He.glo_ok X G (c.fact 7 (f := .glo "less") rfl), F.kp, F.bindsN (fun _ _ _ _ _ _ us hl => match us, hl with | [_, _], _ => rfl), by decide +kernel⟩
theorem okD_8 (X : K.In h) (G : h.Ns mainGlobals mg) (c : He.SaysD fa fnD K) : DefOk tab K mg fns 8 I_times := by
  obtain ⟨fd, F⟩ := c.def_ 8 (d := dOf (stA 8)) (by kernel_rfl)
  have Fu : Fun K "times" "times" (stA 8) _ fd := He5.fun_of F
  exact ⟨N_times, b_times, stA 8, _, _, _, fd, rfl, Fu, ⟨by kernel_rfl, by kernel_rfl, by kernel_rfl, by decide +kernel, by kernel_rfl, by decide +kernel, by decide +kernel⟩, (fun p hp => by cases hp <;> decide), He.glo_ok X G (c.fact 8 (f := .glo "times") rfl), F.kp, F.bindsN (fun _ _ _ _ _ _ us hl => match us, hl with | [_, _], _ => rfl), by decide +kernel⟩
theorem okD_9 (X : K.In h) (G : h.Ns mainGlobals mg) (c : He.SaysD fa fnD K) : DefOk tab K mg fns 9 I_combined := by
  obtain ⟨fd, F⟩ := c.def_ 9 (d := dOf (stA 9)) (by kernel_rfl)
  have Fu : Fun K "combined" "combined" (stA 9) _ fd := He5.fun_of F
  exact ⟨N_combined, b_combined, stA 9, _, _, _, fd, rfl, Fu, ⟨by kernel_rfl, by kernel_rfl, by kernel_rfl, by decide +kernel, by kernel_rfl, by decide +kernel, by decide +kernel⟩, (fun p hp => by cases hp <;> decide), He.glo_ok X G (c.fact 9 (f := .glo "combined") rfl), F.kp, F.bindsN (fun _ _ _ _ _ _ us hl => match us, hl with | [_, _, _], _ => rfl), by decide +kernel⟩
theorem okD_10 (X : K.In h) (G : h.Ns mainGlobals mg) (c : He.SaysD fa fnD K) : DefOk tab K mg fns 10 I_area := by
  obtain ⟨fd, F⟩ := c.def_ 10 (d := dOf (stA 10)) (by kernel_rfl)
  have Fu : Fun K "area" "area" (stA 10) _ fd := He5.fun_of F
  exact ⟨N_area, b_area, stA 10, _, _, _, fd, rfl, Fu, ⟨by kernel_rfl, by kernel_rfl, by kernel_rfl, by decide +kernel, by kernel_rfl, by decide +kernel, by decide +kernel⟩, (fun p hp => by cases hp <;> decide), He.glo_ok X G (c.fact 10 (f := .glo "area") rfl), F.kp, F.bindsN (fun _ _ _ _ _ _ us hl => match us, hl with | [_], _ => rfl), by decide +kernel⟩
theorem okD_11 (X : K.In h) (G : h.Ns mainGlobals mg) (c : He.SaysD fa fnD K) : DefOk tab K mg fns 11 I_stairs := by
  obtain ⟨fd, F⟩ := c.def_ 11 (d := dOf (stA 11)) (by kernel_rfl)
  have Fu : Fun K "stairs" "stairs" (stA 11) _ fd := He5.fun_of F
  exact ⟨N_stairs, b_stairs, stA 11, _, _, _, fd, rfl, Fu, ⟨by kernel_rfl, by kernel_rfl, by kernel_rfl, by decide +kernel, by kernel_rfl, by decide +kernel, by decide +kernel⟩, (fun p hp => by cases hp <;> decide), He.glo_ok X G (c.fact 11 (f := .glo "stairs") rfl), F.kp, F.bindsN (fun _ _ _ _ _ _ us hl => match us, hl with | [_, _], _ => rfl), by decide +kernel⟩
theorem okD_12 (X : K.In h) (G : h.Ns mainGlobals mg) (c : He.SaysD fa fnD K) : DefOk tab K mg fns 12 I__without := by
  obtain ⟨fd, F⟩ := c.def_ 12 (d := dOf (stA 12)) (by kernel_rfl)
  have Fu : Fun K "_without" "_without" (stA 12) _ fd := He5.fun_of F
  exact ⟨N__without, b__without, stA 12, _, _, _, fd, rfl, Fu, ⟨by kernel_rfl, by kernel_rfl, by kernel_rfl, by decide +kernel, by kernel_rfl, by decide +kernel, by decide +kernel⟩, (fun p hp => by cases hp <;> decide), He.glo_ok X G (c.fact 12 (f := .glo "_without") rfl), F.kp, F.bindsN (fun _ _ _ _ _ _ us hl => match us, hl with | [_, _, _], _ => rfl), by decide +kernel⟩
theorem okD_13 (X : K.In h) (G : h.Ns mainGlobals mg) (c : He.SaysD fa fnD K) : DefOk tab K mg fns 13 I_rank := by
  obtain ⟨fd, F⟩ := c.def_ 13 (d := dOf (stA 13)) (by kernel_rfl)
  have Fu : Fun K "rank" "rank" (stA 13) _ fd := He5.fun_of F
  exact ⟨N_rank, b_rank, stA 13, _, _, _, fd, rfl, Fu, ⟨by kernel_rfl, by kernel_rfl, by kernel_rfl, by decide +kernel, by kernel_rfl, by decide +kernel, by decide +kernel⟩, (fun p hp => by cases hp <;> decide), He.glo_ok X G (c.fact 13 (f := .glo "rank") rfl), F.kp, F.bindsN (fun _ _ _ _ _ _ us hl => match us, hl with | [_, _], _ => rfl), by decide +kernel⟩
theorem okD_14 (X : K.In h) (G : h.Ns mainGlobals mg) (c : He.SaysD fa fnD K) : DefOk tab K mg fns 14 I_zeros := by
  obtain ⟨fd, F⟩ := c.def_ 14 (d := dOf (stA 14)) (by kernel_rfl)
  have Fu : Fun K "zeros" "zeros" (stA 14) _ fd := He5.fun_of F
  exact ⟨N_zeros, b_zeros, stA 14, _, _, _, fd, rfl, Fu, ⟨by kernel_rfl, by kernel_rfl, by kernel_rfl, by decide +kernel, by kernel_rfl, by decide +kernel, by decide +kernel⟩, (fun p hp => by cases hp <;> decide), He.glo_ok X G (c.fact 14 (f := .glo "zeros") rfl), F.kp, F.bindsN (fun _ _ _ _ _ _ us hl => match us, hl with | [_, _], _ => rfl), by decide +kernel⟩
theorem okD_15 (X : K.In h) (G : h.Ns mainGlobals mg) (c : He.SaysD fa fnD K) : DefOk tab K mg fns 15 I_solved := by
  obtain ⟨fd, F⟩ := c.def_ 15 (d := dOf (stA 15)) (by kernel_rfl)
  have Fu : Fun K "solved" "solved" (stA 15) _ fd := He5.fun_of F
  exact ⟨N_solved, b_solved, stA 15, _, _, _, fd, rfl, Fu, ⟨by kernel_rfl, by kernel_rfl, by kernel_rfl, by decide +kernel, by kernel_rfl, by decide +kernel, by decide +kernel⟩, (fun p hp => by cases hp <;> decide), He.glo_ok X G (c.fact 15 (f := .glo "solved") rfl), F.kp, F.bindsN (fun _ _ _ _ _ _ us hl => match us, hl with | [_, _, _], _ => rfl), by decide +kernel⟩
theorem okD_16 (X : K.In h) (G : h.Ns mainGlobals mg) (c : He.SaysD fa fnD K) : DefOk tab K mg fns 16 I__law_cell := by
  obtain ⟨fd, F⟩ := c.def_ 16 (d := dOf (stA 16)) (by kernel_rfl)
  have Fu : Fun K "_law_cell" "_law_cell" (stA 16) _ fd := He5.fun_of F
  exact ⟨N__law_cell, b__law_cell, stA 16, _, _, _, fd, rfl, Fu, ⟨by kernel_rfl, by kernel_rfl, by kernel_rfl, by decide +kernel, by kernel_rfl, by decide +kernel, by decide +kernel⟩, (fun p hp => by cases hp <;> decide), He.glo_ok X G (c.fact 16 (f := .glo "_law_cell") rfl), F.kp, F.bindsN (fun _ _ _ _ _ _ us hl => match us, hl with | [_, _], _ => rfl), by decide +kernel⟩
theorem okD_17 (X : K.In h) (G : h.Ns mainGlobals mg) (c : He.SaysD fa fnD K) : DefOk tab K mg fns 17 I__law_source := by
  obtain ⟨fd, F⟩ := c.def_ 17 (d := dOf (stA 17)) (by kernel_rfl)
  have Fu : Fun K "_law_source" "_law_source" (stA 17) _ fd := He5.fun_of F
  exact ⟨N__law_source, b__law_source, stA 17, _, _, _, fd, rfl, Fu, ⟨by kernel_rfl, by kernel_rfl, by kernel_rfl, by decide +kernel, by kernel_rfl, by decide +kernel, by decide +kernel⟩, (fun p hp => by cases hp <;> decide), He.glo_ok X G (c.fact 17 (f := .glo "_law_source") rfl), F.kp, F.bindsN (fun _ _ _ _ _ _ us hl => match us, hl with | [_, _], _ => rfl), by decide +kernel⟩
theorem okD_18 (X : K.In h) (G : h.Ns mainGlobals mg) (c : He.SaysD fa fnD K) : DefOk tab K mg fns 18 I__law_pick := by
  obtain ⟨fd, F⟩ := c.def_ 18 (d := dOf (stA 18)) (by kernel_rfl)
  have Fu : Fun K "_law_pick" "_law_pick" (stA 18) _ fd := He5.fun_of F
  exact ⟨N__law_pick, b__law_pick, stA 18, _, _, _, fd, rfl, Fu, ⟨by kernel_rfl, by kernel_rfl, by kernel_rfl, by decide +kernel, by kernel_rfl, by decide +kernel, by decide +kernel⟩, (fun p hp => by cases hp <;> decide), He.glo_ok X G (c.fact 18 (f := .glo "_law_pick") rfl), F.kp, F.bindsN (fun _ _ _ _ _ _ us hl => match us, hl with | [_, _], _ => rfl), by decide +kernel⟩
theorem okD_19 (X : K.In h) (G : h.Ns mainGlobals mg) (c : He.SaysD fa fnD K) : DefOk tab K mg fns 19 I__law_same := by
  obtain ⟨fd, F⟩ := c.def_ 19 (d := dOf (stA 19)) (by kernel_rfl)
  have Fu : Fun K "_law_same" "_law_same" (stA 19) _ fd := He5.fun_of F
  exact ⟨N__law_same, b__law_same, stA 19, _, _, _, fd, rfl, Fu, ⟨by kernel_rfl, by kernel_rfl, by kernel_rfl, by decide +kernel, by kernel_rfl, by decide +kernel, by decide +kernel⟩, (fun p hp => by cases hp <;> decide), He.glo_ok X G (c.fact 19 (f := .glo "_law_same") rfl), F.kp, F.bindsN (fun _ _ _ _ _ _ us hl => match us, hl with | [_, _], _ => rfl), by decide +kernel⟩
theorem okD_20 (X : K.In h) (G : h.Ns mainGlobals mg) (c : He.SaysD fa fnD K) : DefOk tab K mg fns 20 I__law_gcd := by
  obtain ⟨fd, F⟩ := c.def_ 20 (d := dOf (stA 20)) (by kernel_rfl)
  have Fu : Fun K "_law_gcd" "_law_gcd" (stA 20) _ fd := He5.fun_of F
  exact ⟨N__law_gcd, b__law_gcd, stA 20, _, _, _, fd, rfl, Fu, ⟨by kernel_rfl, by kernel_rfl, by kernel_rfl, by decide +kernel, by kernel_rfl, by decide +kernel, by decide +kernel⟩, (fun p hp => by cases hp <;> decide), He.glo_ok X G (c.fact 20 (f := .glo "_law_gcd") rfl), F.kp, F.bindsN (fun _ _ _ _ _ _ us hl => match us, hl with | [_, _], _ => rfl), by decide +kernel⟩
theorem okD_21 (X : K.In h) (G : h.Ns mainGlobals mg) (c : He.SaysD fa fnD K) : DefOk tab K mg fns 21 I__law_gcds := by
  obtain ⟨fd, F⟩ := c.def_ 21 (d := dOf (stA 21)) (by kernel_rfl)
  have Fu : Fun K "_law_gcds" "_law_gcds" (stA 21) _ fd := He5.fun_of F
  exact ⟨N__law_gcds, b__law_gcds, stA 21, _, _, _, fd, rfl, Fu, ⟨by kernel_rfl, by kernel_rfl, by kernel_rfl, by decide +kernel, by kernel_rfl, by decide +kernel, by decide +kernel⟩, (fun p hp => by cases hp <;> decide), He.glo_ok X G (c.fact 21 (f := .glo "_law_gcds") rfl), F.kp, F.bindsN (fun _ _ _ _ _ _ us hl => match us, hl with | [_], _ => rfl), by decide +kernel⟩
theorem okD_22 (X : K.In h) (G : h.Ns mainGlobals mg) (c : He.SaysD fa fnD K) : DefOk tab K mg fns 22 I__law_dot := by
  obtain ⟨fd, F⟩ := c.def_ 22 (d := dOf (stA 22)) (by kernel_rfl)
  have Fu : Fun K "_law_dot" "_law_dot" (stA 22) _ fd := He5.fun_of F
  exact ⟨N__law_dot, b__law_dot, stA 22, _, _, _, fd, rfl, Fu, ⟨by kernel_rfl, by kernel_rfl, by kernel_rfl, by decide +kernel, by kernel_rfl, by decide +kernel, by decide +kernel⟩, (fun p hp => by cases hp <;> decide), He.glo_ok X G (c.fact 22 (f := .glo "_law_dot") rfl), F.kp, F.bindsN (fun _ _ _ _ _ _ us hl => match us, hl with | [_, _], _ => rfl), by decide +kernel⟩
theorem okD_23 (X : K.In h) (G : h.Ns mainGlobals mg) (c : He.SaysD fa fnD K) : DefOk tab K mg fns 23 I__law_is_place := by
  obtain ⟨fd, F⟩ := c.def_ 23 (d := dOf (stA 23)) (by kernel_rfl)
  have Fu : Fun K "_law_is_place" "_law_is_place" (stA 23) _ fd := He5.fun_of F
  exact ⟨N__law_is_place, b__law_is_place, stA 23, _, _, _, fd, rfl, Fu, ⟨by kernel_rfl, by kernel_rfl, by kernel_rfl, by decide +kernel, by kernel_rfl, by decide +kernel, by decide +kernel⟩, (fun p hp => by cases hp <;> decide), He.glo_ok X G (c.fact 23 (f := .glo "_law_is_place") rfl), F.kp, F.bindsN (fun _ _ _ _ _ _ us hl => match us, hl with | [_, _], _ => rfl), by decide +kernel⟩
theorem okD_24 (X : K.In h) (G : h.Ns mainGlobals mg) (c : He.SaysD fa fnD K) : DefOk tab K mg fns 24 I__law_sum := by
  obtain ⟨fd, F⟩ := c.def_ 24 (d := dOf (stA 24)) (by kernel_rfl)
  have Fu : Fun K "_law_sum" "_law_sum" (stA 24) _ fd := He5.fun_of F
  exact ⟨N__law_sum, b__law_sum, stA 24, _, _, _, fd, rfl, Fu, ⟨by kernel_rfl, by kernel_rfl, by kernel_rfl, by decide +kernel, by kernel_rfl, by decide +kernel, by decide +kernel⟩, (fun p hp => by cases hp <;> decide), He.glo_ok X G (c.fact 24 (f := .glo "_law_sum") rfl), F.kp, F.bindsN (fun _ _ _ _ _ _ us hl => match us, hl with | [_, _, _], _ => rfl), by decide +kernel⟩
theorem okD_25 (X : K.In h) (G : h.Ns mainGlobals mg) (c : He.SaysD fa fnD K) : DefOk tab K mg fns 25 I__law_place := by
  obtain ⟨fd, F⟩ := c.def_ 25 (d := dOf (stA 25)) (by kernel_rfl)
  have Fu : Fun K "_law_place" "_law_place" (stA 25) _ fd := He5.fun_of F
  exact ⟨N__law_place, b__law_place, stA 25, _, _, _, fd, rfl, Fu, ⟨by kernel_rfl, by kernel_rfl, by kernel_rfl, by decide +kernel, by kernel_rfl, by decide +kernel, by decide +kernel⟩, (fun p hp => by cases hp <;> decide), He.glo_ok X G (c.fact 25 (f := .glo "_law_place") rfl), F.kp, F.bindsN (fun _ _ _ _ _ _ us hl => match us, hl with | [_, _], _ => rfl), by decide +kernel⟩
theorem okD_26 (X : K.In h) (G : h.Ns mainGlobals mg) (c : He.SaysD fa fnD K) : DefOk tab K mg fns 26 I__law_table := by
  obtain ⟨fd, F⟩ := c.def_ 26 (d := dOf (stA 26)) (by kernel_rfl)
  have Fu : Fun K "_law_table" "_law_table" (stA 26) _ fd := He5.fun_of F
  exact ⟨N__law_table, b__law_table, stA 26, _, _, _, fd, rfl, Fu, ⟨by kernel_rfl, by kernel_rfl, by kernel_rfl, by decide +kernel, by kernel_rfl, by decide +kernel, by decide +kernel⟩, (fun p hp => by cases hp <;> decide), He.glo_ok X G (c.fact 26 (f := .glo "_law_table") rfl), F.kp, F.bindsN (fun _ _ _ _ _ _ us hl => match us, hl with | [_, _, _], _ => rfl), by decide +kernel⟩
theorem okD_27 (X : K.In h) (G : h.Ns mainGlobals mg) (c : He.SaysD fa fnD K) : DefOk tab K mg fns 27 I__law_area := by
  obtain ⟨fd, F⟩ := c.def_ 27 (d := dOf (stA 27)) (by kernel_rfl)
  have Fu : Fun K "_law_area" "_law_area" (stA 27) _ fd := He5.fun_of F
  exact ⟨N__law_area, b__law_area, stA 27, _, _, _, fd, rfl, Fu, ⟨by kernel_rfl, by kernel_rfl, by kernel_rfl, by decide +kernel, by kernel_rfl, by decide +kernel, by decide +kernel⟩, (fun p hp => by cases hp <;> decide), He.glo_ok X G (c.fact 27 (f := .glo "_law_area") rfl), F.kp, F.bindsN (fun _ _ _ _ _ _ us hl => match us, hl with | [_], _ => rfl), by decide +kernel⟩
theorem okD_28 (X : K.In h) (G : h.Ns mainGlobals mg) (c : He.SaysD fa fnD K) : DefOk tab K mg fns 28 I__law_rank := by
  obtain ⟨fd, F⟩ := c.def_ 28 (d := dOf (stA 28)) (by kernel_rfl)
  have Fu : Fun K "_law_rank" "_law_rank" (stA 28) _ fd := He5.fun_of F
  exact ⟨N__law_rank, b__law_rank, stA 28, _, _, _, fd, rfl, Fu, ⟨by kernel_rfl, by kernel_rfl, by kernel_rfl, by decide +kernel, by kernel_rfl, by decide +kernel, by decide +kernel⟩, (fun p hp => by cases hp <;> decide), He.glo_ok X G (c.fact 28 (f := .glo "_law_rank") rfl), F.kp, F.bindsN (fun _ _ _ _ _ _ us hl => match us, hl with | [_, _], _ => rfl), by decide +kernel⟩
theorem okD_29 (X : K.In h) (G : h.Ns mainGlobals mg) (c : He.SaysD fa fnD K) : DefOk tab K mg fns 29 I__law_first := by
  obtain ⟨fd, F⟩ := c.def_ 29 (d := dOf (stA 29)) (by kernel_rfl)
  have Fu : Fun K "_law_first" "_law_first" (stA 29) _ fd := He5.fun_of F
  exact ⟨N__law_first, b__law_first, stA 29, _, _, _, fd, rfl, Fu, ⟨by kernel_rfl, by kernel_rfl, by kernel_rfl, by decide +kernel, by kernel_rfl, by decide +kernel, by decide +kernel⟩, (fun p hp => by cases hp <;> decide), He.glo_ok X G (c.fact 29 (f := .glo "_law_first") rfl), F.kp, F.bindsN (fun _ _ _ _ _ _ us hl => match us, hl with | [_], _ => rfl), by decide +kernel⟩
theorem okD_30 (X : K.In h) (G : h.Ns mainGlobals mg) (c : He.SaysD fa fnD K) : DefOk tab K mg fns 30 I__law_right := by
  obtain ⟨fd, F⟩ := c.def_ 30 (d := dOf (stA 30)) (by kernel_rfl)
  have Fu : Fun K "_law_right" "_law_right" (stA 30) _ fd := He5.fun_of F
  exact ⟨N__law_right, b__law_right, stA 30, _, _, _, fd, rfl, Fu, ⟨by kernel_rfl, by kernel_rfl, by kernel_rfl, by decide +kernel, by kernel_rfl, by decide +kernel, by decide +kernel⟩, (fun p hp => by cases hp <;> decide), He.glo_ok X G (c.fact 30 (f := .glo "_law_right") rfl), F.kp, F.bindsN (fun _ _ _ _ _ _ us hl => match us, hl with | [_], _ => rfl), by decide +kernel⟩
theorem okD_31 (X : K.In h) (G : h.Ns mainGlobals mg) (c : He.SaysD fa fnD K) : DefOk tab K mg fns 31 I_law := by
  obtain ⟨fd, F⟩ := c.def_ 31 (d := dOf (stA 31)) (by kernel_rfl)
  have Fu : Fun K "law" "law" (stA 31) _ fd := He5.fun_of F
  exact ⟨N_law, b_law, stA 31, _, _, _, fd, rfl, Fu, ⟨by kernel_rfl, by kernel_rfl, by kernel_rfl, by decide +kernel, by kernel_rfl, by decide +kernel, by decide +kernel⟩, (fun p hp => by cases hp <;> decide), He.glo_ok X G (c.fact 31 (f := .glo "law") rfl), F.kp, F.bindsN (fun _ _ _ _ _ _ us hl => match us, hl with | [_], _ => rfl), by decide +kernel⟩
theorem hd_all (X : K.In h) (G : h.Ns mainGlobals mg) (c : He.SaysD fa fnD K) : ∀ i fi, tab.fn i = some fi → DefOk tab K mg fns i fi := fun i fi hi => match i, hi with
  | 0, hi => by cases hi; exact okD_0 X G c
  | 1, hi => by cases hi; exact okD_1 X G c
  | 2, hi => by cases hi; exact okD_2 X G c
  | 3, hi => by cases hi; exact okD_3 X G c
  | 4, hi => by cases hi; exact okD_4 X G c
  | 5, hi => by cases hi; exact okD_5 X G c
  | 6, hi => by cases hi; exact okD_6 X G c
  | 7, hi => by cases hi; exact okD_7 X G c
  | 8, hi => by cases hi; exact okD_8 X G c
  | 9, hi => by cases hi; exact okD_9 X G c
  | 10, hi => by cases hi; exact okD_10 X G c
  | 11, hi => by cases hi; exact okD_11 X G c
  | 12, hi => by cases hi; exact okD_12 X G c
  | 13, hi => by cases hi; exact okD_13 X G c
  | 14, hi => by cases hi; exact okD_14 X G c
  | 15, hi => by cases hi; exact okD_15 X G c
  | 16, hi => by cases hi; exact okD_16 X G c
  | 17, hi => by cases hi; exact okD_17 X G c
  | 18, hi => by cases hi; exact okD_18 X G c
  | 19, hi => by cases hi; exact okD_19 X G c
  | 20, hi => by cases hi; exact okD_20 X G c
  | 21, hi => by cases hi; exact okD_21 X G c
  | 22, hi => by cases hi; exact okD_22 X G c
  | 23, hi => by cases hi; exact okD_23 X G c
  | 24, hi => by cases hi; exact okD_24 X G c
  | 25, hi => by cases hi; exact okD_25 X G c
  | 26, hi => by cases hi; exact okD_26 X G c
  | 27, hi => by cases hi; exact okD_27 X G c
  | 28, hi => by cases hi; exact okD_28 X G c
  | 29, hi => by cases hi; exact okD_29 X G c
  | 30, hi => by cases hi; exact okD_30 X G c
  | 31, hi => by cases hi; exact okD_31 X G c
  | n + 32, hi => by cases hi
theorem hfr (X : K.In h) (G : h.Ns mainGlobals mg) (c : He.SaysD fa fnD K) : ∀ y ∈ tab.frees, mg y = none := by
  intro y hy
  have hy : y ∈ frees0 ++ frees1 := hy
  simp only [frees0, frees1, List.cons_append, List.nil_append, List.mem_cons, List.not_mem_nil, or_false] at hy
  rcases hy with rfl | rfl | rfl | rfl | rfl | rfl | rfl | rfl | rfl | rfl | rfl | rfl | rfl | rfl | rfl | rfl | rfl
  · exact He.free_ok X G (c.fact 32 (f := .free "abs") rfl)
  · exact He.free_ok X G (c.fact 33 (f := .free "max") rfl)
  · exact He.free_ok X G (c.fact 34 (f := .free "min") rfl)
  · exact He.free_ok X G (c.fact 35 (f := .free "tuple") rfl)
  · exact He.free_ok X G (c.fact 36 (f := .free "list") rfl)
  · exact He.free_ok X G (c.fact 37 (f := .free "sum") rfl)
  · exact He.free_ok X G (c.fact 38 (f := .free "len") rfl)
  · exact He.free_ok X G (c.fact 39 (f := .free "any") rfl)
  · exact He.free_ok X G (c.fact 40 (f := .free "all") rfl)
  · exact He.free_ok X G (c.fact 41 (f := .free "int") rfl)
  · exact He.free_ok X G (c.fact 42 (f := .free "sorted") rfl)
  · exact He.free_ok X G (c.fact 43 (f := .free "range") rfl)
  · exact He.free_ok X G (c.fact 44 (f := .free "zip") rfl)
  · exact He.free_ok X G (c.fact 45 (f := .free "enumerate") rfl)
  · exact He.free_ok X G (c.fact 46 (f := .free "isinstance") rfl)
  · exact He.free_ok X G (c.fact 47 (f := .free "bool") rfl)
  · exact He.free_ok X G (c.fact 48 (f := .free "str") rfl)
end
/-- the plain law -/
def Plain : Prop := ∀ ns : List Int, ns.length ≤ 63 → Phi fns (fun _ => .non) 40 31 [.scr ns] = .ok (.bl true) []
theorem facts {P : Program} {w : World} {K : PySem.W.Frag} {h : Heap} {mg : Str → Option Value} (pl : Plain) (X : K.In h) (G : h.Ns mainGlobals mg) (f : Addr) (hfa : mg ("law" : Str) = some (.ref f)) (c : He.SaysD fa fnD K) :
    ∃ (fd : FuncData) (sp : Sp), (∀ (s : Shared) (v : Value), BindsTo s fd ⟨[v], []⟩ [("script", v)]) ∧ (∀ (H : Hp) (a : Addr) (ns : List Int), ns.length ≤ 63 → L2.Only H → SqL K H a (ns.map V.int) → sp [.ref a] H (fun v _ => v = .bl true) fun _ _ _ => False) ∧
      ∀ base : Heap, K.In base → base.Ns mainGlobals mg → FnOk P w K mg base (L2.CX P w) 40 f fd ["script"] sp := by
  obtain ⟨fd, F⟩ := c.def_ 31 (d := dOf (stA 31)) (by kernel_rfl)
  have b := FunD.bindsA (ps := ["script"]) F fun _ _ _ _ _ _ us hl => match us, hl with | [_], _ => rfl
  have e0 := He.glo_ok X G (c.fact 31 (f := .glo "law") rfl)
  have e := hfa.symm.trans e0
  cases e
  have Fu : Fun K "law" "law" (stA 31) _ fd := He5.fun_of F
  refine ⟨fd, SpF tab K I_law (Phi fns (fun _ => .non) 40 31), fun s v => b s [v] rfl, fun H a ns hl _ hS => entry_ok rfl rfl rfl (pl ns hl) hS, fun base _ _ => ?_⟩
  exact level_at (hfr X G c) (fun i z d hh => by cases hh) (hd_all X G c) 39 31 (N := N_law) (body := b_law) rfl Fu ⟨by kernel_rfl, by kernel_rfl, by kernel_rfl, by decide +kernel, by kernel_rfl, by decide +kernel, by decide +kernel⟩ (fun p hp => by cases hp) (by decide +kernel)
end K00
open PySem PySem.W PySem.Calls PyProof.Rows
theorem k00_holds (pl : K00.Plain) : PySem.Challenge.rw_polywhole_k00_whole_areas_and_stairs.Holds := by
  w_on; o_law
  refine HandSHeadRun.head_any (r := OpenLaw.row PySem.Challenge.rw_polywhole_k00_whole_areas_and_stairs) (q := view (OpenLaw.row PySem.Challenge.rw_polywhole_k00_whole_areas_and_stairs).prog [33]) (H := K00.hk) (ob := K00.ob) (M := 6000) (loose := K00.loose) (d := HandSHeadRun.topDef (OpenLaw.row PySem.Challenge.rw_polywhole_k00_whole_areas_and_stairs).prog 33) (kwd := []) K00.ob_eq
    (by kernel_rfl) (fun s => by kernel_rfl) K00.run (by kernel_rfl) (by kernel_rfl) (by kernel_rfl) (by rfl) (by first | assumption | decide +kernel) (by decide +kernel) ⟨rfl, rfl, rfl, rfl, rfl, by decide +kernel⟩ ?hw ?hc
  case hw => w_witness2
  case hc =>
    refine PX.walk_px (l := PySem.Challenge.rw_polywhole_k00_whole_areas_and_stairs) (n := 63) (k := 40) (x := "script") rfl (by decide) (by kernel_rfl) ⟨rfl, by decide, by decide⟩ ?F
    intro w mg fa h Y G hmg0
    obtain ⟨K, KX, c⟩ := Y
    have hmg : mg ("law" : PySem.Str) = some (.ref fa) := by
      have e : (HandSHeadRun.topDef (OpenLaw.row PySem.Challenge.rw_polywhole_k00_whole_areas_and_stairs).prog 33).name = ("law" : PySem.Str) := by kernel_rfl
      rw [← e]
      exact hmg0
    obtain ⟨fd, sp, hb, hsp, hF⟩ := K00.facts (P := (PySem.Challenge.rw_polywhole_k00_whole_areas_and_stairs).prog) (w := w) pl KX G fa hmg c
    exact ⟨K, fd, sp, KX, hb, hsp, hF⟩
end
section
set_option autoImplicit false
set_option linter.all false
namespace PX
open PySem (Str)
namespace V
theorem st_len : ∀ (ρ : Env) (i : Nat) (v : Option D), (st ρ i v).length = ρ.length
  | [], _, _ => rfl
  | _ :: _, 0, _ => rfl
  | x :: r, i + 1, v => by
    show (st r i v).length + 1 = r.length + 1
    rw [st_len r i v]
theorem wipe_len : ∀ (is : List Nat) (ρ : Env), (wipe is ρ).length = ρ.length
  | [], _ => rfl
  | i :: is, ρ => by
    show (wipe is (st ρ i none)).length = _
    rw [wipe_len is, st_len]
theorem rest_len : ∀ (is : List Nat) (ρ0 ρ : Env), (rest is ρ0 ρ).length = ρ.length
  | [], _, _ => rfl
  | i :: is, ρ0, ρ => by
    show (rest is ρ0 (st ρ i (gt ρ0 i))).length = _
    rw [rest_len is, st_len]
theorem gt_st_eq : ∀ {ρ : Env} {i : Nat} {v : Option D}, i < ρ.length → gt (st ρ i v) i = v
  | [], _, _, h => absurd h (by simp)
  | _ :: _, 0, _, _ => rfl
  | _ :: r, i + 1, v, h => gt_st_eq (ρ := r) (by simpa using h)
theorem gt_st_ne : ∀ {ρ : Env} {i j : Nat} {v : Option D}, i ≠ j → gt (st ρ i v) j = gt ρ j
  | [], _, _, _, _ => rfl
  | _ :: _, 0, 0, _, h => absurd rfl h
  | _ :: _, 0, _ + 1, _, _ => rfl
  | _ :: _, _ + 1, 0, _, _ => rfl
  | _ :: r, i + 1, j + 1, v, h => gt_st_ne (ρ := r) (i := i) (j := j) fun z => h (by rw [z])
theorem gt_big : ∀ {ρ : Env} {i : Nat}, ρ.length ≤ i → gt ρ i = none
  | [], _, _ => rfl
  | _ :: _, 0, h => by simp at h
  | _ :: r, i + 1, h => gt_big (ρ := r) (by simpa using h)
theorem ext : ∀ {ρ ρ' : Env}, ρ.length = ρ'.length → (∀ j, gt ρ j = gt ρ' j) → ρ = ρ'
  | [], [], _, _ => rfl
  | [], _ :: _, h, _ => by simp at h
  | _ :: _, [], h, _ => by simp at h
  | x :: r, y :: s, h, g => by
    have h0 : x = y := g 0
    have h1 := ext (ρ := r) (ρ' := s) (by simpa using h) fun j => g (j + 1)
    rw [h0, h1]
theorem gt_wipe_out : ∀ {is : List Nat} {ρ : Env} {j : Nat}, j ∉ is → gt (wipe is ρ) j = gt ρ j
  | [], _, _, _ => rfl
  | i :: is, ρ, j, h => by
    rw [List.mem_cons, not_or] at h
    show gt (wipe is (st ρ i none)) j = _
    rw [gt_wipe_out h.2, gt_st_ne (Ne.symm h.1)]
theorem gt_rest_out : ∀ {is : List Nat} {ρ0 ρ : Env} {j : Nat}, j ∉ is → gt (rest is ρ0 ρ) j = gt ρ j
  | [], _, _, _, _ => rfl
  | i :: is, ρ0, ρ, j, h => by
    rw [List.mem_cons, not_or] at h
    show gt (rest is ρ0 (st ρ i (gt ρ0 i))) j = _
    rw [gt_rest_out h.2, gt_st_ne (Ne.symm h.1)]
theorem gt_rest_in : ∀ {is : List Nat} {ρ0 ρ : Env} {j : Nat}, j ∈ is → j < ρ.length → gt (rest is ρ0 ρ) j = gt ρ0 j
  | [], _, _, _, h, _ => by simp at h
  | i :: is, ρ0, ρ, j, h, hl => by
    show gt (rest is ρ0 (st ρ i (gt ρ0 i))) j = _
    by_cases q : j ∈ is
    · exact gt_rest_in q (by rw [st_len]; exact hl)
    · have e : j = i := (List.mem_cons.mp h).resolve_right q
      subst e
      rw [gt_rest_out q, gt_st_eq hl]
/-- a comprehension's names come back -/
theorem rest_back {own : List Nat} {ρ ρ' : Env} (h : wipe own ρ' = wipe own ρ) : rest own ρ ρ' = ρ := by
  have hl : ρ'.length = ρ.length := by have := congrArg List.length h; rwa [wipe_len, wipe_len] at this
  refine ext (by rw [rest_len, hl]) fun j => ?_
  by_cases q : j ∈ own
  · by_cases l : j < ρ'.length
    · exact gt_rest_in q l
    · rw [gt_big (by rw [rest_len]; omega), gt_big (by omega)]
  · rw [gt_rest_out q, ← gt_wipe_out q, h, gt_wipe_out q]
section
variable {own : List Nat} {tg : D → Env → Option Env} {test : Env → R Bool} {elt : Env → R D}
/-- every item goes through alone -/
theorem compL_pure {α : Type} (inj : α → D) (p : α → Bool) (f : α → D) {ρ0 : Env} : ∀ (xs : List α) (ρ : Env), wipe own ρ = ρ0 →
    (∀ x ∈ xs, ∃ ρ1, tg (inj x) ρ0 = some ρ1 ∧ ∃ ρ2, test ρ1 = .ok (p x) ρ2 ∧ (p x = true → ∃ ρ3, elt ρ2 = .ok (f x) ρ3 ∧ wipe own ρ3 = ρ0) ∧ (p x = false → wipe own ρ2 = ρ0)) →
    ∃ ρ', compL own tg test elt (xs.map inj) ρ = .ok ((xs.filter p).map f) ρ' ∧ wipe own ρ' = ρ0
  | [], ρ, h0, _ => ⟨ρ, rfl, h0⟩
  | x :: xs, ρ, h0, h => by
    obtain ⟨ρ1, h1, ρ2, h2, h3, h4⟩ := h x (by simp)
    have e : compL own tg test elt ((x :: xs).map inj) ρ = (test ρ1).bind fun b ρ2 => if b then (elt ρ2).bind fun y ρ3 => (compL own tg test elt (xs.map inj) ρ3).bind fun ys ρ4 => .ok (y :: ys) ρ4 else compL own tg test elt (xs.map inj) ρ2 := by
      show (match tg (inj x) (wipe own ρ) with | none => _ | some ρ1 => _) = _
      rw [h0, h1]
    rw [e, h2]
    cases hp : p x with
    | true =>
      obtain ⟨ρ3, h5, h6⟩ := h3 hp
      obtain ⟨ρ', h7, h8⟩ := compL_pure inj p f xs ρ3 h6 fun y hy => h y (List.mem_cons_of_mem _ hy)
      refine ⟨ρ', ?_, h8⟩
      show ((elt ρ2).bind fun y ρ3 => (compL own tg test elt (xs.map inj) ρ3).bind fun ys ρ4 => R.ok (y :: ys) ρ4) = _
      rw [h5]
      show (compL own tg test elt (xs.map inj) ρ3).bind _ = _
      rw [h7, List.filter_cons, hp]
      rfl
    | false =>
      obtain ⟨ρ', h7, h8⟩ := compL_pure inj p f xs ρ2 (h4 hp) fun y hy => h y (List.mem_cons_of_mem _ hy)
      refine ⟨ρ', ?_, h8⟩
      show compL own tg test elt (xs.map inj) ρ2 = _
      rw [h7, List.filter_cons, hp]
      rfl
end
/-- a comprehension, each item alone -/
theorem comp_pure {Φ : Fns} {gl : Nat → D} {own : List Nat} {tg : Tg} {ik : IK} {its ifs : List E} {elt : E} {ρ : Env} {ds : List D} {α : Type} (inj : α → D) (p : α → Bool) (f : α → D) (xs : List α)
    (h1 : evEs Φ gl its ρ = .ok ds ρ) (h2 : itD ik ds = some (xs.map inj)) (hf : fits ((xs.filter p).map f).length = true)
    (h : ∀ x ∈ xs, ∃ ρ1, asg tg (inj x) (wipe own ρ) = some ρ1 ∧ ∃ ρ2, evIfs Φ gl ifs ρ1 = .ok (p x) ρ2 ∧ (p x = true → ∃ ρ3, evE Φ gl elt ρ2 = .ok (f x) ρ3 ∧ wipe own ρ3 = wipe own ρ) ∧ (p x = false → wipe own ρ2 = wipe own ρ)) :
    evE Φ gl (.comp own tg ik its ifs elt) ρ = .ok (.lst ((xs.filter p).map f)) ρ := by
  obtain ⟨ρ', h3, h4⟩ := compL_pure (own := own) (tg := asg tg) (test := evIfs Φ gl ifs) (elt := evE Φ gl elt) inj p f xs ρ rfl h
  show (evEs Φ gl its ρ).bind _ = _
  rw [h1]
  show (optR (itD ik ds) ρ).bind _ = _
  rw [h2]
  show (compL own (asg tg) (evIfs Φ gl ifs) (evE Φ gl elt) (xs.map inj) ρ).noex.bind _ = _
  rw [h3]
  show (if fits ((xs.filter p).map f).length = true then R.ok (D.lst ((xs.filter p).map f)) (rest own ρ ρ') else .fail) = _
  rw [if_pos hf, rest_back h4]
/-- without tests -/
theorem comp_map {Φ : Fns} {gl : Nat → D} {own : List Nat} {tg : Tg} {ik : IK} {its : List E} {elt : E} {ρ : Env} {ds : List D} {α : Type} (inj : α → D) (f : α → D) (xs : List α)
    (h1 : evEs Φ gl its ρ = .ok ds ρ) (h2 : itD ik ds = some (xs.map inj)) (hf : fits xs.length = true)
    (h : ∀ x ∈ xs, ∃ ρ1, asg tg (inj x) (wipe own ρ) = some ρ1 ∧ ∃ ρ3, evE Φ gl elt ρ1 = .ok (f x) ρ3 ∧ wipe own ρ3 = wipe own ρ) :
    evE Φ gl (.comp own tg ik its [] elt) ρ = .ok (.lst (xs.map f)) ρ := by
  have := comp_pure (ifs := []) (elt := elt) (Φ := Φ) (gl := gl) (own := own) (tg := tg) inj (fun _ => true) f xs h1 h2 (by rw [List.filter_eq_self.mpr (fun _ _ => rfl), List.length_map]; exact hf) fun x hx => by
    obtain ⟨ρ1, a1, ρ3, a2, a3⟩ := h x hx
    exact ⟨ρ1, a1, ρ1, rfl, fun _ => ⟨ρ3, a2, a3⟩, fun z => by cases z⟩
  rw [List.filter_eq_self.mpr (fun _ _ => rfl)] at this
  exact this
end V
end PX
end
section
set_option autoImplicit false
set_option linter.all false
namespace PX
open PySem (Str)
namespace V
section
variable {Φ : Fns} {gl : Nat → D}
theorem seq_next {s : S} {ss : List S} {ρ ρ' : Env} (h : evS Φ gl s ρ = .ok .next ρ') : evSs Φ gl (s :: ss) ρ = evSs Φ gl ss ρ' := by
  simp only [evSs, h, R.bind]
theorem seq_ret {s : S} {ss : List S} {ρ ρ' : Env} {d : D} (h : evS Φ gl s ρ = .ok (.ret d) ρ') : evSs Φ gl (s :: ss) ρ = .ok (.ret d) ρ' := by
  simp only [evSs, h, R.bind]
theorem seq_n {s : S} {ss : List S} {ρ ρ' : Env} {r : R Out} (h : evS Φ gl s ρ = .ok .next ρ') (h2 : evSs Φ gl ss ρ' = r) : evSs Φ gl (s :: ss) ρ = r := (seq_next h).trans h2
theorem seq_f {i : Nat} {ss : List S} {ρ : Env} {r : R Out} (h2 : evSs Φ gl ss ρ = r) : evSs Φ gl (.frz i :: ss) ρ = r := (seq_next (by simp only [evS])).trans h2
theorem set_ok {i : Nat} {e : E} {ρ ρ1 : Env} {x : D} (h : evE Φ gl e ρ = .ok x ρ1) : evS Φ gl (.set i e) ρ = .ok .next (st ρ1 i (some x)) := by
  simp only [evS, h, R.bind]
theorem ret_ok {e : E} {ρ ρ1 : Env} {x : D} (h : evE Φ gl e ρ = .ok x ρ1) : evS Φ gl (.ret e) ρ = .ok (.ret x) ρ1 := by
  simp only [evS, h, R.bind]
theorem frz_ok {i : Nat} {ρ : Env} : evS Φ gl (.frz i) ρ = .ok .next ρ := by simp only [evS]
theorem evC_ok {c : E} {ρ ρ1 : Env} {x : D} {k : Bool} (h : evE Φ gl c ρ = .ok x ρ1) (ht : truth x = some k) : evC Φ gl c ρ = .ok k ρ1 := by
  simp only [evC, h, R.bind, truR, ht, optR]
theorem ifs_ok {c : E} {a b : List S} {ρ ρ1 : Env} {x : D} {k : Bool} (h : evE Φ gl c ρ = .ok x ρ1) (ht : truth x = some k) : evS Φ gl (.ifs c a b) ρ = if k then evSs Φ gl a ρ1 else evSs Φ gl b ρ1 := by
  simp only [evS, evC_ok h ht, R.bind]
theorem ifs_t {c : E} {a b : List S} {ρ ρ1 : Env} {x : D} (h : evE Φ gl c ρ = .ok x ρ1) (ht : truth x = some true) : evS Φ gl (.ifs c a b) ρ = evSs Φ gl a ρ1 := by
  rw [ifs_ok h ht]; rfl
theorem ifs_tt {c : E} {a b : List S} {ρ ρ1 : Env} {x : D} {r : R Out} (h : evE Φ gl c ρ = .ok x ρ1) (ht : truth x = some true) (h2 : evSs Φ gl a ρ1 = r) : evS Φ gl (.ifs c a b) ρ = r := (ifs_t h ht).trans h2
theorem ifs_ff {c : E} {a b : List S} {ρ ρ1 : Env} {x : D} {r : R Out} (h : evE Φ gl c ρ = .ok x ρ1) (ht : truth x = some false) (h2 : evSs Φ gl b ρ1 = r) : evS Φ gl (.ifs c a b) ρ = r := by
  rw [ifs_ok h ht]; exact h2
theorem ifs_f {c : E} {a b : List S} {ρ ρ1 : Env} {x : D} (h : evE Φ gl c ρ = .ok x ρ1) (ht : truth x = some false) : evS Φ gl (.ifs c a b) ρ = evSs Φ gl b ρ1 := by
  rw [ifs_ok h ht]; rfl
theorem ifs_skip {c : E} {a : List S} {ρ ρ1 : Env} {x : D} (h : evE Φ gl c ρ = .ok x ρ1) (ht : truth x = some false) : evS Φ gl (.ifs c a []) ρ = .ok .next ρ1 := by
  rw [ifs_ok h ht]; simp [evSs]
theorem loop_ok {tg : Tg} {ik : IK} {its : List E} {body : List S} {ρ ρ1 : Env} {ds xs : List D} (h1 : evEs Φ gl its ρ = .ok ds ρ1) (h2 : itD ik ds = some xs) :
    evS Φ gl (.loop [] tg ik its body) ρ = nox ik (forL [] (asg tg) (evSs Φ gl body) xs ρ1) := by
  simp only [evS, h1, R.bind, h2, optR]
theorem loop_okp {tg : Tg} {ik : IK} {its : List E} {body : List S} {ρ : Env} {ds xs : List D} (h1 : evEs Φ gl its ρ = .ok ds ρ) (h2 : itD ik ds = some xs) :
    evS Φ gl (.loop [] tg ik its body) ρ = nox ik (forL [] (asg tg) (evSs Φ gl body) xs ρ) := loop_ok h1 h2
theorem setix_ok {i : Nat} {k e : E} {ρ ρ1 ρ2 : Env} {v kv x y : D} (h0 : (gt ρ i).isSome = true) (h1 : evE Φ gl e ρ = .ok v ρ1) (h2 : evE Φ gl k ρ1 = .ok kv ρ2) (h3 : gt ρ2 i = some x) (h4 : setD x kv v = some y) :
    evS Φ gl (.setix i k e) ρ = .ok .next (st ρ2 i (some y)) := by
  obtain ⟨z, hz⟩ := Option.isSome_iff_exists.mp h0
  simp only [evS, hasAt, hz, R.bind, h1, h2, h3, h4, optR]
theorem app_ok {i : Nat} {e : E} {ρ ρ1 : Env} {y : D} {xs ys : List D} (h0 : gt ρ i = some (.lst ys)) (h1 : evE Φ gl e ρ = .ok y ρ1) (h3 : gt ρ1 i = some (.lst xs)) (h4 : xs.length < sizeLine) :
    evS Φ gl (.app i e) ρ = .ok .next (st ρ1 i (some (.lst (xs ++ [y])))) := by
  simp only [evS, lstAt, h0, R.bind, h1, h3, appD, h4, decide_true, if_true, optR]
theorem whlN_mono {kill : List Nat} {c : Env → R Bool} {body : Env → R Out} : ∀ {n : Nat} {ρ : Env}, whlN kill c body n ρ ≠ .fail → whlN kill c body (n + 1) ρ = whlN kill c body n ρ
  | 0, _, h => absurd rfl h
  | n + 1, ρ, h => by
    have e : ∀ m, whlN kill c body (m + 1) ρ = (c (wipe kill ρ)).bind fun b ρ1 => if b then (body ρ1).bind (fun o ρ2 => match o with
      | .next => whlN kill c body m ρ2
      | .ret d => .ok (.ret d) ρ2) else .ok .next ρ1 := fun _ => rfl
    rw [e n] at h
    rw [e (n + 1), e n]
    cases hc : c (wipe kill ρ) with
    | exc => rfl
    | fail => rfl
    | ok b ρ1 =>
      rw [hc] at h
      simp only [R.bind] at h ⊢
      cases b with
      | false => rfl
      | true =>
        simp only [if_true] at h ⊢
        cases hb : body ρ1 with
        | exc => rfl
        | fail => rfl
        | ok o ρ2 =>
          rw [hb] at h
          cases o with
          | next => exact whlN_mono (n := n) h
          | ret d => rfl
theorem whlN_le {kill : List Nat} {c : Env → R Bool} {body : Env → R Out} {ρ : Env} {n : Nat} (h : whlN kill c body n ρ ≠ .fail) : ∀ k, whlN kill c body (n + k) ρ = whlN kill c body n ρ
  | 0 => rfl
  | k + 1 => by
    have := whlN_le h k
    rw [← Nat.add_assoc, whlN_mono (by rw [this]; exact h), this]
theorem whlR_eq {kill : List Nat} {c : Env → R Bool} {body : Env → R Out} {ρ : Env} {n : Nat} {r : R Out} (h : whlN kill c body n ρ = r) (hr : r ≠ .fail) : whlR kill c body ρ = r := by
  have hx : ∃ n, whlN kill c body n ρ ≠ .fail := ⟨n, by rw [h]; exact hr⟩
  unfold whlR
  rw [dif_pos hx]
  have a := whlN_le (Classical.choose_spec hx) n
  have b := whlN_le (n := n) (by rw [h]; exact hr) (Classical.choose hx)
  rw [Nat.add_comm] at a
  rw [← a, b, h]
/-- a loop: an invariant by the number of items done; the body may return -/
theorem forL_inv {tg : D → Env → Option Env} {body : Env → R Out} {Q : D → Env → Prop} : ∀ (xs : List D) (I : Nat → Env → Prop) {ρ : Env}, I 0 ρ →
    (∀ k x ρ, xs[k]? = some x → I k ρ → ∃ ρ1, tg x ρ = some ρ1 ∧ ((∃ ρ2, body ρ1 = .ok .next ρ2 ∧ I (k + 1) ρ2) ∨ (∃ d ρ2, body ρ1 = .ok (.ret d) ρ2 ∧ Q d ρ2))) →
    (∃ ρ', forL [] tg body xs ρ = .ok .next ρ' ∧ I xs.length ρ') ∨ (∃ d ρ', forL [] tg body xs ρ = .ok (.ret d) ρ' ∧ Q d ρ')
  | [], I, ρ, h0, _ => .inl ⟨ρ, rfl, h0⟩
  | x :: xs, I, ρ, h0, h => by
    obtain ⟨ρ1, h1, h2⟩ := h 0 x ρ rfl h0
    have e : forL [] tg body (x :: xs) ρ = (body ρ1).bind (fun o ρ2 => match o with
      | .next => forL [] tg body xs ρ2
      | .ret d => .ok (.ret d) ρ2) := by
      show (match tg x ρ with | none => _ | some ρ1 => _) = _
      rw [h1] <;> rfl
    rw [e]
    rcases h2 with ⟨ρ2, h3, h4⟩ | ⟨d, ρ2, h3, h4⟩
    · rw [h3]
      exact forL_inv xs (fun k => I (k + 1)) h4 fun k y ρ' hk hi => h (k + 1) y ρ' hk hi
    · rw [h3]
      exact .inr ⟨d, ρ2, rfl, h4⟩
/-- without returns -/
theorem forL_next {tg : D → Env → Option Env} {body : Env → R Out} (xs : List D) (I : Nat → Env → Prop) {ρ : Env} (h0 : I 0 ρ)
    (h : ∀ k x ρ, xs[k]? = some x → I k ρ → ∃ ρ1, tg x ρ = some ρ1 ∧ ∃ ρ2, body ρ1 = .ok .next ρ2 ∧ I (k + 1) ρ2) :
    ∃ ρ', forL [] tg body xs ρ = .ok .next ρ' ∧ I xs.length ρ' := by
  rcases forL_inv (Q := fun _ _ => False) xs I h0 (fun k x ρ hk hi => by
    obtain ⟨ρ1, a, b⟩ := h k x ρ hk hi
    exact ⟨ρ1, a, .inl b⟩) with a | ⟨_, _, _, a⟩
  · exact a
  · exact a.elim
/-- a comprehension that changes what stands around -/
theorem compL_inv {own : List Nat} {tg : D → Env → Option Env} {test : Env → R Bool} {elt : Env → R D} {I : Env → Prop} {P : D → Prop} (ht : ∀ ρ, test ρ = .ok true ρ) : ∀ (xs : List D) (ρ : Env), I ρ →
    (∀ x ∈ xs, ∀ ρ, I ρ → ∃ ρ1, tg x (wipe own ρ) = some ρ1 ∧ ∃ y ρ2, elt ρ1 = .ok y ρ2 ∧ P y ∧ I ρ2) →
    ∃ ys ρ', compL own tg test elt xs ρ = .ok ys ρ' ∧ ys.length = xs.length ∧ (∀ y ∈ ys, P y) ∧ I ρ'
  | [], ρ, h0, _ => ⟨[], ρ, rfl, rfl, (fun _ h => by cases h), h0⟩
  | x :: xs, ρ, h0, h => by
    obtain ⟨ρ1, h1, y, ρ2, h2, h3, h4⟩ := h x (by simp) ρ h0
    obtain ⟨ys, ρ', h5, h6, h7, h8⟩ := compL_inv ht xs ρ2 h4 fun z hz => h z (List.mem_cons_of_mem _ hz)
    refine ⟨y :: ys, ρ', ?_, by simp [h6], fun z hz => ?_, h8⟩
    · show (match tg x (wipe own ρ) with | none => _ | some ρ1 => _) = _
      rw [h1]
      show (test ρ1).bind _ = _
      rw [ht]
      show (elt ρ1).bind _ = _
      rw [h2]
      show (compL own tg test elt xs ρ2).bind _ = _
      rw [h5]; rfl
    · rcases List.mem_cons.mp hz with e | e
      · rw [e]; exact h3
      · exact h7 z e
theorem comp_inv {own : List Nat} {tg : Tg} {ik : IK} {its : List E} {elt : E} {ρ : Env} {ds xs : List D} (I : Env → Prop) (P : D → Prop)
    (h1 : evEs Φ gl its ρ = .ok ds ρ) (h2 : itD ik ds = some xs) (hf : fits xs.length = true) (h0 : I ρ)
    (h : ∀ x ∈ xs, ∀ ρ, I ρ → ∃ ρ1, asg tg x (wipe own ρ) = some ρ1 ∧ ∃ y ρ2, evE Φ gl elt ρ1 = .ok y ρ2 ∧ P y ∧ I ρ2) :
    ∃ ys ρ', evE Φ gl (.comp own tg ik its [] elt) ρ = .ok (.lst ys) (rest own ρ ρ') ∧ ys.length = xs.length ∧ (∀ y ∈ ys, P y) ∧ I ρ' := by
  obtain ⟨ys, ρ', h3, h4, h5, h6⟩ := compL_inv (own := own) (tg := asg tg) (test := evIfs Φ gl []) (elt := evE Φ gl elt) (I := I) (P := P) (fun _ => by simp only [evIfs]) xs ρ h0 h
  refine ⟨ys, ρ', ?_, h4, h5, h6⟩
  show (evEs Φ gl its ρ).bind _ = _
  rw [h1]
  show (optR (itD ik ds) ρ).bind _ = _
  rw [h2]
  show (compL own (asg tg) (evIfs Φ gl []) (evE Φ gl elt) xs ρ).noex.bind _ = _
  rw [h3]
  show (if fits ys.length = true then R.ok (D.lst ys) (rest own ρ ρ') else .fail) = _
  rw [h4, if_pos hf]
theorem run_ret {F : Fn} {ds io : List D} {d : D} {ρ : Env} (hl : ds.length = F.ps) (h : evSs Φ gl F.body (ds.map some ++ List.replicate (F.n - F.ps) none) = .ok (.ret d) ρ) (hp : pick F.io ρ = some io) : runFn Φ gl F ds = .ok d io := by
  unfold runFn
  rw [if_pos hl, h]
  show (match pick F.io ρ with | none => _ | some io => _) = _
  rw [hp]
theorem comp_mapp {own : List Nat} {tg : Tg} {ik : IK} {its : List E} {elt : E} {ρ : Env} {ds : List D} {α : Type} (inj : α → D) (f : α → D) (xs : List α)
    (h1 : evEs Φ gl its ρ = .ok ds ρ) (h2 : itD ik ds = some (xs.map inj)) (hf : fits xs.length = true)
    (h : ∀ x ∈ xs, ∃ ρ1, asg tg (inj x) (wipe own ρ) = some ρ1 ∧ evE Φ gl elt ρ1 = .ok (f x) ρ1 ∧ wipe own ρ1 = wipe own ρ) :
    evE Φ gl (.comp own tg ik its [] elt) ρ = .ok (.lst (xs.map f)) ρ :=
  comp_map inj f xs h1 h2 hf fun x hx => by
    obtain ⟨ρ1, a, b, c⟩ := h x hx
    exact ⟨ρ1, a, ρ1, b, c⟩
theorem comp_filt {own : List Nat} {tg : Tg} {ik : IK} {its : List E} {i elt : E} {ρ : Env} {ds : List D} {α : Type} (inj : α → D) (p : α → Bool) (f : α → D) (xs : List α)
    (h1 : evEs Φ gl its ρ = .ok ds ρ) (h2 : itD ik ds = some (xs.map inj)) (hf : fits xs.length = true)
    (h : ∀ x ∈ xs, ∃ ρ1, asg tg (inj x) (wipe own ρ) = some ρ1 ∧ evE Φ gl i ρ1 = .ok (.bl (p x)) ρ1 ∧ (p x = true → evE Φ gl elt ρ1 = .ok (f x) ρ1) ∧ wipe own ρ1 = wipe own ρ) :
    evE Φ gl (.comp own tg ik its [i] elt) ρ = .ok (.lst ((xs.filter p).map f)) ρ := by
  refine comp_pure inj p f xs h1 h2 ?_ fun x hx => ?_
  · have := List.length_filter_le p xs
    simp only [fits, decide_eq_true_eq] at hf
    rw [List.length_map]
    simp only [fits, decide_eq_true_eq]
    omega
  · obtain ⟨ρ1, a, b, c, d⟩ := h x hx
    refine ⟨ρ1, a, ρ1, ?_, fun hp => ⟨ρ1, c hp, d⟩, fun _ => d⟩
    simp only [evIfs, b, R.bind, truR, truth, optR]
    cases p x <;> rfl
theorem comp_nil {own : List Nat} {tg : Tg} {ik : IK} {its : List E} {i elt : E} {ρ : Env} {ds : List D} {α : Type} (inj : α → D) (xs : List α)
    (h1 : evEs Φ gl its ρ = .ok ds ρ) (h2 : itD ik ds = some (xs.map inj)) (hf : fits xs.length = true)
    (h : ∀ x ∈ xs, ∃ ρ1, asg tg (inj x) (wipe own ρ) = some ρ1 ∧ evE Φ gl i ρ1 = .ok (.bl false) ρ1 ∧ wipe own ρ1 = wipe own ρ) :
    evE Φ gl (.comp own tg ik its [i] elt) ρ = .ok (.lst []) ρ := by
  have e : ∀ l : List α, l.filter (fun _ => false) = [] := fun l => by induction l <;> simp_all
  have := comp_filt (elt := elt) inj (fun _ => false) (fun _ => D.non) xs h1 h2 hf fun x hx => by
    obtain ⟨ρ1, a, b, c⟩ := h x hx
    exact ⟨ρ1, a, b, (fun z => by cases z), c⟩
  rw [e] at this
  exact this
theorem Es1 {a : E} {ρ ρ1 : Env} {x : D} (h : evE Φ gl a ρ = .ok x ρ1) : evEs Φ gl [a] ρ = .ok [x] ρ1 := by simp only [evEs, h, R.bind]
theorem Es2 {a b : E} {ρ ρ1 ρ2 : Env} {x y : D} (h : evE Φ gl a ρ = .ok x ρ1) (h' : evE Φ gl b ρ1 = .ok y ρ2) : evEs Φ gl [a, b] ρ = .ok [x, y] ρ2 := by simp only [evEs, h, h', R.bind]
theorem Es0 {ρ : Env} : evEs Φ gl [] ρ = .ok [] ρ := by simp only [evEs]
theorem EsC {a : E} {es : List E} {ρ ρ1 ρ2 : Env} {x : D} {xs : List D} (h : evE Φ gl a ρ = .ok x ρ1) (h' : evEs Φ gl es ρ1 = .ok xs ρ2) : evEs Φ gl (a :: es) ρ = .ok (x :: xs) ρ2 := by simp only [evEs, h, h', R.bind]
theorem bi_ok {b : Bi} {es : List E} {ρ ρ1 : Env} {ds : List D} {y : D} (h : evEs Φ gl es ρ = .ok ds ρ1) (h2 : biD b ds = some y) : evE Φ gl (.bi b es) ρ = .ok y ρ1 := by simp only [evE, h, R.bind, h2, optR]
theorem bi1 {b : Bi} {a : E} {ρ ρ1 : Env} {x y : D} (h : evE Φ gl a ρ = .ok x ρ1) (h2 : biD b [x] = some y) : evE Φ gl (.bi b [a]) ρ = .ok y ρ1 := bi_ok (Es1 h) h2
theorem bin_ok {op : Bop} {a b : E} {ρ ρ1 ρ2 : Env} {x y z : D} (h : evE Φ gl a ρ = .ok x ρ1) (h' : evE Φ gl b ρ1 = .ok y ρ2) (h2 : binD op x y = some z) : evE Φ gl (.bin op a b) ρ = .ok z ρ2 := by simp only [evE, h, h', R.bind, h2, optR]
theorem cmp_ok {op : Cop} {a b : E} {ρ ρ1 ρ2 : Env} {x y : D} {k : Bool} (h : evE Φ gl a ρ = .ok x ρ1) (h' : evE Φ gl b ρ1 = .ok y ρ2) (h2 : cmpD op x y = some k) : evE Φ gl (.cmp op a b) ρ = .ok (.bl k) ρ2 := by simp only [evE, h, h', R.bind, h2, optR]
theorem ix_ok {a b : E} {ρ ρ1 ρ2 : Env} {x y z : D} (h : evE Φ gl a ρ = .ok x ρ1) (h' : evE Φ gl b ρ1 = .ok y ρ2) (h2 : ixD x y = some z) : evE Φ gl (.ix a b) ρ = .ok z ρ2 := by simp only [evE, h, h', R.bind, h2, optR]
theorem call_ok {f : Nat} {es : List E} {ρ ρ1 : Env} {ds : List D} {d : D} (h : evEs Φ gl es ρ = .ok ds ρ1) (h2 : Φ f ds = .ok d []) (hs : setIos es [] ρ1 = ρ1) : evE Φ gl (.call f es) ρ = .ok d ρ1 := by simp only [evE, h, R.bind, h2, callR, hs]
theorem not_ok {a : E} {ρ ρ1 : Env} {x : D} {k : Bool} (h : evE Φ gl a ρ = .ok x ρ1) (h2 : truth x = some k) : evE Φ gl (.not a) ρ = .ok (.bl (!k)) ρ1 := by simp only [evE, h, R.bind, truR, h2, optR]
theorem not_t {a : E} {ρ ρ1 : Env} {x : D} (h : evE Φ gl a ρ = .ok x ρ1) (h2 : truth x = some false) : evE Φ gl (.not a) ρ = .ok (.bl true) ρ1 := not_ok h h2
theorem not_f {a : E} {ρ ρ1 : Env} {x : D} (h : evE Φ gl a ρ = .ok x ρ1) (h2 : truth x = some true) : evE Φ gl (.not a) ρ = .ok (.bl false) ρ1 := not_ok h h2
theorem or_f {a b : E} {ρ ρ1 : Env} {r : R D} (h : evE Φ gl a ρ = .ok (.bl false) ρ1) (h2 : evE Φ gl b ρ1 = r) : evE Φ gl (.or a b) ρ = r := by
  simp only [evE, h, R.bind, truR, truth, optR, h2]; rfl
theorem and_t {a b : E} {ρ ρ1 : Env} {r : R D} (h : evE Φ gl a ρ = .ok (.bl true) ρ1) (h2 : evE Φ gl b ρ1 = r) : evE Φ gl (.and a b) ρ = r := by
  simp only [evE, h, R.bind, truR, truth, optR, h2]; rfl
theorem and_f {a b : E} {ρ ρ1 : Env} (h : evE Φ gl a ρ = .ok (.bl false) ρ1) : evE Φ gl (.and a b) ρ = .ok (.bl false) ρ1 := by
  simp only [evE, h, R.bind, truR, truth, optR]; rfl
theorem neg_ok {a : E} {ρ ρ1 : Env} {i : Int} (h : evE Φ gl a ρ = .ok (.int i) ρ1) : evE Φ gl (.neg a) ρ = .ok (.int (-i)) ρ1 := by simp only [evE, h, R.bind, negD, optR]
theorem lst_ok {es : List E} {ρ ρ1 : Env} {ds : List D} (h : evEs Φ gl es ρ = .ok ds ρ1) : evE Φ gl (.lst es) ρ = .ok (.lst ds) ρ1 := by simp only [evE, h, R.bind]
theorem tup_ok {es : List E} {ρ ρ1 : Env} {ds : List D} (h : evEs Φ gl es ρ = .ok ds ρ1) : evE Φ gl (.tup es) ρ = .ok (.tup ds) ρ1 := by simp only [evE, h, R.bind]
theorem var_ok {i : Nat} {ρ : Env} {d : D} (h : gt ρ i = some d) : evE Φ gl (.var i) ρ = .ok d ρ := by simp only [evE, h, optR]
theorem pk_ok {i : Nat} {ρ : Env} {d : D} (h : gt ρ i = some d) : evE Φ gl (.pk i) ρ = .ok d ρ := by simp only [evE, h, optR]
theorem con_ok {ρ : Env} {d : D} : evE Φ gl (.con d) ρ = .ok d ρ := by simp only [evE]
end
end V
abbrev iT (xs : List Int) : D := .tup (xs.map .int)
abbrev iL (xs : List Int) : D := .lst (xs.map .int)
/-- a list or a tuple of these things -/
def Sq (d : D) (xs : List D) : Prop := seqD d = some xs
/-- of these numbers -/
abbrev Iq (d : D) (xs : List Int) : Prop := Sq d (xs.map .int)
theorem Sq.tup (xs : List D) : Sq (.tup xs) xs := rfl
theorem Sq.lst (xs : List D) : Sq (.lst xs) xs := rfl
theorem Sq.ix {d : D} {xs : List D} (h : Sq d xs) (i : Int) : ixD d (.int i) = atD xs i := by
  cases d <;> simp only [Sq, seqD, Option.some.injEq, reduceCtorEq] at h <;> subst h <;> rfl
theorem Sq.len {d : D} {xs : List D} (h : Sq d xs) : lenD [d] = some (.int xs.length) := by
  cases d <;> simp only [Sq, seqD, Option.some.injEq, reduceCtorEq] at h <;> subst h <;> rfl
theorem Sq.tupleOf {d : D} {xs : List D} (h : Sq d xs) : tupD [d] = some (.tup xs) := by
  cases d <;> simp only [Sq, seqD, Option.some.injEq, reduceCtorEq] at h <;> subst h <;> rfl
theorem Sq.listOf {d : D} {xs : List D} (h : Sq d xs) : lstD [d] = some (.lst xs) := by
  cases d <;> simp only [Sq, seqD, Option.some.injEq, reduceCtorEq] at h <;> subst h <;> rfl
theorem nums_ints : ∀ xs : List Int, nums (xs.map .int) = some xs
  | [] => rfl
  | x :: xs => by simp only [List.map_cons, nums, nums_ints xs, Option.map_some]
theorem zipD_ints : ∀ xs ys : List Int, zipD (xs.map .int) (ys.map .int) = (xs.zip ys).map fun p => D.tup [.int p.1, .int p.2]
  | [], _ => by simp [zipD]
  | _ :: _, [] => by simp [zipD]
  | x :: xs, y :: ys => by simp only [List.map_cons, zipD, zipD_ints xs ys, List.zip_cons_cons]
theorem zipD_map {α β : Type} (f : α → D) (g : β → D) : ∀ (xs : List α) (ys : List β), zipD (xs.map f) (ys.map g) = (xs.zip ys).map fun p => D.tup [f p.1, g p.2]
  | [], _ => by simp [zipD]
  | _ :: _, [] => by simp [zipD]
  | x :: xs, y :: ys => by simp only [List.map_cons, zipD, zipD_map f g xs ys, List.zip_cons_cons]
theorem atD_nat {α : Type} {xs : List α} {i : Nat} (h : i < xs.length) : atD xs (i : Int) = some xs[i] := by
  have : plc xs.length (i : Int) = some i := by
    unfold plc
    rw [if_pos (by omega), if_pos (by omega)]
    simp
  simp only [atD, this, Option.bind_some, List.getElem?_eq_getElem h]
theorem atD_ints {xs : List Int} {i : Nat} (h : i < xs.length) : atD (xs.map D.int) (i : Int) = some (.int xs[i]) := by
  rw [atD_nat (by simpa using h), List.getElem_map]
theorem atD_last {α : Type} {xs : List α} (h : xs ≠ []) : atD xs (-1) = some (xs.getLast h) := by
  have hl : 0 < xs.length := List.length_pos_iff.mpr h
  have : plc xs.length (-1) = some (xs.length - 1) := by
    unfold plc
    rw [if_neg (by omega), if_pos (by omega)]
    congr 1
    omega
  simp only [atD, this, Option.bind_some]
  rw [List.getElem?_eq_getElem (by omega), List.getLast_eq_getElem]
theorem fits_ok {n : Nat} (h : n ≤ 16777216) : fits n = true := by simp [fits, sizeLine, h]
theorem shp_int (n : Nat) (i : Int) : shp n (.int i) = true := by cases n <;> rfl
theorem eqB_int (i j : Int) : eqB (.int i) (.int j) = decide (i = j) := by simp only [eqB]; rw [Bool.eq_iff_iff]; simp
theorem eqD_int (i j : Int) : eqD (.int i) (.int j) = some (decide (i = j)) := by
  unfold eqD
  rw [shp_int, shp_int]
  simp [eqB_int]
theorem eqBs_ints : ∀ xs ys : List Int, eqBs (xs.map .int) (ys.map .int) = decide (xs = ys)
  | [], [] => by simp [eqBs]
  | [], _ :: _ => by simp [eqBs]
  | _ :: _, [] => by simp [eqBs]
  | x :: xs, y :: ys => by
    simp only [List.map_cons, eqBs, eqB_int, eqBs_ints xs ys, List.cons.injEq]
    simp
theorem mem_inD (i : Int) (ys : List Int) : inD (.int i) (ys.map .int) = some (decide (i ∈ ys)) := by
  unfold inD
  have : (ys.map D.int).all (shp 39) = true := by simp [shp_int]
  rw [shp_int, this]
  simp only [Bool.and_self, if_true, Option.some.injEq]
  rw [Bool.eq_iff_iff]
  simp [List.any_eq_true, eqB_int]
end PX
end
section
set_option autoImplicit false
set_option linter.all false
namespace P00
open PX
def b_shared : List S := [.set 0 (.bi .abs [.var 0]), .frz 0, .set 1 (.bi .abs [.var 1]), .frz 1, .whl [] (.cmp .ne (.var 1) (.con (.int 0))) [.par 0 1 (.var 1) (.bin .mod (.var 0) (.var 1))], .ret (.var 0)]
def b_shared_all : List S := [.set 1 (.con (.int 0)), .frz 1, .loop [] (.nm 2) .seq [.var 0] [.set 1 (.call 0 [.var 1, .var 2]), .frz 1], .ret (.var 1)]
def b_lowest : List S := [.set 1 (.bi .max2 [.call 1 [.var 0], .con (.int 1)]), .frz 1, .ret (.bi .tupleOf [.comp [2] (.nm 2) .seq [.var 0] [] (.bin .fdiv (.var 2) (.var 1))])]
def b_place_of : List S := [.ifs (.cmp .lt (.var 1) (.con (.int 0))) [.ret (.call 2 [.bin .add (.comp [2] (.nm 2) .seq [.var 0] [] (.neg (.var 2))) (.lst [.neg (.var 1)])])] [], .ret (.call 2 [.bin .add (.bi .listOf [.var 0]) (.lst [.var 1])])]
def b_is_place : List S := [.ret (.and (.cmp .eq (.bi .len [.var 0]) (.bin .add (.var 1) (.con (.int 1)))) (.and (.cmp .gt (.ix (.var 0) (.neg (.con (.int 1)))) (.con (.int 0))) (.cmp .eq (.call 1 [.var 0]) (.con (.int 1)))))]
def b_dot : List S := [.ret (.bi .sum [.comp [2, 3] (.tp [.nm 2, .nm 3]) .zip [.var 0, .var 1] [] (.bin .mul (.var 2) (.var 3))])]
def b_plus : List S := [.ret (.bi .tupleOf [.comp [2, 3] (.tp [.nm 2, .nm 3]) .zip [.var 0, .var 1] [] (.bin .add (.var 2) (.var 3))])]
def b_less : List S := [.ret (.bi .tupleOf [.comp [2, 3] (.tp [.nm 2, .nm 3]) .zip [.var 0, .var 1] [] (.bin .sub (.var 2) (.var 3))])]
def b_times : List S := [.ret (.bi .tupleOf [.comp [2] (.nm 2) .seq [.var 0] [] (.bin .mul (.var 2) (.var 1))])]
def b_combined : List S := [.set 3 (.bin .mul (.lst [.con (.int 0)]) (.var 2)), .frz 3, .loop [] (.tp [.nm 4, .nm 5]) .zip [.var 0, .var 1] [.ifs (.cmp .ne (.var 4) (.con (.int 0))) [.set 3 (.comp [6, 7] (.tp [.nm 6, .nm 7]) .zip [.var 3, .var 5] [] (.bin .add (.var 6) (.bin .mul (.var 4) (.var 7)))), .frz 3] []], .ret (.bi .tupleOf [.var 3])]
def b_area : List S := [.set 1 (.comp [8] (.nm 8) .seq [.var 0] [] (.bi .listOf [.var 8])), .set 2 (.con (.int 1)), .frz 2, .set 3 (.con (.int 1)), .frz 3, .loop [] (.nm 4) .range [.bi .len [.pk 1]] [.set 5 (.comp [7] (.nm 7) .range [.var 4, .bi .len [.pk 1]] [.cmp .ne (.ix (.ix (.pk 1) (.var 7)) (.var 4)) (.con (.int 0))] (.var 7)), .ifs (.not (.pk 5)) [.ret (.con (.int 0))] [], .ifs (.cmp .ne (.ix (.pk 5) (.con (.int 0))) (.var 4)) [.swap 1 (.var 4) 1 (.ix (.pk 5) (.con (.int 0))) (.ix (.pk 1) (.ix (.pk 5) (.con (.int 0)))) (.ix (.pk 1) (.var 4)), .set 2 (.neg (.var 2)), .frz 2] [], .set 6 (.ix (.pk 1) (.var 4)), .frz 6, .loop [] (.nm 7) .range [.bin .add (.var 4) (.con (.int 1)), .bi .len [.pk 1]] [.set 8 (.ix (.pk 1) (.var 7)), .frz 8, .setix 1 (.var 7) (.comp [9] (.nm 9) .range [.bi .len [.pk 1]] [] (.bin .fdiv (.bin .sub (.bin .mul (.ix (.var 8) (.var 9)) (.ix (.var 6) (.var 4))) (.bin .mul (.ix (.var 8) (.var 4)) (.ix (.var 6) (.var 9)))) (.var 3)))], .set 3 (.ix (.var 6) (.var 4)), .frz 3], .ret (.bin .mul (.var 2) (.var 3))]
def b_stairs : List S := [.set 2 (.comp [7] (.nm 7) .seq [.var 0] [] (.bi .listOf [.var 7])), .set 3 (.lst []), .frz 3, .set 4 (.lst []), .loop [] (.nm 5) .range [.var 1] [.set 6 (.comp [9, 7] (.tp [.nm 9, .nm 7]) .enum [.pk 2] [.cmp .ne (.ix (.var 7) (.var 5)) (.con (.int 0))] (.var 9)), .frz 6, .ifs (.var 6) [.set 8 (.pop 2 [.ix (.var 6) (.con (.int 0))]), .frz 8, .ifs (.cmp .lt (.ix (.var 8) (.var 5)) (.con (.int 0))) [.set 8 (.comp [10] (.nm 10) .seq [.var 8] [] (.neg (.var 10))), .frz 8] [], .set 8 (.bi .listOf [.call 2 [.var 8]]), .frz 8, .set 2 (.comp [7] (.nm 7) .seq [.pk 2] [] (.call 12 [.var 7, .var 8, .var 5])), .set 3 (.bin .add (.comp [7] (.nm 7) .seq [.var 3] [] (.call 12 [.var 7, .var 8, .var 5])) (.lst [.var 8])), .frz 3, .app 4 (.var 5)] []], .ret (.tup [.bi .tupleOf [.comp [7] (.nm 7) .seq [.var 3] [] (.bi .tupleOf [.var 7])], .bi .tupleOf [.pk 4]])]
def b__without : List S := [.ifs (.cmp .eq (.ix (.var 0) (.var 2)) (.con (.int 0))) [.ret (.bi .listOf [.var 0])] [], .set 3 (.comp [4, 5] (.tp [.nm 4, .nm 5]) .zip [.var 0, .var 1] [] (.bin .sub (.bin .mul (.var 4) (.ix (.var 1) (.var 2))) (.bin .mul (.ix (.var 0) (.var 2)) (.var 5)))), .frz 3, .ret (.bi .listOf [.call 2 [.var 3]])]
def b_rank : List S := [.ret (.bi .len [.ix (.call 11 [.var 0, .var 1]) (.con (.int 0))])]
def b_zeros : List S := [.tset [.nm 2, .nm 3] (.call 11 [.var 0, .var 1]), .set 4 (.lst []), .loop [] (.nm 5) .seq [.comp [10] (.nm 10) .range [.var 1] [.cmp .notin (.var 10) (.var 3)] (.var 10)] [.set 6 (.con (.int 1)), .frz 6, .loop [] (.tp [.nm 7, .nm 8]) .zip [.var 2, .var 3] [.set 6 (.bin .fdiv (.bin .mul (.var 6) (.ix (.var 7) (.var 8))) (.call 0 [.var 6, .ix (.var 7) (.var 8)])), .frz 6], .set 9 (.bin .mul (.lst [.con (.int 0)]) (.var 1)), .setix 9 (.var 5) (.var 6), .loop [] (.tp [.nm 7, .nm 8]) .zip [.var 2, .var 3] [.setix 9 (.var 8) (.bin .fdiv (.bin .mul (.neg (.ix (.var 7) (.var 5))) (.var 6)) (.ix (.var 7) (.var 8)))], .app 4 (.call 2 [.var 9])], .ret (.bi .tupleOf [.pk 4])]
def b_solved : List S := [.tset [.nm 3, .nm 4] (.call 11 [.comp [6, 9] (.tp [.nm 6, .nm 9]) .zip [.var 0, .var 1] [] (.bin .add (.bi .tupleOf [.var 6]) (.tup [.var 9])), .bin .add (.var 2) (.con (.int 1))]), .ifs (.cmp .isin (.var 2) (.var 4)) [.ret (.con .non)] [], .set 5 (.con (.int 1)), .frz 5, .loop [] (.tp [.nm 6, .nm 7]) .zip [.var 3, .var 4] [.set 5 (.bin .fdiv (.bin .mul (.var 5) (.ix (.var 6) (.var 7))) (.call 0 [.var 5, .ix (.var 6) (.var 7)])), .frz 5], .set 8 (.bin .mul (.lst [.con (.int 0)]) (.var 2)), .loop [] (.tp [.nm 6, .nm 7]) .zip [.var 3, .var 4] [.setix 8 (.var 7) (.bin .fdiv (.bin .mul (.ix (.var 6) (.var 2)) (.var 5)) (.ix (.var 6) (.var 7)))], .ret (.call 3 [.var 8, .var 5])]
def b__law_cell : List S := [.ifs (.cmp .lt (.var 1) (.bi .len [.var 0])) [.ret (.ix (.var 0) (.var 1))] [], .ret (.con (.int 0))]
def b__law_source : List S := [.ifs (.cmp .ge (.var 0) (.bin .pow (.con (.int 10)) (.con (.int 18)))) [.ret (.lst [.bin .sub (.var 0) (.bin .pow (.con (.int 10)) (.con (.int 18))), .bin .add (.var 1) (.con (.int 1))])] [], .ret (.lst [.con (.int 0), .bin .mod (.bi .intOf [.bin .add (.bin .add (.bin .mul (.var 0) (.con (.int 7919))) (.bin .mul (.var 1) (.con (.int 104729)))) (.con (.int 1))]) (.con (.int 2147483647))])]
def b__law_pick : List S := [.ifs (.cmp .gt (.ix (.pk 0) (.con (.int 0))) (.con (.int 1))) [.set 3 (.bin .mod (.bi .intOf [.ix (.pk 0) (.con (.int 0))]) (.var 1)), .frz 3, .setix 0 (.con (.int 0)) (.bin .fdiv (.ix (.pk 0) (.con (.int 0))) (.var 1)), .ret (.var 3)] [], .setix 0 (.con (.int 1)) (.bin .mod (.bi .intOf [.bin .add (.bin .mul (.ix (.pk 0) (.con (.int 1))) (.con (.int 48271))) (.con (.int 12345))]) (.con (.int 2147483647))), .set 2 (.bin .mod (.bi .intOf [.bin .add (.bin .add (.bin .mul (.ix (.pk 0) (.con (.int 1))) (.con (.int 69621))) (.bin .fdiv (.ix (.pk 0) (.con (.int 1))) (.con (.int 127)))) (.con (.int 7))]) (.con (.int 2147483629))), .frz 2, .ret (.bin .mod (.bi .intOf [.bin .fdiv (.var 2) (.con (.int 16))]) (.var 1))]
def b__law_same : List S := [.ifs (.bi .isTup [.var 1]) [.ifs (.or (.not (.bi .isTup [.var 0])) (.cmp .ne (.bi .len [.var 0]) (.bi .len [.var 1]))) [.ret (.con (.bl false))] [], .ret (.cmp .eq (.comp [2] (.nm 2) .range [.bi .len [.var 1]] [.not (.call 19 [.ix (.var 0) (.var 2), .ix (.var 1) (.var 2)])] (.var 2)) (.lst []))] [], .ifs (.bi .isList [.var 1]) [.ifs (.or (.not (.bi .isList [.var 0])) (.cmp .ne (.bi .len [.var 0]) (.bi .len [.var 1]))) [.ret (.con (.bl false))] [], .ret (.cmp .eq (.comp [2] (.nm 2) .range [.bi .len [.var 1]] [.not (.call 19 [.ix (.var 0) (.var 2), .ix (.var 1) (.var 2)])] (.var 2)) (.lst []))] [], .ifs (.cmp .is (.var 1) (.con .non)) [.ret (.cmp .is (.var 0) (.con .non))] [], .ifs (.bi .isBool [.var 1]) [.ret (.and (.bi .isBool [.var 0]) (.cmp .eq (.var 0) (.var 1)))] [], .ifs (.bi .isInt [.var 1]) [.ret (.and (.bi .isInt [.var 0]) (.and (.not (.bi .isBool [.var 0])) (.cmp .eq (.var 0) (.var 1))))] [], .ret (.and (.bi .isStr [.var 0]) (.cmp .eq (.var 0) (.var 1)))]
def b__law_gcd : List S := [.par 0 1 (.bi .abs [.var 0]) (.bi .abs [.var 1]), .loop [] (.nm 2) .range [.con (.int 20000)] [.ifs (.cmp .eq (.var 1) (.con (.int 0))) [.ret (.var 0)] [], .par 0 1 (.var 1) (.bin .mod (.bi .intOf [.var 0]) (.var 1))], .ret (.var 0)]
def b__law_gcds : List S := [.set 1 (.con (.int 0)), .frz 1, .loop [] (.nm 2) .seq [.var 0] [.set 1 (.call 20 [.var 1, .var 2]), .frz 1], .ret (.var 1)]
def b__law_dot : List S := [.ret (.bi .sum [.comp [2, 3] (.tp [.nm 2, .nm 3]) .zip [.var 0, .var 1] [] (.bin .mul (.var 2) (.var 3))])]
def b__law_is_place : List S := [.ret (.and (.cmp .eq (.bi .len [.var 0]) (.bin .add (.var 1) (.con (.int 1)))) (.and (.cmp .gt (.ix (.var 0) (.neg (.con (.int 1)))) (.con (.int 0))) (.cmp .eq (.call 21 [.var 0]) (.con (.int 1)))))]
def b__law_sum : List S := [.ret (.bi .tupleOf [.comp [3] (.nm 3) .range [.var 2] [] (.bi .sum [.comp [4, 5] (.tp [.nm 4, .nm 5]) .zip [.var 1, .var 0] [] (.bin .mul (.var 4) (.ix (.var 5) (.var 3)))])])]
def b__law_place : List S := [.set 2 (.call 21 [.bin .add (.bi .listOf [.var 0]) (.lst [.var 1])]), .frz 2, .ret (.bi .tupleOf [.comp [3] (.nm 3) .seq [.bin .add (.bi .listOf [.var 0]) (.lst [.var 1])] [] (.bin .fdiv (.var 3) (.var 2))])]
def b__law_table : List S := [.set 3 (.ix (.lst [.con (.int 2), .con (.int 3), .bin .pow (.con (.int 10)) (.con (.int 6))]) (.call 18 [.io 0, .con (.int 3)])), .frz 3, .set 4 (.comp [6] (.nm 6) .range [.var 1] [] (.bi .tupleOf [.comp [5] (.nm 5) .range [.var 2] [] (.bin .mul (.bi .intOf [.cmp .gt (.call 18 [.io 0, .con (.int 3)]) (.con (.int 0))]) (.bin .sub (.call 18 [.io 0, .bin .add (.bin .mul (.con (.int 2)) (.var 3)) (.con (.int 1))]) (.var 3)))])), .loop [] (.nm 5) .range [.con (.int 1), .var 1] [.ifs (.cmp .eq (.call 18 [.io 0, .con (.int 4)]) (.con (.int 0))) [.setix 4 (.var 5) (.call 24 [.slc (.pk 4) (.con .non) (.var 5), .comp [6] (.nm 6) .range [.var 5] [] (.bin .sub (.call 18 [.io 0, .con (.int 5)]) (.con (.int 2))), .var 2])] []], .ret (.var 4)]
def b__law_area : List S := [.set 1 (.dic true [.tup []] [.con (.int 1)]), .frz 1, .loop [] (.nm 2) .seq [.var 0] [.set 3 (.dic true [] []), .loop [] (.nm 4) .keys [.pk 1] [.loop [] (.nm 5) .range [.bi .len [.var 2]] [.ifs (.cmp .notin (.var 5) (.var 4)) [.set 6 (.bi .len [.comp [8] (.nm 8) .seq [.var 4] [.cmp .gt (.var 8) (.var 5)] (.var 8)]), .frz 6, .set 7 (.bi .tupleOf [.bi .sorted [.bin .add (.var 4) (.tup [.var 5])]]), .frz 7, .setix 3 (.var 7) (.bin .add (.get2 (.pk 3) (.var 7) (.con (.int 0))) (.bin .mul (.bin .mul (.ix (.var 1) (.var 4)) (.ix (.var 2) (.var 5))) (.bin .sub (.con (.int 1)) (.bin .mul (.con (.int 2)) (.bin .mod (.bi .intOf [.var 6]) (.con (.int 2)))))))] []]], .set 1 (.var 3), .frz 1], .ret (.bi .sum [.comp [4] (.nm 4) .keys [.pk 1] [] (.ix (.var 1) (.var 4))])]
def b__law_rank : List S := [.set 2 (.comp [6] (.nm 6) .seq [.var 0] [] (.bi .listOf [.var 6])), .set 3 (.con (.int 0)), .frz 3, .loop [] (.nm 4) .range [.var 1] [.set 5 (.comp [8] (.nm 8) .range [.var 3, .bi .len [.pk 2]] [.cmp .ne (.ix (.ix (.pk 2) (.var 8)) (.var 4)) (.con (.int 0))] (.var 8)), .ifs (.cmp .ne (.pk 5) (.lst [])) [.swap 2 (.var 3) 2 (.ix (.pk 5) (.con (.int 0))) (.ix (.pk 2) (.ix (.pk 5) (.con (.int 0)))) (.ix (.pk 2) (.var 3)), .set 7 (.bi .listOf [.ix (.pk 2) (.var 3)]), .frz 7, .loop [] (.nm 8) .range [.bin .add (.var 3) (.con (.int 1)), .bi .len [.pk 2]] [.set 9 (.ix (.pk 2) (.var 8)), .frz 9, .setix 2 (.var 8) (.comp [10] (.nm 10) .range [.var 1] [] (.bin .sub (.bin .mul (.ix (.var 9) (.var 10)) (.ix (.var 7) (.var 4))) (.bin .mul (.ix (.var 9) (.var 4)) (.ix (.var 7) (.var 10)))))], .set 3 (.bin .add (.var 3) (.con (.int 1))), .frz 3] []], .ret (.var 3)]
def b__law_first : List S := [.set 1 (.comp [2] (.nm 2) .range [.bi .len [.var 0]] [.cmp .ne (.ix (.var 0) (.var 2)) (.con (.int 0))] (.var 2)), .frz 1, .ret (.ix (.bin .add (.var 1) (.lst [.bi .len [.var 0]])) (.con (.int 0)))]
def b__law_right : List S := [.set 1 (.bin .add (.con (.int 1)) (.call 18 [.io 0, .con (.int 5)])), .frz 1, .set 2 (.bin .add (.con (.int 1)) (.call 18 [.io 0, .con (.int 5)])), .frz 2, .set 3 (.call 26 [.io 0, .var 1, .var 2]), .frz 3, .set 4 (.call 26 [.io 0, .var 1, .var 1]), .frz 4, .ifs (.not (.call 19 [.call 10 [.comp [21] (.nm 21) .seq [.var 4] [] (.bi .listOf [.var 21])], .call 27 [.var 4]])) [.ret (.con (.bl false))] [], .tset [.nm 5, .nm 6] (.call 11 [.comp [21] (.nm 21) .seq [.var 3] [] (.bi .listOf [.var 21]), .var 2]), .set 7 (.call 28 [.var 3, .var 2]), .frz 7, .ifs (.or (.not (.bi .isTup [.var 5])) (.or (.not (.bi .isTup [.var 6])) (.or (.cmp .ne (.bi .len [.var 5]) (.var 7)) (.or (.cmp .ne (.bi .len [.var 6]) (.var 7)) (.not (.call 19 [.call 13 [.var 3, .var 2], .var 7])))))) [.ret (.con (.bl false))] [], .loop [] (.nm 8) .range [.var 7] [.set 21 (.ix (.var 5) (.var 8)), .frz 21, .ifs (.or (.not (.bi .isTup [.var 21])) (.or (.cmp .ne (.bi .len [.var 21]) (.var 2)) (.or (.cmp .ne (.call 29 [.var 21]) (.ix (.var 6) (.var 8))) (.or (.cmp .lt (.ix (.var 21) (.ix (.var 6) (.var 8))) (.con (.int 1))) (.cmp .ne (.call 21 [.var 21]) (.con (.int 1))))))) [.ret (.con (.bl false))] [], .ifs (.or (.cmp .ne (.comp [24] (.nm 24) .range [.var 7] [.and (.cmp .ne (.var 24) (.var 8)) (.cmp .ne (.ix (.ix (.var 5) (.var 24)) (.ix (.var 6) (.var 8))) (.con (.int 0)))] (.var 24)) (.lst [])) (.and (.cmp .gt (.var 8) (.con (.int 0))) (.cmp .le (.ix (.var 6) (.var 8)) (.ix (.var 6) (.bin .sub (.var 8) (.con (.int 1))))))) [.ret (.con (.bl false))] []], .ifs (.cmp .ne (.call 28 [.bin .add (.bi .listOf [.var 3]) (.bi .listOf [.var 5]), .var 2]) (.var 7)) [.ret (.con (.bl false))] [], .set 9 (.call 14 [.comp [21] (.nm 21) .seq [.var 3] [] (.bi .listOf [.var 21]), .var 2]), .frz 9, .set 10 (.comp [11] (.nm 11) .range [.var 2] [.cmp .notin (.var 11) (.var 6)] (.var 11)), .frz 10, .ifs (.or (.not (.bi .isTup [.var 9])) (.cmp .ne (.bi .len [.var 9]) (.bi .len [.var 10]))) [.ret (.con (.bl false))] [], .loop [] (.tp [.nm 11, .nm 12]) .zip [.var 10, .var 9] [.ifs (.or (.cmp .ne (.bi .len [.var 12]) (.var 2)) (.or (.cmp .lt (.ix (.var 12) (.var 11)) (.con (.int 1))) (.or (.cmp .ne (.call 21 [.var 12]) (.con (.int 1))) (.cmp .ne (.comp [8] (.nm 8) .seq [.var 10] [.and (.cmp .ne (.var 8) (.var 11)) (.cmp .ne (.ix (.var 12) (.var 8)) (.con (.int 0)))] (.var 8)) (.lst []))))) [.ret (.con (.bl false))] [], .ifs (.cmp .ne (.comp [21] (.nm 21) .seq [.var 3] [.cmp .ne (.call 22 [.var 21, .var 12]) (.con (.int 0))] (.var 21)) (.lst [])) [.ret (.con (.bl false))] []], .set 12 (.comp [8] (.nm 8) .range [.var 2] [] (.bin .sub (.call 18 [.io 0, .con (.int 9)]) (.con (.int 4)))), .frz 12, .set 13 (.bin .add (.con (.int 1)) (.call 18 [.io 0, .con (.int 4)])), .frz 13, .loop [] (.nm 14) .seq [.lst [.bi .tupleOf [.comp [21] (.nm 21) .seq [.var 3] [] (.call 22 [.var 21, .var 12])], .bi .tupleOf [.comp [21] (.nm 21) .seq [.var 3] [] (.bin .sub (.call 18 [.io 0, .con (.int 7)]) (.con (.int 3)))]]] [.set 19 (.call 15 [.var 3, .bi .listOf [.var 14], .var 2]), .frz 19, .ifs (.cmp .ne (.cmp .is (.var 19) (.con .non)) (.cmp .gt (.call 28 [.comp [21, 25] (.tp [.nm 21, .nm 25]) .zip [.var 3, .var 14] [] (.bin .add (.var 21) (.tup [.var 25])), .bin .add (.var 2) (.con (.int 1))]) (.var 7))) [.ret (.con (.bl false))] [], .ifs (.cmp .isnot (.var 19) (.con .non)) [.ifs (.or (.not (.bi .isTup [.var 19])) (.or (.not (.call 23 [.var 19, .var 2])) (.cmp .ne (.comp [8] (.nm 8) .seq [.var 10] [.cmp .ne (.ix (.var 19) (.var 8)) (.con (.int 0))] (.var 8)) (.lst [])))) [.ret (.con (.bl false))] [], .ifs (.cmp .ne (.comp [8] (.nm 8) .range [.var 1] [.cmp .ne (.call 22 [.ix (.var 3) (.var 8), .var 19]) (.bin .mul (.ix (.var 14) (.var 8)) (.ix (.var 19) (.neg (.con (.int 1)))))] (.var 8)) (.lst [])) [.ret (.con (.bl false))] []] []], .par 15 16 (.ix (.var 12) (.con (.int 0))) (.ix (.var 12) (.neg (.con (.int 1)))), .ifs (.not (.call 19 [.tup [.call 0 [.var 15, .var 16], .call 1 [.var 12], .call 2 [.var 12]], .tup [.call 20 [.var 15, .var 16], .call 21 [.var 12], .bi .tupleOf [.comp [26] (.nm 26) .seq [.var 12] [] (.bin .fdiv (.var 26) (.bi .max2 [.call 21 [.var 12], .con (.int 1)]))]]])) [.ret (.con (.bl false))] [], .ifs (.not (.call 19 [.tup [.call 3 [.var 12, .var 13], .call 3 [.var 12, .bin .sub (.con (.int 0)) (.var 13)]], .tup [.call 25 [.var 12, .var 13], .call 25 [.comp [26] (.nm 26) .seq [.var 12] [] (.bin .sub (.con (.int 0)) (.var 26)), .var 13]]])) [.ret (.con (.bl false))] [], .par 17 18 (.ix (.var 3) (.con (.int 0))) (.ix (.var 3) (.neg (.con (.int 1)))), .set 19 (.tup [.call 6 [.var 17, .var 18], .call 7 [.var 17, .var 18], .call 8 [.var 17, .bin .sub (.con (.int 0)) (.con (.int 3))], .call 5 [.var 17, .var 18], .call 9 [.bin .mul (.slc (.var 12) (.con .non) (.con (.int 1))) (.var 1), .var 3, .var 2]]), .frz 19, .set 14 (.tup [.bi .tupleOf [.comp [22, 23] (.tp [.nm 22, .nm 23]) .zip [.var 17, .var 18] [] (.bin .add (.var 22) (.var 23))], .bi .tupleOf [.comp [22, 23] (.tp [.nm 22, .nm 23]) .zip [.var 17, .var 18] [] (.bin .sub (.var 22) (.var 23))], .bi .tupleOf [.comp [22] (.nm 22) .seq [.var 17] [] (.bin .sub (.con (.int 0)) (.bin .mul (.con (.int 3)) (.var 22)))], .call 22 [.var 17, .var 18]]), .frz 14, .ifs (.not (.call 19 [.var 19, .bin .add (.var 14) (.tup [.call 24 [.var 3, .bin .mul (.slc (.var 12) (.con .non) (.con (.int 1))) (.var 1), .var 2]])])) [.ret (.con (.bl false))] [], .set 20 (.bin .add (.bi .tupleOf [.var 12]) (.tup [.var 13])), .frz 20, .ret (.and (.cmp .eq (.call 4 [.var 20, .var 2]) (.call 23 [.var 20, .var 2])) (.and (.cmp .is (.call 4 [.var 20, .bin .add (.var 2) (.con (.int 1))]) (.con (.bl false))) (.cmp .is (.call 4 [.bin .add (.slc (.var 20) (.con .non) (.neg (.con (.int 1)))) (.tup [.con (.int 0)]), .var 2]) (.con (.bl false)))))]
def b_law : List S := [.loop [] (.nm 1) .range [.bin .add (.bi .min2 [.bi .len [.var 0], .con (.int 6)]) (.con (.int 3))] [.ifs (.not (.call 30 [.tmp (.callF 17 [.call 16 [.var 0, .var 1], .var 1])])) [.ret (.con (.bl false))] []], .ret (.con (.bl true))]
def fn_shared : Fn := ⟨2, 2, [], b_shared⟩
def fn_shared_all : Fn := ⟨3, 1, [], b_shared_all⟩
def fn_lowest : Fn := ⟨3, 1, [], b_lowest⟩
def fn_place_of : Fn := ⟨3, 2, [], b_place_of⟩
def fn_is_place : Fn := ⟨2, 2, [], b_is_place⟩
def fn_dot : Fn := ⟨4, 2, [], b_dot⟩
def fn_plus : Fn := ⟨4, 2, [], b_plus⟩
def fn_less : Fn := ⟨4, 2, [], b_less⟩
def fn_times : Fn := ⟨3, 2, [], b_times⟩
def fn_combined : Fn := ⟨8, 3, [], b_combined⟩
def fn_area : Fn := ⟨10, 1, [], b_area⟩
def fn_stairs : Fn := ⟨11, 2, [], b_stairs⟩
def fn__without : Fn := ⟨6, 3, [], b__without⟩
def fn_rank : Fn := ⟨2, 2, [], b_rank⟩
def fn_zeros : Fn := ⟨11, 2, [], b_zeros⟩
def fn_solved : Fn := ⟨10, 3, [], b_solved⟩
def fn__law_cell : Fn := ⟨2, 2, [], b__law_cell⟩
def fn__law_source : Fn := ⟨2, 2, [], b__law_source⟩
def fn__law_pick : Fn := ⟨4, 2, [0], b__law_pick⟩
def fn__law_same : Fn := ⟨3, 2, [], b__law_same⟩
def fn__law_gcd : Fn := ⟨3, 2, [], b__law_gcd⟩
def fn__law_gcds : Fn := ⟨3, 1, [], b__law_gcds⟩
def fn__law_dot : Fn := ⟨4, 2, [], b__law_dot⟩
def fn__law_is_place : Fn := ⟨2, 2, [], b__law_is_place⟩
def fn__law_sum : Fn := ⟨6, 3, [], b__law_sum⟩
def fn__law_place : Fn := ⟨4, 2, [], b__law_place⟩
def fn__law_table : Fn := ⟨7, 3, [0], b__law_table⟩
def fn__law_area : Fn := ⟨9, 1, [], b__law_area⟩
def fn__law_rank : Fn := ⟨11, 2, [], b__law_rank⟩
def fn__law_first : Fn := ⟨3, 1, [], b__law_first⟩
def fn__law_right : Fn := ⟨27, 1, [0], b__law_right⟩
def fn_law : Fn := ⟨2, 1, [], b_law⟩
def fns : Nat → Option Fn
  | 0 => some fn_shared
  | 1 => some fn_shared_all
  | 2 => some fn_lowest
  | 3 => some fn_place_of
  | 4 => some fn_is_place
  | 5 => some fn_dot
  | 6 => some fn_plus
  | 7 => some fn_less
  | 8 => some fn_times
  | 9 => some fn_combined
  | 10 => some fn_area
  | 11 => some fn_stairs
  | 12 => some fn__without
  | 13 => some fn_rank
  | 14 => some fn_zeros
  | 15 => some fn_solved
  | 16 => some fn__law_cell
  | 17 => some fn__law_source
  | 18 => some fn__law_pick
  | 19 => some fn__law_same
  | 20 => some fn__law_gcd
  | 21 => some fn__law_gcds
  | 22 => some fn__law_dot
  | 23 => some fn__law_is_place
  | 24 => some fn__law_sum
  | 25 => some fn__law_place
  | 26 => some fn__law_table
  | 27 => some fn__law_area
  | 28 => some fn__law_rank
  | 29 => some fn__law_first
  | 30 => some fn__law_right
  | 31 => some fn_law
  | _ => none
noncomputable abbrev Ph (n : Nat) : Fns := Phi fns (fun _ => .non) n
end P00
end
section
set_option autoImplicit false
set_option linter.all false
set_option maxRecDepth 8000
set_option exponentiation.threshold 10000
namespace P00
open PX
abbrev g0 : Nat → D := fun _ => .non
theorem abs_nat (i : Int) : (if i < 0 then -i else i) = (i.natAbs : Int) := by split <;> omega
theorem fmod_nat (a b : Nat) : (a : Int).fmod (b : Int) = ((a % b : Nat) : Int) := by
  rw [Int.fmod_eq_emod_of_nonneg _ (by omega)]; rfl
theorem whl_gcd (Φ : Fns) : ∀ b a : Nat, ∃ n ρ, whlN [] (evC Φ g0 (.cmp .ne (.var 1) (.con (.int 0)))) (evSs Φ g0 [.par 0 1 (.var 1) (.bin .mod (.var 0) (.var 1))]) n [some (.int a), some (.int b)] = .ok .next ρ ∧ gt ρ 0 = some (.int (Nat.gcd a b : Nat)) := by
  intro b
  induction b using Nat.strongRecOn with
  | ind b ih =>
    intro a
    have hc : evC Φ g0 (.cmp .ne (.var 1) (.con (.int 0))) [some (.int a), some (.int b)] = .ok (!decide ((b : Int) = 0)) [some (.int a), some (.int b)] := by
      simp [evC, evE, optR, R.bind, gt, cmpD, eqD_int, truR, truth]
    by_cases hb : b = 0
    · subst hb
      refine ⟨1, [some (.int a), some (.int (0:Nat))], ?_, ?_⟩
      · show (evC Φ g0 _ _).bind _ = _
        rw [show wipe [] [some (D.int a), some (D.int (0:Nat))] = [some (D.int a), some (D.int (0:Nat))] from rfl, hc]
        rfl
      · simp [gt]
    · obtain ⟨n, ρ, h1, h2⟩ := ih (a % b) (Nat.mod_lt _ (by omega)) b
      refine ⟨n + 1, ρ, ?_, ?_⟩
      · show (evC Φ g0 _ _).bind _ = _
        rw [show wipe [] [some (D.int a), some (D.int b)] = [some (D.int a), some (D.int b)] from rfl, hc]
        have : decide ((b : Int) = 0) = false := by simp; omega
        rw [this]
        show (evSs Φ g0 [.par 0 1 (.var 1) (.bin .mod (.var 0) (.var 1))] [some (.int a), some (.int b)]).bind _ = _
        have hs : evSs Φ g0 [.par 0 1 (.var 1) (.bin .mod (.var 0) (.var 1))] [some (.int a), some (.int b)] = .ok .next [some (.int b), some (.int (a % b : Nat))] := by
          have hb' : (b : Int) ≠ 0 := by omega
          simp only [evSs, evS, evE, optR, R.bind, gt, st, binD, modD, if_neg hb', fmod_nat]
        rw [hs]
        exact h1
      · rw [h2, Nat.gcd_comm b, ← Nat.gcd_rec, Nat.gcd_comm]
theorem shared_ok (n : Nat) (a b : Int) : Ph (n + 1) 0 [.int a, .int b] = .ok (.int (Int.gcd a b : Nat)) [] := by
  obtain ⟨m, ρ, h1, h2⟩ := whl_gcd (Ph n) b.natAbs a.natAbs
  have hw := V.whlR_eq h1 (by simp)
  refine V.run_ret (ρ := ρ) rfl ?_ rfl
  show evSs (Ph n) g0 b_shared [some (.int a), some (.int b)] = _
  unfold b_shared
  refine (V.seq_next (ρ' := [some (.int a.natAbs), some (.int b)]) (by simp [evS, evE, evEs, evIfs, evSs, evC, optR, R.bind, gt, st, binD, cmpD, modD, addD, subD, mulD, fdivD, negD, eqD_int, truR, truth, biD, callR, setIos, asg, asgs, wipe, absD, abs_nat])).trans ?_
  refine (V.seq_next V.frz_ok).trans ?_
  refine (V.seq_next (ρ' := [some (.int a.natAbs), some (.int b.natAbs)]) (by simp [evS, evE, evEs, evIfs, evSs, evC, optR, R.bind, gt, st, binD, cmpD, modD, addD, subD, mulD, fdivD, negD, eqD_int, truR, truth, biD, callR, setIos, asg, asgs, wipe, absD, abs_nat])).trans ?_
  refine (V.seq_next V.frz_ok).trans ?_
  refine (V.seq_next (ρ' := ρ) (by simp only [evS]; exact hw)).trans ?_
  exact V.seq_ret (V.ret_ok (by simp only [evE, h2, optR]; rfl))
def gcdL (xs : List Int) : Nat := xs.foldl (fun a b => Int.gcd a b) 0
theorem fold_gcd {tg : Nat} (xs : List Int) : ∀ a : Nat, xs.foldl (fun (a : Nat) b => Int.gcd a b) a = Nat.gcd a (gcdL xs) := by
  induction xs with
  | nil => intro a; simp [gcdL]
  | cons x xs ih =>
    intro a
    simp only [List.foldl_cons, gcdL]
    rw [ih, ih]
    simp [Int.gcd, Nat.gcd_assoc]
theorem gcdL_cons (x : Int) (xs : List Int) : gcdL (x :: xs) = Nat.gcd x.natAbs (gcdL xs) := by
  show (x :: xs).foldl _ 0 = _
  rw [List.foldl_cons, fold_gcd (tg := 0)]
  simp [Int.gcd]
theorem gcdL_dvd {xs : List Int} : ∀ {x : Int}, x ∈ xs → (gcdL xs : Int) ∣ x := by
  induction xs with
  | nil => intro x h; cases h
  | cons y ys ih =>
    intro x h
    rw [gcdL_cons]
    rcases List.mem_cons.mp h with e | e
    · rw [e]
      exact Int.ofNat_dvd_left.mpr (Nat.gcd_dvd_left _ _)
    · exact Int.dvd_trans (Int.natCast_dvd_natCast.mpr (Nat.gcd_dvd_right _ _)) (ih e)
theorem gcdL_mul (k : Int) (xs : List Int) : gcdL (xs.map (k * ·)) = k.natAbs * gcdL xs := by
  induction xs with
  | nil => simp [gcdL]
  | cons y ys ih => rw [List.map_cons, gcdL_cons, ih, gcdL_cons, Int.natAbs_mul, Nat.gcd_mul_left]
theorem gcdL_zero {xs : List Int} : gcdL xs = 0 ↔ ∀ x ∈ xs, x = 0 := by
  induction xs with
  | nil => simp [gcdL]
  | cons y ys ih => rw [gcdL_cons, Nat.gcd_eq_zero_iff, ih]; simp
theorem gcdL_le {xs : List Int} {x : Int} (h : x ∈ xs) (h0 : x ≠ 0) : gcdL xs ≤ x.natAbs := by
  have := gcdL_dvd h
  exact Nat.le_of_dvd (by omega) (Int.ofNat_dvd_left.mp this)
theorem loop_gcd (Φ : Fns) (f : Nat) (hf : ∀ a b : Int, a.natAbs < 2 ^ 9000 → b.natAbs < 2 ^ 9000 → Φ f [.int a, .int b] = .ok (.int (Int.gcd a b : Nat)) []) : ∀ (xs : List Int) (a : Nat) (d0 y : Option D), a < 2 ^ 9000 → (∀ x ∈ xs, x.natAbs < 2 ^ 9000) →
    ∃ y', forL [] (asg (.nm 2)) (evSs Φ g0 [.set 1 (.call f [.var 1, .var 2]), .frz 1]) (xs.map .int) [d0, some (.int a), y] = .ok .next [d0, some (.int (xs.foldl (fun (a : Nat) b => Int.gcd a b) a : Nat)), y']
  | [], a, d0, y, _, _ => ⟨y, rfl⟩
  | x :: xs, a, d0, y, ha, hx => by
    have hg : Int.gcd (a : Int) x < 2 ^ 9000 ∨ (x = 0 ∧ a = 0) := by
      by_cases h0 : a = 0
      · subst h0
        by_cases h1 : x = 0
        · exact .inr ⟨h1, rfl⟩
        · left; simpa [Int.gcd] using hx x (by simp)
      · left
        exact Nat.lt_of_le_of_lt (Nat.le_of_dvd (by omega) (by simpa using Int.gcd_dvd_natAbs_left (a : Int) x)) ha
    have hg' : Int.gcd (a : Int) x < 2 ^ 9000 := by
      rcases hg with h | ⟨h, h'⟩
      · exact h
      · subst h; subst h'; exact Nat.two_pow_pos 9000
    obtain ⟨y', h⟩ := loop_gcd Φ f hf xs (Int.gcd (a : Int) x) d0 (some (.int x)) hg' (fun z hz => hx z (by simp [hz]))
    refine ⟨y', ?_⟩
    rw [List.foldl_cons, ← h]
    have e := hf (a : Int) x (by simpa using ha) (hx x (by simp))
    show (evSs Φ g0 _ (st [d0, some (.int a), y] 2 (some (.int x)))).bind _ = _
    simp only [st, evSs, evS, evE, evEs, optR, R.bind, gt, e, callR, setIos]
theorem shared_all_ok (n : Nat) {d : D} {xs : List Int} (hd : Iq d xs) (hx : ∀ x ∈ xs, x.natAbs < 2 ^ 9000) : Ph (n + 2) 1 [d] = .ok (.int (gcdL xs : Nat)) [] := by
  obtain ⟨y', h⟩ := loop_gcd (Ph (n + 1)) 0 (fun a b _ _ => shared_ok n a b) xs 0 (some d) none (Nat.two_pow_pos _) hx
  refine V.run_ret (ρ := [some d, some (.int (gcdL xs : Nat)), y']) rfl ?_ rfl
  show evSs (Ph (n + 1)) g0 b_shared_all [some d, none, none] = _
  unfold b_shared_all
  refine (V.seq_next (ρ' := [some d, some (.int (0 : Nat)), none]) (by simp [evS, evE, evEs, evIfs, evSs, evC, optR, R.bind, gt, st, binD, cmpD, modD, addD, subD, mulD, fdivD, negD, eqD_int, truR, truth, biD, callR, setIos, asg, asgs, wipe])).trans ?_
  refine (V.seq_next V.frz_ok).trans ?_
  refine (V.seq_next (ρ' := [some d, some (.int (gcdL xs : Nat)), y']) ?_).trans ?_
  · rw [V.loop_okp (ds := [d]) (xs := xs.map .int) (ik := .seq) (by simp [evS, evE, evEs, evIfs, evSs, evC, optR, R.bind, gt, st, binD, cmpD, modD, addD, subD, mulD, fdivD, negD, eqD_int, truR, truth, biD, callR, setIos, asg, asgs, wipe]) hd]
    exact h
  · exact V.seq_ret (V.ret_ok (by simp [evS, evE, evEs, evIfs, evSs, evC, optR, R.bind, gt, st, binD, cmpD, modD, addD, subD, mulD, fdivD, negD, eqD_int, truR, truth, biD, callR, setIos, asg, asgs, wipe]))
theorem half {b r : Nat} (hr : 0 < r) (h : r < b) : 2 * (b % r) < b := by
  have h1 := Nat.mod_lt b hr
  have h2 := Nat.div_add_mod b r
  have h3 : 1 ≤ b / r := (Nat.one_le_div_iff hr).mpr (by omega)
  have h4 : r * 1 ≤ r * (b / r) := Nat.mul_le_mul_left r h3
  omega
abbrev bodyG : List S := [.ifs (.cmp .eq (.var 1) (.con (.int 0))) [.ret (.var 0)] [], .par 0 1 (.var 1) (.bin .mod (.bi .intOf [.var 0]) (.var 1))]
theorem bodyG_0 (Φ : Fns) (a : Nat) (y : Option D) : evSs Φ g0 bodyG [some (.int a), some (.int (0 : Nat)), y] = .ok (.ret (.int a)) [some (.int a), some (.int (0 : Nat)), y] := by
  simp [evS, evE, evEs, evIfs, evSs, evC, optR, R.bind, gt, st, binD, cmpD, modD, addD, subD, mulD, fdivD, negD, eqD_int, truR, truth, biD, callR, setIos, asg, asgs, wipe]
theorem bodyG_s (Φ : Fns) (a b : Nat) (hb : b ≠ 0) (y : Option D) : evSs Φ g0 bodyG [some (.int a), some (.int b), y] = .ok .next [some (.int b), some (.int (a % b : Nat)), y] := by
  simp [evS, evE, evEs, evIfs, evSs, evC, optR, R.bind, gt, st, binD, cmpD, modD, addD, subD, mulD, fdivD, negD, eqD_int, truR, truth, biD, callR, setIos, asg, asgs, wipe, hb, intD, fmod_nat]
theorem loop_gcd2 (Φ : Fns) : ∀ (k a b : Nat) (xs : List D) (y : Option D), b < 2 ^ k → 2 * k + 1 ≤ xs.length → ∃ ρ, forL [] (asg (.nm 2)) (evSs Φ g0 bodyG) xs [some (.int a), some (.int b), y] = .ok (.ret (.int (Nat.gcd a b : Nat))) ρ
  | 0, a, b, [], _, _, hl => by simp at hl
  | 0, a, b, x :: xs, y, hb, _ => by
    have : b = 0 := by omega
    subst this
    refine ⟨[some (.int a), some (.int (0 : Nat)), some x], ?_⟩
    show (evSs Φ g0 bodyG [some (.int a), some (.int (0 : Nat)), some x]).bind _ = _
    rw [bodyG_0]
    simp [R.bind]
  | k + 1, a, b, [], _, _, hl => by simp at hl
  | k + 1, a, b, [_], _, _, hl => by simp at hl
  | k + 1, a, b, x :: x2 :: xs, y, hb, hl => by
    by_cases h0 : b = 0
    · subst h0
      refine ⟨[some (.int a), some (.int (0 : Nat)), some x], ?_⟩
      show (evSs Φ g0 bodyG [some (.int a), some (.int (0 : Nat)), some x]).bind _ = _
      rw [bodyG_0]
      simp [R.bind]
    · have e : forL [] (asg (.nm 2)) (evSs Φ g0 bodyG) (x :: x2 :: xs) [some (.int a), some (.int b), y] = forL [] (asg (.nm 2)) (evSs Φ g0 bodyG) (x2 :: xs) [some (.int b), some (.int (a % b : Nat)), some x] := by
        show (evSs Φ g0 bodyG [some (.int a), some (.int b), some x]).bind _ = _
        rw [bodyG_s _ _ _ h0]
        rfl
      rw [e]
      have hg : Nat.gcd a b = Nat.gcd b (a % b) := by rw [Nat.gcd_comm b, ← Nat.gcd_rec, Nat.gcd_comm]
      rw [hg]
      generalize hr : a % b = r
      have hrb : r < b := by rw [← hr]; exact Nat.mod_lt _ (by omega)
      by_cases h1 : r = 0
      · subst h1
        refine ⟨[some (.int b), some (.int (0 : Nat)), some x2], ?_⟩
        show (evSs Φ g0 bodyG [some (.int b), some (.int (0 : Nat)), some x2]).bind _ = _
        rw [bodyG_0]
        simp [R.bind]
      · have e2 : forL [] (asg (.nm 2)) (evSs Φ g0 bodyG) (x2 :: xs) [some (.int b), some (.int r), some x] = forL [] (asg (.nm 2)) (evSs Φ g0 bodyG) xs [some (.int r), some (.int (b % r : Nat)), some x2] := by
          show (evSs Φ g0 bodyG [some (.int b), some (.int r), some x2]).bind _ = _
          rw [bodyG_s _ _ _ h1]
          rfl
        rw [e2]
        have hg2 : Nat.gcd b r = Nat.gcd r (b % r) := by rw [Nat.gcd_comm r, ← Nat.gcd_rec, Nat.gcd_comm]
        rw [hg2]
        refine loop_gcd2 Φ k r (b % r) xs (some x2) ?_ (by simp at hl; omega)
        have := half (Nat.pos_of_ne_zero h1) hrb
        rw [Nat.pow_succ] at hb
        omega
theorem lgcd_run (Φ : Fns) (a b : Int) (L : List D) (he : itD .range [.int 20000] = some L) (g : D) (ρ : Env)
    (h : forL [] (asg (.nm 2)) (evSs Φ g0 bodyG) L [some (.int a.natAbs), some (.int b.natAbs), none] = .ok (.ret g) ρ) : runFn Φ g0 fn__law_gcd [.int a, .int b] = .ok g [] := by
  refine V.run_ret (ρ := ρ) rfl ?_ rfl
  show evSs Φ g0 b__law_gcd [some (.int a), some (.int b), none] = _
  unfold b__law_gcd
  refine (V.seq_next (ρ' := [some (.int a.natAbs), some (.int b.natAbs), none]) (by simp [evS, evE, evEs, evIfs, evSs, evC, optR, R.bind, gt, st, binD, cmpD, modD, addD, subD, mulD, fdivD, negD, eqD_int, truR, truth, biD, callR, setIos, asg, asgs, wipe, absD, abs_nat])).trans ?_
  refine V.seq_ret (ρ' := ρ) ?_
  rw [V.loop_okp (ds := [.int 20000]) (xs := L) (by simp [evS, evE, evEs, evIfs, evSs, evC, optR, R.bind, gt, st, binD, cmpD, modD, addD, subD, mulD, fdivD, negD, eqD_int, truR, truth, biD, callR, setIos, asg, asgs, wipe]) he]
  exact h
theorem range_20000 : ∃ L, itD .range [.int 20000] = some L ∧ L.length = 20000 := ⟨rangeD 0 20000, by simp [itD, big], by simp [rangeD]⟩
theorem lgcd_ok (n : Nat) (a b : Int) (hb : b.natAbs < 2 ^ 9000) : Ph (n + 1) 20 [.int a, .int b] = .ok (.int (Int.gcd a b : Nat)) [] := by
  obtain ⟨L, he, hl⟩ := range_20000
  obtain ⟨ρ, h⟩ := loop_gcd2 (Ph n) 9000 a.natAbs b.natAbs L none hb (by omega)
  exact lgcd_run (Ph n) a b L he _ ρ h
theorem lgcds_ok (n : Nat) {d : D} {xs : List Int} (hd : Iq d xs) (hx : ∀ x ∈ xs, x.natAbs < 2 ^ 9000) : Ph (n + 2) 21 [d] = .ok (.int (gcdL xs : Nat)) [] := by
  obtain ⟨y', h⟩ := loop_gcd (Ph (n + 1)) 20 (fun a b _ hb => lgcd_ok n a b hb) xs 0 (some d) none (Nat.two_pow_pos _) hx
  refine V.run_ret (ρ := [some d, some (.int (gcdL xs : Nat)), y']) rfl ?_ rfl
  show evSs (Ph (n + 1)) g0 b__law_gcds [some d, none, none] = _
  unfold b__law_gcds
  refine (V.seq_next (ρ' := [some d, some (.int (0 : Nat)), none]) (by simp [evS, evE, evEs, evIfs, evSs, evC, optR, R.bind, gt, st, binD, cmpD, modD, addD, subD, mulD, fdivD, negD, eqD_int, truR, truth, biD, callR, setIos, asg, asgs, wipe])).trans ?_
  refine (V.seq_next V.frz_ok).trans ?_
  refine (V.seq_next (ρ' := [some d, some (.int (gcdL xs : Nat)), y']) ?_).trans ?_
  · rw [V.loop_okp (ds := [d]) (xs := xs.map .int) (ik := .seq) (by simp [evS, evE, evEs, evIfs, evSs, evC, optR, R.bind, gt, st, binD, cmpD, modD, addD, subD, mulD, fdivD, negD, eqD_int, truR, truth, biD, callR, setIos, asg, asgs, wipe]) hd]
    exact h
  · exact V.seq_ret (V.ret_ok (by simp [evS, evE, evEs, evIfs, evSs, evC, optR, R.bind, gt, st, binD, cmpD, modD, addD, subD, mulD, fdivD, negD, eqD_int, truR, truth, biD, callR, setIos, asg, asgs, wipe]))
end P00
end
section
set_option autoImplicit false
set_option linter.all false
set_option maxRecDepth 8000
namespace P00
open PX
abbrev Bd (k : Nat) (xs : List Int) : Prop := ∀ x ∈ xs, x.natAbs < 2 ^ k
theorem pow_le2 {a b : Nat} (h : a ≤ b) : 2 ^ a ≤ 2 ^ b := Nat.pow_le_pow_right (by omega) h
theorem Bd.mono {k l : Nat} {xs : List Int} (h : Bd k xs) (hl : k ≤ l) : Bd l xs := fun x hx => Nat.lt_of_lt_of_le (h x hx) (pow_le2 hl)
theorem mulOk_of {x y : Int} {k l : Nat} (hx : x.natAbs < 2 ^ k) (hy : y.natAbs < 2 ^ l) (hk : k ≤ 400000) (hl : l ≤ 400000) : mulOk x y = true := by
  unfold mulOk
  have h1 := Nat.lt_of_lt_of_le hx (pow_le2 hk)
  have h2 := Nat.lt_of_lt_of_le hy (pow_le2 hl)
  rw [decide_eq_true (show x.natAbs < 2 ^ 400000 ∧ y.natAbs < 2 ^ 400000 from ⟨h1, h2⟩), Bool.or_true]
theorem divOk_of {y : Int} (h0 : y ≠ 0) (hy : y.natAbs < 2 ^ 9000) : divOk y = true := by
  unfold divOk
  rw [decide_eq_true (show y ≠ 0 ∧ y.natAbs < 2 ^ 9000 from ⟨h0, hy⟩)]
theorem natAbs_mul_lt {x y : Int} {k l : Nat} (hx : x.natAbs < 2 ^ k) (hy : y.natAbs < 2 ^ l) : (x * y).natAbs < 2 ^ (k + l) := by
  rw [Int.natAbs_mul, Nat.pow_add]
  exact Nat.mul_lt_mul_of_lt_of_lt hx hy
def cm (xs : List Int) : Int := if (gcdL xs : Int) < 1 then 1 else gcdL xs
def low (xs : List Int) : List Int := xs.map fun x => x.fdiv (cm xs)
theorem gcdL_lt {xs : List Int} {k : Nat} (h : Bd k xs) : gcdL xs < 2 ^ k := by
  by_cases h0 : gcdL xs = 0
  · rw [h0]; exact Nat.two_pow_pos _
  · have : ¬ ∀ x ∈ xs, x = 0 := fun z => h0 (gcdL_zero.mpr z)
    simp only [Classical.not_forall] at this
    obtain ⟨x, hx, hn⟩ := this
    exact Nat.lt_of_le_of_lt (gcdL_le hx hn) (h x hx)
theorem cm_pos (xs : List Int) : 0 < cm xs := by unfold cm; split <;> omega
theorem cm_lt {xs : List Int} {k : Nat} (hk : 1 ≤ k) (h : Bd k xs) : (cm xs).natAbs < 2 ^ k := by
  have := gcdL_lt h
  have h2 : 2 ^ 1 ≤ 2 ^ k := pow_le2 hk
  unfold cm; split
  · simp only [Int.natAbs_one]; omega
  · simpa using this
theorem cm_dvd {xs : List Int} {x : Int} (h : x ∈ xs) : cm xs ∣ x := by
  unfold cm; split
  · exact Int.one_dvd x
  · exact gcdL_dvd h
theorem low_len (xs : List Int) : (low xs).length = xs.length := by simp [low]
theorem low_get {xs : List Int} {i : Nat} (h : i < xs.length) : cm xs * (low xs)[i]'(by rw [low_len]; exact h) = xs[i] := by
  simp only [low, List.getElem_map]
  exact Int.mul_fdiv_cancel' (cm_dvd (List.getElem_mem h))
theorem low_map (xs : List Int) : (low xs).map (cm xs * ·) = xs := by
  apply List.ext_getElem
  · simp [low]
  · intro i h1 h2
    simpa using low_get h2
theorem low_gcd {xs : List Int} (h : gcdL xs ≠ 0) : gcdL (low xs) = 1 := by
  have h1 := gcdL_mul (cm xs) (low xs)
  rw [low_map] at h1
  have : (cm xs).natAbs = gcdL xs := by unfold cm; split <;> omega
  rw [this] at h1
  exact Nat.eq_of_mul_eq_mul_left (Nat.pos_of_ne_zero h) (by omega)
theorem natAbs_div_le (x c : Int) (hc : 0 < c) (hd : c ∣ x) : (x.fdiv c).natAbs ≤ x.natAbs := by
  obtain ⟨q, e⟩ := hd
  rw [e, Int.mul_fdiv_cancel_left _ (by omega), Int.natAbs_mul]
  exact Nat.le_mul_of_pos_left _ (by omega)
theorem low_bd {k : Nat} {xs : List Int} (h : Bd k xs) : Bd k (low xs) := by
  intro y hy
  simp only [low, List.mem_map] at hy
  obtain ⟨x, hx, rfl⟩ := hy
  exact Nat.lt_of_le_of_lt (natAbs_div_le x _ (cm_pos xs) (cm_dvd hx)) (h x hx)
theorem lowest_ok (n : Nat) {d : D} {xs : List Int} (hd : Iq d xs) (hx : Bd 9000 xs) (hl : xs.length ≤ 16777216) : Ph (n + 3) 2 [d] = .ok (iT (low xs)) [] := by
  have h1 := shared_all_ok n hd hx
  have hm : max2D [D.int (gcdL xs : Nat), D.int 1] = some (.int (cm xs)) := by simp only [max2D, cm]
  have hdv : divOk (cm xs) = true := divOk_of (by have := cm_pos xs; omega) (cm_lt (by omega) hx)
  refine V.run_ret (ρ := [some d, some (.int (cm xs)), none]) rfl ?_ rfl
  show evSs (Ph (n + 2)) g0 b_lowest [some d, none, none] = _
  unfold b_lowest
  refine (V.seq_next (ρ' := [some d, some (.int (cm xs)), none]) (by simp [evS, evE, evEs, evIfs, evSs, evC, optR, R.bind, gt, st, binD, cmpD, modD, addD, subD, mulD, fdivD, negD, eqD_int, truR, truth, biD, callR, setIos, asg, asgs, wipe, h1, hm])).trans ?_
  refine (V.seq_next V.frz_ok).trans ?_
  refine V.seq_ret (V.ret_ok (V.bi1 (V.comp_mapp (α := Int) (ds := [d]) D.int (fun x => D.int (x.fdiv (cm xs))) xs ?_ hd (fits_ok hl) ?_) ?_))
  · simp [evS, evE, evEs, evIfs, evSs, evC, optR, R.bind, gt, st, binD, cmpD, modD, addD, subD, mulD, fdivD, negD, eqD_int, truR, truth, biD, callR, setIos, asg, asgs, wipe]
  · intro x hx
    exact ⟨_, rfl, by simp [evS, evE, evEs, evIfs, evSs, evC, optR, R.bind, gt, st, binD, cmpD, modD, addD, subD, mulD, fdivD, negD, eqD_int, truR, truth, biD, callR, setIos, asg, asgs, wipe, hdv], rfl⟩
  · simp [evS, evE, evEs, evIfs, evSs, evC, optR, R.bind, gt, st, binD, cmpD, modD, addD, subD, mulD, fdivD, negD, eqD_int, truR, truth, biD, callR, setIos, asg, asgs, wipe, tupD, iT, low, List.map_map, Function.comp_def]
def dotI (xs ys : List Int) : Int := ((xs.zip ys).map fun p => p.1 * p.2).sum
theorem it_zip {d e : D} {xs ys : List Int} (hd : Iq d xs) (he : Iq e ys) : itD .zip [d, e] = some ((xs.zip ys).map fun p => D.tup [.int p.1, .int p.2]) := by
  unfold Iq Sq at hd he
  simp only [itD, hd, he, Option.bind_some, Option.map_some, zipD_ints]
theorem nums_map {α : Type} (f : α → Int) (xs : List α) : nums (xs.map fun p => D.int (f p)) = some (xs.map f) := by
  rw [← nums_ints]; simp [List.map_map, Function.comp_def]
theorem body_dot (Φ : Fns) {d e : D} {xs ys : List Int} (hd : Iq d xs) (he : Iq e ys) (hm : ∀ p ∈ xs.zip ys, mulOk p.1 p.2 = true) (hl : xs.length ≤ 16777216) :
    evSs Φ g0 b_dot [some d, some e, none, none] = .ok (.ret (.int (dotI xs ys))) [some d, some e, none, none] := by
  refine V.seq_ret (V.ret_ok ?_)
  refine V.bi1 (V.comp_mapp (α := Int × Int) (ds := [d, e]) (fun p => D.tup [.int p.1, .int p.2]) (fun p => D.int (p.1 * p.2)) (xs.zip ys) ?_ (it_zip hd he) (fits_ok (by simp; omega)) ?_) ?_
  · simp [evS, evE, evEs, evIfs, evSs, evC, optR, R.bind, gt, st, binD, cmpD, modD, addD, subD, mulD, fdivD, negD, eqD_int, truR, truth, biD, callR, setIos, asg, asgs, wipe]
  · intro x hx
    exact ⟨_, rfl, by simp [evS, evE, evEs, evIfs, evSs, evC, optR, R.bind, gt, st, binD, cmpD, modD, addD, subD, mulD, fdivD, negD, eqD_int, truR, truth, biD, callR, setIos, asg, asgs, wipe, hm _ hx], rfl⟩
  · simp [evS, evE, evEs, evIfs, evSs, evC, optR, R.bind, gt, st, binD, cmpD, modD, addD, subD, mulD, fdivD, negD, eqD_int, truR, truth, biD, callR, setIos, asg, asgs, wipe, sumD, nums_map, dotI]
theorem dot_ok (n : Nat) {d e : D} {xs ys : List Int} (hd : Iq d xs) (he : Iq e ys) (hm : ∀ p ∈ xs.zip ys, mulOk p.1 p.2 = true) (hl : xs.length ≤ 16777216) : Ph (n + 1) 5 [d, e] = .ok (.int (dotI xs ys)) [] :=
  V.run_ret (F := fn_dot) rfl (body_dot (Ph n) hd he hm hl) rfl
theorem ldot_ok (n : Nat) {d e : D} {xs ys : List Int} (hd : Iq d xs) (he : Iq e ys) (hm : ∀ p ∈ xs.zip ys, mulOk p.1 p.2 = true) (hl : xs.length ≤ 16777216) : Ph (n + 1) 22 [d, e] = .ok (.int (dotI xs ys)) [] :=
  V.run_ret (F := fn__law_dot) rfl (body_dot (Ph n) hd he hm hl) rfl
theorem plus_ok (n : Nat) {d e : D} {xs ys : List Int} (hd : Iq d xs) (he : Iq e ys) (hl : xs.length ≤ 16777216) : Ph (n + 1) 6 [d, e] = .ok (iT ((xs.zip ys).map fun p => p.1 + p.2)) [] := by
  refine V.run_ret (F := fn_plus) (ρ := [some d, some e, none, none]) rfl (V.seq_ret (V.ret_ok ?_)) rfl
  refine V.bi1 (V.comp_mapp (α := Int × Int) (ds := [d, e]) (fun p => D.tup [.int p.1, .int p.2]) (fun p => D.int (p.1 + p.2)) (xs.zip ys) ?_ (it_zip hd he) (fits_ok (by simp; omega)) ?_) ?_
  · simp [evS, evE, evEs, evIfs, evSs, evC, optR, R.bind, gt, st, binD, cmpD, modD, addD, subD, mulD, fdivD, negD, eqD_int, truR, truth, biD, callR, setIos, asg, asgs, wipe, fn_plus]
  · intro x hx
    exact ⟨_, rfl, by simp [evS, evE, evEs, evIfs, evSs, evC, optR, R.bind, gt, st, binD, cmpD, modD, addD, subD, mulD, fdivD, negD, eqD_int, truR, truth, biD, callR, setIos, asg, asgs, wipe, fn_plus], rfl⟩
  · simp [evS, evE, evEs, evIfs, evSs, evC, optR, R.bind, gt, st, binD, cmpD, modD, addD, subD, mulD, fdivD, negD, eqD_int, truR, truth, biD, callR, setIos, asg, asgs, wipe, tupD, iT, List.map_map, Function.comp_def]
theorem less_ok (n : Nat) {d e : D} {xs ys : List Int} (hd : Iq d xs) (he : Iq e ys) (hl : xs.length ≤ 16777216) : Ph (n + 1) 7 [d, e] = .ok (iT ((xs.zip ys).map fun p => p.1 - p.2)) [] := by
  refine V.run_ret (F := fn_less) (ρ := [some d, some e, none, none]) rfl (V.seq_ret (V.ret_ok ?_)) rfl
  refine V.bi1 (V.comp_mapp (α := Int × Int) (ds := [d, e]) (fun p => D.tup [.int p.1, .int p.2]) (fun p => D.int (p.1 - p.2)) (xs.zip ys) ?_ (it_zip hd he) (fits_ok (by simp; omega)) ?_) ?_
  · simp [evS, evE, evEs, evIfs, evSs, evC, optR, R.bind, gt, st, binD, cmpD, modD, addD, subD, mulD, fdivD, negD, eqD_int, truR, truth, biD, callR, setIos, asg, asgs, wipe, fn_less]
  · intro x hx
    exact ⟨_, rfl, by simp [evS, evE, evEs, evIfs, evSs, evC, optR, R.bind, gt, st, binD, cmpD, modD, addD, subD, mulD, fdivD, negD, eqD_int, truR, truth, biD, callR, setIos, asg, asgs, wipe, fn_less], rfl⟩
  · simp [evS, evE, evEs, evIfs, evSs, evC, optR, R.bind, gt, st, binD, cmpD, modD, addD, subD, mulD, fdivD, negD, eqD_int, truR, truth, biD, callR, setIos, asg, asgs, wipe, tupD, iT, List.map_map, Function.comp_def]
theorem times_ok (n : Nat) {d : D} {xs : List Int} (k : Int) (hd : Iq d xs) (hm : ∀ x ∈ xs, mulOk x k = true) (hl : xs.length ≤ 16777216) : Ph (n + 1) 8 [d, .int k] = .ok (iT (xs.map fun x => x * k)) [] := by
  refine V.run_ret (F := fn_times) (ρ := [some d, some (.int k), none]) rfl (V.seq_ret (V.ret_ok ?_)) rfl
  refine V.bi1 (V.comp_mapp (α := Int) (ds := [d]) D.int (fun x => D.int (x * k)) xs ?_ hd (fits_ok hl) ?_) ?_
  · simp [evS, evE, evEs, evIfs, evSs, evC, optR, R.bind, gt, st, binD, cmpD, modD, addD, subD, mulD, fdivD, negD, eqD_int, truR, truth, biD, callR, setIos, asg, asgs, wipe, fn_times]
  · intro x hx
    exact ⟨_, rfl, by simp [evS, evE, evEs, evIfs, evSs, evC, optR, R.bind, gt, st, binD, cmpD, modD, addD, subD, mulD, fdivD, negD, eqD_int, truR, truth, biD, callR, setIos, asg, asgs, wipe, fn_times, hm _ hx], rfl⟩
  · simp [evS, evE, evEs, evIfs, evSs, evC, optR, R.bind, gt, st, binD, cmpD, modD, addD, subD, mulD, fdivD, negD, eqD_int, truR, truth, biD, callR, setIos, asg, asgs, wipe, tupD, iT, List.map_map, Function.comp_def]
def plz (xs : List Int) (u : Int) : List Int := if u < 0 then low (xs.map (- ·) ++ [-u]) else low (xs ++ [u])
theorem place_of_ok (n : Nat) {d : D} {xs : List Int} {u : Int} (hd : Iq d xs) (hx : Bd 9000 xs) (hu : u.natAbs < 2 ^ 9000) (hl : xs.length + 1 ≤ 16777216) : Ph (n + 4) 3 [d, .int u] = .ok (iT (plz xs u)) [] := by
  have hlo := hd.listOf
  by_cases h : u < 0
  · have hc : evE (Ph (n + 3)) g0 (.comp [2] (.nm 2) .seq [.var 0] [] (.neg (.var 2))) [some d, some (.int u), none] = .ok (iL (xs.map (- ·))) [some d, some (.int u), none] := by
      refine (V.comp_mapp (α := Int) (ik := .seq) (ds := [d]) D.int (fun x => D.int (-x)) xs ?_ hd (fits_ok (by omega)) ?_).trans ?_
      · simp [evS, evE, evEs, evIfs, evSs, evC, optR, R.bind, gt, st, binD, cmpD, modD, addD, subD, mulD, fdivD, negD, eqD_int, truR, truth, biD, callR, setIos, asg, asgs, wipe]
      · intro x hx
        exact ⟨_, rfl, by simp [evS, evE, evEs, evIfs, evSs, evC, optR, R.bind, gt, st, binD, cmpD, modD, addD, subD, mulD, fdivD, negD, eqD_int, truR, truth, biD, callR, setIos, asg, asgs, wipe], rfl⟩
      · simp [List.map_map, Function.comp_def]
    have hlow := lowest_ok n (d := iL (xs.map (- ·) ++ [-u])) (xs := xs.map (- ·) ++ [-u]) rfl (by
      intro y hy
      simp only [List.mem_append, List.mem_map, List.mem_singleton] at hy
      rcases hy with ⟨x, hx', rfl⟩ | rfl
      · rw [Int.natAbs_neg]; exact hx x hx'
      · rw [Int.natAbs_neg]; exact hu) (by simp; omega)
    refine V.run_ret (F := fn_place_of) rfl (ρ := [some d, some (.int u), none]) ?_ rfl
    show evSs (Ph (n + 3)) g0 b_place_of [some d, some (.int u), none] = _
    unfold b_place_of
    refine V.seq_ret ?_
    rw [V.ifs_t (x := .bl true) (ρ1 := [some d, some (.int u), none]) (by simp [evS, evE, evEs, evIfs, evSs, evC, optR, R.bind, gt, st, binD, cmpD, modD, addD, subD, mulD, fdivD, negD, eqD_int, truR, truth, biD, callR, setIos, asg, asgs, wipe, ltD, h]) rfl]
    refine V.seq_ret (V.ret_ok ?_)
    have e : addD (iL (xs.map (- ·))) (.lst [.int (-u)]) = some (iL (xs.map (- ·) ++ [-u])) := by
      simp only [addD, iL, List.length_map, List.length_singleton, fits_ok hl, if_true, List.map_append, List.map_cons, List.map_nil]
    refine (V.call_ok (V.Es1 (V.bin_ok (op := .add) hc (V.lst_ok (V.Es1 (V.neg_ok (V.var_ok rfl)))) e)) hlow rfl).trans ?_
    simp only [plz, if_pos h]
  · have hlow := lowest_ok n (d := iL (xs ++ [u])) (xs := xs ++ [u]) rfl (by
      intro y hy
      simp only [List.mem_append, List.mem_singleton] at hy
      rcases hy with hx' | rfl
      · exact hx y hx'
      · exact hu) (by simp; omega)
    refine V.run_ret (F := fn_place_of) rfl (ρ := [some d, some (.int u), none]) ?_ rfl
    show evSs (Ph (n + 3)) g0 b_place_of [some d, some (.int u), none] = _
    unfold b_place_of
    refine (V.seq_next (V.ifs_skip (x := .bl false) (ρ1 := [some d, some (.int u), none]) (by simp [evS, evE, evEs, evIfs, evSs, evC, optR, R.bind, gt, st, binD, cmpD, modD, addD, subD, mulD, fdivD, negD, eqD_int, truR, truth, biD, callR, setIos, asg, asgs, wipe, ltD]; omega) rfl)).trans ?_
    refine V.seq_ret (V.ret_ok ?_)
    have e : addD (.lst (xs.map D.int)) (.lst [.int u]) = some (iL (xs ++ [u])) := by
      simp only [addD, iL, List.length_map, List.length_singleton, fits_ok hl, if_true, List.map_append, List.map_cons, List.map_nil]
    simp only [evE, evEs, hlo, biD, R.bind, optR, gt, binD, e, hlow, callR, setIos, plz, if_neg h]
theorem gcdL_last {xs : List Int} {u : Int} (hu : u ≠ 0) : gcdL (xs ++ [u]) ≠ 0 := fun h => hu (gcdL_zero.mp h u (by simp))
theorem lplace_ok (n : Nat) {d : D} {xs : List Int} {u : Int} (hd : Iq d xs) (hx : Bd 9000 xs) (hu : u.natAbs < 2 ^ 9000) (h0 : 0 < u) (hl : xs.length + 1 ≤ 16777216) : Ph (n + 3) 25 [d, .int u] = .ok (iT (plz xs u)) [] := by
  have hlo := hd.listOf
  have e : addD (.lst (xs.map D.int)) (.lst [.int u]) = some (iL (xs ++ [u])) := by
    simp only [addD, iL, List.length_map, List.length_singleton, fits_ok hl, if_true, List.map_append, List.map_cons, List.map_nil]
  have hb : Bd 9000 (xs ++ [u]) := by
    intro y hy
    simp only [List.mem_append, List.mem_singleton] at hy
    rcases hy with hx' | rfl
    · exact hx y hx'
    · exact hu
  have hg := lgcds_ok n (d := iL (xs ++ [u])) (xs := xs ++ [u]) rfl hb
  have hne := gcdL_last (xs := xs) (u := u) (by omega)
  have hcm : cm (xs ++ [u]) = (gcdL (xs ++ [u]) : Int) := by unfold cm; rw [if_neg (by omega)]
  have hdv : divOk (gcdL (xs ++ [u]) : Nat) = true := by rw [← hcm]; exact divOk_of (by have := cm_pos (xs ++ [u]); omega) (cm_lt (by omega) hb)
  refine V.run_ret (F := fn__law_place) (ρ := [some d, some (.int u), some (.int (gcdL (xs ++ [u]) : Nat)), none]) rfl ?_ rfl
  show evSs (Ph (n + 2)) g0 b__law_place [some d, some (.int u), none, none] = _
  unfold b__law_place
  refine (V.seq_next (ρ' := [some d, some (.int u), some (.int (gcdL (xs ++ [u]) : Nat)), none]) (by simp only [evS, evE, evEs, hlo, biD, R.bind, optR, gt, binD, e, hg, callR, setIos, st])).trans ?_
  refine (V.seq_next V.frz_ok).trans ?_
  refine V.seq_ret (V.ret_ok (V.bi1 (V.comp_mapp (α := Int) (ds := [iL (xs ++ [u])]) D.int (fun x => D.int (x.fdiv (gcdL (xs ++ [u]) : Nat))) (xs ++ [u]) ?_ rfl (fits_ok (by simp; omega)) ?_) ?_))
  · simp only [evE, evEs, hlo, biD, R.bind, optR, gt, binD, e]
  · intro x hx
    exact ⟨_, rfl, by simp [evS, evE, evEs, evIfs, evSs, evC, optR, R.bind, gt, st, binD, cmpD, modD, addD, subD, mulD, fdivD, negD, eqD_int, truR, truth, biD, callR, setIos, asg, asgs, wipe, hdv], rfl⟩
  · simp only [biD, tupD, iT, plz, low, List.map_map, Function.comp_def, hcm, if_neg (show ¬ u < 0 by omega)]
end P00
end
section
set_option autoImplicit false
set_option linter.all false
set_option maxRecDepth 8000
set_option exponentiation.threshold 10000
namespace P00
open PX
theorem b_mul {x y : Int} (h : mulOk x y = true) : binD .mul (.int x) (.int y) = some (.int (x * y)) := by simp only [binD, mulD, h, if_true]
theorem b_fdiv {x y : Int} (h : divOk y = true) : binD .fdiv (.int x) (.int y) = some (.int (x.fdiv y)) := by simp only [binD, fdivD, h, if_true]
theorem b_mod {x y : Int} (h : y ≠ 0) : binD .mod (.int x) (.int y) = some (.int (x.fmod y)) := by simp only [binD, modD, if_neg h]
def isP (xs : List Int) (size : Int) : Bool := decide ((xs.length : Int) = size + 1) && (decide (0 < xs.getLastD 0) && decide (gcdL xs = 1))
theorem ix_last {d : D} {xs : List Int} (hd : Iq d xs) (hne : xs ≠ []) : ixD d (.int (-1)) = some (.int (xs.getLastD 0)) := by
  rw [hd.ix, atD_last (by simpa using hne), List.getLast_map, List.getLastD_eq_getLast?, List.getLast?_eq_some_getLast hne]
  rfl
theorem isplace_body (Φ : Fns) (f : Nat) {d : D} {xs : List Int} (size : Int) (hd : Iq d xs) (hne : xs ≠ []) (hf : Φ f [d] = .ok (.int (gcdL xs : Nat)) []) :
    evE Φ g0 (.and (.cmp .eq (.bi .len [.var 0]) (.bin .add (.var 1) (.con (.int 1)))) (.and (.cmp .gt (.ix (.var 0) (.neg (.con (.int 1)))) (.con (.int 0))) (.cmp .eq (.call f [.var 0]) (.con (.int 1))))) [some d, some (.int size)] = .ok (.bl (isP xs size)) [some d, some (.int size)] := by
  have h1 : evE Φ g0 (.cmp .eq (.bi .len [.var 0]) (.bin .add (.var 1) (.con (.int 1)))) [some d, some (.int size)] = .ok (.bl (decide ((xs.length : Int) = size + 1))) [some d, some (.int size)] :=
    V.cmp_ok (V.bi1 (V.var_ok rfl) hd.len) (V.bin_ok (V.var_ok rfl) V.con_ok rfl) (by simp [evS, evE, evEs, evIfs, evSs, evC, optR, R.bind, gt, st, binD, cmpD, modD, addD, subD, mulD, fdivD, negD, eqD_int, truR, truth, biD, callR, setIos, asg, asgs, wipe, cmpD])
  have h2 : evE Φ g0 (.cmp .gt (.ix (.var 0) (.neg (.con (.int 1)))) (.con (.int 0))) [some d, some (.int size)] = .ok (.bl (decide (0 < xs.getLastD 0))) [some d, some (.int size)] :=
    V.cmp_ok (V.ix_ok (V.var_ok rfl) (V.neg_ok V.con_ok) (ix_last hd hne)) V.con_ok (by simp [cmpD])
  have h3 : evE Φ g0 (.cmp .eq (.call f [.var 0]) (.con (.int 1))) [some d, some (.int size)] = .ok (.bl (decide (gcdL xs = 1))) [some d, some (.int size)] :=
    V.cmp_ok (V.call_ok (V.Es1 (V.var_ok rfl)) hf rfl) V.con_ok (by simp [evS, evE, evEs, evIfs, evSs, evC, optR, R.bind, gt, st, binD, cmpD, modD, addD, subD, mulD, fdivD, negD, eqD_int, truR, truth, biD, callR, setIos, asg, asgs, wipe, cmpD]; omega)
  unfold isP
  by_cases a : (xs.length : Int) = size + 1
  · rw [decide_eq_true a] at h1 ⊢
    rw [V.and_t h1 rfl, Bool.true_and]
    by_cases b : 0 < xs.getLastD 0
    · rw [decide_eq_true b] at h2 ⊢
      rw [V.and_t h2 rfl, Bool.true_and]
      exact h3
    · rw [decide_eq_false b] at h2 ⊢
      rw [V.and_f h2, Bool.false_and]
  · rw [decide_eq_false a] at h1 ⊢
    rw [V.and_f h1, Bool.false_and]
theorem is_place_ok (n : Nat) {d : D} {xs : List Int} (size : Int) (hd : Iq d xs) (hne : xs ≠ []) (hb : Bd 9000 xs) : Ph (n + 3) 4 [d, .int size] = .ok (.bl (isP xs size)) [] :=
  V.run_ret (F := fn_is_place) rfl (V.seq_ret (V.ret_ok (isplace_body (Ph (n + 2)) 1 size hd hne (shared_all_ok n hd hb)))) rfl
theorem lis_place_ok (n : Nat) {d : D} {xs : List Int} (size : Int) (hd : Iq d xs) (hne : xs ≠ []) (hb : Bd 9000 xs) : Ph (n + 3) 23 [d, .int size] = .ok (.bl (isP xs size)) [] :=
  V.run_ret (F := fn__law_is_place) rfl (V.seq_ret (V.ret_ok (isplace_body (Ph (n + 2)) 21 size hd hne (lgcds_ok n hd hb)))) rfl
def Src (d : D) : Prop := ∃ a b : Int, d = .lst [.int a, .int b]
theorem cell_ok (n : Nat) (ns : List Int) (k : Nat) : ∃ i, Ph (n + 1) 16 [.scr ns, .int k] = .ok (.int i) [] := by
  by_cases h : k < ns.length
  · refine ⟨ns[k], V.run_ret (F := fn__law_cell) (ρ := [some (.scr ns), some (.int k)]) rfl (V.seq_ret ?_) rfl⟩
    refine V.ifs_tt (x := .bl true) (V.cmp_ok (V.var_ok rfl) (V.bi1 (V.var_ok rfl) rfl) (by simp [cmpD, ltD]; omega)) rfl ?_
    refine V.seq_ret (V.ret_ok (V.ix_ok (V.var_ok rfl) (V.var_ok rfl) ?_))
    simp only [ixD, atD_nat h, Option.map_some]
  · refine ⟨0, V.run_ret (F := fn__law_cell) (ρ := [some (.scr ns), some (.int k)]) rfl ?_ rfl⟩
    refine V.seq_n (V.ifs_skip (x := .bl false) (V.cmp_ok (V.var_ok rfl) (V.bi1 (V.var_ok rfl) rfl) (by simp [cmpD, ltD]; omega)) rfl) ?_
    exact V.seq_ret (V.ret_ok V.con_ok)
theorem mulOk_r {x y : Int} (h : y.natAbs < 2 ^ 64) : mulOk x y = true := by
  unfold mulOk
  rw [decide_eq_true h, Bool.or_true, Bool.true_or]
theorem mulOk_l {x y : Int} (h : x.natAbs < 2 ^ 64) : mulOk x y = true := by
  unfold mulOk
  rw [decide_eq_true h, Bool.true_or, Bool.true_or]
theorem source_ok (n : Nat) (c k : Int) : ∃ d, Src d ∧ Ph (n + 1) 17 [.int c, .int k] = .ok d [] := by
  have hp : binD .pow (.int 10) (.int 18) = some (.int (10 ^ 18)) := by simp [evS, evE, evEs, evIfs, evSs, evC, optR, R.bind, gt, st, binD, cmpD, modD, addD, subD, mulD, fdivD, negD, eqD_int, truR, truth, biD, callR, setIos, asg, asgs, wipe, powD]
  have m1 : mulOk c 7919 = true := mulOk_r (by decide)
  have m2 : mulOk k 104729 = true := mulOk_r (by decide)
  by_cases h : (10 : Int) ^ 18 ≤ c
  · refine ⟨.lst [.int (c - 10 ^ 18), .int (k + 1)], ⟨_, _, rfl⟩, V.run_ret (F := fn__law_source) (ρ := [some (.int c), some (.int k)]) rfl (V.seq_ret ?_) rfl⟩
    refine V.ifs_tt (x := .bl true) (V.cmp_ok (V.var_ok rfl) (V.bin_ok V.con_ok V.con_ok hp) (by simp only [cmpD, leI, decide_eq_true h])) rfl ?_
    refine V.seq_ret (V.ret_ok (V.lst_ok (V.Es2 (V.bin_ok (V.var_ok rfl) (V.bin_ok V.con_ok V.con_ok hp) rfl) (V.bin_ok (V.var_ok rfl) V.con_ok rfl))))
  · refine ⟨_, ⟨0, (c * 7919 + k * 104729 + 1).fmod 2147483647, rfl⟩, V.run_ret (F := fn__law_source) (ρ := [some (.int c), some (.int k)]) rfl ?_ rfl⟩
    refine V.seq_n (V.ifs_skip (x := .bl false) (V.cmp_ok (V.var_ok rfl) (V.bin_ok V.con_ok V.con_ok hp) (by simp only [cmpD, leI, decide_eq_false h])) rfl) ?_
    refine V.seq_ret (V.ret_ok (V.lst_ok (V.Es2 V.con_ok (V.bin_ok (V.bi1 (V.bin_ok (V.bin_ok (V.bin_ok (V.var_ok rfl) V.con_ok (b_mul m1)) (V.bin_ok (V.var_ok rfl) V.con_ok (b_mul m2)) rfl) V.con_ok rfl) rfl) V.con_ok (b_mod (by decide))))))
theorem pick_ok (n : Nat) {d : D} (hs : Src d) (m : Int) (h0 : 0 < m) (hm : m.natAbs < 2 ^ 9000) : ∃ p d', 0 ≤ p ∧ p < m ∧ Src d' ∧ Ph (n + 1) 18 [d, .int m] = .ok (.int p) [d'] := by
  obtain ⟨a, b, rfl⟩ := hs
  have hne : m ≠ 0 := by omega
  have hdv : divOk m = true := divOk_of hne hm
  have i0 : ∀ x y : Int, ixD (.lst [.int x, .int y]) (.int 0) = some (.int x) := fun _ _ => rfl
  have i1 : ∀ x y : Int, ixD (.lst [.int x, .int y]) (.int 1) = some (.int y) := fun _ _ => rfl
  by_cases h : 1 < a
  · refine ⟨a.fmod m, .lst [.int (a.fdiv m), .int b], Int.fmod_nonneg_of_pos a h0, Int.fmod_lt_of_pos a h0, ⟨_, _, rfl⟩, V.run_ret (F := fn__law_pick) (ρ := [some (.lst [.int (a.fdiv m), .int b]), some (.int m), none, some (.int (a.fmod m))]) rfl (V.seq_ret ?_) rfl⟩
    refine V.ifs_tt (x := .bl true) (ρ1 := [some (.lst [.int a, .int b]), some (.int m), none, none]) (V.cmp_ok (V.ix_ok (V.pk_ok rfl) V.con_ok (i0 _ _)) V.con_ok (by simp only [cmpD, decide_eq_true h])) rfl ?_
    refine V.seq_n (V.set_ok (V.bin_ok (V.bi1 (V.ix_ok (V.pk_ok rfl) V.con_ok (i0 _ _)) rfl) (V.var_ok rfl) (b_mod hne))) ?_
    refine V.seq_f ?_
    refine V.seq_n (V.setix_ok (y := .lst [.int (a.fdiv m), .int b]) rfl (V.bin_ok (V.ix_ok (V.pk_ok rfl) V.con_ok (i0 _ _)) (V.var_ok rfl) (b_fdiv hdv)) V.con_ok rfl rfl) ?_
    exact V.seq_ret (V.ret_ok (V.var_ok rfl))
  · have m1 : mulOk b 48271 = true := mulOk_r (by decide)
    generalize hb' : (b * 48271 + 12345).fmod 2147483647 = b'
    have m2 : mulOk b' 69621 = true := mulOk_r (by decide)
    have d1 : divOk 127 = true := divOk_of (by omega) (Nat.lt_of_lt_of_le (show _ < 2 ^ 64 by decide) (pow_le2 (by omega)))
    have d2 : divOk 16 = true := divOk_of (by omega) (Nat.lt_of_lt_of_le (show _ < 2 ^ 64 by decide) (pow_le2 (by omega)))
    generalize hv : (b' * 69621 + b'.fdiv 127 + 7).fmod 2147483629 = v
    refine ⟨(v.fdiv 16).fmod m, .lst [.int a, .int b'], Int.fmod_nonneg_of_pos _ h0, Int.fmod_lt_of_pos _ h0, ⟨_, _, rfl⟩, V.run_ret (F := fn__law_pick) (ρ := [some (.lst [.int a, .int b']), some (.int m), some (.int v), none]) rfl ?_ rfl⟩
    refine V.seq_n (V.ifs_skip (x := .bl false) (ρ1 := [some (.lst [.int a, .int b]), some (.int m), none, none]) (V.cmp_ok (V.ix_ok (V.pk_ok rfl) V.con_ok (i0 _ _)) V.con_ok (by simp only [cmpD, decide_eq_false h])) rfl) ?_
    refine V.seq_n (V.setix_ok (y := .lst [.int a, .int b']) rfl (V.bin_ok (V.bi1 (V.bin_ok (V.bin_ok (V.ix_ok (V.pk_ok rfl) V.con_ok (i1 _ _)) V.con_ok (b_mul m1)) V.con_ok rfl) rfl) V.con_ok ((b_mod (by decide)).trans (by rw [hb']))) V.con_ok rfl rfl) ?_
    refine V.seq_n (V.set_ok (x := .int v) (V.bin_ok (V.bi1 (V.bin_ok (V.bin_ok (V.bin_ok (V.ix_ok (V.pk_ok rfl) V.con_ok (i1 _ _)) V.con_ok (b_mul m2)) (V.bin_ok (V.ix_ok (V.pk_ok rfl) V.con_ok (i1 _ _)) V.con_ok (b_fdiv d1)) rfl) V.con_ok rfl) rfl) V.con_ok ((b_mod (by decide)).trans (by rw [hv])))) ?_
    refine V.seq_f ?_
    exact V.seq_ret (V.ret_ok (V.bin_ok (V.bi1 (V.bin_ok (V.var_ok rfl) V.con_ok (b_fdiv d2)) rfl) (V.var_ok rfl) (b_mod hne)))
theorem pick_ev (n : Nat) {ρ : Env} {d : D} {e : E} (hg : gt ρ 0 = some d) (hs : Src d) {m : Int} (he : evE (Ph (n + 1)) g0 e ρ = .ok (.int m) ρ) (h0 : 0 < m) (hm : m < 2 ^ 64) (hi : ∀ ρ, setIos [e] [] ρ = ρ) :
    ∃ p d', 0 ≤ p ∧ p < m ∧ Src d' ∧ evE (Ph (n + 1)) g0 (.call 18 [.io 0, e]) ρ = .ok (.int p) (st ρ 0 (some d')) := by
  obtain ⟨p, d', h1, h2, h3, h4⟩ := pick_ok n hs m h0 (Nat.lt_of_lt_of_le (show m.natAbs < 2 ^ 64 by omega) (pow_le2 (by omega)))
  refine ⟨p, d', h1, h2, h3, ?_⟩
  simp only [evE, evEs, hg, optR, R.bind, he, h4, callR, setIos, hi]
def nest : Nat → D → Bool
  | _, .int _ => true
  | n + 1, .tup xs => xs.all (nest n)
  | _, _ => false
theorem same_int (n : Nat) (a b : Int) : Ph (n + 1) 19 [.int a, .int b] = .ok (.bl (decide (a = b))) [] := by
  refine V.run_ret (Φ := Ph n) (gl := g0) (F := fn__law_same) (ρ := [some (.int a), some (.int b), none]) rfl ?_ rfl
  refine V.seq_n (V.ifs_skip (x := .bl false) (V.bi1 (V.var_ok rfl) rfl) rfl) ?_
  refine V.seq_n (V.ifs_skip (x := .bl false) (V.bi1 (V.var_ok rfl) rfl) rfl) ?_
  refine V.seq_n (V.ifs_skip (x := .bl false) (V.cmp_ok (V.var_ok rfl) V.con_ok rfl) rfl) ?_
  refine V.seq_n (V.ifs_skip (x := .bl false) (V.bi1 (V.var_ok rfl) rfl) rfl) ?_
  refine V.seq_ret ?_
  refine V.ifs_tt (x := .bl true) (V.bi1 (V.var_ok rfl) rfl) rfl ?_
  refine V.seq_ret (V.ret_ok (V.and_t (V.bi1 (V.var_ok rfl) rfl) (V.and_t (V.not_t (V.bi1 (V.var_ok rfl) rfl) rfl) (V.cmp_ok (V.var_ok rfl) (V.var_ok rfl) ?_))))
  simp [cmpD, eqD_int]
theorem same_tup (n : Nat) (xs : List D) (h : ∀ x ∈ xs, Ph n 19 [x, x] = .ok (.bl true) []) (hl : xs.length ≤ 16777216) : Ph (n + 1) 19 [.tup xs, .tup xs] = .ok (.bl true) [] := by
  refine V.run_ret (Φ := Ph n) (gl := g0) (F := fn__law_same) (ρ := [some (.tup xs), some (.tup xs), none]) rfl (V.seq_ret ?_) rfl
  refine V.ifs_tt (x := .bl true) (V.bi1 (V.var_ok rfl) rfl) rfl ?_
  refine V.seq_n (V.ifs_skip (x := .bl false) (V.or_f (V.not_f (V.bi1 (V.var_ok rfl) rfl) rfl) (V.cmp_ok (V.bi1 (V.var_ok rfl) rfl) (V.bi1 (V.var_ok rfl) rfl) (by simp [evS, evE, evEs, evIfs, evSs, evC, optR, R.bind, gt, st, binD, cmpD, modD, addD, subD, mulD, fdivD, negD, eqD_int, truR, truth, biD, callR, setIos, asg, asgs, wipe, cmpD]))) rfl) ?_
  refine V.seq_ret (V.ret_ok (V.cmp_ok (V.comp_nil (α := Nat) (ik := .range) (ds := [.int xs.length]) (fun k => D.int (0 + (k : Int))) (List.range xs.length) ?_ ?_ (fits_ok (by simpa using hl)) ?_) (V.lst_ok V.Es0) ?_))
  · simp [evS, evE, evEs, evIfs, evSs, evC, optR, R.bind, gt, st, binD, cmpD, modD, addD, subD, mulD, fdivD, negD, eqD_int, truR, truth, biD, callR, setIos, asg, asgs, wipe, lenD]
  · simp only [itD]
    rw [if_pos (by simp only [big]; omega)]
    rfl
  · intro k hk
    have hk' : k < xs.length := by simpa using hk
    refine ⟨_, rfl, ?_, rfl⟩
    have e1 : ixD (.tup xs) (.int (0 + (k : Int))) = some xs[k] := by simp only [ixD, Int.zero_add, atD_nat hk']
    exact V.not_f (V.call_ok (V.Es2 (V.ix_ok (V.var_ok rfl) (V.var_ok rfl) e1) (V.ix_ok (V.var_ok rfl) (V.var_ok rfl) e1)) (h _ (List.getElem_mem hk')) rfl) rfl
  · rfl
theorem same_nest : ∀ (k n : Nat) (d : D), nest k d = true → (∀ xs, d = .tup xs → xs.length ≤ 16777216) → (∀ xs, d = .tup xs → ∀ ys, D.tup ys ∈ xs → ys.length ≤ 16777216) → k ≤ 2 → Ph (n + k + 1) 19 [d, d] = .ok (.bl true) [] := by
  intro k
  induction k with
  | zero =>
    intro n d hn _ _ _
    cases d <;> simp only [nest, Bool.false_eq_true] at hn
    rw [same_int, decide_eq_true rfl]
  | succ k ih =>
    intro n d hn h1 h2 hk
    cases d with
    | int i => rw [same_int, decide_eq_true rfl]
    | tup xs =>
      refine same_tup _ _ (fun x hx => ?_) (h1 xs rfl)
      have hx' : nest k x = true := by
        simp only [nest, List.all_eq_true] at hn
        exact hn x hx
      refine ih n x hx' (fun ys e => h2 xs rfl ys (e ▸ hx)) (fun ys e zs hz => ?_) (by omega)
      subst e
      have : k = 0 ∨ k = 1 := by omega
      rcases this with rfl | rfl
      · simp [nest] at hx'
      · simp only [nest, List.all_eq_true] at hx'
        have := hx' _ hz
        simp [nest] at this
    | _ => simp [nest] at hn
end P00
end
section
set_option autoImplicit false
set_option linter.all false
set_option maxRecDepth 8000
set_option exponentiation.threshold 10000
namespace P00
open PX
theorem snil {Φ : Fns} {ρ : Env} : evSs Φ g0 [] ρ = .ok .next ρ := by simp only [evSs]
theorem Ph_run {n f : Nat} {ds : List D} {F : Fn} {r : RF} (hf : fns f = some F) (h : runFn (Ph n) g0 F ds = r) : Ph (n + 1) f ds = r := by
  show (match fns f with | none => _ | some F => _) = _
  rw [hf]; exact h
def colS (fs : List Int) (rows : List (List Int)) (k : Nat) : Int := ((fs.zip rows).map fun p => p.1 * p.2.getD k 0).sum
theorem sum_bd {M : Nat} : ∀ {ts : List Int}, (∀ t ∈ ts, t.natAbs ≤ M) → ts.sum.natAbs ≤ ts.length * M
  | [], _ => by simp
  | t :: ts, h => by
    have h1 := h t (by simp)
    have h2 := sum_bd (ts := ts) fun x hx => h x (by simp [hx])
    rw [List.sum_cons, List.length_cons, Nat.succ_mul]
    have := Int.natAbs_add_le t ts.sum
    omega
theorem sum_lt {c l : Nat} {ts : List Int} (h : ∀ t ∈ ts, t.natAbs < 2 ^ c) (hl : ts.length ≤ 2 ^ l) : ts.sum.natAbs < 2 ^ (c + l) := by
  have h1 := sum_bd (M := 2 ^ c - 1) (ts := ts) fun t ht => by have := h t ht; omega
  have h2 : ts.length * (2 ^ c - 1) ≤ 2 ^ l * (2 ^ c - 1) := Nat.mul_le_mul_right _ hl
  have h3 : 2 ^ l * (2 ^ c - 1) < 2 ^ (c + l) := by
    rw [Nat.pow_add, Nat.mul_comm (2 ^ c)]
    exact Nat.mul_lt_mul_of_pos_left (by have := Nat.two_pow_pos c; omega) (Nat.two_pow_pos l)
  omega
theorem range_it (a : Nat) (n : Nat) (ha : a < 2 ^ 59) (hn : n < 2 ^ 59) : itD .range [.int a, .int n] = some ((List.range (n - a)).map fun (k : Nat) => D.int (a + k : Nat)) := by
  simp only [itD]
  have h1 : (2 : Nat) ^ 59 = 576460752303423488 := by decide
  rw [if_pos (by simp only [big]; omega)]
  have : ((n : Int) - (a : Int)).toNat = n - a := by omega
  rw [this]
  rfl
theorem range_it1 (n : Nat) (hn : n < 2 ^ 59) : itD .range [.int n] = some ((List.range n).map fun (k : Nat) => D.int (k : Nat)) := by
  simp only [itD]
  have h1 : (2 : Nat) ^ 59 = 576460752303423488 := by decide
  rw [if_pos (by simp only [big]; omega)]
  simp [rangeD]
theorem ys_of {α : Type} {f : α → D} {Q : α → Prop} : ∀ {ys : List D}, (∀ y ∈ ys, ∃ i, y = f i ∧ Q i) → ∃ xs : List α, ys = xs.map f ∧ xs.length = ys.length ∧ ∀ x ∈ xs, Q x
  | [], _ => ⟨[], rfl, rfl, fun _ h => by cases h⟩
  | y :: ys, h => by
    obtain ⟨i, e, q⟩ := h y (by simp)
    obtain ⟨xs, e2, e3, q2⟩ := ys_of (ys := ys) fun z hz => h z (by simp [hz])
    refine ⟨i :: xs, by rw [e, e2]; rfl, by simp [e3], fun x hx => ?_⟩
    rcases List.mem_cons.mp hx with r | r
    · rw [r]; exact q
    · exact q2 x r
def addS : List Int → List (Int × List Int) → List Int
  | acc, [] => acc
  | acc, p :: ps => addS (if p.1 ≠ 0 then (acc.zip p.2).map (fun q => q.1 + p.1 * q.2) else acc) ps
theorem addS_eq {w : Nat} : ∀ (ps : List (Int × List Int)) (acc : List Int), acc.length = w → (∀ p ∈ ps, p.2.length = w) → addS acc ps = (List.range w).map fun k => acc.getD k 0 + (ps.map fun p => p.1 * p.2.getD k 0).sum
  | [], acc, h, _ => by
    apply List.ext_getElem
    · simp [addS, h]
    · intro i h1 h2
      simp only [addS] at h1 ⊢
      simp [List.getD_eq_getElem?_getD, h1]
  | p :: ps, acc, h, hp => by
    have hp1 := hp p (by simp)
    have e : ∀ acc' : List Int, acc'.length = w → (∀ k, k < w → acc'.getD k 0 = acc.getD k 0 + p.1 * p.2.getD k 0) → addS acc' ps = (List.range w).map fun k => acc.getD k 0 + ((p :: ps).map fun p => p.1 * p.2.getD k 0).sum := fun acc' h1 h2 => by
      rw [addS_eq ps acc' h1 fun q hq => hp q (by simp [hq])]
      refine List.map_congr_left fun k hk => ?_
      rw [h2 k (by simpa using hk), List.map_cons, List.sum_cons]
      omega
    show addS (if p.1 ≠ 0 then _ else _) ps = _
    by_cases h0 : p.1 = 0
    · rw [if_neg (by simp [h0])]
      exact e acc h fun k _ => by simp [h0]
    · rw [if_pos h0]
      refine e _ (by simp [h, hp1]) fun k hk => ?_
      have h1 : k < acc.length := by omega
      have h2 : k < p.2.length := by omega
      have h3 : k < (acc.zip p.2).length := by simp; omega
      simp only [List.getD_eq_getElem?_getD, List.getElem?_map, List.getElem?_eq_getElem h1, List.getElem?_eq_getElem h2, List.getElem?_eq_getElem h3, Option.map_some, Option.getD_some, List.getElem_zip]
theorem comb_loop (Φ : Fns) (q : List Int → D) (hq : ∀ r, Iq (q r) r) (a0 a1 a2 : Option D) : ∀ (ps : List (Int × List Int)) (acc : List Int) (y4 y5 y6 y7 : Option D), acc.length ≤ 16777216 → (∀ p ∈ ps, p.1.natAbs < 2 ^ 64) →
    ∃ z4 z5 z6 z7, forL [] (asg (.tp [.nm 4, .nm 5])) (evSs Φ g0 [.ifs (.cmp .ne (.var 4) (.con (.int 0))) [.set 3 (.comp [6, 7] (.tp [.nm 6, .nm 7]) .zip [.var 3, .var 5] [] (.bin .add (.var 6) (.bin .mul (.var 4) (.var 7)))), .frz 3] []]) (ps.map fun p => D.tup [.int p.1, q p.2]) [a0, a1, a2, some (iL acc), y4, y5, y6, y7] = .ok .next [a0, a1, a2, some (iL (addS acc ps)), z4, z5, z6, z7]
  | [], acc, y4, y5, y6, y7, _, _ => ⟨y4, y5, y6, y7, rfl⟩
  | p :: ps, acc, y4, y5, y6, y7, hl, hp => by
    have hm : ∀ y, mulOk p.1 y = true := fun y => mulOk_l (hp p (by simp))
    by_cases h0 : p.1 = 0
    · obtain ⟨z4, z5, z6, z7, h⟩ := comb_loop Φ q hq a0 a1 a2 ps acc (some (.int p.1)) (some (q p.2)) y6 y7 hl fun x hx => hp x (by simp [hx])
      refine ⟨z4, z5, z6, z7, ?_⟩
      show (evSs Φ g0 _ [a0, a1, a2, some (iL acc), some (.int p.1), some (q p.2), y6, y7]).bind _ = _
      rw [V.seq_n (r := .ok .next [a0, a1, a2, some (iL acc), some (.int p.1), some (q p.2), y6, y7]) (V.ifs_skip (x := .bl false) (V.cmp_ok (V.var_ok rfl) V.con_ok (by simp [evS, evE, evEs, evIfs, evSs, evC, optR, R.bind, gt, st, binD, cmpD, modD, addD, subD, mulD, fdivD, negD, eqD_int, truR, truth, biD, callR, setIos, asg, asgs, wipe, h0])) rfl) snil]
      show forL _ _ _ _ _ = _
      rw [show addS acc (p :: ps) = addS acc ps by show addS (if p.1 ≠ 0 then _ else _) ps = _; rw [if_neg (by simp [h0])]]
      exact h
    · obtain ⟨z4, z5, z6, z7, h⟩ := comb_loop Φ q hq a0 a1 a2 ps ((acc.zip p.2).map (fun q => q.1 + p.1 * q.2)) (some (.int p.1)) (some (q p.2)) y6 y7 (by simp; omega) fun x hx => hp x (by simp [hx])
      refine ⟨z4, z5, z6, z7, ?_⟩
      show (evSs Φ g0 _ [a0, a1, a2, some (iL acc), some (.int p.1), some (q p.2), y6, y7]).bind _ = _
      rw [V.seq_n (r := .ok .next [a0, a1, a2, some (iL ((acc.zip p.2).map (fun q => q.1 + p.1 * q.2))), some (.int p.1), some (q p.2), y6, y7]) (V.ifs_tt (x := .bl true) (V.cmp_ok (V.var_ok rfl) V.con_ok (by simp [evS, evE, evEs, evIfs, evSs, evC, optR, R.bind, gt, st, binD, cmpD, modD, addD, subD, mulD, fdivD, negD, eqD_int, truR, truth, biD, callR, setIos, asg, asgs, wipe, h0])) rfl (V.seq_n (V.set_ok (x := iL ((acc.zip p.2).map (fun q => q.1 + p.1 * q.2))) (ρ1 := [a0, a1, a2, some (iL acc), some (.int p.1), some (q p.2), y6, y7]) ?_) (V.seq_f snil))) snil]
      · show forL _ _ _ _ _ = _
        rw [show addS acc (p :: ps) = addS ((acc.zip p.2).map (fun q => q.1 + p.1 * q.2)) ps by show addS (if p.1 ≠ 0 then _ else _) ps = _; rw [if_pos h0]]
        exact h
      · refine (V.comp_mapp (α := Int × Int) (ik := .zip) (ds := [iL acc, q p.2]) (fun p => D.tup [.int p.1, .int p.2]) (fun q => D.int (q.1 + p.1 * q.2)) (acc.zip p.2) ?_ (it_zip rfl (hq _)) (fits_ok (by simp; omega)) ?_).trans ?_
        · simp [evS, evE, evEs, evIfs, evSs, evC, optR, R.bind, gt, st, binD, cmpD, modD, addD, subD, mulD, fdivD, negD, eqD_int, truR, truth, biD, callR, setIos, asg, asgs, wipe]
        · intro x hx
          exact ⟨_, rfl, by simp [evS, evE, evEs, evIfs, evSs, evC, optR, R.bind, gt, st, binD, cmpD, modD, addD, subD, mulD, fdivD, negD, eqD_int, truR, truth, biD, callR, setIos, asg, asgs, wipe, hm], rfl⟩
        · simp [iL, List.map_map, Function.comp_def]
theorem zeroL (w : Nat) (hw : w ≤ 16777216) : mulD (.lst [.int 0]) (.int w) = some (iL (List.replicate w 0)) := by
  have h1 : (2 : Int) ^ 62 = 4611686018427387904 := by decide
  have : (decide ((w : Int) < 2 ^ 62) && decide (-(2 ^ 62) < (w : Int)) && fits ([D.int 0].length * (w : Int).toNat)) = true := by
    simp only [h1, Bool.and_eq_true, decide_eq_true_eq]
    refine ⟨⟨by omega, by omega⟩, fits_ok (by simp; omega)⟩
  simp only [mulD]
  rw [if_pos this]
  simp
theorem combined_ok (n : Nat) (q : List Int → D) (hq : ∀ r, Iq (q r) r) {d e : D} {fs : List Int} {rows : List (List Int)} {w : Nat} (hd : Iq d fs) (he : Sq e (rows.map q)) (hf : Bd 64 fs) (hr : ∀ r ∈ rows, r.length = w) (hw : w ≤ 16777216) :
    Ph (n + 1) 9 [d, e, .int w] = .ok (iT ((List.range w).map (colS fs rows))) [] := by
  obtain ⟨z4, z5, z6, z7, h⟩ := comb_loop (Ph n) q hq (some d) (some e) (some (.int w)) (fs.zip rows) (List.replicate w 0) none none none none (by simpa using hw) (fun p hp => hf _ (List.of_mem_zip hp).1)
  have hz : addS (List.replicate w 0) (fs.zip rows) = (List.range w).map (colS fs rows) := by
    rw [addS_eq (w := w) _ _ (by simp) fun p hp => hr _ (List.of_mem_zip hp).2]
    refine List.map_congr_left fun k hk => ?_
    have hk' : k < w := by simpa using hk
    simp [colS, List.getD_eq_getElem?_getD, hk']
  rw [hz] at h
  refine Ph_run (F := fn_combined) rfl (V.run_ret (ρ := [some d, some e, some (.int w), some (iL ((List.range w).map (colS fs rows))), z4, z5, z6, z7]) rfl ?_ rfl)
  refine V.seq_n (V.set_ok (x := iL (List.replicate w 0)) (ρ1 := [some d, some e, some (.int w), none, none, none, none, none]) (V.bin_ok (V.lst_ok (V.Es1 V.con_ok)) (V.var_ok rfl) (zeroL w hw))) (V.seq_f (V.seq_n (ρ' := [some d, some e, some (.int w), some (iL ((List.range w).map (colS fs rows))), z4, z5, z6, z7]) ?_ (V.seq_ret (V.ret_ok (V.bi1 (V.var_ok rfl) rfl)))))
  rw [V.loop_okp (ik := .zip) (ds := [d, e]) (xs := (fs.zip rows).map fun p => D.tup [.int p.1, q p.2]) (V.Es2 (V.var_ok rfl) (V.var_ok rfl)) (by
    unfold Iq Sq at *
    simp only [itD, hd, he, Option.bind_some, Option.map_some, zipD_map])]
  exact h
theorem lsum_ok (n : Nat) (q : List Int → D) (hq : ∀ r, Iq (q r) r) {d e : D} {fs : List Int} {rows : List (List Int)} {w : Nat} (hd : Sq d (rows.map q)) (he : Iq e fs) (hf : Bd 64 fs) (hr : ∀ r ∈ rows, r.length = w) (hw : w ≤ 16777216) (hl : fs.length ≤ 16777216) :
    Ph (n + 1) 24 [d, e, .int w] = .ok (iT ((List.range w).map (colS fs rows))) [] := by
  refine Ph_run (F := fn__law_sum) rfl (V.run_ret (ρ := [some d, some e, some (.int w), none, none, none]) rfl (V.seq_ret (V.ret_ok ?_)) rfl)
  refine V.bi1 (V.comp_mapp (α := Nat) (ik := .range) (ds := [.int w]) (fun k => D.int (k : Nat)) (fun k => D.int (colS fs rows k)) (List.range w) (V.Es1 (V.var_ok rfl)) (range_it1 w (by have : (2:Nat)^59 = 576460752303423488 := (by decide); omega)) (fits_ok (by simpa using hw)) ?_) ?_
  · intro k hk
    have hk' : k < w := by simpa using hk
    refine ⟨_, rfl, ?_, rfl⟩
    refine V.bi1 (V.comp_mapp (α := Int × List Int) (ik := .zip) (ds := [e, d]) (fun p => D.tup [.int p.1, q p.2]) (fun p => D.int (p.1 * p.2.getD k 0)) (fs.zip rows) (V.Es2 (V.var_ok rfl) (V.var_ok rfl)) ?_ (fits_ok (by simp; omega)) ?_) ?_
    · unfold Iq Sq at *
      simp only [itD, hd, he, Option.bind_some, Option.map_some, zipD_map]
    · intro p hp
      have h1 := hf _ (List.of_mem_zip hp).1
      have h2 := hr _ (List.of_mem_zip hp).2
      refine ⟨_, rfl, ?_, rfl⟩
      refine V.bin_ok (V.var_ok rfl) (V.ix_ok (z := .int (p.2.getD k 0)) (V.var_ok rfl) (V.var_ok rfl) ?_) (b_mul (mulOk_l h1))
      rw [(hq _).ix, atD_ints (by omega)]
      simp [List.getD_eq_getElem?_getD, show k < p.2.length by omega]
    · simp only [biD, sumD, nums_map, Option.map_some, colS]
  · simp only [biD, tupD, iT, List.map_map, Function.comp_def]
theorem first_ok (n : Nat) {d : D} {xs : List Int} (hd : Iq d xs) (hl : xs.length < 16777216) {p : Nat} (hp : p < xs.length) (h1 : xs[p] ≠ 0) (h0 : ∀ i, (h : i < p) → xs[i]'(by omega) = 0) : Ph (n + 1) 29 [d] = .ok (.int p) [] := by
  have hlen : lenD [d] = some (.int xs.length) := by rw [Sq.len hd, List.length_map]
  obtain ⟨t, ht⟩ : ∃ t, (List.range xs.length).filter (fun k => decide (xs.getD k 0 ≠ 0)) = p :: t := by
    have hf : (List.range xs.length).find? (fun k => decide (xs.getD k 0 ≠ 0)) = some p := by
      rw [List.find?_range_eq_some]
      refine ⟨by simp [List.getD_eq_getElem?_getD, hp, h1], by simpa using hp, fun j hj => ?_⟩
      have := h0 j hj
      simp [List.getD_eq_getElem?_getD, show j < xs.length by omega, this]
    rw [← List.head?_filter] at hf
    cases hx : (List.range xs.length).filter (fun k => decide (xs.getD k 0 ≠ 0)) with
    | nil => rw [hx] at hf; simp at hf
    | cons a t => rw [hx] at hf; simp at hf; exact ⟨t, by rw [hf]⟩
  have hfl : ((List.range xs.length).filter (fun k => decide (xs.getD k 0 ≠ 0))).length ≤ xs.length := by
    simpa using List.length_filter_le (fun k => decide (xs.getD k 0 ≠ 0)) (List.range xs.length)
  refine Ph_run (F := fn__law_first) rfl (V.run_ret (ρ := [some d, some (.lst (((List.range xs.length).filter (fun k => decide (xs.getD k 0 ≠ 0))).map fun (k : Nat) => D.int k)), none]) rfl ?_ rfl)
  refine V.seq_n (V.set_ok (V.comp_filt (α := Nat) (ik := .range) (ds := [.int xs.length]) (fun k => D.int (k : Nat)) (fun k => decide (xs.getD k 0 ≠ 0)) (fun (k : Nat) => D.int k) (List.range xs.length) (V.Es1 (V.bi1 (V.var_ok rfl) hlen)) (range_it1 _ (by have : (2:Nat)^59 = 576460752303423488 := (by decide); omega)) (fits_ok (by simp; omega)) ?_)) (V.seq_f (V.seq_ret (V.ret_ok (V.ix_ok (V.bin_ok (op := .add) (V.var_ok rfl) (V.lst_ok (V.Es1 (V.bi1 (V.var_ok rfl) hlen))) (z := .lst (D.int p :: (t.map fun (k : Nat) => D.int k) ++ [.int xs.length])) ?_) V.con_ok rfl))))
  · intro k hk
    have hk' : k < xs.length := by simpa using hk
    refine ⟨_, rfl, ?_, (fun _ => V.var_ok rfl), rfl⟩
    refine V.cmp_ok (V.ix_ok (z := .int (xs.getD k 0)) (V.var_ok rfl) (V.var_ok rfl) ?_) V.con_ok (by simp [evS, evE, evEs, evIfs, evSs, evC, optR, R.bind, gt, st, binD, cmpD, modD, addD, subD, mulD, fdivD, negD, eqD_int, truR, truth, biD, callR, setIos, asg, asgs, wipe])
    rw [Sq.ix hd, atD_ints hk']
    simp [List.getD_eq_getElem?_getD, hk']
  · rw [ht] at hfl ⊢
    simp only [binD, addD, List.map_cons, List.length_cons, List.length_map, List.length_nil] at hfl ⊢
    rw [if_pos (fits_ok (by omega))]
end P00
end
section
set_option autoImplicit false
set_option linter.all false
set_option maxRecDepth 8000
set_option exponentiation.threshold 10000
namespace P00
open PX
/-- a table: rows of w numbers below 2^k -/
structure Tab (h w k : Nat) (rows : List (List Int)) : Prop where
  len : rows.length = h
  row : ∀ r ∈ rows, r.length = w ∧ Bd k r
theorem cut_take {α : Type} (xs : List α) (v : Nat) : cutD xs none (some (v : Int)) = xs.take v := by
  simp only [cutD, six]
  rw [if_neg (by omega)]
  simp only [List.drop_zero, Nat.sub_zero, Int.toNat_natCast]
  by_cases h : v ≤ xs.length
  · rw [Nat.min_eq_left h]
  · rw [Nat.min_eq_right (by omega), List.take_of_length_le (by omega), List.take_of_length_le (by omega)]
theorem scale_ev (n : Nat) {ρ : Env} {d : D} (hg : gt ρ 0 = some d) (hs : Src d) : ∃ s d', (2 : Int) ≤ s ∧ s ≤ 1000000 ∧ Src d' ∧
    evE (Ph (n + 1)) g0 (.ix (.lst [.con (.int 2), .con (.int 3), .bin .pow (.con (.int 10)) (.con (.int 6))]) (.call 18 [.io 0, .con (.int 3)])) ρ = .ok (.int s) (st ρ 0 (some d')) := by
  obtain ⟨p, d', h1, h2, h3, h4⟩ := pick_ev n (e := .con (.int 3)) hg hs V.con_ok (by omega) (by decide) (fun _ => rfl)
  have hp : binD .pow (.int 10) (.int 6) = some (.int 1000000) := by simp [binD, powD]
  have hl : evE (Ph (n + 1)) g0 (.lst [.con (.int 2), .con (.int 3), .bin .pow (.con (.int 10)) (.con (.int 6))]) ρ = .ok (.lst [.int 2, .int 3, .int 1000000]) ρ :=
    V.lst_ok (V.EsC V.con_ok (V.EsC V.con_ok (V.Es1 (V.bin_ok V.con_ok V.con_ok hp))))
  have : p = 0 ∨ p = 1 ∨ p = 2 := by omega
  rcases this with rfl | rfl | rfl
  · exact ⟨2, d', by omega, by omega, h3, V.ix_ok hl h4 rfl⟩
  · exact ⟨3, d', by omega, by omega, h3, V.ix_ok hl h4 rfl⟩
  · exact ⟨1000000, d', by omega, by omega, h3, V.ix_ok hl h4 rfl⟩
abbrev eCell : E := .bin .mul (.bi .intOf [.cmp .gt (.call 18 [.io 0, .con (.int 3)]) (.con (.int 0))]) (.bin .sub (.call 18 [.io 0, .bin .add (.bin .mul (.con (.int 2)) (.var 3)) (.con (.int 1))]) (.var 3))
theorem cell_ev (n : Nat) {d x1 x2 x4 x5 x6 : Option D} {s : Int} {d0 : D} (hs : Src d0) (h2 : 2 ≤ s) (h3 : s ≤ 1000000) : ∃ i d', i.natAbs < 2 ^ 20 ∧ Src d' ∧
    evE (Ph (n + 1)) g0 eCell [some d0, x1, x2, some (.int s), x4, x5, x6] = .ok (.int i) [some d', x1, x2, some (.int s), x4, x5, x6] := by
  obtain ⟨p, d1, a1, a2, a3, a4⟩ := pick_ev n (ρ := [some d0, x1, x2, some (.int s), x4, x5, x6]) (e := .con (.int 3)) rfl hs V.con_ok (by omega) (by decide) (fun _ => rfl)
  obtain ⟨q, d2, b1, b2, b3, b4⟩ := pick_ev n (ρ := [some d1, x1, x2, some (.int s), x4, x5, x6]) (m := 2 * s + 1) (e := .bin .add (.bin .mul (.con (.int 2)) (.var 3)) (.con (.int 1))) rfl a3
    (V.bin_ok (V.bin_ok V.con_ok (V.var_ok rfl) (b_mul (mulOk_l (by decide)))) V.con_ok rfl) (by omega) (by omega) (fun _ => rfl)
  have hb : (q - s).natAbs ≤ 1000000 := by omega
  refine ⟨b2i (decide (0 < p)) * (q - s), d2, ?_, b3, ?_⟩
  · have : (2 : Nat) ^ 20 = 1048576 := by decide
    cases decide (0 < p) <;> simp only [b2i, Bool.false_eq_true, if_false, if_true] <;> omega
  · refine V.bin_ok (V.bi1 (x := .bl (decide (0 < p))) (V.cmp_ok a4 V.con_ok rfl) rfl) (V.bin_ok b4 (V.var_ok rfl) rfl) (b_mul (mulOk_l ?_))
    cases decide (0 < p) <;> decide
theorem row_ev (n : Nat) {x1 x4 x5 x6 : Option D} {w : Nat} {s : Int} {d0 : D} (hs : Src d0) (h2 : 2 ≤ s) (h3 : s ≤ 1000000) (hw : w ≤ 5) : ∃ r d', r.length = w ∧ Bd 20 r ∧ Src d' ∧
    evE (Ph (n + 1)) g0 (.bi .tupleOf [.comp [5] (.nm 5) .range [.var 2] [] eCell]) [some d0, x1, some (.int w), some (.int s), x4, x5, x6] = .ok (iT r) [some d', x1, some (.int w), some (.int s), x4, x5, x6] := by
  obtain ⟨ys, ρ', e1, e2, e3, d', y5, e4, e5⟩ := V.comp_inv (Φ := Ph (n + 1)) (gl := g0) (own := [5]) (tg := .nm 5) (ik := .range) (its := [.var 2]) (elt := eCell) (ρ := [some d0, x1, some (.int w), some (.int s), x4, x5, x6]) (ds := [.int w]) (xs := (List.range w).map fun (k : Nat) => D.int (k : Nat))
    (fun ρ => ∃ d' y5, Src d' ∧ ρ = [some d', x1, some (.int w), some (.int s), x4, y5, x6]) (fun y => ∃ i, y = .int i ∧ i.natAbs < 2 ^ 20) (V.Es1 (V.var_ok rfl)) (range_it1 w (by have : (2:Nat)^59 = 576460752303423488 := (by decide); omega)) (fits_ok (by simp; omega)) ⟨d0, x5, hs, rfl⟩
    (by
      rintro x hx ρ ⟨d1, y5, h, rfl⟩
      refine ⟨_, rfl, ?_⟩
      obtain ⟨i, d2, c1, c2, c3⟩ := cell_ev n (d := none) (x1 := x1) (x2 := some (.int w)) (x4 := x4) (x5 := some x) (x6 := x6) h h2 h3
      exact ⟨.int i, _, c3, ⟨i, rfl, c1⟩, d2, some x, c2, rfl⟩)
  obtain ⟨r, f1, f2, f3⟩ := ys_of e3
  refine ⟨r, d', by rw [f2, e2]; simp, f3, e4, ?_⟩
  rw [e5] at e1
  subst f1
  exact V.bi1 e1 rfl
theorem rows_ev (n : Nat) {x4 x5 x6 : Option D} {h w : Nat} {s : Int} {d0 : D} (hs : Src d0) (h2 : 2 ≤ s) (h3 : s ≤ 1000000) (hw : w ≤ 5) (hh : h ≤ 5) : ∃ rows d' y5, Tab h w 20 rows ∧ Src d' ∧
    evE (Ph (n + 1)) g0 (.comp [6] (.nm 6) .range [.var 1] [] (.bi .tupleOf [.comp [5] (.nm 5) .range [.var 2] [] eCell])) [some d0, some (.int h), some (.int w), some (.int s), x4, x5, x6] = .ok (.lst (rows.map iT)) [some d', some (.int h), some (.int w), some (.int s), x4, y5, x6] := by
  obtain ⟨ys, ρ', e1, e2, e3, d', y5, y6, e4, e5⟩ := V.comp_inv (Φ := Ph (n + 1)) (gl := g0) (own := [6]) (tg := .nm 6) (ik := .range) (its := [.var 1]) (elt := .bi .tupleOf [.comp [5] (.nm 5) .range [.var 2] [] eCell]) (ρ := [some d0, some (.int h), some (.int w), some (.int s), x4, x5, x6]) (ds := [.int h]) (xs := (List.range h).map fun (k : Nat) => D.int (k : Nat))
    (fun ρ => ∃ d' y5 y6, Src d' ∧ ρ = [some d', some (.int h), some (.int w), some (.int s), x4, y5, y6]) (fun y => ∃ r, y = iT r ∧ (r.length = w ∧ Bd 20 r)) (V.Es1 (V.var_ok rfl)) (range_it1 h (by have : (2:Nat)^59 = 576460752303423488 := (by decide); omega)) (fits_ok (by simp; omega)) ⟨d0, x5, x6, hs, rfl⟩
    (by
      rintro x hx ρ ⟨d1, y5, y6, hd, rfl⟩
      refine ⟨_, rfl, ?_⟩
      obtain ⟨r, d2, c1, c2, c3, c4⟩ := row_ev n (x1 := some (.int h)) (x4 := x4) (x5 := y5) (x6 := some x) hd h2 h3 hw
      exact ⟨iT r, _, c4, ⟨r, rfl, c1, c2⟩, d2, y5, some x, c3, rfl⟩)
  obtain ⟨rows, f1, f2, f3⟩ := ys_of e3
  refine ⟨rows, d', y5, ⟨by rw [f2, e2]; simp, f3⟩, e4, ?_⟩
  rw [e5, f1] at e1
  exact e1
theorem colS_bd {fs : List Int} {rows : List (List Int)} {b : Nat} (hf : Bd 1 fs ∨ ∀ f ∈ fs, f.natAbs ≤ 2) (hr : ∀ r ∈ rows, Bd b r) (hl : fs.length ≤ 4) (k : Nat) : (colS fs rows k).natAbs < 2 ^ (b + 3) := by
  have h2 : ∀ f ∈ fs, f.natAbs ≤ 2 := by
    rcases hf with h | h
    · intro f hf'; have := h f hf'; simp at this; omega
    · exact h
  have hs := sum_bd (M := 2 * (2 ^ b - 1)) (ts := (fs.zip rows).map fun p => p.1 * p.2.getD k 0) (by
    intro t ht
    obtain ⟨p, hp, rfl⟩ := List.mem_map.mp ht
    have h1 := List.of_mem_zip hp
    have a1 := h2 _ h1.1
    have a2 : (p.2.getD k 0).natAbs ≤ 2 ^ b - 1 := by
      rw [List.getD_eq_getElem?_getD]
      by_cases hk : k < p.2.length
      · have := hr _ h1.2 _ (List.getElem_mem hk)
        simp only [List.getElem?_eq_getElem hk, Option.getD_some]; omega
      · simp only [List.getElem?_eq_none (by omega : p.2.length ≤ k), Option.getD_none, Int.natAbs_zero]; omega
    rw [Int.natAbs_mul]
    exact Nat.mul_le_mul a1 a2)
  have hn : ((fs.zip rows).map fun p => p.1 * p.2.getD k 0).length ≤ 4 := by simp; omega
  have h3 := Nat.mul_le_mul_right (2 * (2 ^ b - 1)) hn
  have h4 := Nat.two_pow_pos b
  have h5 : 2 ^ (b + 3) = 2 ^ b * 8 := by rw [Nat.pow_add]
  unfold colS
  omega
theorem plc_nat {n i : Nat} (h : i < n) : plc n (i : Int) = some i := by
  unfold plc
  rw [if_pos (by omega), if_pos (by omega)]
  simp
abbrev tBody : List S := [.ifs (.cmp .eq (.call 18 [.io 0, .con (.int 4)]) (.con (.int 0))) [.setix 4 (.var 5) (.call 24 [.slc (.pk 4) (.con .non) (.var 5), .comp [6] (.nm 6) .range [.var 5] [] (.bin .sub (.call 18 [.io 0, .con (.int 5)]) (.con (.int 2))), .var 2])] []]
theorem Tab.mono {h w k l : Nat} {rows : List (List Int)} (t : Tab h w k rows) (hl : k ≤ l) : Tab h w l rows := ⟨t.len, fun r hr => ⟨(t.row r hr).1, (t.row r hr).2.mono hl⟩⟩
theorem tbody_ok (n : Nat) {d : D} {h w b j : Nat} {s : Int} {rows : List (List Int)} {y6 : Option D} (hd : Src d) (ht : Tab h w b rows) (hj : j < h) (hh : h ≤ 5) (hw : w ≤ 5) :
    ∃ d' rows' y6', Src d' ∧ Tab h w (b + 3) rows' ∧ evSs (Ph (n + 1)) g0 tBody [some d, some (.int h), some (.int w), some (.int s), some (.lst (rows.map iT)), some (.int (j : Nat)), y6] = .ok .next [some d', some (.int h), some (.int w), some (.int s), some (.lst (rows'.map iT)), some (.int (j : Nat)), y6'] := by
  have h59 : (2:Nat)^59 = 576460752303423488 := by decide
  obtain ⟨p, d1, a1, a2, a3, a4⟩ := pick_ev n (ρ := [some d, some (.int h), some (.int w), some (.int s), some (.lst (rows.map iT)), some (.int (j : Nat)), y6]) (e := .con (.int 4)) rfl hd V.con_ok (by omega) (by decide) (fun _ => rfl)
  have hc := V.cmp_ok (op := .eq) a4 (V.con_ok (d := .int 0)) (eqD_int p 0)
  by_cases hp : p = 0
  · rw [decide_eq_true hp] at hc
    obtain ⟨ys, ρ', e1, e2, e3, d2, z6, e4, e5⟩ := V.comp_inv (Φ := Ph (n + 1)) (gl := g0) (own := [6]) (tg := .nm 6) (ik := .range) (its := [.var 5]) (elt := .bin .sub (.call 18 [.io 0, .con (.int 5)]) (.con (.int 2))) (ρ := [some d1, some (.int h), some (.int w), some (.int s), some (.lst (rows.map iT)), some (.int (j : Nat)), y6]) (ds := [.int (j : Nat)]) (xs := (List.range j).map fun (k : Nat) => D.int (k : Nat))
      (fun ρ => ∃ d' y6, Src d' ∧ ρ = [some d', some (.int h), some (.int w), some (.int s), some (.lst (rows.map iT)), some (.int (j : Nat)), y6]) (fun y => ∃ i, y = .int i ∧ i.natAbs ≤ 2) (V.Es1 (V.var_ok rfl)) (range_it1 j (by omega)) (fits_ok (by simp; omega)) ⟨d1, y6, a3, rfl⟩
      (by
        rintro x hx ρ ⟨d2, y6, hd, rfl⟩
        refine ⟨_, rfl, ?_⟩
        obtain ⟨q, d3, b1, b2, b3, b4⟩ := pick_ev n (ρ := [some d2, some (.int h), some (.int w), some (.int s), some (.lst (rows.map iT)), some (.int (j : Nat)), some x]) (e := .con (.int 5)) rfl hd V.con_ok (by omega) (by decide) (fun _ => rfl)
        exact ⟨.int (q - 2), _, V.bin_ok b4 V.con_ok rfl, ⟨q - 2, rfl, by omega⟩, d3, some x, b3, rfl⟩)
    obtain ⟨fs, f1, f2, f3⟩ := ys_of e3
    have hlen : fs.length = j := by rw [f2, e2]; simp
    subst f1 e5
    have htk : ∀ r ∈ rows.take j, r ∈ rows := fun r hr => List.mem_of_mem_take hr
    have hsum := lsum_ok n iT (fun r => rfl) (d := .lst ((rows.take j).map iT)) (e := iL fs) (fs := fs) (rows := rows.take j) (w := w) rfl rfl (fun f hf => Nat.lt_of_le_of_lt (f3 f hf) (by decide)) (fun r hr => (ht.row r (htk r hr)).1) (by omega) (by omega)
    refine ⟨d2, rows.set j ((List.range w).map (colS fs (rows.take j))), y6, e4, ⟨by simp [ht.len], fun r hr => ?_⟩, ?_⟩
    · rcases List.mem_or_eq_of_mem_set hr with hr | hr
      · exact ⟨(ht.row r hr).1, (ht.row r hr).2.mono (by omega)⟩
      · subst hr
        refine ⟨by simp, fun x hx => ?_⟩
        obtain ⟨k, hk, rfl⟩ := List.mem_map.mp hx
        exact colS_bd (.inr f3) (fun r hr => (ht.row r (htk r hr)).2) (by omega) k
    · refine V.seq_n (V.ifs_tt hc rfl (V.seq_n (V.setix_ok (y := .lst ((rows.set j ((List.range w).map (colS fs (rows.take j)))).map iT)) rfl (V.call_ok (V.EsC (x := .lst ((rows.take j).map iT)) (ρ1 := [some d1, some (.int h), some (.int w), some (.int s), some (.lst (rows.map iT)), some (.int (j : Nat)), y6]) ?_ (V.Es2 e1 (V.var_ok rfl))) hsum rfl) (V.var_ok rfl) rfl ?_) snil)) snil
      · simp only [evE, optR, gt, R.bind, partR, partD, slcD, Option.bind_some, cut_take, List.map_take, st]
      · simp only [setD]
        rw [plc_nat (by rw [List.length_map, ht.len]; exact hj), List.map_set]
        rfl
  · rw [decide_eq_false hp] at hc
    exact ⟨d1, rows, y6, a3, ht.mono (by omega), V.seq_n (V.ifs_skip hc rfl) snil⟩
theorem table_ok (n : Nat) {d0 : D} {h w : Nat} (hs : Src d0) (hh : h ≤ 5) (hw : w ≤ 5) : ∃ rows d', Tab h w 32 rows ∧ Src d' ∧ Ph (n + 2) 26 [d0, .int h, .int w] = .ok (.lst (rows.map iT)) [d'] := by
  obtain ⟨s, d1, s1, s2, s3, s4⟩ := scale_ev n (ρ := [some d0, some (.int h), some (.int w), none, none, none, none]) rfl hs
  obtain ⟨rows, d2, y5, r1, r2, r3⟩ := rows_ev n (x4 := none) (x5 := none) (x6 := none) (h := h) (w := w) s3 s1 s2 hw hh
  have h59 : (2:Nat)^59 = 576460752303423488 := by decide
  obtain ⟨ρ', l1, d3, rows3, z5, z6, l2, l3, l4⟩ := V.forL_next (tg := asg (.nm 5)) (body := evSs (Ph (n + 1)) g0 tBody)
    ((List.range (h - 1)).map fun (k : Nat) => D.int ((1 + k : Nat) : Nat)) (fun k ρ => ∃ d rows y5 y6, Src d ∧ Tab h w (20 + 3 * k) rows ∧ ρ = [some d, some (.int h), some (.int w), some (.int s), some (.lst (rows.map iT)), y5, y6]) (ρ := [some d2, some (.int h), some (.int w), some (.int s), some (.lst (rows.map iT)), y5, none]) ⟨d2, rows, y5, none, r2, r1, rfl⟩ (by
      rintro k x ρ hx ⟨d, rws, y5, y6, hd, ht, rfl⟩
      have hk : k < h - 1 := by
        rcases Nat.lt_or_ge k (h - 1) with q | q
        · exact q
        · rw [List.getElem?_eq_none (by simpa using q)] at hx; cases hx
      have hx' : x = .int ((1 + k : Nat) : Nat) := by
        rw [List.getElem?_eq_getElem (by simpa using hk)] at hx
        simpa using hx.symm
      subst hx'
      refine ⟨_, rfl, ?_⟩
      obtain ⟨d', rows', y6', c1, c2, c3⟩ := tbody_ok n (s := s) (y6 := y6) (j := 1 + k) hd ht (by omega) hh hw
      exact ⟨_, c3, d', rows', _, y6', c1, c2, rfl⟩)
  subst l4
  have hl : ((List.range (h - 1)).map fun (k : Nat) => D.int ((1 + k : Nat) : Nat)).length = h - 1 := by simp
  rw [hl] at l3
  refine ⟨rows3, d3, l3.mono (by omega), l2, Ph_run (F := fn__law_table) rfl (V.run_ret (ρ := [some d3, some (.int h), some (.int w), some (.int s), some (.lst (rows3.map iT)), z5, z6]) rfl ?_ rfl)⟩
  refine V.seq_n (V.set_ok s4) (V.seq_f (V.seq_n (V.set_ok r3) (V.seq_n ?_ (V.seq_ret (V.ret_ok (V.var_ok rfl))))))
  exact (V.loop_okp (ik := .range) (ds := [.int 1, .int h]) (xs := (List.range (h - 1)).map fun (k : Nat) => D.int ((1 + k : Nat) : Nat)) (V.Es2 V.con_ok (V.var_ok rfl)) (range_it 1 h (by omega) (by omega))).trans l1
end P00
end
section
set_option autoImplicit false
set_option linter.all false
namespace M00
def at0 (r : List Int) (i : Nat) : Int := r.getD i 0
def sumN : Nat → (Nat → Int) → Int
  | 0, _ => 0
  | n + 1, f => sumN n f + f n
theorem sumN_congr {f g : Nat → Int} : ∀ {n : Nat}, (∀ i, i < n → f i = g i) → sumN n f = sumN n g
  | 0, _ => rfl
  | n + 1, h => by
    show sumN n f + f n = sumN n g + g n
    rw [sumN_congr fun i hi => h i (by omega), h n (by omega)]
theorem sumN_zero {f : Nat → Int} : ∀ {n : Nat}, (∀ i, i < n → f i = 0) → sumN n f = 0
  | 0, _ => rfl
  | n + 1, h => by
    show sumN n f + f n = 0
    rw [sumN_zero fun i hi => h i (by omega), h n (by omega)]; rfl
theorem sumN_add (f g : Nat → Int) : ∀ n : Nat, sumN n (fun i => f i + g i) = sumN n f + sumN n g
  | 0 => rfl
  | n + 1 => by
    show sumN n _ + (f n + g n) = (sumN n f + f n) + (sumN n g + g n)
    rw [sumN_add f g n]; omega
theorem sumN_mul (k : Int) (f : Nat → Int) : ∀ n : Nat, sumN n (fun i => k * f i) = k * sumN n f
  | 0 => by simp [sumN]
  | n + 1 => by
    show sumN n _ + k * f n = k * (sumN n f + f n)
    rw [sumN_mul k f n, Int.mul_add]
theorem sumN_one {f : Nat → Int} {p : Nat} : ∀ {n : Nat}, p < n → (∀ i, i < n → i ≠ p → f i = 0) → sumN n f = f p
  | 0, h, _ => by omega
  | n + 1, h, z => by
    show sumN n f + f n = f p
    by_cases e : p = n
    · subst e
      rw [sumN_zero fun i hi => z i (by omega) (by omega)]; omega
    · rw [sumN_one (by omega) fun i hi hn => z i (by omega) hn, z n (by omega) (by omega)]; omega
theorem sumN_two {f : Nat → Int} {p q : Nat} (hpq : p ≠ q) : ∀ {n : Nat}, p < n → q < n → (∀ i, i < n → i ≠ p → i ≠ q → f i = 0) → sumN n f = f p + f q
  | 0, h, _, _ => by omega
  | n + 1, hp, hq, z => by
    show sumN n f + f n = f p + f q
    by_cases e : p = n
    · subst e
      rw [sumN_one (p := q) (by omega) fun i hi hn => z i (by omega) (by omega) hn]; omega
    · by_cases e2 : q = n
      · subst e2
        rw [sumN_one (p := p) (by omega) fun i hi hn => z i (by omega) hn (by omega)]
      · rw [sumN_two hpq (by omega) (by omega) fun i hi h1 h2 => z i (by omega) h1 h2, z n (by omega) (by omega) (by omega)]; omega
def dt (w : Nat) (r : List Int) (x : Nat → Int) : Int := sumN w fun i => at0 r i * x i
def sol (w : Nat) (R : List (List Int)) (x : Nat → Int) : Prop := ∀ r ∈ R, dt w r x = 0
theorem dt_lin {w : Nat} {s r h : List Int} {m a b : Int} (e : ∀ i, i < w → m * at0 s i = a * at0 r i - b * at0 h i) (x : Nat → Int) : m * dt w s x = a * dt w r x - b * dt w h x := by
  unfold dt
  have h1 : sumN w (fun i => m * (at0 s i * x i)) = sumN w (fun i => a * (at0 r i * x i) + (-b) * (at0 h i * x i)) := sumN_congr fun i hi => by
    have := e i hi
    have : m * at0 s i * x i = (a * at0 r i - b * at0 h i) * x i := by rw [this]
    grind
  rw [sumN_mul, sumN_add, sumN_mul, sumN_mul] at h1
  rw [h1]; grind
/-- this column is told by the columns behind it -/
def piv (w : Nat) (R : List (List Int)) (j : Nat) : Prop := ∀ x : Nat → Int, sol w R x → (∀ i, j < i → x i = 0) → x j = 0
abbrev fk (F : List (List Int)) (k : Nat) : List Int := F.getD k []
abbrev pk (P : List Nat) (k : Nat) : Nat := P.getD k 0
structure St (w c : Nat) (R F : List (List Int)) (P : List Nat) (L : List (List Int)) : Prop where
  len : F.length = P.length
  pw : P.Pairwise (· < ·)
  lt : ∀ p ∈ P, p < c
  left : ∀ r ∈ L, ∀ i, i < c → at0 r i = 0
  sol : ∀ x, sol w R x ↔ (sol w F x ∧ sol w L x)
  pos : ∀ k, k < P.length → 0 < at0 (fk F k) (pk P k)
  off : ∀ k j, k < P.length → j < P.length → k ≠ j → at0 (fk F k) (pk P j) = 0
  lo : ∀ k, k < P.length → ∀ i, i < pk P k → at0 (fk F k) i = 0
  pv : ∀ j, j < c → (j ∈ P ↔ piv w R j)
theorem St.init (w : Nat) (R : List (List Int)) : St w 0 R [] [] R where
  len := rfl
  pw := .nil
  lt := fun _ h => by cases h
  left := fun _ _ _ h => by omega
  sol := fun x => ⟨fun h => ⟨(fun _ h => by cases h), h⟩, fun h => h.2⟩
  pos := fun _ h => by simp at h
  off := fun _ _ h => by simp at h
  lo := fun _ h => by simp at h
  pv := fun _ h => by omega
theorem pk_get {P : List Nat} {k : Nat} (h : k < P.length) : pk P k = P[k] := by simp [pk, List.getD_eq_getElem?_getD, h]
theorem fk_get {F : List (List Int)} {k : Nat} (h : k < F.length) : fk F k = F[k] := by simp [fk, List.getD_eq_getElem?_getD, h]
theorem pk_mem {P : List Nat} {k : Nat} (h : k < P.length) : pk P k ∈ P := by rw [pk_get h]; exact List.getElem_mem h
theorem mem_pk {P : List Nat} {p : Nat} (h : p ∈ P) : ∃ k, k < P.length ∧ pk P k = p := by
  obtain ⟨k, hk, e⟩ := List.mem_iff_getElem.mp h
  exact ⟨k, hk, by rw [pk_get hk, e]⟩
theorem mem_fk {F : List (List Int)} {r : List Int} (h : r ∈ F) : ∃ k, k < F.length ∧ fk F k = r := by
  obtain ⟨k, hk, e⟩ := List.mem_iff_getElem.mp h
  exact ⟨k, hk, by rw [fk_get hk, e]⟩
theorem pk_inj {P : List Nat} (pw : P.Pairwise (· < ·)) {k j : Nat} (hk : k < P.length) (hj : j < P.length) (e : pk P k = pk P j) : k = j := by
  rw [pk_get hk, pk_get hj] at e
  rcases Nat.lt_trichotomy k j with h | h | h
  · have := List.pairwise_iff_getElem.mp pw k j hk hj h; omega
  · exact h
  · have := List.pairwise_iff_getElem.mp pw j k hj hk h; omega
/-- a way to all found rows along one free column -/
theorem St.free {w c : Nat} {R F L : List (List Int)} {P : List Nat} (h : St w c R F P L) (hc : c ≤ w) {f : Nat} (hf : f < w) (hfp : f ∉ P) {x : Nat → Int}
    (h1 : ∀ k, k < P.length → x (pk P k) * at0 (fk F k) (pk P k) = - at0 (fk F k) f * x f) (h2 : ∀ i, i < w → i ∉ P → i ≠ f → x i = 0) : M00.sol w F x := by
  intro r hr
  obtain ⟨k, hk, e⟩ := mem_fk hr
  subst e
  rw [h.len] at hk
  have hp := h.lt _ (pk_mem hk)
  have hne : pk P k ≠ f := fun e => hfp (e ▸ pk_mem hk)
  unfold dt
  rw [sumN_two (p := pk P k) (q := f) hne (by omega) hf fun i hi a b => ?_]
  · have := h1 k hk
    grind
  · by_cases hm : i ∈ P
    · obtain ⟨j, hj, e⟩ := mem_pk hm
      have hkj : k ≠ j := fun z => a (by rw [← e, z])
      have := h.off k j hk hj hkj
      rw [e] at this
      rw [this, Int.zero_mul]
    · rw [h2 i hi hm b, Int.mul_zero]
theorem common (ds : List Int) (h : ∀ d ∈ ds, d ≠ 0) : ∃ u : Int, u ≠ 0 ∧ ∀ d ∈ ds, d ∣ u := by
  induction ds with
  | nil => exact ⟨1, by omega, fun _ h => by cases h⟩
  | cons d ds ih =>
    obtain ⟨u, h1, h2⟩ := ih fun x hx => h x (by simp [hx])
    refine ⟨d * u, Int.mul_ne_zero (h d (by simp)) h1, fun e he => ?_⟩
    rcases List.mem_cons.mp he with r | r
    · rw [r]; exact Int.dvd_mul_right d u
    · exact Int.dvd_trans (h2 e r) (Int.dvd_mul_left d u)
theorem idx_pk {P : List Nat} (pw : P.Pairwise (· < ·)) {k : Nat} (hk : k < P.length) : P.idxOf (pk P k) = k := by
  have hm := pk_mem hk
  have h1 := List.idxOf_lt_length_iff.mpr hm
  have h2 : P[P.idxOf (pk P k)] = pk P k := List.getElem_idxOf h1
  exact pk_inj pw h1 hk (by rw [pk_get h1, h2])
theorem St.none {w c : Nat} {R F L : List (List Int)} {P : List Nat} (h : St w c R F P L) (hc : c < w) (hz : ∀ r ∈ L, at0 r c = 0) : St w (c + 1) R F P L where
  len := h.len
  pw := h.pw
  lt := fun p hp => by have := h.lt p hp; omega
  left := fun r hr i hi => by
    by_cases e : i = c
    · rw [e]; exact hz r hr
    · exact h.left r hr i (by omega)
  sol := h.sol
  pos := h.pos
  off := h.off
  lo := h.lo
  pv := fun j hj => by
    by_cases e : j < c
    · exact h.pv j e
    · have e : j = c := by omega
      subst e
      have hn : j ∉ P := fun z => by have := h.lt _ z; omega
      refine ⟨fun z => absurd z hn, fun z => ?_⟩
      obtain ⟨u, h1, h2⟩ := common ((List.range P.length).map fun k => at0 (fk F k) (pk P k)) (by
        intro d hd
        obtain ⟨k, hk, rfl⟩ := List.mem_map.mp hd
        have := h.pos k (by simpa using hk)
        omega)
      let x : Nat → Int := fun i => if i = j then u else if i ∈ P then (- at0 (fk F (P.idxOf i)) j * u) / at0 (fk F (P.idxOf i)) i else 0
      have xj : x j = u := by simp [x]
      have hx : M00.sol w F x := by
        refine h.free (by omega) (f := j) hc hn (fun k hk => ?_) fun i hi a b => ?_
        · have hm := pk_mem hk
          have hne : pk P k ≠ j := fun e => hn (e ▸ hm)
          have ex : x (pk P k) = (- at0 (fk F k) j * u) / at0 (fk F k) (pk P k) := by
            show (if pk P k = j then u else if pk P k ∈ P then _ else 0) = _
            rw [if_neg hne, if_pos hm, idx_pk h.pw hk]
          rw [ex, xj]
          have hd := h2 (at0 (fk F k) (pk P k)) (List.mem_map.mpr ⟨k, by simpa using hk, rfl⟩)
          exact Int.ediv_mul_cancel (Int.dvd_trans hd (Int.dvd_mul_left _ u))
        · show (if i = j then u else if i ∈ P then _ else 0) = 0
          rw [if_neg b, if_neg a]
      have hl : M00.sol w L x := by
        intro r hr
        refine sumN_zero fun i hi => ?_
        rcases Nat.lt_trichotomy i j with q | q | q
        · rw [h.left r hr i q, Int.zero_mul]
        · rw [q, hz r hr, Int.zero_mul]
        · have : x i = 0 := by
            show (if i = j then u else if i ∈ P then _ else 0) = 0
            rw [if_neg (by omega), if_neg fun m => by have := h.lt _ m; omega]
          rw [this, Int.mul_zero]
      have := z x ((h.sol x).mpr ⟨hx, hl⟩) (fun i hi => by
        show (if i = j then u else if i ∈ P then _ else 0) = 0
        rw [if_neg (by omega), if_neg fun m => by have := h.lt _ m; omega])
      rw [xj] at this
      exact absurd this h1
/-- s is r, times a number, less a share of h; nothing is left at c -/
def El (w c : Nat) (h r s : List Int) : Prop := ∃ m a b : Int, m ≠ 0 ∧ a ≠ 0 ∧ (∀ i, i < w → m * at0 s i = a * at0 r i - b * at0 h i) ∧ at0 s c = 0
def Ep (w c : Nat) (h r s : List Int) : Prop := ∃ m a b : Int, 0 < m ∧ 0 < a ∧ (∀ i, i < w → m * at0 s i = a * at0 r i - b * at0 h i) ∧ at0 s c = 0
theorem Ep.el {w c : Nat} {h r s : List Int} (e : Ep w c h r s) : El w c h r s := by
  obtain ⟨m, a, b, h1, h2, h3, h4⟩ := e
  exact ⟨m, a, b, by omega, by omega, h3, h4⟩
theorem El.zero {w c : Nat} {h r s : List Int} (e : El w c h r s) {i : Nat} (hi : i < w) (h1 : at0 h i = 0) (h2 : at0 r i = 0) : at0 s i = 0 := by
  obtain ⟨m, a, b, e1, e2, e3, e4⟩ := e
  have := e3 i hi
  rw [h1, h2] at this
  have : m * at0 s i = 0 := by omega
  exact (Int.mul_eq_zero.mp this).resolve_left e1
theorem El.dt {w c : Nat} {h r s : List Int} (e : El w c h r s) {x : Nat → Int} (h0 : dt w h x = 0) : dt w s x = 0 ↔ dt w r x = 0 := by
  obtain ⟨m, a, b, e1, e2, e3, e4⟩ := e
  have := dt_lin e3 x
  rw [h0] at this
  constructor
  · intro z
    rw [z] at this
    have : a * M00.dt w r x = 0 := by omega
    exact (Int.mul_eq_zero.mp this).resolve_left e2
  · intro z
    rw [z] at this
    have : m * M00.dt w s x = 0 := by omega
    exact (Int.mul_eq_zero.mp this).resolve_left e1
theorem getD_app_l {α : Type} {d : α} {xs ys : List α} {k : Nat} (h : k < xs.length) : (xs ++ ys).getD k d = xs.getD k d := by
  simp [List.getD_eq_getElem?_getD, List.getElem?_append_left h]
theorem getD_app_r {α : Type} {d y : α} {xs : List α} : (xs ++ [y]).getD xs.length d = y := by
  simp [List.getD_eq_getElem?_getD]
theorem St.some {w c : Nat} {R F L : List (List Int)} {P : List Nat} (h : St w c R F P L) (hc : c < w) {hd hd' : List Int} {L1 L2 F2 : List (List Int)} (hm : ∀ r, r ∈ L ↔ r = hd ∨ r ∈ L1) (hne : at0 hd c ≠ 0)
    (h' : ∃ m : Int, m ≠ 0 ∧ ∀ i, i < w → m * at0 hd' i = at0 hd i) (hp : 0 < at0 hd' c) (fl : F2.length = F.length) (hF : ∀ k, k < F.length → Ep w c hd' (fk F k) (fk F2 k))
    (hL : ∀ s ∈ L2, ∃ r ∈ L1, El w c hd' r s) (hL' : ∀ r ∈ L1, ∃ s ∈ L2, El w c hd' r s) : St w (c + 1) R (F2 ++ [hd']) (P ++ [c]) L2 := by
  have hdz : ∀ i, i < c → at0 hd i = 0 := h.left hd ((hm hd).mpr (.inl rfl))
  obtain ⟨m, m1, m2⟩ := h'
  have hdz' : ∀ i, i < c → at0 hd' i = 0 := fun i hi => by
    have := m2 i (by omega)
    rw [hdz i hi] at this
    exact (Int.mul_eq_zero.mp this).resolve_left m1
  have hdt : ∀ x, dt w hd' x = 0 ↔ dt w hd x = 0 := fun x => by
    have e : m * dt w hd' x = dt w hd x := by
      have := dt_lin (w := w) (s := hd') (r := hd) (h := hd) (m := m) (a := 1) (b := 0) (fun i hi => by rw [m2 i hi]; omega) x
      omega
    rw [← e]
    constructor
    · intro z; rw [z]; omega
    · intro z; exact (Int.mul_eq_zero.mp z).resolve_left m1
  have hlen : F2.length = P.length := by rw [fl, h.len]
  have hkl : ∀ k, k < (P ++ [c]).length → k < P.length ∨ k = P.length := fun k hk => by simp at hk; omega
  have pl : ∀ k, k < P.length → pk (P ++ [c]) k = pk P k := fun k hk => getD_app_l hk
  have pr : pk (P ++ [c]) P.length = c := getD_app_r
  have fl' : ∀ k, k < P.length → fk (F2 ++ [hd']) k = fk F2 k := fun k hk => getD_app_l (by omega)
  have fr : fk (F2 ++ [hd']) P.length = hd' := by rw [← hlen]; exact getD_app_r
  have plt : ∀ k, k < P.length → pk P k < c := fun k hk => h.lt _ (pk_mem hk)
  refine ⟨by simp [hlen], ?_, ?_, ?_, ?_, ?_, ?_, ?_, ?_⟩
  · rw [List.pairwise_append]
    refine ⟨h.pw, List.pairwise_singleton _ _, fun a ha b hb => ?_⟩
    rw [List.mem_singleton.mp hb]
    exact h.lt a ha
  · intro p hp
    rcases List.mem_append.mp hp with q | q
    · have := h.lt p q; omega
    · rw [List.mem_singleton.mp q]; omega
  · intro s hs i hi
    obtain ⟨r, hr, e⟩ := hL s hs
    by_cases q : i = c
    · rw [q]
      obtain ⟨_, _, _, _, _, _, e4⟩ := e
      exact e4
    · exact e.zero (by omega) (hdz' i (by omega)) (h.left r ((hm r).mpr (.inr hr)) i (by omega))
  · intro x
    rw [h.sol x]
    constructor
    · rintro ⟨a, b⟩
      have hx : dt w hd x = 0 := b hd ((hm hd).mpr (.inl rfl))
      have hx' := (hdt x).mpr hx
      constructor
      · intro r hr
        rcases List.mem_append.mp hr with q | q
        · obtain ⟨k, hk, e⟩ := mem_fk q
          subst e
          have hk' : k < F.length := by omega
          exact ((hF k hk').el.dt hx').mpr (a _ (by rw [fk_get hk']; exact List.getElem_mem hk'))
        · rw [List.mem_singleton.mp q]; exact hx'
      · intro s hs
        obtain ⟨r, hr, e⟩ := hL s hs
        exact (e.dt hx').mpr (b r ((hm r).mpr (.inr hr)))
    · rintro ⟨a, b⟩
      have hx' : dt w hd' x = 0 := a hd' (by simp)
      constructor
      · intro r hr
        obtain ⟨k, hk, e⟩ := mem_fk hr
        subst e
        refine ((hF k hk).el.dt hx').mp (a _ (List.mem_append.mpr (.inl ?_)))
        rw [fk_get (by omega)]
        exact List.getElem_mem _
      · intro r hr
        rcases (hm r).mp hr with q | q
        · rw [q]; exact (hdt x).mp hx'
        · obtain ⟨s, hs, e⟩ := hL' r q
          exact (e.dt hx').mp (b s hs)
  · intro k hk
    rcases hkl k hk with q | q
    · rw [pl k q, fl' k q]
      obtain ⟨m, a, b, e1, e2, e3, e4⟩ := hF k (by rw [h.len]; exact q)
      have h1 := e3 (pk P k) (by have := plt k q; omega)
      rw [hdz' _ (plt k q)] at h1
      have h2 := h.pos k q
      have h3 : 0 < a * at0 (fk F k) (pk P k) := Int.mul_pos e2 h2
      have h4 : 0 < m * at0 (fk F2 k) (pk P k) := by omega
      rcases Int.lt_or_le 0 (at0 (fk F2 k) (pk P k)) with z | z
      · exact z
      · have := Int.mul_le_mul_of_nonneg_left z (Int.le_of_lt e1)
        omega
    · rw [q, pr, fr]; exact hp
  · intro k j hk hj hkj
    rcases hkl k hk with q | q <;> rcases hkl j hj with z | z
    · rw [pl j z, fl' k q]
      exact (hF k (by rw [h.len]; exact q)).el.zero (by have := plt j z; omega) (hdz' _ (plt j z)) (h.off k j q z hkj)
    · rw [z, pr, fl' k q]
      obtain ⟨_, _, _, _, _, _, e4⟩ := hF k (by rw [h.len]; exact q)
      exact e4
    · rw [q, fr, pl j z]
      exact hdz' _ (plt j z)
    · omega
  · intro k hk i hi
    rcases hkl k hk with q | q
    · rw [pl k q] at hi
      rw [fl' k q]
      have := plt k q
      exact (hF k (by rw [h.len]; exact q)).el.zero (by omega) (hdz' _ (by omega)) (h.lo k q i hi)
    · rw [q, pr] at hi
      rw [q, fr]
      exact hdz' i hi
  · intro j hj
    rw [List.mem_append, List.mem_singleton]
    by_cases q : j < c
    · rw [← h.pv j q]
      exact ⟨fun z => z.resolve_right (by omega), .inl⟩
    · have e : j = c := by omega
      subst e
      refine ⟨fun _ x hx hi => ?_, fun _ => .inr rfl⟩
      have := ((h.sol x).mp hx).2 hd ((hm hd).mpr (.inl rfl))
      unfold dt at this
      rw [sumN_one (p := j) hc fun i hi' hn => ?_] at this
      · exact (Int.mul_eq_zero.mp this).resolve_left hne
      · rcases Nat.lt_or_gt_of_ne hn with z | z
        · rw [hdz i z, Int.zero_mul]
        · rw [hi i z, Int.mul_zero]
/-- at the end -/
theorem St.fin {w : Nat} {R F L : List (List Int)} {P : List Nat} (h : St w w R F P L) (x : Nat → Int) : M00.sol w R x ↔ M00.sol w F x := by
  rw [h.sol x]
  refine ⟨fun a => a.1, fun a => ⟨a, fun r hr => sumN_zero fun i hi => ?_⟩⟩
  rw [h.left r hr i hi, Int.zero_mul]
theorem asc_ext {P Q : List Nat} (hp : P.Pairwise (· < ·)) (hq : Q.Pairwise (· < ·)) (h : ∀ j, j ∈ P ↔ j ∈ Q) : P = Q := by
  have np : P.Nodup := hp.imp fun h => by omega
  have nq : Q.Nodup := hq.imp fun h => by omega
  have pm : P.Perm Q := (List.perm_ext_iff_of_nodup np nq).mpr h
  exact pm.eq_of_pairwise (fun a b _ _ h1 h2 => by omega) hp hq
theorem St.same {w : Nat} {R F L R' F' L' : List (List Int)} {P P' : List Nat} (h : St w w R F P L) (h' : St w w R' F' P' L') (e : ∀ x, M00.sol w R x ↔ M00.sol w R' x) : P = P' := by
  refine asc_ext h.pw h'.pw fun j => ?_
  have e2 : piv w R j ↔ piv w R' j := ⟨fun z x hx => z x ((e x).mpr hx), fun z x hx => z x ((e x).mp hx)⟩
  constructor
  · intro hj
    have := h.lt j hj
    exact (h'.pv j this).mpr (e2.mp ((h.pv j this).mp hj))
  · intro hj
    have := h'.lt j hj
    exact (h.pv j this).mpr (e2.mpr ((h'.pv j this).mp hj))
/-- a wider table: the columns ahead have the same pivots -/
theorem St.wide {w : Nat} {R F L R' F' L' : List (List Int)} {P P' : List Nat} (h : St w w R F P L) (h' : St (w + 1) (w + 1) R' F' P' L') (e : ∀ x, x w = 0 → (M00.sol w R x ↔ M00.sol (w + 1) R' x)) :
    (w ∉ P' → P' = P) ∧ (w ∈ P' → P' = P ++ [w]) := by
  have e2 : ∀ j, j < w → (j ∈ P ↔ j ∈ P') := fun j hj => by
    rw [h.pv j hj, h'.pv j (by omega)]
    exact ⟨fun z x hx hi => z x ((e x (hi w hj)).mpr hx) hi, fun z x hx hi => z x ((e x (hi w hj)).mp hx) hi⟩
  constructor
  · intro hw
    refine asc_ext h'.pw h.pw fun j => ?_
    constructor
    · intro hj
      have := h'.lt j hj
      have : j ≠ w := fun z => hw (z ▸ hj)
      exact (e2 j (by omega)).mpr hj
    · intro hj
      exact (e2 j (h.lt j hj)).mp hj
  · intro hw
    refine asc_ext h'.pw ?_ fun j => ?_
    · rw [List.pairwise_append]
      exact ⟨h.pw, List.pairwise_singleton _ _, fun a ha b hb => by rw [List.mem_singleton.mp hb]; exact h.lt a ha⟩
    · rw [List.mem_append, List.mem_singleton]
      constructor
      · intro hj
        by_cases z : j = w
        · exact .inr z
        · have := h'.lt j hj
          exact .inl ((e2 j (by omega)).mpr hj)
      · rintro (hj | hj)
        · exact (e2 j (h.lt j hj)).mp hj
        · rw [hj]; exact hw
end M00
end
section
set_option autoImplicit false
set_option linter.all false
set_option maxRecDepth 8000
set_option exponentiation.threshold 10000
namespace P00
open PX M00
theorem at0_get {r : List Int} {i : Nat} (h : i < r.length) : at0 r i = r[i] := by simp [at0, List.getD_eq_getElem?_getD, h]
theorem at0_out {r : List Int} {i : Nat} (h : r.length ≤ i) : at0 r i = 0 := by simp [at0, List.getD_eq_getElem?_getD, h]
theorem at0_bd {r : List Int} {b : Nat} (h : Bd b r) (i : Nat) : (at0 r i).natAbs < 2 ^ b := by
  by_cases q : i < r.length
  · rw [at0_get q]; exact h _ (List.getElem_mem q)
  · rw [at0_out (by omega)]; exact Nat.two_pow_pos b
theorem ix_at0 {d : D} {xs : List Int} (h : Iq d xs) {i : Nat} (hi : i < xs.length) : ixD d (.int (i : Nat)) = some (.int (at0 xs i)) := by
  rw [Sq.ix h, atD_ints hi, at0_get hi]
theorem at0_low (xs : List Int) (i : Nat) : cm xs * at0 (low xs) i = at0 xs i := by
  by_cases q : i < xs.length
  · rw [at0_get q, at0_get (by rw [low_len]; exact q)]
    exact low_get q
  · rw [at0_out (by rw [low_len]; omega), at0_out (by omega), Int.mul_zero]
theorem at0_map {f : Int → Int} (h0 : f 0 = 0) (xs : List Int) (i : Nat) : at0 (xs.map f) i = f (at0 xs i) := by
  by_cases q : i < xs.length
  · rw [at0_get q, at0_get (by simpa using q), List.getElem_map]
  · rw [at0_out (by simpa using q), at0_out (by omega), h0]
theorem at0_zip {f : Int × Int → Int} {xs ys : List Int} {i : Nat} (h1 : i < xs.length) (h2 : i < ys.length) : at0 ((xs.zip ys).map f) i = f (at0 xs i, at0 ys i) := by
  rw [at0_get h1, at0_get h2, at0_get (by simp; omega), List.getElem_map, List.getElem_zip]
def cross (row head : List Int) (c : Nat) : List Int := (row.zip head).map fun p => p.1 * at0 head c - at0 row c * p.2
def wo (head : List Int) (c : Nat) (row : List Int) : List Int := if at0 row c = 0 then row else low (cross row head c)
theorem sub_lt {x y : Int} {k : Nat} (hx : x.natAbs < 2 ^ k) (hy : y.natAbs < 2 ^ k) : (x - y).natAbs < 2 ^ (k + 1) := by
  rw [Nat.pow_succ]; omega
theorem cross_len {row head : List Int} {c w : Nat} (h1 : row.length = w) (h2 : head.length = w) : (cross row head c).length = w := by simp [cross, h1, h2]
theorem cross_bd {row head : List Int} {c b : Nat} (h1 : Bd b row) (h2 : Bd b head) : Bd (2 * b + 1) (cross row head c) := by
  intro x hx
  obtain ⟨p, hp, rfl⟩ := List.mem_map.mp hx
  have hm := List.of_mem_zip hp
  have a := natAbs_mul_lt (h1 _ hm.1) (at0_bd h2 c)
  have b' := natAbs_mul_lt (at0_bd h1 c) (h2 _ hm.2)
  have := sub_lt a b'
  have e : b + b + 1 = 2 * b + 1 := by omega
  rw [← e]; exact this
theorem wo_len {row head : List Int} {c w : Nat} (h1 : row.length = w) (h2 : head.length = w) : (wo head c row).length = w := by
  unfold wo; split
  · exact h1
  · rw [low_len, cross_len h1 h2]
theorem wo_bd {row head : List Int} {c b : Nat} (h1 : Bd b row) (h2 : Bd b head) : Bd (2 * b + 1) (wo head c row) := by
  unfold wo; split
  · exact h1.mono (by omega)
  · exact low_bd (cross_bd h1 h2)
theorem wo_ep {row head : List Int} {c w : Nat} (h1 : row.length = w) (h2 : head.length = w) (hc : c < w) (hp : 0 < at0 head c) : Ep w c head row (wo head c row) := by
  unfold wo; split
  · exact ⟨1, 1, 0, by omega, by omega, fun i _ => by omega, by assumption⟩
  · have hx : ∀ i, i < w → cm (cross row head c) * at0 (low (cross row head c)) i = at0 head c * at0 row i - at0 row c * at0 head i := fun i hi => by
      rw [at0_low, cross, at0_zip (by omega) (by omega), Int.mul_comm (at0 row i)]
    refine ⟨cm (cross row head c), at0 head c, at0 row c, cm_pos _, hp, hx, ?_⟩
    have := hx c hc
    rw [Int.mul_comm (at0 row c), Int.sub_self] at this
    exact (Int.mul_eq_zero.mp this).resolve_left (by have := cm_pos (cross row head c); omega)
theorem gcdL_ne {xs : List Int} {i : Nat} (h : at0 xs i ≠ 0) : gcdL xs ≠ 0 := fun z => by
  by_cases q : i < xs.length
  · rw [at0_get q] at h
    exact h (gcdL_zero.mp z _ (List.getElem_mem q))
  · exact h (at0_out (by omega))
theorem wo_gcd {row head : List Int} {c : Nat} (hg : gcdL row = 1) {i : Nat} (h : at0 (wo head c row) i ≠ 0) : gcdL (wo head c row) = 1 := by
  unfold wo at h ⊢
  split
  · exact hg
  · rename_i z
    rw [if_neg z] at h
    refine low_gcd (gcdL_ne (i := i) fun e => h ?_)
    have := at0_low (cross row head c) i
    rw [e] at this
    exact (Int.mul_eq_zero.mp this).resolve_left (by have := cm_pos (cross row head c); omega)
theorem without_ok (n : Nat) {d e : D} {row head : List Int} {c w b : Nat} (hd : Iq d row) (he : Iq e head) (h1 : row.length = w) (h2 : head.length = w) (hc : c < w) (hw : w ≤ 16777216) (b1 : Bd b row) (b2 : Bd b head) (hb : 2 * b + 1 ≤ 9000) :
    Ph (n + 4) 12 [d, e, .int c] = .ok (iL (wo head c row)) [] := by
  have i1 := ix_at0 hd (i := c) (by omega)
  have i2 := ix_at0 he (i := c) (by omega)
  by_cases z : at0 row c = 0
  · refine Ph_run (F := fn__without) rfl (V.run_ret (ρ := [some d, some e, some (.int c), none, none, none]) rfl (V.seq_ret (V.ifs_tt (x := .bl true) (V.cmp_ok (V.ix_ok (V.var_ok rfl) (V.var_ok rfl) i1) V.con_ok (by simp [cmpD, eqD_int, z])) rfl (V.seq_ret (V.ret_ok (V.bi1 (V.var_ok rfl) (hd.listOf.trans ?_)))))) rfl)
    unfold wo
    rw [if_pos z]
  · have hx : evE (Ph (n + 3)) g0 (.comp [4, 5] (.tp [.nm 4, .nm 5]) .zip [.var 0, .var 1] [] (.bin .sub (.bin .mul (.var 4) (.ix (.var 1) (.var 2))) (.bin .mul (.ix (.var 0) (.var 2)) (.var 5)))) [some d, some e, some (.int c), none, none, none] = .ok (iL (cross row head c)) [some d, some e, some (.int c), none, none, none] := by
      refine (V.comp_mapp (α := Int × Int) (ik := .zip) (ds := [d, e]) (fun p => D.tup [.int p.1, .int p.2]) (fun p => D.int (p.1 * at0 head c - at0 row c * p.2)) (row.zip head) (V.Es2 (V.var_ok rfl) (V.var_ok rfl)) (it_zip hd he) (fits_ok (by simp; omega)) ?_).trans ?_
      · intro p hp
        have hm := List.of_mem_zip hp
        exact ⟨_, rfl, V.bin_ok (V.bin_ok (V.var_ok rfl) (V.ix_ok (V.var_ok rfl) (V.var_ok rfl) i2) (b_mul (mulOk_of (b1 _ hm.1) (at0_bd b2 c) (by omega) (by omega)))) (V.bin_ok (V.ix_ok (V.var_ok rfl) (V.var_ok rfl) i1) (V.var_ok rfl) (b_mul (mulOk_of (at0_bd b1 c) (b2 _ hm.2) (by omega) (by omega)))) rfl, rfl⟩
      · simp [cross, iL, List.map_map, Function.comp_def]
    have hl := lowest_ok n (d := iL (cross row head c)) rfl ((cross_bd b1 b2).mono hb) (by rw [cross_len h1 h2]; exact hw)
    refine Ph_run (F := fn__without) rfl (V.run_ret (ρ := [some d, some e, some (.int c), some (iL (cross row head c)), none, none]) rfl (V.seq_n (V.ifs_skip (x := .bl false) (V.cmp_ok (V.ix_ok (V.var_ok rfl) (V.var_ok rfl) i1) V.con_ok (by simp [cmpD, eqD_int, z])) rfl) (V.seq_n (V.set_ok hx) (V.seq_f (V.seq_ret (V.ret_ok (V.bi1 (V.call_ok (V.Es1 (V.var_ok rfl)) hl rfl) ?_)))))) rfl)
    unfold wo
    rw [if_neg z]
    rfl
end P00
end
section
set_option autoImplicit false
set_option linter.all false
set_option maxRecDepth 8000
set_option exponentiation.threshold 10000
namespace P00
open PX M00
theorem map_eraseIdx {α β : Type} (f : α → β) : ∀ (xs : List α) (i : Nat), (xs.map f).eraseIdx i = (xs.eraseIdx i).map f
  | [], _ => rfl
  | _ :: _, 0 => rfl
  | x :: xs, i + 1 => by simp [map_eraseIdx f xs i]
theorem mem_erase {α : Type} {xs : List α} {a : Nat} (h : a < xs.length) (r : α) : r ∈ xs ↔ r = xs[a] ∨ r ∈ xs.eraseIdx a := by
  rw [List.mem_eraseIdx_iff_getElem?]
  constructor
  · intro hr
    obtain ⟨i, hi, e⟩ := List.mem_iff_getElem.mp hr
    by_cases q : i = a
    · subst q; exact .inl e.symm
    · exact .inr ⟨i, q, by rw [List.getElem?_eq_getElem hi, e]⟩
  · rintro (e | ⟨i, _, e⟩)
    · rw [e]; exact List.getElem_mem h
    · exact List.mem_of_getElem? e
def bb (B k : Nat) : Nat := (B + 1) * 2 ^ k - 1
theorem bb_succ (B k : Nat) : 2 * bb B k + 1 = bb B (k + 1) := by
  unfold bb
  have h1 : 1 ≤ (B + 1) * 2 ^ k := Nat.mul_pos (by omega) (Nat.two_pow_pos k)
  rw [Nat.pow_succ, ← Nat.mul_assoc]; omega
theorem bb_le {B k l : Nat} (h : k ≤ l) : bb B k ≤ bb B l := by
  unfold bb
  have := Nat.mul_le_mul_left (B + 1) (pow_le2 h)
  omega
/-- the rows' heads: sign and common number -/
def up (c : Nat) (hd : List Int) : List Int := low (if at0 hd c < 0 then hd.map (- ·) else hd)
theorem up_props {c w b : Nat} {hd : List Int} (hl : hd.length = w) (hb : Bd b hd) (hne : at0 hd c ≠ 0) :
    (up c hd).length = w ∧ Bd b (up c hd) ∧ gcdL (up c hd) = 1 ∧ 0 < at0 (up c hd) c ∧ ∃ m : Int, m ≠ 0 ∧ ∀ i, i < w → m * at0 (up c hd) i = at0 hd i := by
  have hneg : ∀ i, at0 (hd.map (- ·)) i = - at0 hd i := fun i => at0_map (f := (- ·)) (by simp) hd i
  unfold up
  by_cases z : at0 hd c < 0
  · rw [if_pos z]
    have hp := cm_pos (hd.map (- ·))
    have h0 : at0 (hd.map (- ·)) c ≠ 0 := by rw [hneg]; omega
    refine ⟨by rw [low_len]; simpa using hl, low_bd ?_, low_gcd (gcdL_ne h0), ?_, - cm (hd.map (- ·)), by omega, fun i _ => ?_⟩
    · intro x hx
      obtain ⟨y, hy, rfl⟩ := List.mem_map.mp hx
      rw [Int.natAbs_neg]; exact hb y hy
    · have := at0_low (hd.map (- ·)) c
      rw [hneg] at this
      rcases Int.lt_or_le 0 (at0 (low (hd.map (- ·))) c) with q | q
      · exact q
      · have := Int.mul_le_mul_of_nonneg_left q (Int.le_of_lt hp)
        omega
    · have := at0_low (hd.map (- ·)) i
      rw [hneg] at this
      rw [Int.neg_mul]; omega
  · rw [if_neg z]
    have hp := cm_pos hd
    refine ⟨by rw [low_len]; exact hl, low_bd hb, low_gcd (gcdL_ne hne), ?_, cm hd, by omega, fun i _ => at0_low hd i⟩
    have := at0_low hd c
    rcases Int.lt_or_le 0 (at0 (low hd) c) with q | q
    · exact q
    · have := Int.mul_le_mul_of_nonneg_left q (Int.le_of_lt hp)
      omega
/-- stairs on the way, by sizes too -/
structure Sg (w c h B : Nat) (R F : List (List Int)) (P : List Nat) (L : List (List Int)) : Prop where
  st : St w c R F P L
  cnt : P.length + L.length = h
  fs : ∀ r ∈ F, r.length = w ∧ Bd (bb B P.length) r ∧ gcdL r = 1
  ls : ∀ r ∈ L, r.length = w ∧ Bd (bb B P.length) r
theorem Sg.step {w c h B : Nat} {R F L : List (List Int)} {P : List Nat} (s : Sg w c h B R F P L) (hc : c < w) {a : Nat} (ha : a < L.length) (hne : at0 L[a] c ≠ 0) :
    Sg w (c + 1) h B R (F.map (wo (up c L[a]) c) ++ [up c L[a]]) (P ++ [c]) ((L.eraseIdx a).map (wo (up c L[a]) c)) := by
  have hm := s.ls _ (List.getElem_mem ha)
  obtain ⟨u1, u2, u3, u4, u5⟩ := up_props hm.1 hm.2 hne
  have he : ∀ r ∈ L.eraseIdx a, r ∈ L := fun r hr => List.mem_of_mem_eraseIdx hr
  have hst : St w (c + 1) R (F.map (wo (up c L[a]) c) ++ [up c L[a]]) (P ++ [c]) ((L.eraseIdx a).map (wo (up c L[a]) c)) := by
    refine s.st.some hc (mem_erase ha) hne u5 u4 (by simp) (fun k hk => ?_) (fun x hx => ?_) (fun r hr => ?_)
    · have hk' : k < (F.map (wo (up c L[a]) c)).length := by simpa using hk
      rw [fk_get hk, fk_get hk', List.getElem_map]
      exact wo_ep (s.fs _ (List.getElem_mem hk)).1 u1 hc u4
    · obtain ⟨r, hr, rfl⟩ := List.mem_map.mp hx
      exact ⟨r, hr, (wo_ep (s.ls _ (he r hr)).1 u1 hc u4).el⟩
    · exact ⟨_, List.mem_map.mpr ⟨r, hr, rfl⟩, (wo_ep (s.ls _ (he r hr)).1 u1 hc u4).el⟩
  have hbb : 2 * bb B P.length + 1 = bb B (P ++ [c]).length := by rw [bb_succ]; simp
  have hmo : bb B P.length ≤ bb B (P ++ [c]).length := bb_le (by simp)
  refine ⟨hst, ?_, fun r hr => ?_, fun r hr => ?_⟩
  · have := s.cnt
    rw [List.length_append, List.length_map, List.length_eraseIdx_of_lt ha]
    simp only [List.length_singleton]; omega
  · rcases List.mem_append.mp hr with q | q
    · obtain ⟨k, hk, e⟩ := mem_fk q
      have hk' : k < F.length := by simpa using hk
      have hkP : k < P.length := by rw [← s.st.len]; exact hk'
      have hf := s.fs _ (List.getElem_mem hk')
      have er : r = wo (up c L[a]) c F[k] := by rw [← e, fk_get hk, List.getElem_map]
      have hpos := hst.pos k (by simp; omega)
      have e1 : fk (F.map (wo (up c L[a]) c) ++ [up c L[a]]) k = fk (F.map (wo (up c L[a]) c)) k := getD_app_l hk
      rw [e1, e, er] at hpos
      rw [er]
      refine ⟨wo_len hf.1 u1, ?_, wo_gcd hf.2.2 (i := pk (P ++ [c]) k) (by omega)⟩
      rw [← hbb]
      exact wo_bd hf.2.1 u2
    · rw [List.mem_singleton.mp q]
      exact ⟨u1, u2.mono hmo, u3⟩
  · obtain ⟨x, hx, rfl⟩ := List.mem_map.mp hr
    have hl := s.ls _ (he x hx)
    refine ⟨wo_len hl.1 u1, ?_⟩
    rw [← hbb]
    exact wo_bd hl.2 u2
theorem enum_eq {q : List Int → D} : ∀ (L : List (List Int)) (k : Nat), enumD k (L.map q) = (List.range L.length).map fun i => D.tup [.int ((k + i : Nat)), q (fk L i)]
  | [], k => rfl
  | x :: L, k => by
    rw [List.map_cons, enumD, enum_eq L (k + 1), List.length_cons, List.range_succ_eq_map, List.map_cons, List.map_map]
    congr 1
    refine List.map_congr_left fun i _ => ?_
    simp only [Function.comp]
    have : k + 1 + i = k + (i + 1) := by omega
    rw [this]
    simp [fk]
abbrev iN (P : List Nat) : List D := P.map fun (p : Nat) => D.int p
abbrev sBody : List S := [.set 6 (.comp [9, 7] (.tp [.nm 9, .nm 7]) .enum [.pk 2] [.cmp .ne (.ix (.var 7) (.var 5)) (.con (.int 0))] (.var 9)), .frz 6, .ifs (.var 6) [.set 8 (.pop 2 [.ix (.var 6) (.con (.int 0))]), .frz 8, .ifs (.cmp .lt (.ix (.var 8) (.var 5)) (.con (.int 0))) [.set 8 (.comp [10] (.nm 10) .seq [.var 8] [] (.neg (.var 10))), .frz 8] [], .set 8 (.bi .listOf [.call 2 [.var 8]]), .frz 8, .set 2 (.comp [7] (.nm 7) .seq [.pk 2] [] (.call 12 [.var 7, .var 8, .var 5])), .set 3 (.bin .add (.comp [7] (.nm 7) .seq [.var 3] [] (.call 12 [.var 7, .var 8, .var 5])) (.lst [.var 8])), .frz 3, .app 4 (.var 5)] []]
theorem pop_ev (Φ : Fns) {ρ : Env} {L : List (List Int)} {a : Nat} (ha : a < L.length) {e : E} (h0 : gt ρ 2 = some (.lst (L.map iL))) (he : evE Φ g0 e ρ = .ok (.int (a : Nat)) ρ) :
    evE Φ g0 (.pop 2 [e]) ρ = .ok (iL L[a]) (st ρ 2 (some (.lst ((L.eraseIdx a).map iL)))) := by
  have hp : popD (.lst (L.map iL)) [.int (a : Nat)] = some (iL L[a], .lst ((L.eraseIdx a).map iL)) := by
    simp only [popD]
    rw [plc_nat (by simpa using ha)]
    simp only [Option.bind_some, List.getElem?_map, List.getElem?_eq_getElem ha, Option.map_some, map_eraseIdx]
  simp only [evE, evEs, lstAt, h0, he, R.bind, hp, optR]
theorem wos_ev (Φ : Fns) {ρ : Env} {its : E} {d : D} {L : List (List Int)} {hd : List Int} {c : Nat} (hi : evE Φ g0 its ρ = .ok (.lst (L.map iL)) ρ)
    (hf : ∀ r ∈ L, Φ 12 [iL r, iL hd, .int c] = .ok (iL (wo hd c r)) []) (hl : L.length ≤ 16777216) (h8 : gt ρ 8 = some (iL hd)) (h5 : gt ρ 5 = some (.int c)) (hr : 8 < ρ.length) :
    evE Φ g0 (.comp [7] (.nm 7) .seq [its] [] (.call 12 [.var 7, .var 8, .var 5])) ρ = .ok (.lst ((L.map (wo hd c)).map iL)) ρ := by
  refine (V.comp_mapp (α := List Int) (ik := .seq) (ds := [.lst (L.map iL)]) iL (fun r => iL (wo hd c r)) L (V.Es1 hi) rfl (fits_ok hl) fun r hm => ⟨st (wipe [7] ρ) 7 (some (iL r)), rfl, ?_, ?_⟩).trans ?_
  · have e7 : gt (st (wipe [7] ρ) 7 (some (iL r))) 7 = some (iL r) := V.gt_st_eq (by rw [V.wipe_len]; omega)
    have e8 : gt (st (wipe [7] ρ) 7 (some (iL r))) 8 = some (iL hd) := by
      rw [V.gt_st_ne (by omega), V.gt_wipe_out (by simp)]; exact h8
    have e5 : gt (st (wipe [7] ρ) 7 (some (iL r))) 5 = some (.int c) := by
      rw [V.gt_st_ne (by omega), V.gt_wipe_out (by simp)]; exact h5
    exact V.call_ok (V.EsC (V.var_ok e7) (V.Es2 (V.var_ok e8) (V.var_ok e5))) (hf r hm) rfl
  · refine V.ext (by rw [V.wipe_len, V.st_len]) fun j => ?_
    show gt (st (st (st ρ 7 none) 7 (some (iL r))) 7 none) j = gt (st ρ 7 none) j
    by_cases q : j = 7
    · subst q
      rw [V.gt_st_eq (by rw [V.st_len, V.st_len]; omega), V.gt_st_eq (by omega)]
    · rw [V.gt_st_ne (Ne.symm q), V.gt_st_ne (Ne.symm q)]
  · simp [List.map_map, Function.comp_def]
theorem sBody_ok (n : Nat) {w c h B : Nat} {R F L : List (List Int)} {P : List Nat} {d0 : D} {y6 y7 y8 y9 y10 : Option D} (s : Sg w c h B R F P L) (hc : c < w) (hw : w ≤ 6) (hh : h ≤ 5) (hB : B ≤ 37) :
    ∃ F' P' L' y6' y8', Sg w (c + 1) h B R F' P' L' ∧ evSs (Ph (n + 4)) g0 sBody [some d0, some (.int w), some (.lst (L.map iL)), some (.lst (F.map iL)), some (.lst (iN P)), some (.int (c : Nat)), y6, y7, y8, y9, y10] =
      .ok .next [some d0, some (.int w), some (.lst (L'.map iL)), some (.lst (F'.map iL)), some (.lst (iN P')), some (.int (c : Nat)), y6', y7, y8', y9, y10] := by
  have hcn := s.cnt
  have hlen := s.st.len
  have hat : evE (Ph (n + 4)) g0 (.comp [9, 7] (.tp [.nm 9, .nm 7]) .enum [.pk 2] [.cmp .ne (.ix (.var 7) (.var 5)) (.con (.int 0))] (.var 9)) [some d0, some (.int w), some (.lst (L.map iL)), some (.lst (F.map iL)), some (.lst (iN P)), some (.int (c : Nat)), y6, y7, y8, y9, y10] =
      .ok (.lst (((List.range L.length).filter fun i => !decide (at0 (fk L i) c = 0)).map fun (i : Nat) => D.int ((0 + i : Nat)))) [some d0, some (.int w), some (.lst (L.map iL)), some (.lst (F.map iL)), some (.lst (iN P)), some (.int (c : Nat)), y6, y7, y8, y9, y10] := by
    refine V.comp_filt (α := Nat) (ik := .enum) (ds := [.lst (L.map iL)]) (fun i => D.tup [.int ((0 + i : Nat)), iL (fk L i)]) (fun i => !decide (at0 (fk L i) c = 0)) (fun (i : Nat) => D.int ((0 + i : Nat))) (List.range L.length) (V.Es1 (V.pk_ok rfl)) ?_ (fits_ok (by simp; omega)) ?_
    · simp only [itD, enum_eq]
    · intro i hi
      have hi' : i < L.length := by simpa using hi
      refine ⟨_, rfl, ?_, (fun _ => V.var_ok rfl), rfl⟩
      have hr := (s.ls _ (List.getElem_mem hi')).1
      rw [← fk_get hi'] at hr
      exact V.cmp_ok (V.ix_ok (V.var_ok rfl) (V.var_ok rfl) (ix_at0 (d := iL (fk L i)) rfl (i := c) (by omega))) V.con_ok (by simp [cmpD, eqD_int])
  cases hx : (List.range L.length).filter (fun i => !decide (at0 (fk L i) c = 0)) with
  | nil =>
    rw [hx] at hat
    have hz : ∀ r ∈ L, at0 r c = 0 := by
      intro r hr
      obtain ⟨k, hk, e⟩ := mem_fk hr
      have := List.filter_eq_nil_iff.mp hx k (by simpa using hk)
      rw [e] at this
      simpa using this
    refine ⟨F, P, L, some (.lst []), y8, ⟨s.st.none hc hz, s.cnt, s.fs, s.ls⟩, ?_⟩
    exact V.seq_n (V.set_ok hat) (V.seq_f (V.seq_n (V.ifs_skip (V.var_ok rfl) rfl) snil))
  | cons a t =>
    rw [hx] at hat
    have hmem : a ∈ (List.range L.length).filter (fun i => !decide (at0 (fk L i) c = 0)) := by rw [hx]; simp
    rw [List.mem_filter] at hmem
    have ha : a < L.length := by simpa using hmem.1
    have hne : at0 L[a] c ≠ 0 := by have := hmem.2; rw [fk_get ha] at this; simpa using this
    have hm := s.ls _ (List.getElem_mem ha)
    obtain ⟨u1, u2, u3, u4, u5⟩ := up_props (c := c) hm.1 hm.2 hne
    have hbb : 2 * bb B P.length + 1 ≤ 9000 := by
      rw [bb_succ]
      refine Nat.le_trans (bb_le (l := 5) (by omega)) ?_
      unfold bb; omega
    have hwo : ∀ r, r.length = w → Bd (bb B P.length) r → Ph (n + 4) 12 [iL r, iL (up c L[a]), .int (c : Nat)] = .ok (iL (wo (up c L[a]) c r)) [] := fun r h1 h2 =>
      without_ok n (d := iL r) (e := iL (up c L[a])) rfl rfl h1 u1 hc (by omega) h2 u2 hbb
    refine ⟨_, _, _, some (.lst ((a :: t).map fun (i : Nat) => D.int ((0 + i : Nat)))), some (iL (up c L[a])), s.step hc ha hne, ?_⟩
    refine V.seq_n (V.set_ok hat) (V.seq_f (V.seq_n (V.ifs_tt (V.var_ok rfl) rfl ?_) snil))
    refine V.seq_n (V.set_ok (pop_ev (Ph (n + 4)) ha rfl (V.ix_ok (V.var_ok rfl) V.con_ok ?_))) (V.seq_f ?_)
    · simp only [ixD, List.map_cons]
      rw [show (0 : Int) = ((0 : Nat) : Int) from rfl, atD_nat (by simp)]
      simp
    refine V.seq_n (ρ' := [some d0, some (.int w), some (.lst ((L.eraseIdx a).map iL)), some (.lst (F.map iL)), some (.lst (iN P)), some (.int (c : Nat)), some (.lst ((a :: t).map fun (i : Nat) => D.int ((0 + i : Nat)))), y7, some (iL (if at0 L[a] c < 0 then L[a].map (- ·) else L[a])), y9, y10]) ?_ ?_
    · have hcx := V.cmp_ok (Φ := Ph (n + 4)) (gl := g0) (op := .lt) (V.ix_ok (V.var_ok (i := 8) (ρ := [some d0, some (.int w), some (.lst ((L.eraseIdx a).map iL)), some (.lst (F.map iL)), some (.lst (iN P)), some (.int (c : Nat)), some (.lst ((a :: t).map fun (i : Nat) => D.int ((0 + i : Nat)))), y7, some (iL L[a]), y9, y10]) rfl) (V.var_ok (i := 5) rfl) (ix_at0 (d := iL L[a]) rfl (i := c) (by omega))) (V.con_ok (d := .int 0)) (k := decide (at0 L[a] c < 0)) rfl
      by_cases z : at0 L[a] c < 0
      · rw [decide_eq_true z] at hcx
        refine V.ifs_tt hcx rfl (V.seq_n (V.set_ok (x := iL (L[a].map (- ·))) (ρ1 := [some d0, some (.int w), some (.lst ((L.eraseIdx a).map iL)), some (.lst (F.map iL)), some (.lst (iN P)), some (.int (c : Nat)), some (.lst ((a :: t).map fun (i : Nat) => D.int ((0 + i : Nat)))), y7, some (iL L[a]), y9, y10]) ?_) (V.seq_f (snil.trans ?_)))
        · refine (V.comp_mapp (α := Int) (ik := .seq) (ds := [iL L[a]]) D.int (fun x => D.int (-x)) L[a] (V.Es1 (V.var_ok rfl)) rfl (fits_ok (by omega)) ?_).trans ?_
          · intro x hx
            exact ⟨_, rfl, V.neg_ok (V.var_ok rfl), rfl⟩
          · simp [iL, List.map_map, Function.comp_def]
        · rw [if_pos z]
          rfl
      · rw [decide_eq_false z] at hcx
        refine (V.ifs_skip hcx rfl).trans ?_
        rw [if_neg z]
    refine V.seq_n (V.set_ok (x := iL (up c L[a])) (V.bi1 (V.call_ok (V.Es1 (V.var_ok rfl)) (lowest_ok (n + 1) rfl ?_ ?_) rfl) rfl)) (V.seq_f ?_)
    · have h9 : Bd 9000 L[a] := hm.2.mono (by omega)
      split
      · intro x hx
        obtain ⟨y, hy, rfl⟩ := List.mem_map.mp hx
        rw [Int.natAbs_neg]; exact h9 y hy
      · exact h9
    · have := hm.1
      split
      · simp; omega
      · omega
    refine V.seq_n (V.set_ok (wos_ev (d := .non) (L := L.eraseIdx a) (hd := up c L[a]) (c := c) _ (V.pk_ok rfl) (fun r hr => ?_) ?_ rfl rfl (by simp [st]))) ?_
    · have hr' := s.ls r (List.mem_of_mem_eraseIdx hr)
      exact hwo r hr'.1 hr'.2
    · rw [List.length_eraseIdx_of_lt ha]; omega
    refine V.seq_n (V.set_ok (V.bin_ok (op := .add) (wos_ev (d := .non) (L := F) (hd := up c L[a]) (c := c) _ (V.var_ok rfl) (fun r hr => ?_) ?_ rfl rfl (by simp [st])) (V.lst_ok (V.Es1 (V.var_ok rfl))) (z := .lst ((F.map (wo (up c L[a]) c) ++ [up c L[a]]).map iL)) ?_)) (V.seq_f ?_)
    · have hr' := s.fs r hr
      exact hwo r hr'.1 hr'.2.1
    · omega
    · simp only [binD, addD, st, gt]
      rw [if_pos (fits_ok (by simp; omega))]
      simp
    refine V.seq_n (V.app_ok rfl (V.var_ok rfl) rfl (by simp [sizeLine]; omega)) (snil.trans ?_)
    simp [st, iN]
theorem stairs_ok (n : Nat) (q : List Int → D) (hq : ∀ r, Iq (q r) r) {d : D} {rows : List (List Int)} {w h B : Nat} (hd : Sq d (rows.map q)) (ht : Tab h w B rows) (hw : w ≤ 6) (hh : h ≤ 5) (hB : B ≤ 37) :
    ∃ F P L, Sg w w h B rows F P L ∧ Ph (n + 5) 11 [d, .int w] = .ok (.tup [.tup (F.map iT), .tup (iN P)]) [] := by
  have hrl := ht.len
  have h59 : (2:Nat)^59 = 576460752303423488 := by decide
  have h1 : evE (Ph (n + 4)) g0 (.comp [7] (.nm 7) .seq [.var 0] [] (.bi .listOf [.var 7])) [some d, some (.int w), none, none, none, none, none, none, none, none, none] = .ok (.lst (rows.map iL)) [some d, some (.int w), none, none, none, none, none, none, none, none, none] :=
    V.comp_mapp (α := List Int) (ik := .seq) (ds := [d]) q iL rows (V.Es1 (V.var_ok rfl)) hd (fits_ok (by omega)) fun r hr => ⟨_, rfl, V.bi1 (V.var_ok rfl) (hq r).listOf, rfl⟩
  obtain ⟨ρ', l1, F, P, L, y5, y6, y7, y8, y9, y10, l2, l3⟩ := V.forL_next (tg := asg (.nm 5)) (body := evSs (Ph (n + 4)) g0 sBody) ((List.range w).map fun (k : Nat) => D.int (k : Nat))
    (fun c ρ => ∃ F P L y5 y6 y7 y8 y9 y10, Sg w c h B rows F P L ∧ ρ = [some d, some (.int w), some (.lst (L.map iL)), some (.lst (F.map iL)), some (.lst (iN P)), y5, y6, y7, y8, y9, y10])
    (ρ := [some d, some (.int w), some (.lst (rows.map iL)), some (.lst []), some (.lst []), none, none, none, none, none, none])
    ⟨[], [], rows, none, none, none, none, none, none, ⟨St.init w rows, by simp [hrl], (fun r hr => by cases hr), fun r hr => by simpa [bb] using ht.row r hr⟩, rfl⟩ (by
      rintro c x ρ hx ⟨F, P, L, y5, y6, y7, y8, y9, y10, s, rfl⟩
      have hc : c < w := by
        rcases Nat.lt_or_ge c w with q | q
        · exact q
        · rw [List.getElem?_eq_none (by simpa using q)] at hx; cases hx
      have hx' : x = .int (c : Nat) := by
        rw [List.getElem?_eq_getElem (by simpa using hc)] at hx
        simpa using hx.symm
      subst hx'
      obtain ⟨F', P', L', y6', y8', s', e⟩ := sBody_ok n (d0 := d) (y6 := y6) (y7 := y7) (y8 := y8) (y9 := y9) (y10 := y10) s hc hw hh hB
      exact ⟨_, rfl, _, e, F', P', L', _, y6', y7, y8', y9, y10, s', rfl⟩)
  have hwl : ((List.range w).map fun (k : Nat) => D.int (k : Nat)).length = w := by simp
  rw [hwl] at l2
  subst l3
  have hlen := l2.st.len
  have hcn := l2.cnt
  refine ⟨F, P, L, l2, Ph_run (F := fn_stairs) rfl (V.run_ret (ρ := [some d, some (.int w), some (.lst (L.map iL)), some (.lst (F.map iL)), some (.lst (iN P)), y5, y6, y7, y8, y9, y10]) rfl ?_ rfl)⟩
  refine V.seq_n (V.set_ok h1) (V.seq_n (V.set_ok (V.lst_ok V.Es0)) (V.seq_f (V.seq_n (V.set_ok (V.lst_ok V.Es0)) (V.seq_n ((V.loop_okp (ik := .range) (ds := [.int w]) (V.Es1 (V.var_ok rfl)) (range_it1 w (by omega))).trans l1) (V.seq_ret (V.ret_ok (V.tup_ok (V.Es2 (V.bi1 (V.comp_mapp (α := List Int) (ik := .seq) (ds := [.lst (F.map iL)]) iL iT F (V.Es1 (V.var_ok rfl)) rfl (fits_ok (by omega)) ?_) rfl) (V.bi1 (V.pk_ok rfl) rfl))))))))) 
  intro r hr
  exact ⟨_, rfl, V.bi1 (V.var_ok rfl) rfl, rfl⟩
theorem rank_ok (n : Nat) {d : D} {w : Nat} {F : List (List Int)} {P : List Nat} (h : Ph (n + 5) 11 [d, .int w] = .ok (.tup [.tup (F.map iT), .tup (iN P)]) []) : Ph (n + 6) 13 [d, .int w] = .ok (.int F.length) [] := by
  refine Ph_run (F := fn_rank) rfl (V.run_ret (ρ := [some d, some (.int w)]) rfl (V.seq_ret (V.ret_ok (V.bi1 (V.ix_ok (V.call_ok (V.Es2 (V.var_ok rfl) (V.var_ok rfl)) h rfl) V.con_ok rfl) ?_))) rfl)
  simp [biD, lenD]
end P00
end
section
set_option autoImplicit false
set_option linter.all false
set_option maxRecDepth 8000
set_option exponentiation.threshold 10000
namespace P00
open PX M00
/-- a loop that writes each row of a rest anew -/
theorem upd_loop {tg : D → Env → Option Env} {body : Env → PX.R Out} (g : List Int → List Int) (Pr : List Int → Prop) (I : List (List Int) → Env → Prop)
    (step : ∀ pre x suf ρ, I (pre ++ x :: suf) ρ → Pr x → ∃ ρ1 ρ2, tg (.int (pre.length : Nat)) ρ = some ρ1 ∧ body ρ1 = .ok .next ρ2 ∧ I (pre ++ g x :: suf) ρ2) :
    ∀ (suf pre : List (List Int)) (ρ : Env), (∀ x ∈ suf, Pr x) → I (pre ++ suf) ρ → ∃ ρ', forL [] tg body ((List.range suf.length).map fun k => D.int ((pre.length + k : Nat))) ρ = .ok .next ρ' ∧ I (pre ++ suf.map g) ρ'
  | [], pre, ρ, _, h => ⟨ρ, rfl, h⟩
  | x :: suf, pre, ρ, hp, h => by
    obtain ⟨ρ1, ρ2, h1, h2, h3⟩ := step pre x suf ρ h (hp x (by simp))
    obtain ⟨ρ', h4, h5⟩ := upd_loop g Pr I step suf (pre ++ [g x]) ρ2 (fun y hy => hp y (by simp [hy])) (by simpa using h3)
    refine ⟨ρ', ?_, by simpa using h5⟩
    have e : ((List.range (x :: suf).length).map fun k => D.int ((pre.length + k : Nat))) = D.int (pre.length : Nat) :: ((List.range suf.length).map fun k => D.int (((pre ++ [g x]).length + k : Nat))) := by
      rw [List.length_cons, List.range_succ_eq_map, List.map_cons, List.map_map]
      congr 1
      refine List.map_congr_left fun i _ => ?_
      simp only [Function.comp, List.length_append, List.length_singleton]
      congr 2
      omega
    rw [e]
    show (match tg (.int (pre.length : Nat)) ρ with | none => _ | some ρ1 => _) = _
    rw [h1]
    show (body ρ1).bind _ = _
    rw [h2]
    exact h4
theorem cross_range {row head : List Int} {c w : Nat} (h1 : row.length = w) (h2 : head.length = w) : ((List.range w).map fun j => at0 row j * at0 head c - at0 row c * at0 head j) = cross row head c := by
  apply List.ext_getElem
  · simp [cross, h1, h2]
  · intro i a b
    have hi : i < w := by simpa using a
    simp only [List.getElem_map, List.getElem_range, cross, List.getElem_zip]
    rw [at0_get (r := row) (by omega), at0_get (r := head) (i := i) (by omega)]
/-- what stands below after the first of its kind was brought up -/
def sw (l0 : List Int) (tl : List (List Int)) : Nat → List (List Int)
  | 0 => tl
  | a + 1 => tl.set a l0
theorem sw_len (l0 : List Int) (tl : List (List Int)) (a : Nat) : (sw l0 tl a).length = tl.length := by cases a <;> simp [sw]
theorem sw_mem {l0 : List Int} {tl : List (List Int)} {a : Nat} (ha : a < (l0 :: tl).length) (r : List Int) : r ∈ l0 :: tl ↔ r = (l0 :: tl)[a] ∨ r ∈ sw l0 tl a := by
  cases a with
  | zero => simp [sw]
  | succ a =>
    have ha' : a < tl.length := by simpa using ha
    have h1 := mem_erase (xs := tl) ha' r
    have h2 := mem_erase (xs := tl.set a l0) (a := a) (by simpa using ha') r
    rw [List.eraseIdx_set_eq, List.getElem_set_self] at h2
    rw [List.mem_cons, h1]
    simp only [sw, h2, List.getElem_cons_succ]
    grind
theorem set_mid {α : Type} (T : List α) (x y : α) (tl : List α) : (T ++ x :: tl).set T.length y = T ++ y :: tl := by
  rw [List.set_append_right _ _ (by omega)]; simp
theorem set_rest {α : Type} (T : List α) (x y : α) (tl : List α) (a : Nat) : (T ++ x :: tl).set (T.length + (a + 1)) y = T ++ x :: tl.set a y := by
  rw [List.set_append_right _ _ (by omega)]
  have : T.length + (a + 1) - T.length = a + 1 := by omega
  rw [this]; rfl
theorem sw_set {T : List (List Int)} {l0 : List Int} {tl : List (List Int)} {a : Nat} (ha : a < (l0 :: tl).length) : ((T ++ l0 :: tl).set T.length (l0 :: tl)[a]).set (T.length + a) l0 = T ++ (l0 :: tl)[a] :: sw l0 tl a := by
  rw [set_mid]
  cases a with
  | zero =>
    show (T ++ l0 :: tl).set (T.length + 0) l0 = _
    rw [Nat.add_zero, set_mid]; rfl
  | succ a => rw [set_rest]; rfl
theorem atD_mid {q : List Int → D} {T : List (List Int)} {L : List (List Int)} {a : Nat} (ha : a < L.length) : atD ((T ++ L).map q) ((T.length + a : Nat) : Int) = some (q L[a]) := by
  rw [atD_nat (by simp; omega), List.getElem_map]
  congr 2
  rw [List.getElem_append_right (by omega)]
  congr 1
  omega
/-- the swap of two rows of the list in slot i -/
theorem swap_ok (Φ : Fns) {i : Nat} {k1 k2 a b : E} {ρ : Env} {T : List (List Int)} {l0 : List Int} {tl : List (List Int)} {m : Nat} (hm : m < (l0 :: tl).length) (hl : i < ρ.length)
    (h0 : gt ρ i = some (.lst ((T ++ l0 :: tl).map iL))) (ha : evE Φ g0 a ρ = .ok (iL (l0 :: tl)[m]) ρ) (hb : evE Φ g0 b ρ = .ok (iL l0) ρ) (h1 : evE Φ g0 k1 ρ = .ok (.int (T.length : Nat)) ρ)
    (h2 : ∀ v, evE Φ g0 k2 (st ρ i (some v)) = .ok (.int ((T.length + m : Nat))) (st ρ i (some v))) :
    evS Φ g0 (.swap i k1 i k2 a b) ρ = .ok .next (st ρ i (some (.lst ((T ++ (l0 :: tl)[m] :: sw l0 tl m).map iL)))) := by
  have hs1 : setD (.lst ((T ++ l0 :: tl).map iL)) (.int (T.length : Nat)) (iL (l0 :: tl)[m]) = some (.lst (((T ++ l0 :: tl).set T.length (l0 :: tl)[m]).map iL)) := by
    simp only [setD]
    rw [plc_nat (by simp), List.map_set]
    rfl
  have hs2 : setD (.lst (((T ++ l0 :: tl).set T.length (l0 :: tl)[m]).map iL)) (.int ((T.length + m : Nat))) (iL l0) = some (.lst ((T ++ (l0 :: tl)[m] :: sw l0 tl m).map iL)) := by
    simp only [setD]
    rw [plc_nat (by simp at hm; simp; omega), ← sw_set hm, List.map_set (i := T.length + m)]
    rfl
  have hss : ∀ (ρ : Env) (i : Nat) (x y : Option D), st (st ρ i x) i y = st ρ i y := by
    intro ρ
    induction ρ with
    | nil => intro i x y; rfl
    | cons a r ih =>
      intro i x y
      cases i with
      | zero => rfl
      | succ i => show _ :: st (st r i x) i y = _ :: st r i y; rw [ih]
  simp only [evS, lstAt, h0, R.bind, ha, hb, h1, hs1, optR, h2, V.gt_st_eq hl, hs2, hss]
theorem set_row (pre suf : List (List Int)) (x y : List Int) : setD (.lst ((pre ++ x :: suf).map iL)) (.int (pre.length : Nat)) (iL y) = some (.lst ((pre ++ y :: suf).map iL)) := by
  have h : pre.length < ((pre ++ x :: suf).map iL).length := by rw [List.length_map, List.length_append, List.length_cons]; omega
  simp only [setD]
  rw [plc_nat h, Option.map_some, ← List.map_set (f := iL), set_mid]
abbrev rInner : List S := [.set 9 (.ix (.pk 2) (.var 8)), .frz 9, .setix 2 (.var 8) (.comp [10] (.nm 10) .range [.var 1] [] (.bin .sub (.bin .mul (.ix (.var 9) (.var 10)) (.ix (.var 7) (.var 4))) (.bin .mul (.ix (.var 9) (.var 4)) (.ix (.var 7) (.var 10)))))]
abbrev rBody : List S := [.set 5 (.comp [8] (.nm 8) .range [.var 3, .bi .len [.pk 2]] [.cmp .ne (.ix (.ix (.pk 2) (.var 8)) (.var 4)) (.con (.int 0))] (.var 8)), .ifs (.cmp .ne (.pk 5) (.lst [])) [.swap 2 (.var 3) 2 (.ix (.pk 5) (.con (.int 0))) (.ix (.pk 2) (.ix (.pk 5) (.con (.int 0)))) (.ix (.pk 2) (.var 3)), .set 7 (.bi .listOf [.ix (.pk 2) (.var 3)]), .frz 7, .loop [] (.nm 8) .range [.bin .add (.var 3) (.con (.int 1)), .bi .len [.pk 2]] rInner, .set 3 (.bin .add (.var 3) (.con (.int 1))), .frz 3] []]
theorem ne_nil_int (a : Int) (t : List D) : cmpD .ne (.lst (.int a :: t)) (.lst []) = some true ∨ ∃ x ∈ t, shp 39 x = false := by
  by_cases h : t.all (shp 39) = true
  · left
    have h1 : shp 40 (.lst (.int a :: t)) = true := by
      show ((D.int a :: t).all (shp 39)) = true
      rw [List.all_cons, shp_int, h]; rfl
    have h2 : shp 40 (.lst []) = true := rfl
    simp only [cmpD, eqD, h1, h2, Bool.and_self, if_true, Option.map_some]
    rfl
  · right
    rw [Bool.not_eq_true, List.all_eq_false] at h
    obtain ⟨x, hx, e⟩ := h
    exact ⟨x, hx, by simpa using e⟩
theorem ne_nil_ints (xs : List D) (h : ∀ x ∈ xs, ∃ i, x = .int i) : cmpD .ne (.lst xs) (.lst []) = some (!xs.isEmpty) := by
  cases xs with
  | nil => rfl
  | cons x t =>
    obtain ⟨i, rfl⟩ := h x (by simp)
    rcases ne_nil_int i t with e | ⟨x, hx, e⟩
    · rw [e]; rfl
    · obtain ⟨j, rfl⟩ := h x (by simp [hx])
      rw [shp_int] at e; cases e
theorem cross_at {row head : List Int} {c w i : Nat} (h1 : row.length = w) (h2 : head.length = w) (hi : i < w) : at0 (cross row head c) i = at0 row i * at0 head c - at0 row c * at0 head i := by
  rw [cross, at0_zip (by omega) (by omega)]
theorem rBody_ok (n : Nat) {w c b m : Nat} {R F L T : List (List Int)} {P : List Nat} {d0 : D} {y5 y6 y7 y8 y9 y10 : Option D} (s : St w c R F P L) (hT : T.length = P.length) (hc : c < w) (hw : w ≤ 6) (hm : T.length + L.length = m) (hm2 : m ≤ 16)
    (hF : ∀ r ∈ F, r.length = w) (hL : ∀ r ∈ L, r.length = w ∧ Bd b r) (hb : b ≤ 200000) :
    ∃ F' P' L' T' y5' y7' y8' y9', St w (c + 1) R F' P' L' ∧ T'.length = P'.length ∧ T'.length + L'.length = m ∧ (∀ r ∈ F', r.length = w) ∧ (∀ r ∈ L', r.length = w ∧ Bd (2 * b + 1) r) ∧
      evSs (Ph n) g0 rBody [some d0, some (.int w), some (.lst ((T ++ L).map iL)), some (.int (P.length : Nat)), some (.int (c : Nat)), y5, y6, y7, y8, y9, y10] =
      .ok .next [some d0, some (.int w), some (.lst ((T' ++ L').map iL)), some (.int (P'.length : Nat)), some (.int (c : Nat)), y5', y6, y7', y8', y9', y10] := by
  have h59 : (2:Nat)^59 = 576460752303423488 := by decide
  have hlen : lenD [.lst ((T ++ L).map iL)] = some (.int ((T.length + L.length : Nat))) := by simp [lenD]
  have hat : evE (Ph n) g0 (.comp [8] (.nm 8) .range [.var 3, .bi .len [.pk 2]] [.cmp .ne (.ix (.ix (.pk 2) (.var 8)) (.var 4)) (.con (.int 0))] (.var 8)) [some d0, some (.int w), some (.lst ((T ++ L).map iL)), some (.int (P.length : Nat)), some (.int (c : Nat)), y5, y6, y7, y8, y9, y10] =
      .ok (.lst (((List.range L.length).filter fun i => !decide (at0 (fk L i) c = 0)).map fun (i : Nat) => D.int ((T.length + i : Nat)))) [some d0, some (.int w), some (.lst ((T ++ L).map iL)), some (.int (P.length : Nat)), some (.int (c : Nat)), y5, y6, y7, y8, y9, y10] := by
    refine V.comp_filt (α := Nat) (ik := .range) (ds := [.int (P.length : Nat), .int ((T.length + L.length : Nat))]) (fun i => D.int ((T.length + i : Nat))) (fun i => !decide (at0 (fk L i) c = 0)) (fun (i : Nat) => D.int ((T.length + i : Nat))) (List.range L.length) (V.Es2 (V.var_ok rfl) (V.bi1 (V.pk_ok rfl) hlen)) ?_ (fits_ok (by simp; omega)) ?_
    · rw [range_it _ _ (by omega) (by omega), hT]
      have : P.length + L.length - P.length = L.length := by omega
      rw [this]
    · intro i hi
      have hi' : i < L.length := by simpa using hi
      refine ⟨_, rfl, ?_, (fun _ => V.var_ok rfl), rfl⟩
      have hr := (hL _ (List.getElem_mem hi')).1
      refine V.cmp_ok (V.ix_ok (z := .int (at0 (fk L i) c)) (V.ix_ok (V.pk_ok rfl) (V.var_ok rfl) (atD_mid hi')) (V.var_ok rfl) ?_) V.con_ok (by simp [cmpD, eqD_int])
      rw [fk_get hi']
      exact ix_at0 (d := iL L[i]) rfl (by omega)
  cases hx : (List.range L.length).filter (fun i => !decide (at0 (fk L i) c = 0)) with
  | nil =>
    rw [hx] at hat
    have hz : ∀ r ∈ L, at0 r c = 0 := by
      intro r hr
      obtain ⟨k, hk, e⟩ := mem_fk hr
      have := List.filter_eq_nil_iff.mp hx k (by simpa using hk)
      rw [e] at this
      simpa using this
    refine ⟨F, P, L, T, some (.lst []), y7, y8, y9, s.none hc hz, hT, hm, hF, fun r hr => ⟨(hL r hr).1, (hL r hr).2.mono (by omega)⟩, ?_⟩
    exact V.seq_n (V.set_ok hat) (V.seq_n (V.ifs_skip (V.cmp_ok (V.pk_ok rfl) (V.lst_ok V.Es0) rfl) rfl) snil)
  | cons a t =>
    rw [hx] at hat
    have hmem : a ∈ (List.range L.length).filter (fun i => !decide (at0 (fk L i) c = 0)) := by rw [hx]; simp
    rw [List.mem_filter] at hmem
    have ha : a < L.length := by simpa using hmem.1
    have hne : at0 L[a] c ≠ 0 := by have := hmem.2; rw [fk_get ha] at this; simpa using this
    cases L with
    | nil => simp at ha
    | cons l0 tl =>
    generalize hX : (l0 :: tl)[a] = X at hne
    have hXm := hL _ (List.getElem_mem ha)
    rw [hX] at hXm
    have hsm := fun r => sw_mem ha r
    rw [hX] at hsm
    have hsl := sw_len l0 tl a
    have hl0 := hL l0 (by simp)
    have hsL : ∀ r ∈ sw l0 tl a, r.length = w ∧ Bd b r := fun r hr => hL r ((hsm r).mpr (.inr hr))
    -- the ghost
    have hneg : ∀ i, at0 (X.map (- ·)) i = - at0 X i := fun i => at0_map (f := (- ·)) (by simp) X i
    obtain ⟨hd', g1, g2, sg, g3, g4⟩ : ∃ hd' : List Int, hd'.length = w ∧ 0 < at0 hd' c ∧ ∃ sg : Int, sg ≠ 0 ∧ ∀ i, sg * at0 hd' i = at0 X i := by
      by_cases z : at0 X c < 0
      · exact ⟨X.map (- ·), by simpa using hXm.1, by rw [hneg]; omega, -1, by omega, fun i => by rw [hneg]; omega⟩
      · exact ⟨X, hXm.1, by omega, 1, by omega, fun i => by omega⟩
    have hst : St w (c + 1) R (F.map (fun f => cross f hd' c) ++ [hd']) (P ++ [c]) ((sw l0 tl a).map fun r => cross r X c) := by
      have hel : ∀ r, r.length = w → El w c hd' r (cross r X c) := fun r hr => by
        refine ⟨1, sg * at0 hd' c, sg * at0 r c, by omega, Int.mul_ne_zero g3 (by omega), fun i hi => ?_, ?_⟩
        · rw [cross_at hr hXm.1 hi, ← g4 c, ← g4 i]; grind
        · rw [cross_at hr hXm.1 hc, Int.sub_self]
      refine s.some hc hsm hne ⟨sg, g3, fun i _ => g4 i⟩ g2 (by simp) (fun k hk => ?_) (fun x hx => ?_) (fun r hr => ?_)
      · have hk' : k < (F.map (fun f => cross f hd' c)).length := by simpa using hk
        have hf := hF _ (List.getElem_mem hk)
        rw [fk_get hk, fk_get hk', List.getElem_map]
        refine ⟨1, at0 hd' c, at0 F[k] c, by omega, g2, fun i hi => ?_, ?_⟩
        · rw [cross_at hf g1 hi]; grind
        · rw [cross_at hf g1 hc, Int.sub_self]
      · obtain ⟨r, hr, rfl⟩ := List.mem_map.mp hx
        exact ⟨r, hr, hel r (hsL r hr).1⟩
      · exact ⟨_, List.mem_map.mpr ⟨r, hr, rfl⟩, hel r (hsL r hr).1⟩
    have hTm : ((List.range (sw l0 tl a).length).map fun k => D.int (((T ++ [X]).length + k : Nat))) = ((List.range (T.length + (l0 :: tl).length - (P.length + 1))).map fun (k : Nat) => D.int ((P.length + 1 + k : Nat))) := by
      rw [hsl, List.length_append, List.length_singleton, hT, List.length_cons]
      have : P.length + (tl.length + 1) - (P.length + 1) = tl.length := by omega
      rw [this]
    obtain ⟨ρ', l1, y8', y9', l2⟩ := upd_loop (tg := asg (.nm 8)) (body := evSs (Ph n) g0 rInner) (fun r => cross r X c) (fun r => r.length = w ∧ Bd b r)
      (fun A ρ => ∃ y8 y9, ρ = [some d0, some (.int w), some (.lst (A.map iL)), some (.int (P.length : Nat)), some (.int (c : Nat)), some (.lst ((a :: t).map fun (i : Nat) => D.int ((T.length + i : Nat)))), y6, some (iL X), y8, y9, y10]) (by
        rintro pre x suf ρ ⟨y8, y9, rfl⟩ hxp
        refine ⟨_, _, rfl, ?_, some (.int (pre.length : Nat)), some (iL x), rfl⟩
        have hix : ixD (.lst ((pre ++ x :: suf).map iL)) (.int (pre.length : Nat)) = some (iL x) := by
          have := atD_mid (q := iL) (T := pre) (L := x :: suf) (a := 0) (by simp)
          simpa [ixD] using this
        refine V.seq_n (V.set_ok (V.ix_ok (V.pk_ok rfl) (V.var_ok rfl) hix)) (V.seq_f (V.seq_n (V.setix_ok (v := iL (cross x X c)) (ρ1 := [some d0, some (.int w), some (.lst ((pre ++ x :: suf).map iL)), some (.int (P.length : Nat)), some (.int (c : Nat)), some (.lst ((a :: t).map fun (i : Nat) => D.int ((T.length + i : Nat)))), y6, some (iL X), some (.int (pre.length : Nat)), some (iL x), y10]) rfl ?_ (V.var_ok rfl) rfl (y := .lst ((pre ++ cross x X c :: suf).map iL)) ?_) snil))
        · refine (V.comp_mapp (α := Nat) (ik := .range) (ds := [.int w]) (fun k => D.int (k : Nat)) (fun j => D.int (at0 x j * at0 X c - at0 x c * at0 X j)) (List.range w) (V.Es1 (V.var_ok rfl)) (range_it1 w (by omega)) (fits_ok (by simp; omega)) ?_).trans ?_
          · intro j hj
            have hj' : j < w := by simpa using hj
            refine ⟨_, rfl, V.bin_ok (V.bin_ok (V.ix_ok (V.var_ok rfl) (V.var_ok rfl) (ix_at0 (d := iL x) rfl (by omega))) (V.ix_ok (V.var_ok rfl) (V.var_ok rfl) (ix_at0 (d := iL X) rfl (by omega))) (b_mul (mulOk_of (at0_bd hxp.2 _) (at0_bd hXm.2 _) (by omega) (by omega)))) (V.bin_ok (V.ix_ok (V.var_ok rfl) (V.var_ok rfl) (ix_at0 (d := iL x) rfl (by omega))) (V.ix_ok (V.var_ok rfl) (V.var_ok rfl) (ix_at0 (d := iL X) rfl (by omega))) (b_mul (mulOk_of (at0_bd hxp.2 _) (at0_bd hXm.2 _) (by omega) (by omega)))) rfl, rfl⟩
          · rw [← cross_range hxp.1 hXm.1]
            simp only [iL, List.map_map, Function.comp_def]
            rfl
        · exact set_row pre suf x _)
      (sw l0 tl a) (T ++ [X]) [some d0, some (.int w), some (.lst ((T ++ X :: sw l0 tl a).map iL)), some (.int (P.length : Nat)), some (.int (c : Nat)), some (.lst ((a :: t).map fun (i : Nat) => D.int ((T.length + i : Nat)))), y6, some (iL X), y8, y9, y10] hsL ⟨y8, y9, by simp⟩
    subst l2
    rw [hTm] at l1
    refine ⟨_, _, _, T ++ [X], some (.lst ((a :: t).map fun (i : Nat) => D.int ((T.length + i : Nat)))), some (iL X), y8', y9', hst, by simp [hT], by simp only [List.length_append, List.length_map, hsl, List.length_singleton]; simp only [List.length_cons] at hm; omega, ?_, ?_, ?_⟩
    · intro r hr
      rcases List.mem_append.mp hr with q | q
      · obtain ⟨f, hf, rfl⟩ := List.mem_map.mp q
        exact cross_len (hF f hf) g1
      · rw [List.mem_singleton.mp q]; exact g1
    · intro r hr
      obtain ⟨x, hx, rfl⟩ := List.mem_map.mp hr
      exact ⟨cross_len (hsL x hx).1 hXm.1, cross_bd (hsL x hx).2 hXm.2⟩
    · have hcmp : cmpD .ne (.lst ((a :: t).map fun (i : Nat) => D.int ((T.length + i : Nat)))) (.lst []) = some true := by
        rw [ne_nil_ints]
        · rfl
        · intro x hx
          obtain ⟨i, _, rfl⟩ := List.mem_map.mp hx
          exact ⟨_, rfl⟩
      have hi0 : ixD (.lst ((a :: t).map fun (i : Nat) => D.int ((T.length + i : Nat)))) (.int 0) = some (.int ((T.length + a : Nat))) := rfl
      have hcount : atD ((T ++ l0 :: tl).map iL) ((P.length : Nat) : Int) = some (iL l0) := by
        have := atD_mid (q := iL) (T := T) (L := l0 :: tl) (a := 0) (by simp)
        rw [← hT]; simpa using this
      have hcount2 : atD ((T ++ X :: sw l0 tl a).map iL) ((P.length : Nat) : Int) = some (iL X) := by
        have := atD_mid (q := iL) (T := T) (L := X :: sw l0 tl a) (a := 0) (by simp)
        rw [← hT]; simpa using this
      have hXa : atD ((T ++ l0 :: tl).map iL) ((T.length + a : Nat) : Int) = some (iL (l0 :: tl)[a]) := atD_mid (q := iL) ha
      have hsw := swap_ok (Ph n) (i := 2) (k1 := .var 3) (k2 := .ix (.pk 5) (.con (.int 0))) (a := .ix (.pk 2) (.ix (.pk 5) (.con (.int 0)))) (b := .ix (.pk 2) (.var 3)) (T := T) ha
        (ρ := [some d0, some (.int w), some (.lst ((T ++ l0 :: tl).map iL)), some (.int (P.length : Nat)), some (.int (c : Nat)), some (.lst ((a :: t).map fun (i : Nat) => D.int ((T.length + i : Nat)))), y6, y7, y8, y9, y10]) (by simp) rfl
        (V.ix_ok (V.pk_ok rfl) (V.ix_ok (V.pk_ok rfl) V.con_ok hi0) hXa) (V.ix_ok (V.pk_ok rfl) (V.var_ok rfl) hcount) (by rw [hT]; exact V.var_ok rfl) (fun v => V.ix_ok (V.pk_ok rfl) V.con_ok hi0)
      rw [hX] at hsw
      have hlen2 : lenD [.lst ((T ++ X :: sw l0 tl a).map iL)] = some (.int ((T.length + (l0 :: tl).length : Nat))) := by simp [lenD, hsl]
      refine V.seq_n (V.set_ok hat) (V.seq_n (V.ifs_tt (V.cmp_ok (V.pk_ok rfl) (V.lst_ok V.Es0) hcmp) rfl ?_) snil)
      refine V.seq_n hsw (V.seq_n (V.set_ok (V.bi1 (V.ix_ok (V.pk_ok rfl) (V.var_ok rfl) hcount2) (y := iL X) rfl)) (V.seq_f (V.seq_n ((V.loop_okp (ik := .range) (ds := [.int ((P.length + 1 : Nat)), .int ((T.length + (l0 :: tl).length : Nat))]) (V.Es2 (V.bin_ok (V.var_ok rfl) V.con_ok rfl) (V.bi1 (b := .len) (x := .lst ((T ++ X :: sw l0 tl a).map iL)) (V.pk_ok rfl) hlen2)) (range_it _ _ (by omega) (by simp only [List.length_cons] at hm ⊢; omega))).trans l1) (V.seq_n (V.set_ok (V.bin_ok (V.var_ok rfl) V.con_ok rfl)) (V.seq_f (snil.trans ?_))))))
      simp [st]
theorem lrank_ok (n : Nat) (q : List Int → D) (hq : ∀ r, Iq (q r) r) {d : D} {rows : List (List Int)} {w b : Nat} (hd : Sq d (rows.map q)) (hr : ∀ r ∈ rows, r.length = w ∧ Bd b r) (hl : rows.length ≤ 16) (hw : w ≤ 6) (hb : b ≤ 1215) :
    ∃ F P L, St w w rows F P L ∧ Ph (n + 1) 28 [d, .int w] = .ok (.int (P.length : Nat)) [] := by
  have h59 : (2:Nat)^59 = 576460752303423488 := by decide
  have h1 : evE (Ph n) g0 (.comp [6] (.nm 6) .seq [.var 0] [] (.bi .listOf [.var 6])) [some d, some (.int w), none, none, none, none, none, none, none, none, none] = .ok (.lst (rows.map iL)) [some d, some (.int w), none, none, none, none, none, none, none, none, none] :=
    V.comp_mapp (α := List Int) (ik := .seq) (ds := [d]) q iL rows (V.Es1 (V.var_ok rfl)) hd (fits_ok (by omega)) fun r hr => ⟨_, rfl, V.bi1 (V.var_ok rfl) (hq r).listOf, rfl⟩
  obtain ⟨ρ', l1, F, P, L, T, y4, y5, y6, y7, y8, y9, y10, l2, l3, l4, l5, l6, l7⟩ := V.forL_next (tg := asg (.nm 4)) (body := evSs (Ph n) g0 rBody) ((List.range w).map fun (k : Nat) => D.int (k : Nat))
    (fun c ρ => ∃ F P L T y4 y5 y6 y7 y8 y9 y10, St w c rows F P L ∧ T.length = P.length ∧ T.length + L.length = rows.length ∧ (∀ r ∈ F, r.length = w) ∧ (∀ r ∈ L, r.length = w ∧ Bd (bb b c) r) ∧ ρ = [some d, some (.int w), some (.lst ((T ++ L).map iL)), some (.int (P.length : Nat)), y4, y5, y6, y7, y8, y9, y10])
    (ρ := [some d, some (.int w), some (.lst (rows.map iL)), some (.int 0), none, none, none, none, none, none, none])
    ⟨[], [], rows, [], none, none, none, none, none, none, none, St.init w rows, rfl, by simp, (fun r hr => by cases hr), (fun r hz => by simpa [bb] using hr r hz), rfl⟩ (by
      rintro c x ρ hx ⟨F, P, L, T, y4, y5, y6, y7, y8, y9, y10, s1, s2, s3, s4, s5, rfl⟩
      have hc : c < w := by
        rcases Nat.lt_or_ge c w with q | q
        · exact q
        · rw [List.getElem?_eq_none (by simpa using q)] at hx; cases hx
      have hx' : x = .int (c : Nat) := by
        rw [List.getElem?_eq_getElem (by simpa using hc)] at hx
        simpa using hx.symm
      subst hx'
      have hbc : bb b c ≤ 200000 := by
        refine Nat.le_trans (bb_le (l := 6) (by omega)) ?_
        unfold bb; omega
      obtain ⟨F', P', L', T', y5', y7', y8', y9', t1, t2, t3, t4, t5, e⟩ := rBody_ok n (d0 := d) (y5 := y5) (y6 := y6) (y7 := y7) (y8 := y8) (y9 := y9) (y10 := y10) s1 s2 hc hw s3 (by omega) s4 s5 hbc
      rw [bb_succ] at t5
      exact ⟨_, rfl, _, e, F', P', L', T', _, y5', y6, y7', y8', y9', y10, t1, t2, t3, t4, t5, rfl⟩)
  have hwl : ((List.range w).map fun (k : Nat) => D.int (k : Nat)).length = w := by simp
  rw [hwl] at l2 l6
  subst l7
  refine ⟨F, P, L, l2, Ph_run (F := fn__law_rank) rfl (V.run_ret (ρ := [some d, some (.int w), some (.lst ((T ++ L).map iL)), some (.int (P.length : Nat)), y4, y5, y6, y7, y8, y9, y10]) rfl ?_ rfl)⟩
  exact V.seq_n (V.set_ok h1) (V.seq_n (V.set_ok V.con_ok) (V.seq_f (V.seq_n ((V.loop_okp (ik := .range) (ds := [.int w]) (V.Es1 (V.var_ok rfl)) (range_it1 w (by omega))).trans l1) (V.seq_ret (V.ret_ok (V.var_ok rfl))))))
end P00
end
section
set_option autoImplicit false
set_option linter.all false
set_option maxRecDepth 8000
set_option exponentiation.threshold 10000
namespace P00
open PX M00
def lc (u d : Int) : Int := (u * d).fdiv (Int.gcd u d : Nat)
theorem pos_right {g x : Int} (hg : 0 < g) (h : 0 < g * x) : 0 < x := by
  rcases Int.lt_or_le 0 x with q | q
  · exact q
  · have := Int.mul_le_mul_of_nonneg_left q (Int.le_of_lt hg); omega
theorem lc_props {u d : Int} (hu : 0 < u) (hd : 0 < d) : 0 < lc u d ∧ u ∣ lc u d ∧ d ∣ lc u d ∧ (lc u d).natAbs ≤ (u * d).natAbs ∧ (Int.gcd u d : Int) ≠ 0 ∧ Int.gcd u d ≤ d.natAbs := by
  have hg : 0 < Int.gcd u d := Int.gcd_pos_of_ne_zero_left d (by omega)
  have hle := Int.gcd_le_natAbs_right u (b := d) (by omega)
  obtain ⟨u', e1⟩ := Int.gcd_dvd_left u d
  obtain ⟨d', e2⟩ := Int.gcd_dvd_right u d
  unfold lc
  generalize Int.gcd u d = g at *
  have hg' : (0 : Int) < (g : Int) := by omega
  have hu' : 0 < u' := pos_right hg' (by omega)
  have hd' : 0 < d' := pos_right hg' (by omega)
  have e : (u * d).fdiv (g : Int) = u' * d := by
    have : u * d = (g : Int) * (u' * d) := by rw [e1]; grind
    rw [this, Int.mul_fdiv_cancel_left _ (by omega)]
  have e' : u' * d = u * d' := by rw [e1, e2]; grind
  rw [e]
  refine ⟨Int.mul_pos hu' hd, ?_, Int.dvd_mul_left _ _, ?_, by omega, hle⟩
  · rw [e']; exact Int.dvd_mul_right _ _
  · rw [Int.natAbs_mul, Int.natAbs_mul]
    refine Nat.mul_le_mul_right _ ?_
    rw [e1, Int.natAbs_mul]
    exact Nat.le_mul_of_pos_left _ (by omega)
/-- the found rows with their pivots -/
def Pr (w : Nat) (ps : List (List Int × Nat)) : Prop := ∀ p ∈ ps, p.2 < p.1.length ∧ p.1.length = w ∧ Bd 1215 p.1 ∧ 0 < at0 p.1 p.2
abbrev inj (p : List Int × Nat) : D := .tup [iT p.1, .int (p.2 : Nat)]
theorem lcm_loop (n : Nat) {w : Nat} (a0 a1 a2 a3 a4 a5 a9 a10 : Option D) : ∀ (ps : List (List Int × Nat)) (u : Int) (y7 y8 : Option D) (k : Nat), Pr w ps → 0 < u → u.natAbs < 2 ^ k → k + 1215 * ps.length ≤ 8000 →
    ∃ u' z7 z8, forL [] (asg (.tp [.nm 7, .nm 8])) (evSs (Ph (n + 1)) g0 [.set 6 (.bin .fdiv (.bin .mul (.var 6) (.ix (.var 7) (.var 8))) (.call 0 [.var 6, .ix (.var 7) (.var 8)])), .frz 6]) (ps.map inj) [a0, a1, a2, a3, a4, a5, some (.int u), y7, y8, a9, a10] = .ok .next [a0, a1, a2, a3, a4, a5, some (.int u'), z7, z8, a9, a10] ∧
      0 < u' ∧ u ∣ u' ∧ (∀ p ∈ ps, at0 p.1 p.2 ∣ u') ∧ u'.natAbs < 2 ^ (k + 1215 * ps.length)
  | [], u, y7, y8, k, _, h0, hk, _ => ⟨u, y7, y8, rfl, h0, Int.dvd_refl u, (fun _ h => by cases h), by simpa using hk⟩
  | p :: ps, u, y7, y8, k, hp, h0, hk, hl => by
    obtain ⟨p1, p2, p3, p4⟩ := hp p (by simp)
    obtain ⟨c1, c2, c3, c4, c5, c6⟩ := lc_props h0 p4
    have hd := at0_bd p3 p.2
    have hb : (lc u (at0 p.1 p.2)).natAbs < 2 ^ (k + 1215) := Nat.lt_of_le_of_lt c4 (natAbs_mul_lt hk hd)
    rw [List.length_cons] at hl
    obtain ⟨u', z7, z8, e, d1, d2, d3, d4⟩ := lcm_loop n a0 a1 a2 a3 a4 a5 a9 a10 ps (lc u (at0 p.1 p.2)) (some (iT p.1)) (some (.int (p.2 : Nat))) (k + 1215) (fun q hq => hp q (by simp [hq])) c1 hb (by omega)
    refine ⟨u', z7, z8, ?_, d1, Int.dvd_trans c2 d2, fun q hq => ?_, ?_⟩
    · show (evSs (Ph (n + 1)) g0 _ [a0, a1, a2, a3, a4, a5, some (.int u), some (iT p.1), some (.int (p.2 : Nat)), a9, a10]).bind _ = _
      have hix := ix_at0 (d := iT p.1) rfl p1
      rw [V.seq_n (r := .ok .next [a0, a1, a2, a3, a4, a5, some (.int (lc u (at0 p.1 p.2))), some (iT p.1), some (.int (p.2 : Nat)), a9, a10]) (V.set_ok (x := .int (lc u (at0 p.1 p.2))) (ρ1 := [a0, a1, a2, a3, a4, a5, some (.int u), some (iT p.1), some (.int (p.2 : Nat)), a9, a10]) (V.bin_ok (V.bin_ok (V.var_ok rfl) (V.ix_ok (V.var_ok rfl) (V.var_ok rfl) hix) (b_mul (mulOk_of hk hd (by omega) (by omega)))) (V.call_ok (V.Es2 (V.var_ok rfl) (V.ix_ok (V.var_ok rfl) (V.var_ok rfl) hix)) (shared_ok n u (at0 p.1 p.2)) rfl) (b_fdiv (divOk_of c5 (Nat.lt_of_le_of_lt (by simpa using c6) (Nat.lt_of_lt_of_le hd (pow_le2 (by omega)))))))) (V.seq_f snil)]
      exact e
    · rcases List.mem_cons.mp hq with r | r
      · rw [r]; exact Int.dvd_trans c3 d2
      · exact d3 q r
    · rw [List.length_cons]
      have : k + 1215 * (ps.length + 1) = k + 1215 + 1215 * ps.length := by omega
      rw [this]; exact d4
def fill (val : List Int → Nat → Int) : List (List Int × Nat) → List Int → List Int
  | [], W => W
  | p :: ps, W => fill val ps (W.set p.2 (val p.1 p.2))
theorem fill_len {val : List Int → Nat → Int} : ∀ (ps : List (List Int × Nat)) (W : List Int), (fill val ps W).length = W.length
  | [], W => rfl
  | p :: ps, W => by rw [fill, fill_len ps]; simp
theorem at0_set {W : List Int} {i j : Nat} {v : Int} (h : i < W.length) : at0 (W.set i v) j = if i = j then v else at0 W j := by
  unfold at0
  rw [List.getD_eq_getElem?_getD, List.getD_eq_getElem?_getD, List.getElem?_set]
  by_cases q : i = j
  · subst q; simp [h]
  · simp [q]
theorem fill_out {val : List Int → Nat → Int} {i : Nat} : ∀ (ps : List (List Int × Nat)) (W : List Int), (∀ p ∈ ps, p.2 < W.length) → (∀ p ∈ ps, p.2 ≠ i) → at0 (fill val ps W) i = at0 W i
  | [], W, _, _ => rfl
  | p :: ps, W, hl, h => by
    rw [fill, fill_out ps _ (fun q hq => by rw [List.length_set]; exact hl q (by simp [hq])) fun q hq => h q (by simp [hq]), at0_set (hl p (by simp)), if_neg (h p (by simp))]
theorem fill_in {val : List Int → Nat → Int} : ∀ (ps : List (List Int × Nat)) (W : List Int), (ps.map (·.2)).Nodup → (∀ p ∈ ps, p.2 < W.length) → ∀ p ∈ ps, at0 (fill val ps W) p.2 = val p.1 p.2
  | [], _, _, _, _, h => by cases h
  | q :: ps, W, hn, hl, p, hp => by
    rw [List.map_cons, List.nodup_cons] at hn
    have hl' : ∀ p ∈ ps, p.2 < (W.set q.2 (val q.1 q.2)).length := fun p hp => by rw [List.length_set]; exact hl p (by simp [hp])
    rcases List.mem_cons.mp hp with e | e
    · subst e
      rw [fill, fill_out ps _ hl' (fun r hr z => hn.1 (List.mem_map.mpr ⟨r, hr, z⟩)), at0_set (hl p (by simp)), if_pos rfl]
    · rw [fill]
      exact fill_in ps _ hn.2 hl' p e
theorem fill_bd {val : List Int → Nat → Int} {k : Nat} : ∀ (ps : List (List Int × Nat)) (W : List Int), (∀ p ∈ ps, (val p.1 p.2).natAbs < 2 ^ k) → Bd k W → Bd k (fill val ps W)
  | [], W, _, h => h
  | p :: ps, W, hv, h => by
    refine fill_bd ps _ (fun q hq => hv q (by simp [hq])) fun x hx => ?_
    rcases List.mem_or_eq_of_mem_set hx with r | r
    · exact h x r
    · rw [r]; exact hv p (by simp)
theorem setD_int {W : List Int} {p : Nat} {v : Int} (h : p < W.length) : setD (iL W) (.int (p : Nat)) (.int v) = some (iL (W.set p v)) := by
  simp only [setD]
  rw [plc_nat (by simpa using h), Option.map_some]
  simp only [iL, List.map_set]
def valz (f : Nat) (u : Int) (r : List Int) (p : Nat) : Int := (- at0 r f * u).fdiv (at0 r p)
theorem set_loop (Φ : Fns) {w f : Nat} {u : Int} (hf : f < w) (hu : u.natAbs < 2 ^ 8000) (a0 a1 a2 a3 a4 a10 : Option D) : ∀ (ps : List (List Int × Nat)) (W : List Int) (y7 y8 : Option D), Pr w ps → W.length = w →
    ∃ z7 z8, forL [] (asg (.tp [.nm 7, .nm 8])) (evSs Φ g0 [.setix 9 (.var 8) (.bin .fdiv (.bin .mul (.neg (.ix (.var 7) (.var 5))) (.var 6)) (.ix (.var 7) (.var 8)))]) (ps.map inj) [a0, a1, a2, a3, a4, some (.int (f : Nat)), some (.int u), y7, y8, some (iL W), a10] = .ok .next [a0, a1, a2, a3, a4, some (.int (f : Nat)), some (.int u), z7, z8, some (iL (fill (valz f u) ps W)), a10]
  | [], W, y7, y8, _, _ => ⟨y7, y8, rfl⟩
  | p :: ps, W, y7, y8, hp, hW => by
    obtain ⟨p1, p2, p3, p4⟩ := hp p (by simp)
    obtain ⟨z7, z8, e⟩ := set_loop Φ hf hu a0 a1 a2 a3 a4 a10 ps (W.set p.2 (valz f u p.1 p.2)) (some (iT p.1)) (some (.int (p.2 : Nat))) (fun q hq => hp q (by simp [hq])) (by simpa using hW)
    refine ⟨z7, z8, ?_⟩
    show (evSs Φ g0 _ [a0, a1, a2, a3, a4, some (.int (f : Nat)), some (.int u), some (iT p.1), some (.int (p.2 : Nat)), some (iL W), a10]).bind _ = _
    rw [V.seq_n (r := .ok .next [a0, a1, a2, a3, a4, some (.int (f : Nat)), some (.int u), some (iT p.1), some (.int (p.2 : Nat)), some (iL (W.set p.2 (valz f u p.1 p.2))), a10]) (V.setix_ok (v := .int (valz f u p.1 p.2)) (ρ1 := [a0, a1, a2, a3, a4, some (.int (f : Nat)), some (.int u), some (iT p.1), some (.int (p.2 : Nat)), some (iL W), a10]) rfl (V.bin_ok (V.bin_ok (V.neg_ok (V.ix_ok (V.var_ok rfl) (V.var_ok rfl) (ix_at0 (d := iT p.1) rfl (i := f) (by omega)))) (V.var_ok rfl) (b_mul (mulOk_of (k := 1215) (by rw [Int.natAbs_neg]; exact at0_bd p3 f) hu (by omega) (by omega)))) (V.ix_ok (V.var_ok rfl) (V.var_ok rfl) (ix_at0 (d := iT p.1) rfl p1)) (b_fdiv (divOk_of (by omega) (Nat.lt_of_lt_of_le (at0_bd p3 _) (pow_le2 (by omega)))))) (V.var_ok rfl) rfl (setD_int (by omega))) snil]
    exact e
theorem notin_nat (f : Nat) (P : List Nat) : cmpD .notin (.int (f : Nat)) (.tup (iN P)) = some (!decide (f ∈ P)) := by
  have e : iN P = (P.map fun (p : Nat) => (p : Int)).map D.int := by simp [iN, List.map_map, Function.comp_def]
  simp only [cmpD]
  rw [e, mem_inD, Option.map_some]
  congr 2
  rw [decide_eq_decide, List.mem_map]
  exact ⟨fun ⟨a, h, e⟩ => by have : a = f := by omega
                             rw [← this]; exact h, fun h => ⟨f, h, rfl⟩⟩
theorem isin_nat (f : Nat) (P : List Nat) : cmpD .isin (.int (f : Nat)) (.tup (iN P)) = some (decide (f ∈ P)) := by
  have e : iN P = (P.map fun (p : Nat) => (p : Int)).map D.int := by simp [iN, List.map_map, Function.comp_def]
  simp only [cmpD]
  rw [e, mem_inD]
  congr 1
  rw [decide_eq_decide, List.mem_map]
  exact ⟨fun ⟨a, h, e⟩ => by have : a = f := by omega
                             rw [← this]; exact h, fun h => ⟨f, h, rfl⟩⟩
/-- what stairs leave is good for words -/
theorem Sg.pr {w c h B : Nat} {R F L : List (List Int)} {P : List Nat} (s : Sg w c h B R F P L) (hc : c ≤ w) (hh : h ≤ 5) (hB : B ≤ 37) : Pr w (F.zip P) ∧ (F.zip P).length = P.length ∧ P.length ≤ 5 ∧ ((F.zip P).map (·.2)) = P ∧ ∀ k, k < P.length → (fk F k, pk P k) ∈ F.zip P := by
  have hl := s.st.len
  have hcn := s.cnt
  have hget : ∀ k, (h : k < (F.zip P).length) → (F.zip P)[k] = (fk F k, pk P k) := fun k h => by
    have h' : k < F.length ∧ k < P.length := by simp at h; omega
    rw [List.getElem_zip, fk_get h'.1, pk_get h'.2]
  refine ⟨fun p hp => ?_, by simp; omega, by omega, by rw [List.map_snd_zip (by omega)], fun k hk => ?_⟩
  · obtain ⟨k, hk, e⟩ := List.mem_iff_getElem.mp hp
    rw [hget k hk] at e
    subst e
    have h' : k < F.length ∧ k < P.length := by simp at hk; omega
    have hf := s.fs (fk F k) (by rw [fk_get h'.1]; exact List.getElem_mem _)
    have hlt := s.st.lt _ (pk_mem h'.2)
    refine ⟨?_, hf.1, hf.2.1.mono ?_, s.st.pos k h'.2⟩
    · show pk P k < (fk F k).length
      rw [hf.1]; omega
    · refine Nat.le_trans (bb_le (l := 5) (by omega)) ?_
      unfold bb; omega
  · have : k < (F.zip P).length := by simp; omega
    rw [← hget k this]
    exact List.getElem_mem _
theorem dt_low (w : Nat) (W : List Int) (r : List Int) : dt w r (at0 W) = cm W * dt w r (at0 (low W)) := by
  unfold dt
  rw [← sumN_mul]
  refine sumN_congr fun i _ => ?_
  rw [← at0_low W i]; grind
/-- what is asked of a word of a free column -/
def ZP (w : Nat) (R : List (List Int)) (P : List Nat) (f : Nat) (Z : List Int) : Prop := Z.length = w ∧ Bd 9000 Z ∧ gcdL Z = 1 ∧ 0 < at0 Z f ∧ (∀ k, k < w → k ∉ P → k ≠ f → at0 Z k = 0) ∧ sol w R (at0 Z)
theorem word_props {w c : Nat} {R F L : List (List Int)} {P : List Nat} (s : St w c R F P L) (hcw : c ≤ w) (hcl : (F.zip P).map (·.2) = P) (hp : Pr w (F.zip P)) (hmem : ∀ k, k < P.length → (fk F k, pk P k) ∈ F.zip P) {f : Nat} (hf : f < w) (hfp : f ∉ P) {u : Int} (hu : 0 < u) (hd : ∀ p ∈ F.zip P, at0 p.1 p.2 ∣ u)
    {W0 W : List Int} (hW0 : W0.length = w) (h0 : ∀ i, at0 W0 i = if i = f then u else 0) (e : W = fill (valz f u) (F.zip P) W0) : W.length = w ∧ at0 W f = u ∧ (∀ k, k < w → k ∉ P → k ≠ f → at0 W k = 0) ∧ sol w F (at0 W) := by
  have hn : ((F.zip P).map (·.2)).Nodup := by rw [hcl]; exact s.pw.imp fun h => by omega
  have hlt : ∀ p ∈ F.zip P, p.2 < W0.length := fun p hq => by
    obtain ⟨p1, p2, _, _⟩ := hp p hq; omega
  have hne : ∀ i, i ∉ P → ∀ p ∈ F.zip P, p.2 ≠ i := fun i hi p hq z => hi (by rw [← hcl]; exact List.mem_map.mpr ⟨p, hq, z⟩)
  have hWf : at0 W f = u := by rw [e, fill_out _ _ hlt (hne f hfp), h0, if_pos rfl]
  have hWk : ∀ k, k < w → k ∉ P → k ≠ f → at0 W k = 0 := fun k _ h1 h2 => by rw [e, fill_out _ _ hlt (hne k h1), h0, if_neg h2]
  refine ⟨by rw [e, fill_len, hW0], hWf, hWk, s.free hcw hf hfp (fun k hk => ?_) hWk⟩
  have hm := hmem k hk
  have e1 : at0 W (pk P k) = valz f u (fk F k) (pk P k) := by rw [e]; exact fill_in _ _ hn hlt _ hm
  rw [e1, hWf]
  unfold valz
  rw [Int.mul_comm]
  exact Int.mul_fdiv_cancel' (Int.dvd_trans (hd _ hm) (Int.dvd_mul_left _ u))
theorem val_bd {w f k : Nat} {u : Int} {r : List Int} {p : Nat} (hb : Bd 1215 r) (hu : u.natAbs < 2 ^ k) (hd : at0 r p ∣ u) (hp : 0 < at0 r p) : (valz f u r p).natAbs < 2 ^ (1215 + k) := by
  unfold valz
  have h1 := natAbs_div_le (- at0 r f * u) (at0 r p) hp (Int.dvd_trans hd (Int.dvd_mul_left _ u))
  refine Nat.lt_of_le_of_lt h1 (natAbs_mul_lt ?_ hu)
  rw [Int.natAbs_neg]; exact at0_bd hb f
abbrev zBody : List S := [.set 6 (.con (.int 1)), .frz 6, .loop [] (.tp [.nm 7, .nm 8]) .zip [.var 2, .var 3] [.set 6 (.bin .fdiv (.bin .mul (.var 6) (.ix (.var 7) (.var 8))) (.call 0 [.var 6, .ix (.var 7) (.var 8)])), .frz 6], .set 9 (.bin .mul (.lst [.con (.int 0)]) (.var 1)), .setix 9 (.var 5) (.var 6), .loop [] (.tp [.nm 7, .nm 8]) .zip [.var 2, .var 3] [.setix 9 (.var 8) (.bin .fdiv (.bin .mul (.neg (.ix (.var 7) (.var 5))) (.var 6)) (.ix (.var 7) (.var 8)))], .app 4 (.call 2 [.var 9])]
theorem zip_inj (F : List (List Int)) (P : List Nat) : itD .zip [.tup (F.map iT), .tup (iN P)] = some ((F.zip P).map inj) := by
  simp only [itD, seqD, Option.bind_some, Option.map_some]
  rw [zipD_map]
theorem at0_one {w f : Nat} (hf : f < w) (u : Int) (i : Nat) : at0 ((List.replicate w 0).set f u) i = if i = f then u else 0 := by
  rw [at0_set (by simpa using hf)]
  have hz : at0 (List.replicate w (0 : Int)) i = 0 := by
    unfold at0
    rw [List.getD_eq_getElem?_getD, List.getElem?_replicate]
    split <;> rfl
  rw [hz]
  by_cases q : f = i
  · rw [if_pos q, if_pos q.symm]
  · rw [if_neg q, if_neg fun z => q z.symm]
theorem zBody_ok (n : Nat) {w h B f : Nat} {R F L : List (List Int)} {P : List Nat} {a0 y6 y7 y8 y9 y10 : Option D} {base : List D} (s : Sg w w h B R F P L) (hw : w ≤ 6) (hh : h ≤ 5) (hB : B ≤ 37) (hf : f < w) (hfp : f ∉ P) (hbl : base.length < 100) :
    ∃ Z z6 z7 z8 z9, ZP w R P f Z ∧ evSs (Ph (n + 5)) g0 zBody [a0, some (.int w), some (.tup (F.map iT)), some (.tup (iN P)), some (.lst base), some (.int (f : Nat)), y6, y7, y8, y9, y10] = .ok .next [a0, some (.int w), some (.tup (F.map iT)), some (.tup (iN P)), some (.lst (base ++ [iT Z])), some (.int (f : Nat)), z6, z7, z8, z9, y10] := by
  obtain ⟨hp, hpl, hp5, hps, hmem⟩ := s.pr (by omega) hh hB
  obtain ⟨u, z7, z8, e1, d1, d2, d3, d4⟩ := lcm_loop (n + 4) a0 (some (.int w)) (some (.tup (F.map iT))) (some (.tup (iN P))) (some (.lst base)) (some (.int (f : Nat))) y9 y10 (F.zip P) 1 y7 y8 1 hp (by omega) (by decide) (by omega)
  have hu : u.natAbs < 2 ^ 6076 := Nat.lt_of_lt_of_le d4 (pow_le2 (by omega))
  obtain ⟨z7', z8', e2⟩ := set_loop (Ph (n + 5)) hf (Nat.lt_of_lt_of_le hu (pow_le2 (by omega))) a0 (some (.int w)) (some (.tup (F.map iT))) (some (.tup (iN P))) (some (.lst base)) y10 (F.zip P) ((List.replicate w 0).set f u) z7 z8 hp (by simp)
  generalize hW : fill (valz f u) (F.zip P) ((List.replicate w 0).set f u) = W at e2
  obtain ⟨w1, w2, w3, w4⟩ := word_props s.st (by omega) hps hp hmem hf hfp d1 d3 (W0 := (List.replicate w 0).set f u) (by simp) (at0_one hf u) hW.symm
  have hWb : Bd 9000 W := by
    rw [← hW]
    refine Bd.mono (k := 1215 + 6076) (fill_bd _ _ (fun p hq => ?_) fun x hx => ?_) (by omega)
    · obtain ⟨p1, p2, p3, p4⟩ := hp p hq
      exact val_bd (w := w) p3 hu (d3 p hq) p4
    · rcases List.mem_or_eq_of_mem_set hx with r | r
      · rw [(List.mem_replicate.mp r).2]; exact Nat.two_pow_pos _
      · rw [r]; exact Nat.lt_of_lt_of_le hu (pow_le2 (by omega))
  have hcm := cm_pos W
  have hl := lowest_ok (n + 2) (d := iL W) rfl hWb (by omega)
  refine ⟨low W, some (.int u), z7', z8', some (iL W), ⟨by rw [low_len, w1], low_bd hWb, low_gcd (gcdL_ne (i := f) (by omega)), pos_right hcm (by rw [at0_low]; omega), fun k hk1 hk2 hk3 => ?_, fun r hr => ?_⟩, ?_⟩
  · have := at0_low W k
    rw [w3 k hk1 hk2 hk3] at this
    exact (Int.mul_eq_zero.mp this).resolve_left (by omega)
  · have := (s.st.fin _).mpr w4 r hr
    rw [dt_low] at this
    exact (Int.mul_eq_zero.mp this).resolve_left (by omega)
  · refine V.seq_n (V.set_ok V.con_ok) (V.seq_f (V.seq_n ((V.loop_okp (ik := .zip) (ds := [.tup (F.map iT), .tup (iN P)]) (V.Es2 (V.var_ok rfl) (V.var_ok rfl)) (zip_inj F P)).trans e1) (V.seq_n (V.set_ok (x := iL (List.replicate w 0)) (V.bin_ok (V.lst_ok (V.Es1 V.con_ok)) (V.var_ok rfl) (zeroL w (by omega)))) (V.seq_n (V.setix_ok (y := iL ((List.replicate w 0).set f u)) rfl (V.var_ok rfl) (V.var_ok rfl) rfl (setD_int (by simpa using hf))) (V.seq_n ((V.loop_okp (ik := .zip) (ds := [.tup (F.map iT), .tup (iN P)]) (V.Es2 (V.var_ok rfl) (V.var_ok rfl)) (zip_inj F P)).trans e2) (V.seq_n (V.app_ok rfl (V.call_ok (V.Es1 (V.var_ok rfl)) hl rfl) rfl (by simp [sizeLine]; omega)) (snil.trans ?_)))))))
    rfl
theorem zeros_loop (n : Nat) {w h B : Nat} {R F L : List (List Int)} {P : List Nat} {a0 y10 : Option D} (s : Sg w w h B R F P L) (hw : w ≤ 6) (hh : h ≤ 5) (hB : B ≤ 37) : ∀ (fs : List Nat) (acc : List (List Int)) (y5 y6 y7 y8 y9 : Option D), (∀ f ∈ fs, f < w ∧ f ∉ P) → acc.length + fs.length ≤ 100 →
    ∃ (Zs : List (List Int)) (z5 z6 z7 z8 z9 : Option D), Zs.length = fs.length ∧ (∀ p ∈ fs.zip Zs, ZP w R P p.1 p.2) ∧ forL [] (asg (.nm 5)) (evSs (Ph (n + 5)) g0 zBody) (iN fs) [a0, some (.int w), some (.tup (F.map iT)), some (.tup (iN P)), some (.lst (acc.map iT)), y5, y6, y7, y8, y9, y10] = .ok .next [a0, some (.int w), some (.tup (F.map iT)), some (.tup (iN P)), some (.lst ((acc ++ Zs).map iT)), z5, z6, z7, z8, z9, y10]
  | [], acc, y5, y6, y7, y8, y9, _, _ => ⟨[], y5, y6, y7, y8, y9, rfl, (fun _ h => by cases h), by rw [List.append_nil]; rfl⟩
  | f :: fs, acc, y5, y6, y7, y8, y9, hf, hl => by
    have hf1 := hf f (by simp)
    rw [List.length_cons] at hl
    obtain ⟨Z, z6, z7, z8, z9, hz, e⟩ := zBody_ok n (a0 := a0) (y6 := y6) (y7 := y7) (y8 := y8) (y9 := y9) (y10 := y10) (base := acc.map iT) s hw hh hB hf1.1 hf1.2 (by simp; omega)
    obtain ⟨Zs, x5, x6, x7, x8, x9, h1, h2, h3⟩ := zeros_loop n (a0 := a0) (y10 := y10) s hw hh hB fs (acc ++ [Z]) (some (.int (f : Nat))) z6 z7 z8 z9 (fun g hg => hf g (by simp [hg])) (by simp; omega)
    refine ⟨Z :: Zs, x5, x6, x7, x8, x9, by simp [h1], fun p hp => ?_, ?_⟩
    · rw [List.zip_cons_cons] at hp
      rcases List.mem_cons.mp hp with r | r
      · rw [r]; exact hz
      · exact h2 p r
    · show (evSs (Ph (n + 5)) g0 zBody [a0, some (.int w), some (.tup (F.map iT)), some (.tup (iN P)), some (.lst (acc.map iT)), some (.int (f : Nat)), y6, y7, y8, y9, y10]).bind _ = _
      rw [e]
      have : acc ++ Z :: Zs = acc ++ [Z] ++ Zs := by simp
      rw [this, ← h3]
      simp [PX.R.bind]
theorem zeros_ok (n : Nat) {d : D} {w h B : Nat} {R F L : List (List Int)} {P : List Nat} (s : Sg w w h B R F P L) (hw : w ≤ 6) (hh : h ≤ 5) (hB : B ≤ 37) (hcall : Ph (n + 5) 11 [d, .int w] = .ok (.tup [.tup (F.map iT), .tup (iN P)]) []) :
    ∃ Zs : List (List Int), Zs.length = ((List.range w).filter fun f => !decide (f ∈ P)).length ∧ (∀ p ∈ ((List.range w).filter fun f => !decide (f ∈ P)).zip Zs, ZP w R P p.1 p.2) ∧ Ph (n + 6) 14 [d, .int w] = .ok (.tup (Zs.map iT)) [] := by
  have h59 : (2:Nat)^59 = 576460752303423488 := by decide
  have hfl : ((List.range w).filter fun f => !decide (f ∈ P)).length ≤ w := by simpa using List.length_filter_le (fun f => !decide (f ∈ P)) (List.range w)
  obtain ⟨Zs, z5, z6, z7, z8, z9, h1, h2, h3⟩ := zeros_loop n (a0 := some d) (y10 := none) s hw hh hB ((List.range w).filter fun f => !decide (f ∈ P)) [] none none none none none (fun f hf => by
    rw [List.mem_filter] at hf
    exact ⟨by simpa using hf.1, by simpa using hf.2⟩) (by simp; omega)
  refine ⟨Zs, h1, h2, Ph_run (F := fn_zeros) rfl (V.run_ret (ρ := [some d, some (.int w), some (.tup (F.map iT)), some (.tup (iN P)), some (.lst (Zs.map iT)), z5, z6, z7, z8, z9, none]) rfl ?_ rfl)⟩
  have hcomp : evE (Ph (n + 5)) g0 (.comp [10] (.nm 10) .range [.var 1] [.cmp .notin (.var 10) (.var 3)] (.var 10)) [some d, some (.int w), some (.tup (F.map iT)), some (.tup (iN P)), some (.lst []), none, none, none, none, none, none] = .ok (.lst (iN ((List.range w).filter fun f => !decide (f ∈ P)))) [some d, some (.int w), some (.tup (F.map iT)), some (.tup (iN P)), some (.lst []), none, none, none, none, none, none] :=
    V.comp_filt (α := Nat) (ik := .range) (ds := [.int w]) (fun k => D.int (k : Nat)) (fun f => !decide (f ∈ P)) (fun (k : Nat) => D.int k) (List.range w) (V.Es1 (V.var_ok rfl)) (range_it1 w (by omega)) (fits_ok (by simp; omega)) fun k hk => ⟨_, rfl, V.cmp_ok (V.var_ok rfl) (V.var_ok rfl) (notin_nat k P), (fun _ => V.var_ok rfl), rfl⟩
  refine V.seq_n (ρ' := [some d, some (.int w), some (.tup (F.map iT)), some (.tup (iN P)), none, none, none, none, none, none, none]) ?_ (V.seq_n (V.set_ok (V.lst_ok V.Es0)) (V.seq_n ((V.loop_okp (ik := .seq) (ds := [.lst (iN ((List.range w).filter fun f => !decide (f ∈ P)))]) (V.Es1 hcomp) rfl).trans h3) (V.seq_ret (V.ret_ok (V.bi1 (V.pk_ok rfl) rfl)))))
  simp only [evS]
  rw [V.call_ok (V.Es2 (V.var_ok rfl) (V.var_ok rfl)) hcall rfl]
  rfl
end P00
end
section
set_option autoImplicit false
set_option linter.all false
set_option maxRecDepth 8000
set_option exponentiation.threshold 10000
namespace P00
open PX M00
theorem lcm_loop2 (n : Nat) {w : Nat} (a0 a1 a2 a3 a4 a8 a9 : Option D) : ∀ (ps : List (List Int × Nat)) (u : Int) (y7 y8 : Option D) (k : Nat), Pr w ps → 0 < u → u.natAbs < 2 ^ k → k + 1215 * ps.length ≤ 8000 →
    ∃ u' z7 z8, forL [] (asg (.tp [.nm 6, .nm 7])) (evSs (Ph (n + 1)) g0 [.set 5 (.bin .fdiv (.bin .mul (.var 5) (.ix (.var 6) (.var 7))) (.call 0 [.var 5, .ix (.var 6) (.var 7)])), .frz 5]) (ps.map inj) [a0, a1, a2, a3, a4, some (.int u), y7, y8, a8, a9] = .ok .next [a0, a1, a2, a3, a4, some (.int u'), z7, z8, a8, a9] ∧
      0 < u' ∧ u ∣ u' ∧ (∀ p ∈ ps, at0 p.1 p.2 ∣ u') ∧ u'.natAbs < 2 ^ (k + 1215 * ps.length)
  | [], u, y7, y8, k, _, h0, hk, _ => ⟨u, y7, y8, rfl, h0, Int.dvd_refl u, (fun _ h => by cases h), by simpa using hk⟩
  | p :: ps, u, y7, y8, k, hp, h0, hk, hl => by
    obtain ⟨p1, p2, p3, p4⟩ := hp p (by simp)
    obtain ⟨c1, c2, c3, c4, c5, c6⟩ := lc_props h0 p4
    have hd := at0_bd p3 p.2
    have hb : (lc u (at0 p.1 p.2)).natAbs < 2 ^ (k + 1215) := Nat.lt_of_le_of_lt c4 (natAbs_mul_lt hk hd)
    rw [List.length_cons] at hl
    obtain ⟨u', z7, z8, e, d1, d2, d3, d4⟩ := lcm_loop2 n a0 a1 a2 a3 a4 a8 a9 ps (lc u (at0 p.1 p.2)) (some (iT p.1)) (some (.int (p.2 : Nat))) (k + 1215) (fun q hq => hp q (by simp [hq])) c1 hb (by omega)
    refine ⟨u', z7, z8, ?_, d1, Int.dvd_trans c2 d2, fun q hq => ?_, ?_⟩
    · show (evSs (Ph (n + 1)) g0 _ [a0, a1, a2, a3, a4, some (.int u), some (iT p.1), some (.int (p.2 : Nat)), a8, a9]).bind _ = _
      have hix := ix_at0 (d := iT p.1) rfl p1
      rw [V.seq_n (r := .ok .next [a0, a1, a2, a3, a4, some (.int (lc u (at0 p.1 p.2))), some (iT p.1), some (.int (p.2 : Nat)), a8, a9]) (V.set_ok (x := .int (lc u (at0 p.1 p.2))) (ρ1 := [a0, a1, a2, a3, a4, some (.int u), some (iT p.1), some (.int (p.2 : Nat)), a8, a9]) (V.bin_ok (V.bin_ok (V.var_ok rfl) (V.ix_ok (V.var_ok rfl) (V.var_ok rfl) hix) (b_mul (mulOk_of hk hd (by omega) (by omega)))) (V.call_ok (V.Es2 (V.var_ok rfl) (V.ix_ok (V.var_ok rfl) (V.var_ok rfl) hix)) (shared_ok n u (at0 p.1 p.2)) rfl) (b_fdiv (divOk_of c5 (Nat.lt_of_le_of_lt (by simpa using c6) (Nat.lt_of_lt_of_le hd (pow_le2 (by omega)))))))) (V.seq_f snil)]
      exact e
    · rcases List.mem_cons.mp hq with r | r
      · rw [r]; exact Int.dvd_trans c3 d2
      · exact d3 q r
    · rw [List.length_cons]
      have : k + 1215 * (ps.length + 1) = k + 1215 + 1215 * ps.length := by omega
      rw [this]; exact d4
def vals (w : Nat) (u : Int) (r : List Int) (p : Nat) : Int := (at0 r w * u).fdiv (at0 r p)
theorem set_loop2 (Φ : Fns) {w : Nat} {u : Int} (hu : u.natAbs < 2 ^ 8000) (a0 a1 a3 a4 a9 : Option D) : ∀ (ps : List (List Int × Nat)) (W : List Int) (y7 y8 : Option D), Pr (w + 1) ps → (∀ p ∈ ps, p.2 < w) → W.length = w →
    ∃ z7 z8, forL [] (asg (.tp [.nm 6, .nm 7])) (evSs Φ g0 [.setix 8 (.var 7) (.bin .fdiv (.bin .mul (.ix (.var 6) (.var 2)) (.var 5)) (.ix (.var 6) (.var 7)))]) (ps.map inj) [a0, a1, some (.int (w : Nat)), a3, a4, some (.int u), y7, y8, some (iL W), a9] = .ok .next [a0, a1, some (.int (w : Nat)), a3, a4, some (.int u), z7, z8, some (iL (fill (vals w u) ps W)), a9]
  | [], W, y7, y8, _, _, _ => ⟨y7, y8, rfl⟩
  | p :: ps, W, y7, y8, hp, hlt, hW => by
    obtain ⟨p1, p2, p3, p4⟩ := hp p (by simp)
    have hpw := hlt p (by simp)
    obtain ⟨z7, z8, e⟩ := set_loop2 Φ hu a0 a1 a3 a4 a9 ps (W.set p.2 (vals w u p.1 p.2)) (some (iT p.1)) (some (.int (p.2 : Nat))) (fun q hq => hp q (by simp [hq])) (fun q hq => hlt q (by simp [hq])) (by simpa using hW)
    refine ⟨z7, z8, ?_⟩
    show (evSs Φ g0 _ [a0, a1, some (.int (w : Nat)), a3, a4, some (.int u), some (iT p.1), some (.int (p.2 : Nat)), some (iL W), a9]).bind _ = _
    rw [V.seq_n (r := .ok .next [a0, a1, some (.int (w : Nat)), a3, a4, some (.int u), some (iT p.1), some (.int (p.2 : Nat)), some (iL (W.set p.2 (vals w u p.1 p.2))), a9]) (V.setix_ok (v := .int (vals w u p.1 p.2)) (ρ1 := [a0, a1, some (.int (w : Nat)), a3, a4, some (.int u), some (iT p.1), some (.int (p.2 : Nat)), some (iL W), a9]) rfl (V.bin_ok (V.bin_ok (V.ix_ok (V.var_ok rfl) (V.var_ok rfl) (ix_at0 (d := iT p.1) rfl (i := w) (by omega))) (V.var_ok rfl) (b_mul (mulOk_of (k := 1215) (at0_bd p3 w) hu (by omega) (by omega)))) (V.ix_ok (V.var_ok rfl) (V.var_ok rfl) (ix_at0 (d := iT p.1) rfl p1)) (b_fdiv (divOk_of (by omega) (Nat.lt_of_lt_of_le (at0_bd p3 _) (pow_le2 (by omega)))))) (V.var_ok rfl) rfl (setD_int (by omega))) snil]
    exact e
theorem at0_app_l {r : List Int} {q : Int} {i : Nat} (h : i < r.length) : at0 (r ++ [q]) i = at0 r i := getD_app_l h
theorem at0_app_r {r : List Int} {q : Int} {w : Nat} (h : r.length = w) : at0 (r ++ [q]) w = q := by subst h; exact getD_app_r
theorem dt_app {w : Nat} {r : List Int} {q : Int} (h : r.length = w) (x : Nat → Int) : dt (w + 1) (r ++ [q]) x = dt w r x + q * x w := by
  show sumN w (fun i => at0 (r ++ [q]) i * x i) + at0 (r ++ [q]) w * x w = _
  rw [at0_app_r h]
  congr 1
  exact sumN_congr fun i hi => by rw [at0_app_l (by omega)]
def aug (rows : List (List Int)) (due : List Int) : List (List Int) := (rows.zip due).map fun p => p.1 ++ [p.2]
/-- what is asked of a place that is told -/
structure TP (w : Nat) (rows : List (List Int)) (due : List Int) (P : List Nat) (T : List Int) : Prop where
  len : T.length = w + 1
  pos : 0 < at0 T w
  gcd : gcdL T = 1
  bd : Bd 9000 T
  zero : ∀ k, k < w → k ∉ P → at0 T k = 0
  eq : ∀ p ∈ rows.zip due, dt w p.1 (at0 T) = p.2 * at0 T w
theorem zip_rows {d e : D} {q : List Int → D} {rows : List (List Int)} {due : List Int} (hd : Sq d (rows.map q)) (he : Iq e due) : itD .zip [d, e] = some ((rows.zip due).map fun p => D.tup [q p.1, .int p.2]) := by
  unfold Iq Sq at *
  simp only [itD, hd, he, Option.bind_some, Option.map_some, zipD_map]
theorem aug_ev (Φ : Fns) (q : List Int → D) (hq : ∀ r, Iq (q r) r) {ρ : Env} {it1 it2 e6 : E} {d e : D} {x y : Nat} {rows : List (List Int)} {due : List Int} {w : Nat} (hd : Sq d (rows.map q)) (he : Iq e due) (h1 : evE Φ g0 it1 ρ = .ok d ρ) (h2 : evE Φ g0 it2 ρ = .ok e ρ) (hr : ∀ r ∈ rows, r.length = w) (hw : w ≤ 6) (hl : rows.length ≤ 16)
    (hx : x < ρ.length) (hy : y < ρ.length) (hxy : x ≠ y) (h6 : ∀ (ρ' : Env) (r : List Int), gt ρ' x = some (q r) → r.length ≤ 16 → evE Φ g0 e6 ρ' = .ok (iT r) ρ') :
    evE Φ g0 (.comp [x, y] (.tp [.nm x, .nm y]) .zip [it1, it2] [] (.bin .add e6 (.tup [.var y]))) ρ = .ok (.lst ((aug rows due).map iT)) ρ := by
  refine (V.comp_mapp (α := List Int × Int) (ik := .zip) (ds := [d, e]) (fun p => D.tup [q p.1, .int p.2]) (fun p => iT (p.1 ++ [p.2])) (rows.zip due) (V.Es2 h1 h2) (zip_rows hd he) (fits_ok (by simp; omega)) fun p hp => ?_).trans ?_
  · have hm := List.of_mem_zip hp
    have hr1 := hr _ hm.1
    have g1 : gt (st (st (wipe [x, y] ρ) x (some (q p.1))) y (some (.int p.2))) x = some (q p.1) := by
      rw [V.gt_st_ne (Ne.symm hxy), V.gt_st_eq (by rw [V.wipe_len]; exact hx)]
    have g2 : gt (st (st (wipe [x, y] ρ) x (some (q p.1))) y (some (.int p.2))) y = some (.int p.2) := V.gt_st_eq (by rw [V.st_len, V.wipe_len]; exact hy)
    refine ⟨st (st (wipe [x, y] ρ) x (some (q p.1))) y (some (.int p.2)), rfl, V.bin_ok (h6 _ _ g1 (by omega)) (V.tup_ok (V.Es1 (V.var_ok g2))) ?_, ?_⟩
    · simp only [binD, addD]
      rw [if_pos (fits_ok (by simp; omega))]
      simp
    · refine V.ext (by rw [V.wipe_len, V.st_len, V.st_len]) fun j => ?_
      by_cases q1 : j = x
      · subst q1
        show gt (st (st _ j none) y none) j = gt (st (st ρ j none) y none) j
        rw [V.gt_st_ne (Ne.symm hxy), V.gt_st_ne (Ne.symm hxy), V.gt_st_eq (by rw [V.st_len, V.st_len, V.wipe_len]; exact hx), V.gt_st_eq hx]
      · by_cases q2 : j = y
        · subst q2
          show gt (st (st _ x none) j none) j = gt (st (st ρ x none) j none) j
          rw [V.gt_st_eq (by rw [V.st_len, V.st_len, V.st_len, V.wipe_len]; exact hy), V.gt_st_eq (by rw [V.st_len]; exact hy)]
        · have hn : j ∉ [x, y] := by simp [q1, q2]
          rw [V.gt_wipe_out hn, V.gt_st_ne (Ne.symm q2), V.gt_st_ne (Ne.symm q1)]
  · simp [aug, List.map_map, Function.comp_def]
theorem aug_tab {rows : List (List Int)} {due : List Int} {h w : Nat} (ht : Tab h w 37 rows) (hl : due.length = h) (hb : Bd 37 due) : Tab h (w + 1) 37 (aug rows due) := by
  refine ⟨by simp [aug, ht.len, hl], fun r hr => ?_⟩
  obtain ⟨p, hp, rfl⟩ := List.mem_map.mp hr
  have hm := List.of_mem_zip hp
  refine ⟨by simp [(ht.row _ hm.1).1], fun x hx => ?_⟩
  rcases List.mem_append.mp hx with z | z
  · exact (ht.row _ hm.1).2 x z
  · rw [List.mem_singleton.mp z]; exact hb _ hm.2
theorem place_props {w : Nat} {rows F L : List (List Int)} {due : List Int} {P : List Nat} (s : St (w + 1) (w + 1) (aug rows due) F P L) (hcl : (F.zip P).map (·.2) = P) (hp : Pr (w + 1) (F.zip P)) (hmem : ∀ k, k < P.length → (fk F k, pk P k) ∈ F.zip P) (hwP : w ∉ P) (hr : ∀ r ∈ rows, r.length = w) {u : Int} (hu : 0 < u) (hd : ∀ p ∈ F.zip P, at0 p.1 p.2 ∣ u)
    {W : List Int} (e : W = fill (vals w u) (F.zip P) (List.replicate w 0)) (hb : Bd 9000 (W ++ [u])) : TP w rows due P (low (W ++ [u])) := by
  have hn : ((F.zip P).map (·.2)).Nodup := by rw [hcl]; exact s.pw.imp fun h => by omega
  have hPw : ∀ p ∈ P, p < w := fun p hp => by
    have := s.lt p hp
    have : p ≠ w := fun z => hwP (z ▸ hp)
    omega
  have hlt : ∀ p ∈ F.zip P, p.2 < (List.replicate w (0 : Int)).length := fun p hq => by
    rw [List.length_replicate]
    exact hPw _ (by rw [← hcl]; exact List.mem_map.mpr ⟨p, hq, rfl⟩)
  have hWl : W.length = w := by rw [e, fill_len, List.length_replicate]
  have hz : ∀ i, at0 (List.replicate w (0 : Int)) i = 0 := fun i => by
    unfold at0
    rw [List.getD_eq_getElem?_getD, List.getElem?_replicate]
    split <;> rfl
  have hWk : ∀ k, k ∉ P → at0 W k = 0 := fun k h1 => by
    rw [e, fill_out _ _ hlt (fun p hq z => h1 (by rw [← hcl]; exact List.mem_map.mpr ⟨p, hq, z⟩)), hz]
  have hcm := cm_pos (W ++ [u])
  have hT := fun i => at0_low (W ++ [u]) i
  have hx : sol (w + 1) F (at0 (W ++ [-u])) := by
    refine s.free (by omega) (f := w) (by omega) hwP (fun k hk => ?_) fun i hi h1 h2 => ?_
    · have hm := hmem k hk
      have hkw := hPw _ (pk_mem hk)
      have e1 : at0 W (pk P k) = vals w u (fk F k) (pk P k) := by rw [e]; exact fill_in _ _ hn hlt _ hm
      rw [at0_app_l (by omega), at0_app_r hWl, e1]
      unfold vals
      rw [Int.mul_comm, Int.mul_fdiv_cancel' (Int.dvd_trans (hd _ hm) (Int.dvd_mul_left _ u))]
      grind
    · rw [at0_app_l (by omega)]
      exact hWk i h1
  have hsol := (s.fin _).mpr hx
  refine ⟨by rw [low_len]; simp [hWl], pos_right hcm (by rw [hT, at0_app_r hWl]; exact hu), low_gcd (gcdL_ne (i := w) (by rw [at0_app_r hWl]; omega)), low_bd hb, fun k hk1 hk2 => ?_, fun p hpz => ?_⟩
  · have := hT k
    rw [at0_app_l (by omega), hWk k hk2] at this
    exact (Int.mul_eq_zero.mp this).resolve_left (by omega)
  · have hm := List.of_mem_zip hpz
    have h1 := hsol (p.1 ++ [p.2]) (List.mem_map.mpr ⟨p, hpz, rfl⟩)
    rw [dt_app (hr _ hm.1), at0_app_r hWl] at h1
    have h2 : dt w p.1 (at0 (W ++ [-u])) = cm (W ++ [u]) * dt w p.1 (at0 (low (W ++ [u]))) := by
      unfold dt
      rw [← sumN_mul]
      refine sumN_congr fun i hi => ?_
      have := hT i
      rw [at0_app_l (by omega)] at this
      rw [at0_app_l (by omega), ← this]; grind
    have h3 := hT w
    rw [at0_app_r hWl] at h3
    rw [h2] at h1
    have h4 : cm (W ++ [u]) * (dt w p.1 (at0 (low (W ++ [u]))) - p.2 * at0 (low (W ++ [u])) w) = 0 := by
      have : p.2 * -u = - (p.2 * (cm (W ++ [u]) * at0 (low (W ++ [u])) w)) := by rw [h3]; grind
      rw [this] at h1
      grind
    have := (Int.mul_eq_zero.mp h4).resolve_left (by omega)
    omega
theorem solved_ok (n : Nat) {d e : D} {rows : List (List Int)} {due : List Int} {w h : Nat} (hd : Sq d (rows.map iT)) (he : Iq e due) (ht : Tab h w 37 rows) (hl : due.length = h) (hb : Bd 37 due) (hw : w ≤ 5) (hh : h ≤ 5) :
    ∃ F P L, Sg (w + 1) (w + 1) h 37 (aug rows due) F P L ∧ ((w ∈ P ∧ Ph (n + 6) 15 [d, e, .int w] = .ok .non []) ∨ (w ∉ P ∧ ∃ T, TP w rows due P T ∧ Ph (n + 6) 15 [d, e, .int w] = .ok (iT T) [])) := by
  have hat := aug_tab ht hl hb
  obtain ⟨F, P, L, s, hcall⟩ := stairs_ok n iT (fun r => rfl) (d := .lst ((aug rows due).map iT)) (w := w + 1) rfl hat (by omega) hh (by omega)
  have hcomp := aug_ev (Ph (n + 5)) iT (fun r => rfl) (ρ := [some d, some e, some (.int w), none, none, none, none, none, none, none]) (it1 := .var 0) (it2 := .var 1) (e6 := .bi .tupleOf [.var 6]) (x := 6) (y := 9) hd he (V.var_ok rfl) (V.var_ok rfl) (fun r hr => (ht.row r hr).1) (by omega) (by rw [ht.len]; omega) (by simp) (by simp) (by omega) (fun ρ' r hg _ => V.bi1 (V.var_ok hg) rfl)
  have h1 : evS (Ph (n + 5)) g0 (.tset [.nm 3, .nm 4] (.call 11 [.comp [6, 9] (.tp [.nm 6, .nm 9]) .zip [.var 0, .var 1] [] (.bin .add (.bi .tupleOf [.var 6]) (.tup [.var 9])), .bin .add (.var 2) (.con (.int 1))])) [some d, some e, some (.int w), none, none, none, none, none, none, none] = .ok .next [some d, some e, some (.int w), some (.tup (F.map iT)), some (.tup (iN P)), none, none, none, none, none] := by
    simp only [evS]
    rw [V.call_ok (V.Es2 hcomp (V.bin_ok (V.var_ok rfl) V.con_ok rfl)) hcall rfl]
    rfl
  refine ⟨F, P, L, s, ?_⟩
  have hin := isin_nat w P
  by_cases hwP : w ∈ P
  · rw [decide_eq_true hwP] at hin
    refine .inl ⟨hwP, Ph_run (F := fn_solved) rfl (V.run_ret (ρ := [some d, some e, some (.int w), some (.tup (F.map iT)), some (.tup (iN P)), none, none, none, none, none]) rfl ?_ rfl)⟩
    exact V.seq_n h1 (V.seq_ret (V.ifs_tt (V.cmp_ok (V.var_ok rfl) (V.var_ok rfl) hin) rfl (V.seq_ret (V.ret_ok V.con_ok))))
  · rw [decide_eq_false hwP] at hin
    refine .inr ⟨hwP, ?_⟩
    obtain ⟨hp, hpl, hp5, hps, hmem⟩ := s.pr (by omega) hh (by omega)
    have hlt : ∀ p ∈ F.zip P, p.2 < w := fun p hq => by
      have hm : p.2 ∈ P := by rw [← hps]; exact List.mem_map.mpr ⟨p, hq, rfl⟩
      have := s.st.lt _ hm
      have : p.2 ≠ w := fun z => hwP (z ▸ hm)
      omega
    obtain ⟨u, z7, z8, e1, d1, d2, d3, d4⟩ := lcm_loop2 (n + 4) (some d) (some e) (some (.int w)) (some (.tup (F.map iT))) (some (.tup (iN P))) none none (F.zip P) 1 none none 1 hp (by omega) (by decide) (by omega)
    have hu : u.natAbs < 2 ^ 6076 := Nat.lt_of_lt_of_le d4 (pow_le2 (by omega))
    obtain ⟨z7', z8', e2⟩ := set_loop2 (Ph (n + 5)) (Nat.lt_of_lt_of_le hu (pow_le2 (by omega))) (some d) (some e) (some (.tup (F.map iT))) (some (.tup (iN P))) none (F.zip P) (List.replicate w 0) z7 z8 hp hlt (by simp)
    generalize hW : fill (vals w u) (F.zip P) (List.replicate w 0) = W at e2
    have hWl : W.length = w := by rw [← hW, fill_len, List.length_replicate]
    have hWb : Bd 9000 W := by
      rw [← hW]
      refine Bd.mono (k := 1215 + 6076) (fill_bd _ _ (fun p hq => ?_) fun x hx => ?_) (by omega)
      · obtain ⟨p1, p2, p3, p4⟩ := hp p hq
        unfold vals
        exact Nat.lt_of_le_of_lt (natAbs_div_le (at0 p.1 w * u) (at0 p.1 p.2) p4 (Int.dvd_trans (d3 p hq) (Int.dvd_mul_left _ u))) (natAbs_mul_lt (at0_bd p3 w) hu)
      · rw [(List.mem_replicate.mp hx).2]; exact Nat.two_pow_pos _
    have hu9 : u.natAbs < 2 ^ 9000 := Nat.lt_of_lt_of_le hu (pow_le2 (by omega))
    have hTP := place_props s.st hps hp hmem hwP (fun r hr => (ht.row r hr).1) d1 d3 hW.symm (by
      intro x hx
      rcases List.mem_append.mp hx with z | z
      · exact hWb x z
      · rw [List.mem_singleton.mp z]; exact hu9)
    have hpo := place_of_ok (n + 1) (d := iL W) (xs := W) (u := u) rfl hWb hu9 (by omega)
    rw [plz, if_neg (by omega)] at hpo
    refine ⟨_, hTP, Ph_run (F := fn_solved) rfl (V.run_ret (ρ := [some d, some e, some (.int w), some (.tup (F.map iT)), some (.tup (iN P)), some (.int u), z7', z8', some (iL W), none]) rfl ?_ rfl)⟩
    refine V.seq_n h1 (V.seq_n (V.ifs_skip (V.cmp_ok (V.var_ok rfl) (V.var_ok rfl) hin) rfl) (V.seq_n (V.set_ok V.con_ok) (V.seq_f (V.seq_n ((V.loop_okp (ik := .zip) (ds := [.tup (F.map iT), .tup (iN P)]) (V.Es2 (V.var_ok rfl) (V.var_ok rfl)) (zip_inj F P)).trans e1) (V.seq_n (V.set_ok (x := iL (List.replicate w 0)) (V.bin_ok (V.lst_ok (V.Es1 V.con_ok)) (V.var_ok rfl) (zeroL w (by omega)))) (V.seq_n ((V.loop_okp (ik := .zip) (ds := [.tup (F.map iT), .tup (iN P)]) (V.Es2 (V.var_ok rfl) (V.var_ok rfl)) (zip_inj F P)).trans e2) (V.seq_ret (V.ret_ok (V.call_ok (V.Es2 (V.var_ok rfl) (V.var_ok rfl)) hpo rfl)))))))))
end P00
end
section
set_option autoImplicit false
set_option linter.all false
namespace M00
def sg : Nat → Int
  | 0 => 1
  | n + 1 => - sg n
theorem sg_sq (n : Nat) : sg n * sg n = 1 := by
  induction n with
  | zero => rfl
  | succ n ih => show - sg n * - sg n = 1; grind
def wg (r : Nat → Int) : List Nat → (List Nat → Int) → Int
  | [], _ => 0
  | a :: S, W => sg S.length * (r a * W S) + wg r S (fun T => W (a :: T))
theorem wg_mul (r : Nat → Int) (k : Int) : ∀ (S : List Nat) (W : List Nat → Int), wg r S (fun T => k * W T) = k * wg r S W
  | [], W => by simp [wg]
  | a :: S, W => by
    show sg S.length * (r a * (k * W S)) + wg r S (fun T => k * W (a :: T)) = k * (sg S.length * (r a * W S) + wg r S (fun T => W (a :: T)))
    rw [wg_mul r k S]; grind
theorem wg_add (r : Nat → Int) : ∀ (S : List Nat) (W V : List Nat → Int), wg r S (fun T => W T + V T) = wg r S W + wg r S V
  | [], W, V => by simp [wg]
  | a :: S, W, V => by
    show sg S.length * (r a * (W S + V S)) + wg r S (fun T => W (a :: T) + V (a :: T)) = (sg S.length * (r a * W S) + wg r S (fun T => W (a :: T))) + (sg S.length * (r a * V S) + wg r S (fun T => V (a :: T)))
    rw [wg_add r S]; grind
theorem wg_zero (r : Nat → Int) : ∀ (S : List Nat) (W : List Nat → Int), (∀ T, W T = 0) → wg r S W = 0
  | [], _, _ => rfl
  | a :: S, W, h => by
    show sg S.length * (r a * W S) + wg r S (fun T => W (a :: T)) = 0
    rw [h, wg_zero r S _ fun T => h (a :: T)]; grind
theorem wg_lin {V r s : Nat → Int} {p q : Int} (h : ∀ i, V i = p * r i - q * s i) : ∀ (S : List Nat) (W : List Nat → Int), wg V S W = p * wg r S W - q * wg s S W
  | [], W => by simp [wg]
  | a :: S, W => by
    show sg S.length * (V a * W S) + wg V S (fun T => W (a :: T)) = p * (sg S.length * (r a * W S) + wg r S (fun T => W (a :: T))) - q * (sg S.length * (s a * W S) + wg s S (fun T => W (a :: T)))
    rw [wg_lin h S, h a]; grind
theorem wg_sub (r : Nat → Int) : ∀ (S : List Nat) (W V : List Nat → Int), (∀ T, T.Sublist S → W T = V T) → wg r S W = wg r S V
  | [], _, _, _ => rfl
  | a :: S, W, V, h => by
    show sg S.length * (r a * W S) + wg r S (fun T => W (a :: T)) = sg S.length * (r a * V S) + wg r S (fun T => V (a :: T))
    rw [h S (List.sublist_cons_self a S), wg_sub r S _ _ fun T hT => h (a :: T) (hT.cons_cons a)]
theorem wg_sg (r : Nat → Int) : ∀ (S : List Nat) (W : List Nat → Int), wg r S (fun T => sg T.length * W T) = - sg S.length * wg r S W
  | [], W => by simp [wg]
  | a :: S, W => by
    show sg S.length * (r a * (sg S.length * W S)) + wg r S (fun T => sg (T.length + 1) * W (a :: T)) = - sg (S.length + 1) * (sg S.length * (r a * W S) + wg r S (fun T => W (a :: T)))
    have e : wg r S (fun T => sg (T.length + 1) * W (a :: T)) = wg r S (fun T => (-1) * (sg T.length * W (a :: T))) := wg_sub r S _ _ fun T _ => by show - sg T.length * _ = _; grind
    rw [e, wg_mul, wg_sg r S]
    show _ = - - sg S.length * _
    have := sg_sq S.length
    grind
theorem wg_anti (r s : Nat → Int) : ∀ (S : List Nat) (W : List Nat → Int), wg s S (fun T => wg r T W) + wg r S (fun T => wg s T W) = 0
  | [], W => rfl
  | a :: S, W => by
    have e : ∀ r s : Nat → Int, wg s (a :: S) (fun T => wg r T W) = sg S.length * (s a * wg r S W) - sg S.length * (r a * wg s S W) + wg s S (fun T => wg r T (fun U => W (a :: U))) := fun r s => by
      show sg S.length * (s a * wg r S W) + wg s S (fun T => sg T.length * (r a * W T) + wg r T (fun U => W (a :: U))) = _
      rw [wg_add, wg_sg s S (fun T => r a * W T), wg_mul]
      grind
    rw [e r s, e s r]
    have := wg_anti r s S (fun U => W (a :: U))
    grind
theorem wg_self (r : Nat → Int) (S : List Nat) (W : List Nat → Int) : wg r S (fun T => wg r T W) = 0 := by
  have := wg_anti r r S W
  omega
theorem wg_last {L : Nat → Int} : ∀ (pre : List Nat) (j : Nat) (W : List Nat → Int), (∀ i ∈ pre, L i = 0) → wg L (pre ++ [j]) W = L j * W pre
  | [], j, W, _ => by simp [wg, sg]
  | a :: pre, j, W, h => by
    show sg (pre ++ [j]).length * (L a * W (pre ++ [j])) + wg L (pre ++ [j]) (fun T => W (a :: T)) = _
    rw [h a (by simp), wg_last pre j _ fun i hi => h i (by simp [hi])]; grind
theorem wg_pre {L : Nat → Int} : ∀ (pre T : List Nat) (W : List Nat → Int), (∀ i ∈ pre, L i = 0) → (∀ T, W (pre ++ T) = 0) → wg L (pre ++ T) W = 0
  | [], T, W, _, h => wg_zero L T W h
  | a :: pre, T, W, h, hW => by
    show sg (pre ++ T).length * (L a * W (pre ++ T)) + wg L (pre ++ T) (fun U => W (a :: U)) = 0
    rw [h a (by simp), wg_pre pre T _ (fun i hi => h i (by simp [hi])) hW]; grind
theorem wg_len {k : Nat} (r : Nat → Int) : ∀ (S : List Nat) (W : List Nat → Int), (∀ T, T.length ≠ k → W T = 0) → S.length ≠ k + 1 → wg r S W = 0
  | [], _, _, _ => rfl
  | a :: S, W, h, hS => by
    show sg S.length * (r a * W S) + wg r S (fun T => W (a :: T)) = 0
    have hk : S.length ≠ k := by simp at hS; exact hS
    rw [h S hk]
    have : wg r S (fun T => W (a :: T)) = 0 := by
      cases k with
      | zero => exact wg_zero r S _ fun T => h _ (by simp)
      | succ k => exact wg_len (k := k) r S _ (fun T hT => h _ (by simpa using hT)) hk
    rw [this]; grind
/-- many rows -/
def wgl : List (Nat → Int) → (List Nat → Int) → List Nat → Int
  | [], W => W
  | r :: rs, W => wgl rs (fun S => wg r S W)
theorem wgl_app : ∀ (xs ys : List (Nat → Int)) (W : List Nat → Int), wgl (xs ++ ys) W = wgl ys (wgl xs W)
  | [], _, _ => rfl
  | x :: xs, ys, W => wgl_app xs ys _
theorem wgl_mul (k : Int) : ∀ (rs : List (Nat → Int)) (W : List Nat → Int), wgl rs (fun S => k * W S) = fun S => k * wgl rs W S
  | [], W => rfl
  | r :: rs, W => by
    show wgl rs (fun S => wg r S (fun T => k * W T)) = fun S => k * wgl rs (fun S => wg r S W) S
    have : (fun S => wg r S (fun T => k * W T)) = fun S => k * wg r S W := by funext S; rw [wg_mul]
    rw [this, wgl_mul k rs]
theorem wgl_move (x : Nat → Int) : ∀ (mid : List (Nat → Int)) (W : List Nat → Int), wgl mid (fun S => wg x S W) = fun S => sg mid.length * wg x S (wgl mid W)
  | [], W => by funext S; show _ = 1 * _; rw [Int.one_mul]; rfl
  | m :: mid, W => by
    show wgl mid (fun S => wg m S (fun T => wg x T W)) = fun S => - sg mid.length * wg x S (wgl mid (fun S => wg m S W))
    have e : (fun S => wg m S (fun T => wg x T W)) = fun S => (-1) * wg x S (fun T => wg m T W) := by
      funext S
      have := wg_anti x m S W
      omega
    rw [e, wgl_mul, wgl_move x mid]
    funext S; grind
theorem wgl_swap (x y : Nat → Int) (mid post : List (Nat → Int)) (W : List Nat → Int) (S : List Nat) : wgl (x :: mid ++ y :: post) W S = - wgl (y :: mid ++ x :: post) W S := by
  have e : ∀ x y : Nat → Int, wgl (x :: mid ++ y :: post) W = fun S => sg mid.length * wgl post (fun S => wg y S (fun T => wg x T (wgl mid W))) S := fun x y => by
    show wgl (mid ++ y :: post) (fun S => wg x S W) = _
    rw [wgl_app, wgl_move]
    show wgl post (fun S => wg y S (fun S => sg mid.length * wg x S (wgl mid W))) = _
    have : (fun S => wg y S (fun S => sg mid.length * wg x S (wgl mid W))) = fun S => sg mid.length * wg y S (fun T => wg x T (wgl mid W)) := by funext S; rw [wg_mul]
    rw [this, wgl_mul]
  rw [e x y, e y x]
  have a : (fun S => wg y S (fun T => wg x T (wgl mid W))) = fun S => (-1) * wg x S (fun T => wg y T (wgl mid W)) := by
    funext S
    have := wg_anti x y S (wgl mid W)
    omega
  rw [a, wgl_mul]; grind
theorem wgl_rel {p : Int} : ∀ (ps : List ((Nat → Int) × (Nat → Int))) (W : List Nat → Int), (∀ q ∈ ps, ∀ S, wg q.1 S W = p * wg q.2 S W) → ∀ S, wgl (ps.map (·.1)) W S = p ^ ps.length * wgl (ps.map (·.2)) W S
  | [], W, _, S => by simp [wgl]
  | q :: ps, W, h, S => by
    show wgl (ps.map (·.1)) (fun S => wg q.1 S W) S = p ^ (ps.length + 1) * wgl (ps.map (·.2)) (fun S => wg q.2 S W) S
    have e : (fun S => wg q.1 S W) = fun S => p * wg q.2 S W := by funext S; exact h q (by simp) S
    rw [e, wgl_mul]
    have hrec := wgl_rel (p := p) ps (fun S => wg q.2 S W) (fun z hz S => by
      have h1 := wg_anti q.2 z.1 S W
      have h2 := wg_anti q.2 z.2 S W
      have e : wg q.2 S (fun T => wg z.1 T W) = p * wg q.2 S (fun T => wg z.2 T W) := by
        rw [← wg_mul]
        exact wg_sub _ _ _ _ fun T _ => h z (by simp [hz]) T
      grind) S
    show p * wgl (ps.map (·.1)) (fun S => wg q.2 S W) S = _
    rw [hrec, Int.pow_succ]
    grind
theorem wgl_pre {pre : List Nat} : ∀ (Ls : List (Nat → Int)) (W : List Nat → Int), (∀ L ∈ Ls, ∀ i ∈ pre, L i = 0) → (∀ T, W (pre ++ T) = 0) → ∀ T, wgl Ls W (pre ++ T) = 0
  | [], W, _, h => h
  | L :: Ls, W, h, hW => wgl_pre Ls _ (fun M hM => h M (by simp [hM])) fun T => wg_pre pre T W (h L (by simp)) hW
def dl (T : List Nat) : Int := if T = [] then 1 else 0
theorem wgl_len {k : Nat} : ∀ (rs : List (Nat → Int)) (W : List Nat → Int), (∀ T, T.length ≠ k → W T = 0) → ∀ S, S.length ≠ k + rs.length → wgl rs W S = 0
  | [], W, h, S, hS => h S (by simpa using hS)
  | r :: rs, W, h, S, hS => wgl_len (k := k + 1) rs _ (fun T hT => wg_len r T W h hT) S (by rw [List.length_cons] at hS; omega)
theorem dl_len (T : List Nat) (h : T.length ≠ 0) : dl T = 0 := by
  unfold dl
  rw [if_neg fun e => h (by rw [e]; rfl)]
abbrev om (A : List (List Int)) : List Nat → Int := wgl (A.map at0) dl
/-- the elimination of an area on its way: k columns are done -/
structure Bz (n k : Nat) (R A1 A2 L2 : List (List Int)) (s p : Int) : Prop where
  l1 : A1.length = k
  l2 : A2.length = L2.length
  ln : k + A2.length = n
  sq : s = 1 ∨ s = -1
  tot : ∀ S, s * om (A1 ++ A2) S = om R S
  piv : om A1 (List.range k) = p
  pne : p ≠ 0
  rel : ∀ q ∈ L2.zip A2, ∀ S, wg (at0 q.1) S (om A1) = p * wg (at0 q.2) S (om A1)
  zero : ∀ r ∈ L2, ∀ j, j < k → at0 r j = 0
theorem Bz.init (R : List (List Int)) : Bz R.length 0 R [] R R 1 1 where
  l1 := rfl
  l2 := rfl
  ln := by simp
  sq := .inl rfl
  tot := fun S => by rw [Int.one_mul]; rfl
  piv := rfl
  pne := by omega
  rel := fun q hq S => by
    have : q.1 = q.2 := by
      have := List.mem_iff_getElem.mp hq
      obtain ⟨i, hi, e⟩ := this
      rw [← e, List.getElem_zip]
    rw [this, Int.one_mul]
  zero := fun _ _ _ h => by omega
theorem Bz.none {n k : Nat} {R A1 A2 L2 : List (List Int)} {s p : Int} (h : Bz n k R A1 A2 L2 s p) (hk : k < n) (hz : ∀ r ∈ L2, at0 r k = 0) : om R (List.range n) = 0 := by
  have e1 := wgl_rel (p := p) ((L2.zip A2).map fun q => (at0 q.1, at0 q.2)) (om A1) (fun q hq S => by
    obtain ⟨z, hz, rfl⟩ := List.mem_map.mp hq
    exact h.rel z hz S) (List.range n)
  have m1 : ((L2.zip A2).map fun q => (at0 q.1, at0 q.2)).map (·.1) = L2.map at0 := by
    rw [List.map_map]
    have : (fun q : List Int × List Int => at0 q.1) = at0 ∘ Prod.fst := rfl
    show (L2.zip A2).map (fun q => at0 q.1) = _
    rw [this, ← List.map_map, List.map_fst_zip (by rw [h.l2]; exact Nat.le_refl _)]
  have m2 : ((L2.zip A2).map fun q => (at0 q.1, at0 q.2)).map (·.2) = A2.map at0 := by
    rw [List.map_map]
    have : (fun q : List Int × List Int => at0 q.2) = at0 ∘ Prod.snd := rfl
    show (L2.zip A2).map (fun q => at0 q.2) = _
    rw [this, ← List.map_map, List.map_snd_zip (by rw [h.l2]; exact Nat.le_refl _)]
  rw [m1, m2] at e1
  have e2 : wgl (L2.map at0) (om A1) (List.range n) = 0 := by
    have : List.range n = List.range (k + 1) ++ (List.range' (k + 1) (n - (k + 1))) := by
      rw [List.range_eq_range', List.range_eq_range']
      have e := List.range'_append_1 (s := 0) (m := k + 1) (n := n - (k + 1))
      rw [Nat.zero_add] at e
      rw [e]
      congr 1
      omega
    rw [this]
    refine wgl_pre _ _ (fun L hL i hi => ?_) (fun T => ?_) _
    · obtain ⟨r, hr, rfl⟩ := List.mem_map.mp hL
      have hi' : i < k + 1 := by simpa using hi
      by_cases q : i = k
      · rw [q]; exact hz r hr
      · exact h.zero r hr i (by omega)
    · refine wgl_len (k := 0) _ _ (fun T hT => dl_len T hT) _ ?_
      rw [List.length_append, List.length_range, List.length_map, h.l1]; omega
  rw [e2] at e1
  have hp : p ^ ((L2.zip A2).map fun q => (at0 q.1, at0 q.2)).length ≠ 0 := Int.pow_ne_zero h.pne
  have e3 : wgl (A2.map at0) (om A1) (List.range n) = 0 := (Int.mul_eq_zero.mp e1.symm).resolve_left hp
  have e4 := h.tot (List.range n)
  rw [← e4]
  show s * wgl ((A1 ++ A2).map at0) dl (List.range n) = 0
  rw [List.map_append, wgl_app]
  show s * wgl (A2.map at0) (om A1) (List.range n) = 0
  rw [e3, Int.mul_zero]
/-- one column more: X stands on top -/
theorem Bz.some {n k : Nat} {R A1 A2 L2 : List (List Int)} {X Y : List Int} {s p : Int} (h : Bz n k R A1 (Y :: A2) (X :: L2) s p) (hne : at0 X k ≠ 0) {g : List Int → List Int}
    (hg : ∀ r ∈ L2, ∀ j, at0 (g r) j = (at0 r j * at0 X k - at0 r k * at0 X j).fdiv p) : Bz n (k + 1) R (A1 ++ [Y]) A2 (L2.map g) s (at0 X k) := by
  have hW : om (A1 ++ [Y]) = fun S => wg (at0 Y) S (om A1) := by
    show wgl ((A1 ++ [Y]).map at0) dl = _
    rw [List.map_append, wgl_app]; rfl
  have hX : ∀ S, wg (at0 X) S (om A1) = p * om (A1 ++ [Y]) S := fun S => by
    rw [hW]; exact h.rel (X, Y) (by simp) S
  have hXz : ∀ j, j < k → at0 X j = 0 := h.zero X (by simp)
  have hpiv : om (A1 ++ [Y]) (List.range (k + 1)) = at0 X k := by
    have := hX (List.range (k + 1))
    rw [List.range_succ, wg_last (List.range k) k _ (fun i hi => hXz i (by simpa using hi)), h.piv] at this
    rw [List.range_succ]
    have : p * (om (A1 ++ [Y]) (List.range k ++ [k]) - at0 X k) = 0 := by grind
    have := (Int.mul_eq_zero.mp this).resolve_left h.pne
    exact Int.sub_eq_zero.mp this
  -- the heart
  have core : ∀ q ∈ L2.zip A2, (∀ S, wg (fun j => at0 X k * at0 q.1 j - at0 q.1 k * at0 X j) S (om (A1 ++ [Y])) = at0 X k * p * wg (at0 q.2) S (om (A1 ++ [Y]))) := by
    intro q hq S
    have hr := h.rel q (by rw [List.zip_cons_cons]; exact List.mem_cons_of_mem _ hq)
    have e1 := wg_lin (V := fun j => at0 X k * at0 q.1 j - at0 q.1 k * at0 X j) (r := at0 q.1) (s := at0 X) (p := at0 X k) (q := at0 q.1 k) (fun i => rfl) S (fun T => wg (at0 X) T (om A1))
    rw [wg_self, Int.mul_zero, Int.sub_zero] at e1
    have hXf : (fun T => wg (at0 X) T (om A1)) = fun T => p * om (A1 ++ [Y]) T := by funext T; exact hX T
    have e2 := wg_anti (at0 X) (at0 q.1) S (om A1)
    have hrf : (fun T => wg (at0 q.1) T (om A1)) = fun T => p * wg (at0 q.2) T (om A1) := by funext T; exact hr T
    rw [hrf, wg_mul] at e2
    have e3 := wg_anti (at0 X) (at0 q.2) S (om A1)
    rw [hXf, wg_mul] at e1 e2 e3
    rw [wg_mul] at e1
    generalize wg (at0 X) S (fun T => wg (at0 q.2) T (om A1)) = u at e2 e3
    generalize wg (at0 q.2) S (om (A1 ++ [Y])) = v at e3 ⊢
    generalize wg (at0 q.1) S (om (A1 ++ [Y])) = x at e1 e2
    generalize wg (fun j => at0 X k * at0 q.1 j - at0 q.1 k * at0 X j) S (om (A1 ++ [Y])) = y at e1 ⊢
    -- p*y = Xk*(p*x); p*x + p*u = 0; p*v + u = 0
    have : p * (y - at0 X k * p * v) = 0 := by grind
    have := (Int.mul_eq_zero.mp this).resolve_left h.pne
    exact Int.sub_eq_zero.mp this
  have hV : ∀ q ∈ L2.zip A2, ∀ j, p * at0 (g q.1) j = at0 X k * at0 q.1 j - at0 q.1 k * at0 X j := by
    intro q hq j
    have hm := (List.of_mem_zip hq).1
    have hrz : ∀ j, j < k → at0 q.1 j = 0 := h.zero q.1 (List.mem_cons_of_mem _ hm)
    have hdv : p ∣ at0 X k * at0 q.1 j - at0 q.1 k * at0 X j := by
      rcases Nat.lt_trichotomy j k with z | z | z
      · rw [hrz j z, hXz j z]; simp
      · subst z
        rw [Int.mul_comm, Int.sub_self]; exact Int.dvd_zero p
      · have e := core q hq (List.range (k + 1) ++ [j])
        rw [wg_last (List.range (k + 1)) j _ (fun i hi => ?_), hpiv] at e
        · refine ⟨wg (at0 q.2) (List.range (k + 1) ++ [j]) (om (A1 ++ [Y])), ?_⟩
          have : at0 X k * ((at0 X k * at0 q.1 j - at0 q.1 k * at0 X j) - p * wg (at0 q.2) (List.range (k + 1) ++ [j]) (om (A1 ++ [Y]))) = 0 := by grind
          have := (Int.mul_eq_zero.mp this).resolve_left hne
          exact Int.sub_eq_zero.mp this
        · have hi' : i < k + 1 := by simpa using hi
          by_cases q' : i = k
          · subst q'; show _ = 0; rw [Int.mul_comm, Int.sub_self]
          · show at0 X k * at0 q.1 i - at0 q.1 k * at0 X i = 0
            rw [hrz i (by omega), hXz i (by omega)]; simp
    rw [hg q.1 hm j, Int.mul_comm (at0 q.1 j)]
    exact Int.mul_fdiv_cancel' hdv
  refine ⟨by simp [h.l1], ?_, ?_, h.sq, ?_, hpiv, hne, ?_, ?_⟩
  · have := h.l2
    simp only [List.length_cons] at this
    rw [List.length_map]; omega
  · have := h.ln
    simp only [List.length_cons] at this
    omega
  · intro S
    rw [← h.tot S]
    have : A1 ++ [Y] ++ A2 = A1 ++ Y :: A2 := by simp
    rw [this]
  · intro q hq S
    rw [List.zip_map_left] at hq
    obtain ⟨z, hz, rfl⟩ := List.mem_map.mp hq
    have e1 := core z hz S
    have e2 : wg (fun j => at0 X k * at0 z.1 j - at0 z.1 k * at0 X j) S (om (A1 ++ [Y])) = p * wg (at0 (g z.1)) S (om (A1 ++ [Y])) - 0 * wg (at0 X) S (om (A1 ++ [Y])) :=
      wg_lin (fun i => by rw [hV z hz i]; omega) S _
    show wg (at0 (g z.1)) S _ = at0 X k * wg (at0 z.2) S _
    rw [e2] at e1
    have : p * (wg (at0 (g z.1)) S (om (A1 ++ [Y])) - at0 X k * wg (at0 z.2) S (om (A1 ++ [Y]))) = 0 := by grind
    have := (Int.mul_eq_zero.mp this).resolve_left h.pne
    exact Int.sub_eq_zero.mp this
  · intro r hr j hj
    obtain ⟨x, hx, rfl⟩ := List.mem_map.mp hr
    rw [hg x hx j]
    by_cases q : j = k
    · subst q; rw [Int.sub_self, Int.zero_fdiv]
    · rw [h.zero x (List.mem_cons_of_mem _ hx) j (by omega), hXz j (by omega)]; simp
end M00
end
section
set_option autoImplicit false
set_option linter.all false
set_option maxRecDepth 8000
set_option exponentiation.threshold 10000
namespace P00
open PX M00
theorem zip_set {α β : Type} : ∀ (xs : List α) (ys : List β) (i : Nat) (a : α) (b : β), (xs.set i a).zip (ys.set i b) = (xs.zip ys).set i (a, b)
  | [], _, _, _, _ => rfl
  | _ :: _, [], _, _, _ => by simp
  | x :: xs, y :: ys, 0, a, b => rfl
  | x :: xs, y :: ys, i + 1, a, b => by simp [zip_set xs ys i a b]
theorem Bz.swap {n k : Nat} {R A1 ta tl : List (List Int)} {a0 l0 : List Int} {s p : Int} (h : Bz n k R A1 (a0 :: ta) (l0 :: tl) s p) {m : Nat} (hm : m < (l0 :: tl).length) (hm' : m < (a0 :: ta).length) :
    Bz n k R A1 ((a0 :: ta)[m] :: sw a0 ta m) ((l0 :: tl)[m] :: sw l0 tl m) (if m = 0 then s else -s) p := by
  cases m with
  | zero => exact h
  | succ m =>
    have hl := h.l2
    simp only [List.length_cons] at hl hm hm'
    refine ⟨h.l1, by simp [sw]; omega, ?_, ?_, ?_, h.piv, h.pne, ?_, ?_⟩
    · have := h.ln
      simp only [List.length_cons] at this
      simp [sw]; omega
    · rw [if_neg (by omega)]
      rcases h.sq with e | e
      · right; rw [e]
      · left; rw [e]; rfl
    · intro S
      rw [← h.tot S, if_neg (by omega)]
      have hmm : m < ta.length := by omega
      have e1 : ta = ta.take m ++ ta[m] :: ta.drop (m + 1) := by
        rw [List.getElem_cons_drop, List.take_append_drop]
      have e2 : ta.set m a0 = ta.take m ++ a0 :: ta.drop (m + 1) := by
        rw [List.set_eq_take_append_cons_drop, if_pos hmm]
      have e3 := wgl_swap (at0 ta[m]) (at0 a0) ((ta.take m).map at0) ((ta.drop (m + 1)).map at0) (om A1) S
      have f : ∀ z z' : List Int, om (A1 ++ z :: (ta.take m ++ z' :: ta.drop (m + 1))) S = wgl (at0 z :: (ta.take m).map at0 ++ at0 z' :: (ta.drop (m + 1)).map at0) (om A1) S := fun z z' => by
        show wgl ((A1 ++ z :: (ta.take m ++ z' :: ta.drop (m + 1))).map at0) dl S = _
        rw [List.map_append, wgl_app, List.map_cons, List.map_append, List.map_cons]
        rfl
      show -s * om (A1 ++ ta[m] :: ta.set m a0) S = s * om (A1 ++ a0 :: ta) S
      rw [e2, f, e3, ← f, ← e1]
      grind
    · intro q hq S
      have : q ∈ (l0 :: tl).zip (a0 :: ta) := by
        have hq' : q ∈ (tl[m] :: tl.set m l0).zip (ta[m] :: ta.set m a0) := hq
        rw [List.zip_cons_cons] at hq' ⊢
        rw [zip_set] at hq'
        rcases List.mem_cons.mp hq' with r | r
        · refine List.mem_cons_of_mem _ ?_
          have hz : m < (tl.zip ta).length := by simp; omega
          have : (tl.zip ta)[m] = q := by rw [List.getElem_zip, r]
          rw [← this]
          exact List.getElem_mem hz
        · rcases List.mem_or_eq_of_mem_set r with z | z
          · exact List.mem_cons_of_mem _ z
          · rw [z]; simp
      exact h.rel q this S
    · intro r hr
      refine h.zero r ((sw_mem (by simp; omega) r).mpr ?_)
      rcases List.mem_cons.mp hr with z | z
      · exact .inl z
      · exact .inr z
abbrev aInner : List S := [.set 8 (.ix (.pk 1) (.var 7)), .frz 8, .setix 1 (.var 7) (.comp [9] (.nm 9) .range [.bi .len [.pk 1]] [] (.bin .fdiv (.bin .sub (.bin .mul (.ix (.var 8) (.var 9)) (.ix (.var 6) (.var 4))) (.bin .mul (.ix (.var 8) (.var 4)) (.ix (.var 6) (.var 9)))) (.var 3)))]
abbrev aBody : List S := [.set 5 (.comp [7] (.nm 7) .range [.var 4, .bi .len [.pk 1]] [.cmp .ne (.ix (.ix (.pk 1) (.var 7)) (.var 4)) (.con (.int 0))] (.var 7)), .ifs (.not (.pk 5)) [.ret (.con (.int 0))] [], .ifs (.cmp .ne (.ix (.pk 5) (.con (.int 0))) (.var 4)) [.swap 1 (.var 4) 1 (.ix (.pk 5) (.con (.int 0))) (.ix (.pk 1) (.ix (.pk 5) (.con (.int 0)))) (.ix (.pk 1) (.var 4)), .set 2 (.neg (.var 2)), .frz 2] [], .set 6 (.ix (.pk 1) (.var 4)), .frz 6, .loop [] (.nm 7) .range [.bin .add (.var 4) (.con (.int 1)), .bi .len [.pk 1]] aInner, .set 3 (.ix (.var 6) (.var 4)), .frz 3]
def ag (n c : Nat) (X : List Int) (p : Int) (x : List Int) : List Int := (List.range n).map fun j => (at0 x j * at0 X c - at0 x c * at0 X j).fdiv p
theorem ag_len (n c : Nat) (X : List Int) (p : Int) (x : List Int) : (ag n c X p x).length = n := by simp [ag]
theorem ag_at {n c : Nat} {X : List Int} {p : Int} {x : List Int} (h1 : x.length = n) (h2 : X.length = n) (j : Nat) : at0 (ag n c X p x) j = (at0 x j * at0 X c - at0 x c * at0 X j).fdiv p := by
  by_cases hj : j < n
  · rw [at0_get (by rw [ag_len]; exact hj)]
    simp [ag]
  · rw [at0_out (by rw [ag_len]; omega), at0_out (r := x) (i := j) (by omega), at0_out (r := X) (i := j) (by omega)]
    simp
theorem ag_bd {n c b : Nat} {X : List Int} {p : Int} {x : List Int} (h1 : Bd b x) (h2 : Bd b X) : Bd (2 * b + 1) (ag n c X p x) := by
  intro y hy
  obtain ⟨j, _, rfl⟩ := List.mem_map.mp hy
  have a := natAbs_mul_lt (at0_bd h1 j) (at0_bd h2 c)
  have b' := natAbs_mul_lt (at0_bd h1 c) (at0_bd h2 j)
  have := sub_lt a b'
  have e : b + b + 1 = 2 * b + 1 := by omega
  rw [← e]
  exact Nat.lt_of_le_of_lt (Int.natAbs_fdiv_le_natAbs _ _) this
theorem aBody_ok (l : Nat) {n c b : Nat} {R A1 A2 L T : List (List Int)} {s p : Int} {d0 : D} {y5 y6 y7 y8 y9 : Option D} (hs : Bz n c R A1 A2 L s p) (hT : T.length = c) (hc : c < n) (hn : n ≤ 5)
    (hL : ∀ r ∈ L, r.length = n ∧ Bd b r) (hp : p.natAbs < 2 ^ b) (hb : b ≤ 4000) :
    (om R (List.range n) = 0 ∧ ∃ ρ', evSs (Ph l) g0 aBody [some d0, some (.lst ((T ++ L).map iL)), some (.int s), some (.int p), some (.int (c : Nat)), y5, y6, y7, y8, y9] = .ok (.ret (.int 0)) ρ') ∨
    ∃ A1' A2' L' T' s' p' y5' y6' y7' y8', Bz n (c + 1) R A1' A2' L' s' p' ∧ T'.length = c + 1 ∧ (∀ r ∈ L', r.length = n ∧ Bd (2 * b + 1) r) ∧ p'.natAbs < 2 ^ (2 * b + 1) ∧
      evSs (Ph l) g0 aBody [some d0, some (.lst ((T ++ L).map iL)), some (.int s), some (.int p), some (.int (c : Nat)), y5, y6, y7, y8, y9] =
      .ok .next [some d0, some (.lst ((T' ++ L').map iL)), some (.int s'), some (.int p'), some (.int (c : Nat)), y5', y6', y7', y8', y9] := by
  have h59 : (2:Nat)^59 = 576460752303423488 := by decide
  have hl2 := hs.l2
  have hln := hs.ln
  have hlen : lenD [.lst ((T ++ L).map iL)] = some (.int (n : Nat)) := by simp [lenD]; omega
  have hat : evE (Ph l) g0 (.comp [7] (.nm 7) .range [.var 4, .bi .len [.pk 1]] [.cmp .ne (.ix (.ix (.pk 1) (.var 7)) (.var 4)) (.con (.int 0))] (.var 7)) [some d0, some (.lst ((T ++ L).map iL)), some (.int s), some (.int p), some (.int (c : Nat)), y5, y6, y7, y8, y9] =
      .ok (.lst (((List.range L.length).filter fun i => !decide (at0 (fk L i) c = 0)).map fun (i : Nat) => D.int ((T.length + i : Nat)))) [some d0, some (.lst ((T ++ L).map iL)), some (.int s), some (.int p), some (.int (c : Nat)), y5, y6, y7, y8, y9] := by
    refine V.comp_filt (α := Nat) (ik := .range) (ds := [.int (c : Nat), .int (n : Nat)]) (fun i => D.int ((T.length + i : Nat))) (fun i => !decide (at0 (fk L i) c = 0)) (fun (i : Nat) => D.int ((T.length + i : Nat))) (List.range L.length) (V.Es2 (V.var_ok rfl) (V.bi1 (V.pk_ok rfl) hlen)) ?_ (fits_ok (by simp; omega)) ?_
    · rw [range_it _ _ (by omega) (by omega), hT]
      have : n - c = L.length := by omega
      rw [this]
    · intro i hi
      have hi' : i < L.length := by simpa using hi
      refine ⟨_, rfl, ?_, (fun _ => V.var_ok rfl), rfl⟩
      have hr := (hL _ (List.getElem_mem hi')).1
      refine V.cmp_ok (V.ix_ok (z := .int (at0 (fk L i) c)) (V.ix_ok (V.pk_ok rfl) (V.var_ok rfl) (atD_mid hi')) (V.var_ok rfl) ?_) V.con_ok (by simp [cmpD, eqD_int])
      rw [fk_get hi']
      exact ix_at0 (d := iL L[i]) rfl (by omega)
  cases hx : (List.range L.length).filter (fun i => !decide (at0 (fk L i) c = 0)) with
  | nil =>
    rw [hx] at hat
    have hz : ∀ r ∈ L, at0 r c = 0 := by
      intro r hr
      obtain ⟨k, hk, e⟩ := mem_fk hr
      have := List.filter_eq_nil_iff.mp hx k (by simpa using hk)
      rw [e] at this
      simpa using this
    exact .inl ⟨hs.none hc hz, _, V.seq_n (V.set_ok hat) (V.seq_ret (V.ifs_tt (V.not_t (V.pk_ok rfl) rfl) rfl (V.seq_ret (V.ret_ok V.con_ok))))⟩
  | cons a t =>
    rw [hx] at hat
    right
    have hmem : a ∈ (List.range L.length).filter (fun i => !decide (at0 (fk L i) c = 0)) := by rw [hx]; simp
    rw [List.mem_filter] at hmem
    have ha : a < L.length := by simpa using hmem.1
    have hne : at0 L[a] c ≠ 0 := by have := hmem.2; rw [fk_get ha] at this; simpa using this
    cases L with
    | nil => simp at ha
    | cons l0 tl =>
    cases A2 with
    | nil => simp at hl2
    | cons a0 ta =>
    have ha2 : a < (a0 :: ta).length := by rw [hl2]; exact ha
    have hsw := Bz.swap hs ha ha2
    generalize hX : (l0 :: tl)[a] = X at hne hsw
    generalize hY : (a0 :: ta)[a] = Y at hsw
    have hXm := hL _ (List.getElem_mem ha)
    rw [hX] at hXm
    have hsm := fun r => sw_mem ha r
    rw [hX] at hsm
    have hsl := sw_len l0 tl a
    have hl0 := hL l0 (by simp)
    have hsL : ∀ r ∈ sw l0 tl a, r.length = n ∧ Bd b r := fun r hr => hL r ((hsm r).mpr (.inr hr))
    have hnew := hsw.some hne (g := ag n c X p) (fun r hr j => ag_at (hsL r hr).1 hXm.1 j)
    have hdv : divOk p = true := divOk_of hs.pne (Nat.lt_of_lt_of_le hp (pow_le2 (by omega)))
    generalize hs' : (if a = 0 then s else -s) = s' at hnew
    obtain ⟨ρ', l1, l2, z7, z8, e2⟩ := upd_loop (tg := asg (.nm 7)) (body := evSs (Ph l) g0 aInner) (ag n c X p) (fun r => r.length = n ∧ Bd b r)
      (fun A ρ => A.length = n ∧ ∃ y7 y8, ρ = [some d0, some (.lst (A.map iL)), some (.int s'), some (.int p), some (.int (c : Nat)), some (.lst ((a :: t).map fun (i : Nat) => D.int ((T.length + i : Nat)))), some (iL X), y7, y8, y9]) (by
        rintro pre x suf ρ ⟨hAl, y7, y8, rfl⟩ hxp
        refine ⟨_, _, rfl, ?_, by simpa using hAl, some (.int (pre.length : Nat)), some (iL x), rfl⟩
        have hix : ixD (.lst ((pre ++ x :: suf).map iL)) (.int (pre.length : Nat)) = some (iL x) := by
          have := atD_mid (q := iL) (T := pre) (L := x :: suf) (a := 0) (by simp)
          simpa [ixD] using this
        have hlenA : biD .len [.lst ((pre ++ x :: suf).map iL)] = some (.int (n : Nat)) := by simp only [biD, lenD, List.length_map, hAl]
        refine V.seq_n (V.set_ok (V.ix_ok (V.pk_ok rfl) (V.var_ok rfl) hix)) (V.seq_f (V.seq_n (V.setix_ok (v := iL (ag n c X p x)) (ρ1 := [some d0, some (.lst ((pre ++ x :: suf).map iL)), some (.int s'), some (.int p), some (.int (c : Nat)), some (.lst ((a :: t).map fun (i : Nat) => D.int ((T.length + i : Nat)))), some (iL X), some (.int (pre.length : Nat)), some (iL x), y9]) rfl ?_ (V.var_ok rfl) rfl (y := .lst ((pre ++ ag n c X p x :: suf).map iL)) (set_row pre suf x _)) snil))
        refine (V.comp_mapp (α := Nat) (ik := .range) (ds := [.int (n : Nat)]) (fun k => D.int (k : Nat)) (fun j => D.int ((at0 x j * at0 X c - at0 x c * at0 X j).fdiv p)) (List.range n) (V.Es1 (V.bi1 (V.pk_ok rfl) hlenA)) (range_it1 n (by omega)) (fits_ok (by simp; omega)) ?_).trans ?_
        · intro j hj
          have hj' : j < n := by simpa using hj
          refine ⟨_, rfl, V.bin_ok (V.bin_ok (V.bin_ok (V.ix_ok (V.var_ok rfl) (V.var_ok rfl) (ix_at0 (d := iL x) rfl (by omega))) (V.ix_ok (V.var_ok rfl) (V.var_ok rfl) (ix_at0 (d := iL X) rfl (by omega))) (b_mul (mulOk_of (at0_bd hxp.2 _) (at0_bd hXm.2 _) (by omega) (by omega)))) (V.bin_ok (V.ix_ok (V.var_ok rfl) (V.var_ok rfl) (ix_at0 (d := iL x) rfl (by omega))) (V.ix_ok (V.var_ok rfl) (V.var_ok rfl) (ix_at0 (d := iL X) rfl (by omega))) (b_mul (mulOk_of (at0_bd hxp.2 _) (at0_bd hXm.2 _) (by omega) (by omega)))) rfl) (V.var_ok rfl) (b_fdiv hdv), rfl⟩
        · simp only [ag, iL, List.map_map, Function.comp_def]
          rfl)
      (sw l0 tl a) (T ++ [X]) [some d0, some (.lst ((T ++ X :: sw l0 tl a).map iL)), some (.int s'), some (.int p), some (.int (c : Nat)), some (.lst ((a :: t).map fun (i : Nat) => D.int ((T.length + i : Nat)))), some (iL X), y7, y8, y9] hsL ⟨by simp only [List.length_cons] at hl2 hln; simp [hsl]; omega, y7, y8, by simp⟩
    subst e2
    have hTm : ((List.range (sw l0 tl a).length).map fun k => D.int (((T ++ [X]).length + k : Nat))) = ((List.range (n - (c + 1))).map fun (k : Nat) => D.int ((c + 1 + k : Nat))) := by
      simp only [List.length_cons] at hl2 hln
      rw [hsl, List.length_append, List.length_singleton, hT]
      have : n - (c + 1) = tl.length := by omega
      rw [this]
    rw [hTm] at l1
    have hi0 : ixD (.lst ((a :: t).map fun (i : Nat) => D.int ((T.length + i : Nat)))) (.int 0) = some (.int ((T.length + a : Nat))) := rfl
    have hcount : atD ((T ++ l0 :: tl).map iL) ((c : Nat) : Int) = some (iL l0) := by
      have := atD_mid (q := iL) (T := T) (L := l0 :: tl) (a := 0) (by simp)
      rw [← hT]; simpa using this
    have hcount2 : atD ((T ++ X :: sw l0 tl a).map iL) ((c : Nat) : Int) = some (iL X) := by
      have := atD_mid (q := iL) (T := T) (L := X :: sw l0 tl a) (a := 0) (by simp)
      rw [← hT]; simpa using this
    have hXa : atD ((T ++ l0 :: tl).map iL) ((T.length + a : Nat) : Int) = some (iL (l0 :: tl)[a]) := atD_mid (q := iL) ha
    have hlen2 : lenD [.lst ((T ++ X :: sw l0 tl a).map iL)] = some (.int (n : Nat)) := by
      simp only [List.length_cons] at hl2 hln
      simp [lenD, hsl]; omega
    have hsk : evS (Ph l) g0 (.ifs (.cmp .ne (.ix (.pk 5) (.con (.int 0))) (.var 4)) [.swap 1 (.var 4) 1 (.ix (.pk 5) (.con (.int 0))) (.ix (.pk 1) (.ix (.pk 5) (.con (.int 0)))) (.ix (.pk 1) (.var 4)), .set 2 (.neg (.var 2)), .frz 2] []) [some d0, some (.lst ((T ++ l0 :: tl).map iL)), some (.int s), some (.int p), some (.int (c : Nat)), some (.lst ((a :: t).map fun (i : Nat) => D.int ((T.length + i : Nat)))), y6, y7, y8, y9] = .ok .next [some d0, some (.lst ((T ++ X :: sw l0 tl a).map iL)), some (.int s'), some (.int p), some (.int (c : Nat)), some (.lst ((a :: t).map fun (i : Nat) => D.int ((T.length + i : Nat)))), y6, y7, y8, y9] := by
      by_cases h0 : a = 0
      · subst h0
        rw [if_pos rfl] at hs'
        subst hs'
        have hX0 : X = l0 := hX.symm
        subst hX0
        exact V.ifs_skip (x := .bl false) (V.cmp_ok (V.ix_ok (V.pk_ok rfl) V.con_ok hi0) (V.var_ok rfl) (by simp [cmpD, eqD_int, hT])) rfl
      · rw [if_neg h0] at hs'
        subst hs'
        have hsw := swap_ok (Ph l) (i := 1) (k1 := .var 4) (k2 := .ix (.pk 5) (.con (.int 0))) (a := .ix (.pk 1) (.ix (.pk 5) (.con (.int 0)))) (b := .ix (.pk 1) (.var 4)) (T := T) ha
          (ρ := [some d0, some (.lst ((T ++ l0 :: tl).map iL)), some (.int s), some (.int p), some (.int (c : Nat)), some (.lst ((a :: t).map fun (i : Nat) => D.int ((T.length + i : Nat)))), y6, y7, y8, y9]) (by simp) rfl
          (V.ix_ok (V.pk_ok rfl) (V.ix_ok (V.pk_ok rfl) V.con_ok hi0) hXa) (V.ix_ok (V.pk_ok rfl) (V.var_ok rfl) hcount) (by rw [hT]; exact V.var_ok rfl) (fun v => V.ix_ok (V.pk_ok rfl) V.con_ok hi0)
        rw [hX] at hsw
        exact V.ifs_tt (x := .bl true) (V.cmp_ok (V.ix_ok (V.pk_ok rfl) V.con_ok hi0) (V.var_ok rfl) (by simp [cmpD, eqD_int, hT]; omega)) rfl (V.seq_n hsw (V.seq_n (V.set_ok (V.neg_ok (V.var_ok rfl))) (V.seq_f snil)))
    refine ⟨A1 ++ [Y], _, _, T ++ [X], s', at0 X c, some (.lst ((a :: t).map fun (i : Nat) => D.int ((T.length + i : Nat)))), some (iL X), z7, z8, hnew, by simp [hT], ?_, Nat.lt_of_lt_of_le (at0_bd hXm.2 c) (pow_le2 (by omega)), ?_⟩
    · intro r hr
      obtain ⟨x, hx, rfl⟩ := List.mem_map.mp hr
      exact ⟨ag_len _ _ _ _ _, ag_bd (hsL x hx).2 hXm.2⟩
    · refine V.seq_n (V.set_ok hat) (V.seq_n (V.ifs_skip (V.not_f (V.pk_ok rfl) rfl) rfl) (V.seq_n hsk (V.seq_n (V.set_ok (V.ix_ok (V.pk_ok rfl) (V.var_ok rfl) (z := iL X) hcount2)) (V.seq_f (V.seq_n ((V.loop_okp (ik := .range) (ds := [.int ((c + 1 : Nat)), .int (n : Nat)]) (V.Es2 (V.bin_ok (V.var_ok rfl) V.con_ok rfl) (V.bi1 (b := .len) (x := .lst ((T ++ X :: sw l0 tl a).map iL)) (V.pk_ok rfl) hlen2)) (range_it _ _ (by omega) (by omega))).trans l1) (V.seq_n (V.set_ok (V.ix_ok (V.var_ok rfl) (V.var_ok rfl) (ix_at0 (d := iL X) rfl (i := c) (by omega)))) (V.seq_f (snil.trans ?_))))))))
      simp [st]
theorem area_ok (l : Nat) {d : D} (q : List Int → D) (hq : ∀ r, Iq (q r) r) {rows : List (List Int)} {n : Nat} (hd : Sq d (rows.map q)) (ht : Tab n n 32 rows) (hn : n ≤ 5) : Ph (l + 1) 10 [d] = .ok (.int (om rows (List.range n))) [] := by
  have h59 : (2:Nat)^59 = 576460752303423488 := by decide
  have hrl := ht.len
  have h1 : evE (Ph l) g0 (.comp [8] (.nm 8) .seq [.var 0] [] (.bi .listOf [.var 8])) [some d, none, none, none, none, none, none, none, none, none] = .ok (.lst (rows.map iL)) [some d, none, none, none, none, none, none, none, none, none] :=
    V.comp_mapp (α := List Int) (ik := .seq) (ds := [d]) q iL rows (V.Es1 (V.var_ok rfl)) hd (fits_ok (by omega)) fun r hr => ⟨_, rfl, V.bi1 (V.var_ok rfl) (hq r).listOf, rfl⟩
  have hinit := Bz.init rows
  rw [hrl] at hinit
  have hlen : biD .len [.lst (rows.map iL)] = some (.int (n : Nat)) := by simp [biD, lenD, hrl]
  rcases V.forL_inv (tg := asg (.nm 4)) (body := evSs (Ph l) g0 aBody) (Q := fun v _ => v = .int 0 ∧ om rows (List.range n) = 0) ((List.range n).map fun (k : Nat) => D.int (k : Nat))
    (fun c ρ => ∃ A1 A2 L T s p y4 y5 y6 y7 y8 y9, Bz n c rows A1 A2 L s p ∧ T.length = c ∧ (∀ r ∈ L, r.length = n ∧ Bd (bb 32 c) r) ∧ p.natAbs < 2 ^ (bb 32 c) ∧ ρ = [some d, some (.lst ((T ++ L).map iL)), some (.int s), some (.int p), y4, y5, y6, y7, y8, y9])
    (ρ := [some d, some (.lst (rows.map iL)), some (.int 1), some (.int 1), none, none, none, none, none, none])
    ⟨[], rows, rows, [], 1, 1, none, none, none, none, none, none, hinit, rfl, (fun r hr => by simpa [bb] using ht.row r hr), by decide, rfl⟩ (by
      rintro c x ρ hx ⟨A1, A2, L, T, s, p, y4, y5, y6, y7, y8, y9, s1, s2, s3, s4, rfl⟩
      have hc : c < n := by
        rcases Nat.lt_or_ge c n with q | q
        · exact q
        · rw [List.getElem?_eq_none (by simpa using q)] at hx; cases hx
      have hx' : x = .int (c : Nat) := by
        rw [List.getElem?_eq_getElem (by simpa using hc)] at hx
        simpa using hx.symm
      subst hx'
      have hbc : bb 32 c ≤ 4000 := by
        refine Nat.le_trans (bb_le (l := 5) (by omega)) ?_
        unfold bb; omega
      refine ⟨_, rfl, ?_⟩
      rcases aBody_ok l (d0 := d) (y5 := y5) (y6 := y6) (y7 := y7) (y8 := y8) (y9 := y9) s1 s2 hc hn s3 s4 hbc with ⟨z, ρ', e⟩ | ⟨A1', A2', L', T', s', p', y5', y6', y7', y8', t1, t2, t3, t4, e⟩
      · exact .inr ⟨_, _, e, rfl, z⟩
      · rw [bb_succ] at t3 t4
        exact .inl ⟨_, e, A1', A2', L', T', s', p', _, y5', y6', y7', y8', y9, t1, t2, t3, t4, rfl⟩) with ⟨ρ', e, A1, A2, L, T, s, p, y4, y5, y6, y7, y8, y9, s1, s2, s3, s4, rfl⟩ | ⟨v, ρ', e, rfl, hz⟩
  · have hwl : ((List.range n).map fun (k : Nat) => D.int (k : Nat)).length = n := by simp
    rw [hwl] at s1
    have hA2 : A2 = [] := by
      have := s1.ln
      exact List.length_eq_zero_iff.mp (by omega)
    subst hA2
    have htot := s1.tot (List.range n)
    rw [List.append_nil, s1.piv] at htot
    refine Ph_run (F := fn_area) rfl (V.run_ret (ρ := [some d, some (.lst ((T ++ L).map iL)), some (.int s), some (.int p), y4, y5, y6, y7, y8, y9]) rfl ?_ rfl)
    rw [← htot]
    exact V.seq_n (V.set_ok h1) (V.seq_n (V.set_ok V.con_ok) (V.seq_f (V.seq_n (V.set_ok V.con_ok) (V.seq_f (V.seq_n ((V.loop_okp (ik := .range) (ds := [.int (n : Nat)]) (V.Es1 (V.bi1 (V.pk_ok rfl) hlen)) (range_it1 n (by omega))).trans e) (V.seq_ret (V.ret_ok (V.bin_ok (V.var_ok rfl) (V.var_ok rfl) (b_mul (mulOk_l (by rcases s1.sq with z | z <;> rw [z] <;> decide)))))))))))
  · refine Ph_run (F := fn_area) rfl (V.run_ret (ρ := ρ') rfl ?_ rfl)
    rw [hz]
    exact V.seq_n (V.set_ok h1) (V.seq_n (V.set_ok V.con_ok) (V.seq_f (V.seq_n (V.set_ok V.con_ok) (V.seq_f (V.seq_ret ((V.loop_okp (ik := .range) (ds := [.int (n : Nat)]) (V.Es1 (V.bi1 (V.pk_ok rfl) hlen)) (range_it1 n (by omega))).trans e))))))
end P00
end
section
set_option autoImplicit false
set_option linter.all false
namespace M00
def ins (c : Nat) : List Nat → List Nat
  | [] => [c]
  | a :: T => if c < a then c :: a :: T else a :: ins c T
def gtc (c : Nat) (T : List Nat) : Nat := (T.filter fun k => decide (c < k)).length
theorem ins_perm (c : Nat) : ∀ T : List Nat, (ins c T).Perm (c :: T)
  | [] => List.Perm.refl _
  | a :: T => by
    unfold ins
    split
    · exact List.Perm.refl _
    · exact ((ins_perm c T).cons a).trans (List.Perm.swap c a T)
theorem mem_ins {c x : Nat} {T : List Nat} : x ∈ ins c T ↔ x = c ∨ x ∈ T := by rw [(ins_perm c T).mem_iff]; simp
theorem ins_len (c : Nat) (T : List Nat) : (ins c T).length = T.length + 1 := (ins_perm c T).length_eq
theorem ins_pw {c : Nat} : ∀ {T : List Nat}, T.Pairwise (· < ·) → c ∉ T → (ins c T).Pairwise (· < ·)
  | [], _, _ => List.pairwise_singleton _ _
  | a :: T, h, hc => by
    rw [List.pairwise_cons] at h
    simp only [List.mem_cons, not_or] at hc
    unfold ins
    split
    · rename_i q
      rw [List.pairwise_cons]
      refine ⟨fun x hx => ?_, List.pairwise_cons.mpr h⟩
      rcases List.mem_cons.mp hx with r | r
      · omega
      · have := h.1 x r; omega
    · rw [List.pairwise_cons]
      refine ⟨fun x hx => ?_, ins_pw h.2 hc.2⟩
      rcases mem_ins.mp hx with r | r
      · omega
      · exact h.1 x r
theorem gtc_all {c : Nat} {T : List Nat} (h : ∀ x ∈ T, c < x) : gtc c T = T.length := by
  unfold gtc
  rw [List.filter_eq_self.mpr]
  intro x hx
  simpa using h x hx
theorem gtc_cons {c a : Nat} {T : List Nat} (h : ¬ c < a) : gtc c (a :: T) = gtc c T := by
  unfold gtc
  rw [List.filter_cons, if_neg (by simpa using h)]
def one (T : List Nat) (v : Int) : List Nat → Int := fun U => if U = T then v else 0
def ct (v : Int) (r : Nat → Int) (T S : List Nat) (c : Nat) : Int := if c ∉ T ∧ ins c T = S then v * r c * sg (gtc c T) else 0
theorem ct_sum {n : Nat} (v : Int) (r : Nat → Int) : ∀ (S T : List Nat), S.Pairwise (· < ·) → T.Pairwise (· < ·) → (∀ x ∈ S, x < n) → wg r S (one T v) = sumN n (ct v r T S)
  | [], T, _, _, _ => by
    rw [sumN_zero fun c _ => ?_]
    · rfl
    · unfold ct
      rw [if_neg]
      rintro ⟨_, e⟩
      have := ins_len c T
      rw [e] at this
      simp at this
  | a :: S, [], hS, _, hn => by
    have h0 : wg r S (fun U => one [] v (a :: U)) = 0 := wg_zero r S _ fun U => if_neg (by simp)
    show sg S.length * (r a * one [] v S) + wg r S (fun U => one [] v (a :: U)) = _
    rw [h0]
    cases S with
    | nil =>
      rw [sumN_one (p := a) (hn a (by simp)) fun i _ hi => ?_]
      · simp [ct, ins, one, sg, gtc]; grind
      · unfold ct
        rw [if_neg]
        rintro ⟨_, e⟩
        simp only [ins, List.cons.injEq] at e
        exact hi e.1
    | cons b S =>
      rw [sumN_zero fun c _ => ?_]
      · simp [one]
      · unfold ct
        rw [if_neg]
        rintro ⟨_, e⟩
        simp [ins] at e
  | a :: S, b :: T, hS, hT, hn => by
    rw [List.pairwise_cons] at hS hT
    have hS' : ∀ x ∈ S, x < n := fun x hx => hn x (by simp [hx])
    show sg S.length * (r a * one (b :: T) v S) + wg r S (fun U => one (b :: T) v (a :: U)) = _
    by_cases hab : a = b
    · subst hab
      have h1 : one (a :: T) v S = 0 := if_neg fun e => by
        have := hS.1 a (by rw [e]; simp)
        omega
      have h2 : (fun U => one (a :: T) v (a :: U)) = one T v := by
        funext U; unfold one; simp
      rw [h1, h2, ct_sum v r S T hS.2 hT.2 hS', Int.mul_zero, Int.mul_zero, Int.zero_add]
      refine sumN_congr fun c _ => ?_
      unfold ct
      by_cases q : c < a
      · rw [if_neg, if_neg]
        · rintro ⟨_, e⟩
          simp only [ins, if_pos q, List.cons.injEq] at e
          omega
        · rintro ⟨_, e⟩
          have : c ∈ S := by rw [← e]; exact mem_ins.mpr (.inl rfl)
          have := hS.1 c this
          omega
      · have e : ins c (a :: T) = a :: ins c T := by show (if c < a then _ else _) = _; rw [if_neg q]
        rw [e, gtc_cons q]
        by_cases q2 : c = a
        · subst q2
          rw [if_neg, if_neg]
          · rintro ⟨h, _⟩; exact h (by simp)
          · rintro ⟨_, e⟩
            have : c ∈ S := by rw [← e]; exact mem_ins.mpr (.inl rfl)
            have := hS.1 c this
            omega
        · have : (c ∉ a :: T ∧ a :: ins c T = a :: S) ↔ (c ∉ T ∧ ins c T = S) := by simp [q2]
          simp only [this]
    · have h2 : wg r S (fun U => one (b :: T) v (a :: U)) = 0 := wg_zero r S _ fun U => if_neg (by simp [hab])
      rw [h2]
      have hz : ∀ c, c ≠ a → ct v r (b :: T) (a :: S) c = 0 := fun c hc => by
        unfold ct
        rw [if_neg]
        rintro ⟨hm, e⟩
        unfold ins at e
        split at e
        · simp only [List.cons.injEq] at e; exact hc e.1
        · simp only [List.cons.injEq] at e; exact hab e.1.symm
      rw [sumN_one (p := a) (hn a (by simp)) fun i _ hi => hz i hi]
      unfold ct one
      by_cases e : S = b :: T
      · have hlt : a < b := hS.1 b (by rw [e]; simp)
        have hall : ∀ x ∈ b :: T, a < x := by rw [← e]; exact hS.1
        rw [if_pos e, if_pos, gtc_all hall, e]
        · grind
        · refine ⟨fun h => by have := hall a h; omega, ?_⟩
          show (if a < b then _ else _) = _
          rw [if_pos hlt, e]
      · rw [if_neg e, if_neg]
        · simp
        · rintro ⟨_, e2⟩
          unfold ins at e2
          split at e2
          · simp only [List.cons.injEq, true_and] at e2; exact e e2.symm
          · simp only [List.cons.injEq] at e2; exact hab e2.1.symm
abbrev Ws := List (List Nat × Int)
def putA (S : List Nat) (v : Int) : Ws → Ws
  | [] => [(S, v)]
  | p :: r => if p.1 = S then (p.1, v) :: r else p :: putA S v r
def lookA (S : List Nat) : Ws → Option Int
  | [] => none
  | p :: r => if p.1 = S then some p.2 else lookA S r
def gv (ws : Ws) (S : List Nat) : Int := (lookA S ws).getD 0
theorem look_put (S : List Nat) (v : Int) (U : List Nat) : ∀ ws : Ws, lookA U (putA S v ws) = if U = S then some v else lookA U ws
  | [] => by
    show (if S = U then _ else _) = _
    by_cases e : U = S
    · rw [if_pos e, if_pos e.symm]
    · rw [if_neg e, if_neg fun z => e z.symm]
  | p :: r => by
    unfold putA
    split
    · rename_i h
      show (if p.1 = U then some v else lookA U r) = if U = S then some v else (if p.1 = U then some p.2 else lookA U r)
      by_cases e : U = S
      · rw [if_pos e, if_pos (by rw [e]; exact h)]
      · rw [if_neg e, if_neg (fun z => e (z.symm.trans h)), if_neg fun z => e (z.symm.trans h)]
    · rename_i h
      show (if p.1 = U then some p.2 else lookA U (putA S v r)) = if U = S then some v else (if p.1 = U then some p.2 else lookA U r)
      rw [look_put S v U r]
      by_cases e : U = S
      · rw [if_pos e, if_neg fun z => h (z.trans e)]
        rw [if_pos e]
      · rw [if_neg e, if_neg e]
theorem put_len (S : List Nat) (v : Int) : ∀ ws : Ws, (putA S v ws).length ≤ ws.length + 1
  | [] => by simp [putA]
  | p :: r => by
    unfold putA
    split
    · simp
    · have := put_len S v r; simp; omega
theorem put_keys (S : List Nat) (v : Int) : ∀ ws : Ws, ∀ U, U ∈ (putA S v ws).map (·.1) ↔ U = S ∨ U ∈ ws.map (·.1)
  | [], U => by simp [putA]
  | p :: r, U => by
    unfold putA
    split
    · rename_i h
      simp only [List.map_cons, List.mem_cons]
      rw [h]; grind
    · simp only [List.map_cons, List.mem_cons, put_keys S v r U]; grind
theorem put_nodup (S : List Nat) (v : Int) : ∀ ws : Ws, (ws.map (·.1)).Nodup → ((putA S v ws).map (·.1)).Nodup
  | [], _ => by simp [putA]
  | p :: r, h => by
    rw [List.map_cons, List.nodup_cons] at h
    unfold putA
    split
    · rw [List.map_cons, List.nodup_cons]; exact h
    · rename_i hne
      rw [List.map_cons, List.nodup_cons, put_keys]
      exact ⟨fun z => z.elim hne h.1, put_nodup S v r h.2⟩
theorem look_none {S : List Nat} : ∀ {ws : Ws}, S ∉ ws.map (·.1) → lookA S ws = none
  | [], _ => rfl
  | p :: r, h => by
    simp only [List.map_cons, List.mem_cons, not_or] at h
    show (if p.1 = S then _ else _) = _
    rw [if_neg fun z => h.1 z.symm]
    exact look_none h.2
theorem look_mem {p : List Nat × Int} : ∀ {ws : Ws}, (ws.map (·.1)).Nodup → p ∈ ws → lookA p.1 ws = some p.2
  | [], _, h => by cases h
  | q :: r, hn, h => by
    rw [List.map_cons, List.nodup_cons] at hn
    show (if q.1 = p.1 then _ else _) = _
    rcases List.mem_cons.mp h with e | e
    · rw [e, if_pos rfl]
    · rw [if_neg fun z => hn.1 (by rw [z]; exact List.mem_map.mpr ⟨p, e, rfl⟩)]
      exact look_mem hn.2 e
theorem gv_cons {p : List Nat × Int} {ws : Ws} (hn : ((p :: ws).map (·.1)).Nodup) (U : List Nat) : gv (p :: ws) U = one p.1 p.2 U + gv ws U := by
  rw [List.map_cons, List.nodup_cons] at hn
  unfold gv one
  show (if p.1 = U then some p.2 else lookA U ws).getD 0 = _
  by_cases e : p.1 = U
  · subst e
    rw [if_pos rfl, if_pos rfl, look_none hn.1]; simp
  · rw [if_neg e, if_neg fun z => e z.symm]; omega
structure Good (n k : Nat) (ws : Ws) : Prop where
  nd : (ws.map (·.1)).Nodup
  pw : ∀ p ∈ ws, p.1.Pairwise (· < ·) ∧ (∀ x ∈ p.1, x < n) ∧ p.1.length = k
def stp (v : Int) (r : Nat → Int) (T : List Nat) (wide : Ws) (c : Nat) : Ws := if c ∈ T then wide else putA (ins c T) (gv wide (ins c T) + v * r c * sg (gtc c T)) wide
theorem mem_put {S : List Nat} {v : Int} {p : List Nat × Int} : ∀ {ws : Ws}, p ∈ putA S v ws → p.1 = S ∨ p ∈ ws
  | [], h => by left; rw [List.mem_singleton.mp h]
  | q :: r, h => by
    unfold putA at h
    split at h
    · rename_i e
      rcases List.mem_cons.mp h with z | z
      · left; rw [z]; exact e
      · exact .inr (List.mem_cons_of_mem _ z)
    · rcases List.mem_cons.mp h with z | z
      · right; rw [z]; simp
      · rcases mem_put z with y | y
        · exact .inl y
        · exact .inr (List.mem_cons_of_mem _ y)
theorem Good.stp {n k : Nat} {wide : Ws} (g : Good n (k + 1) wide) {T : List Nat} (h1 : T.Pairwise (· < ·)) (h2 : ∀ x ∈ T, x < n) (h3 : T.length = k) {c : Nat} (hc : c < n) (v : Int) (r : Nat → Int) : Good n (k + 1) (stp v r T wide c) := by
  unfold M00.stp
  split
  · exact g
  · rename_i hm
    refine ⟨put_nodup _ _ _ g.nd, fun p hp => ?_⟩
    rcases mem_put hp with e | e
    · rw [e]
      refine ⟨ins_pw h1 hm, fun x hx => ?_, by rw [ins_len, h3]⟩
      rcases mem_ins.mp hx with z | z
      · omega
      · exact h2 x z
    · exact g.pw p e
theorem gv_stp (v : Int) (r : Nat → Int) (T : List Nat) (wide : Ws) (c : Nat) (S : List Nat) : gv (stp v r T wide c) S = gv wide S + ct v r T S c := by
  unfold stp ct
  by_cases h : c ∈ T
  · rw [if_pos h, if_neg fun z => z.1 h]; omega
  · rw [if_neg h]
    unfold gv
    rw [look_put]
    by_cases e : ins c T = S
    · rw [if_pos e.symm, if_pos ⟨h, e⟩, e]; rfl
    · rw [if_neg fun z => e z.symm, if_neg fun z => e z.2]; omega
theorem stp_len (v : Int) (r : Nat → Int) (T : List Nat) (wide : Ws) (c : Nat) : (stp v r T wide c).length ≤ wide.length + 1 := by
  unfold stp
  split
  · omega
  · exact put_len _ _ _
def row1 (n : Nat) (v : Int) (r : Nat → Int) (T : List Nat) (wide : Ws) : Ws := (List.range n).foldl (stp v r T) wide
theorem row1_props {k N : Nat} (v : Int) (r : Nat → Int) (T : List Nat) (wide : Ws) (h1 : T.Pairwise (· < ·)) (h2 : ∀ x ∈ T, x < N) (h3 : T.length = k) : ∀ n, n ≤ N → Good N (k + 1) wide →
    Good N (k + 1) (row1 n v r T wide) ∧ (∀ S, gv (row1 n v r T wide) S = gv wide S + sumN n (ct v r T S)) ∧ (row1 n v r T wide).length ≤ wide.length + n
  | 0, _, g => ⟨g, fun S => by show gv wide S = gv wide S + 0; omega, Nat.le_refl _⟩
  | n + 1, hn, g => by
    obtain ⟨a, b, c⟩ := row1_props v r T wide h1 h2 h3 n (by omega) g
    have e : row1 (n + 1) v r T wide = stp v r T (row1 n v r T wide) n := by
      unfold row1
      rw [List.range_succ, List.foldl_append]; rfl
    rw [e]
    refine ⟨a.stp h1 h2 h3 (by omega) v r, fun S => ?_, ?_⟩
    · rw [gv_stp, b]
      show _ = gv wide S + (sumN n (ct v r T S) + ct v r T S n)
      omega
    · have := stp_len v r T (row1 n v r T wide) n
      omega
def rowW (n : Nat) (r : Nat → Int) (ws : Ws) (wide : Ws) : Ws := ws.foldl (fun wide p => row1 n p.2 r p.1 wide) wide
theorem rowW_props {n k : Nat} (r : Nat → Int) : ∀ (ws wide : Ws), Good n k ws → Good n (k + 1) wide →
    Good n (k + 1) (rowW n r ws wide) ∧ (∀ S, S.Pairwise (· < ·) → (∀ x ∈ S, x < n) → gv (rowW n r ws wide) S = gv wide S + wg r S (gv ws)) ∧ (rowW n r ws wide).length ≤ wide.length + n * ws.length
  | [], wide, _, g => ⟨g, fun S _ _ => by rw [wg_zero r S (gv []) fun T => rfl]; show gv wide S = _; omega, by show wide.length ≤ _; omega⟩
  | p :: ws, wide, gw, g => by
    have hp := gw.pw p (by simp)
    have gw' : Good n k ws := ⟨(by have := gw.nd; rw [List.map_cons, List.nodup_cons] at this; exact this.2), fun q hq => gw.pw q (by simp [hq])⟩
    obtain ⟨a, b, c⟩ := row1_props (k := k) p.2 r p.1 wide hp.1 hp.2.1 hp.2.2 n (Nat.le_refl n) g
    obtain ⟨a', b', c'⟩ := rowW_props r ws (row1 n p.2 r p.1 wide) gw' a
    refine ⟨a', fun S h1 h2 => ?_, ?_⟩
    · show gv (rowW n r ws (row1 n p.2 r p.1 wide)) S = _
      have e : gv (p :: ws) = fun U => one p.1 p.2 U + gv ws U := by funext U; exact gv_cons gw.nd U
      rw [b' S h1 h2, b S, e, wg_add, ct_sum p.2 r S p.1 h1 hp.1 h2]; omega
    · show (rowW n r ws (row1 n p.2 r p.1 wide)).length ≤ _
      rw [List.length_cons, Nat.mul_succ]; omega
theorem Good.nil (n k : Nat) : Good n k [] := ⟨List.nodup_nil, fun _ h => by cases h⟩
/-- the last: one set at most -/
theorem pw_bound : ∀ {T : List Nat} {lo hi : Nat}, T.Pairwise (· < ·) → (∀ x ∈ T, lo ≤ x ∧ x < hi) → lo ≤ hi → T.length ≤ hi - lo
  | [], _, _, _, _, _ => by simp
  | a :: T, lo, hi, h, hb, hl => by
    rw [List.pairwise_cons] at h
    have ha := hb a (by simp)
    have := pw_bound (T := T) (lo := a + 1) (hi := hi) h.2 (fun x hx => ⟨h.1 x hx, (hb x (by simp [hx])).2⟩) (by omega)
    rw [List.length_cons]; omega
theorem pw_full : ∀ {T : List Nat} {lo : Nat}, T.Pairwise (· < ·) → (∀ x ∈ T, lo ≤ x ∧ x < lo + T.length) → T = List.range' lo T.length
  | [], _, _, _ => rfl
  | a :: T, lo, h, hb => by
    rw [List.pairwise_cons] at h
    have ha := hb a (by simp)
    rw [List.length_cons] at ha
    have hlen := pw_bound (T := T) (lo := a + 1) (hi := lo + (T.length + 1)) h.2 (fun x hx => ⟨h.1 x hx, (hb x (by simp [hx])).2⟩) (by omega)
    have e : a = lo := by omega
    subst e
    have := pw_full (T := T) (lo := a + 1) h.2 (fun x hx => ⟨h.1 x hx, by have := (hb x (by simp [hx])).2; rw [List.length_cons] at this; omega⟩)
    rw [List.length_cons, List.range'_succ, ← this]
theorem Good.sum {n : Nat} {ws : Ws} (g : Good n n ws) : (ws.map (·.2)).sum = gv ws (List.range n) := by
  have hk : ∀ p ∈ ws, p.1 = List.range n := fun p hp => by
    obtain ⟨a, b, c⟩ := g.pw p hp
    have := pw_full (T := p.1) (lo := 0) a fun x hx => ⟨by omega, by have := b x hx; omega⟩
    rw [this, c, List.range_eq_range']
  cases ws with
  | nil => rfl
  | cons p r =>
    cases r with
    | nil =>
      have := hk p (by simp)
      unfold gv
      show _ = (if p.1 = List.range n then some p.2 else none).getD 0
      rw [if_pos this]; simp
    | cons q r =>
      have h1 := g.nd
      rw [List.map_cons, List.nodup_cons] at h1
      exact absurd (by rw [hk p (by simp), ← hk q (by simp)]; simp) h1.1
end M00
end
section
set_option autoImplicit false
set_option linter.all false
set_option maxRecDepth 8000
set_option exponentiation.threshold 10000
namespace P00
open PX M00
theorem forL_cons {tg : D → Env → Option Env} {body : Env → PX.R Out} {x : D} {xs : List D} {ρ ρ1 ρ2 : Env} (h1 : tg x ρ = some ρ1) (h2 : body ρ1 = .ok .next ρ2) : forL [] tg body (x :: xs) ρ = forL [] tg body xs ρ2 := by
  show (match tg x ρ with | none => _ | some ρ1 => _) = _
  rw [h1]
  show (body ρ1).bind _ = _
  rw [h2]
  rfl
abbrev iK (T : List Nat) : D := .tup (iN T)
abbrev iW (ws : Ws) : List (D × D) := ws.map fun p => (iK p.1, D.int p.2)
theorem iN_eq (T : List Nat) : iN T = (T.map fun (p : Nat) => (p : Int)).map D.int := by simp [iN, List.map_map, Function.comp_def]
theorem eqB_iK (a b : List Nat) : eqB (iK a) (iK b) = decide (a = b) := by
  unfold iK
  rw [iN_eq, iN_eq]
  show eqBs _ _ = _
  rw [eqBs_ints, decide_eq_decide]
  exact List.map_inj_right (fun x y h => by omega)
theorem isKey_iK (T : List Nat) : isKey true (iK T) = true := by
  unfold iK
  rw [iN_eq]
  show (true && (nums _).isSome) = true
  rw [nums_ints]; rfl
theorem putK_iW (S : List Nat) (v : Int) : ∀ ws : Ws, putK (iK S) (.int v) (iW ws) = iW (putA S v ws)
  | [] => rfl
  | p :: r => by
    show (if eqB (iK p.1) (iK S) then (iK p.1, D.int v) :: iW r else (iK p.1, D.int p.2) :: putK (iK S) (.int v) (iW r)) = iW (if p.1 = S then (p.1, v) :: r else p :: putA S v r)
    rw [eqB_iK, putK_iW S v r]
    by_cases e : p.1 = S
    · rw [decide_eq_true e, if_pos rfl, if_pos e]; rfl
    · rw [decide_eq_false e, if_neg (by simp), if_neg e]; rfl
theorem look_iW (S : List Nat) : ∀ ws : Ws, look (iK S) (iW ws) = (lookA S ws).map D.int
  | [] => rfl
  | p :: r => by
    show (if eqB (iK p.1) (iK S) then some (D.int p.2) else look (iK S) (iW r)) = (if p.1 = S then some p.2 else lookA S r).map D.int
    rw [eqB_iK, look_iW S r]
    by_cases e : p.1 = S
    · rw [decide_eq_true e, if_pos rfl, if_pos e]; rfl
    · rw [decide_eq_false e, if_neg (by simp), if_neg e]
theorem sort_ins {T : List Nat} {c : Nat} (h : T.Pairwise (· < ·)) (hc : c ∉ T) : sortedD [.tup (iN (T ++ [c]))] = some (.lst (iN (ins c T))) := by
  have hint : ∀ x ∈ iN (T ++ [c]), ∃ k : Nat, x = .int k := fun x hx => by
    obtain ⟨k, _, rfl⟩ := List.mem_map.mp hx
    exact ⟨k, rfl⟩
  have hok : sortOk (iN (T ++ [c])) = true := by
    unfold sortOk
    simp only [Bool.and_eq_true, List.all_eq_true, Bool.or_eq_true]
    refine ⟨⟨fun x hx => ?_, fun x hx y hy => ?_⟩, .inr fun x hx => ?_⟩
    · obtain ⟨k, rfl⟩ := hint x hx; exact shp_int _ _
    · obtain ⟨k, rfl⟩ := hint x hx; obtain ⟨j, rfl⟩ := hint y hy; rfl
    · obtain ⟨k, rfl⟩ := hint x hx; rfl
  have hs : sortL (iN (T ++ [c])) = iN ((T ++ [c]).mergeSort fun a b => decide (a ≤ b)) := by
    unfold sortL iN
    rw [List.map_mergeSort]
    intro a _ b _
    show decide (a ≤ b) = !decide ((b : Int) < (a : Int))
    rw [Bool.eq_iff_iff]; simp
  have hm : (T ++ [c]).mergeSort (fun a b => decide (a ≤ b)) = ins c T := by
    have p1 : ((T ++ [c]).mergeSort fun a b => decide (a ≤ b)).Perm (ins c T) := by
      refine (List.mergeSort_perm _ _).trans (List.Perm.trans ?_ (ins_perm c T).symm)
      exact List.perm_append_comm
    have p2 := List.pairwise_mergeSort (le := fun a b : Nat => decide (a ≤ b)) (fun a b c h1 h2 => by simp at *; omega) (fun a b => by simp; omega) (T ++ [c])
    refine p1.eq_of_pairwise (fun a b _ _ h1 h2 => ?_) p2 ((ins_pw h hc).imp fun h => by simp; omega)
    simp at h1 h2; omega
  show (if sortOk _ then _ else _) = _
  rw [if_pos hok, hs, hm]
theorem sg_mod (m : Nat) : (1 : Int) - 2 * ((m : Int).fmod 2) = sg m := by
  induction m with
  | zero => rfl
  | succ m ih =>
    show _ = - sg m
    rw [← ih]
    have h1 : (m : Int).fmod 2 = ((m % 2 : Nat) : Int) := fmod_nat m 2
    have h2 : ((m + 1 : Nat) : Int).fmod 2 = (((m + 1) % 2 : Nat) : Int) := fmod_nat (m + 1) 2
    rw [h1, h2]; omega
abbrev wCol : List S := [.ifs (.cmp .notin (.var 5) (.var 4)) [.set 6 (.bi .len [.comp [8] (.nm 8) .seq [.var 4] [.cmp .gt (.var 8) (.var 5)] (.var 8)]), .frz 6, .set 7 (.bi .tupleOf [.bi .sorted [.bin .add (.var 4) (.tup [.var 5])]]), .frz 7, .setix 3 (.var 7) (.bin .add (.get2 (.pk 3) (.var 7) (.con (.int 0))) (.bin .mul (.bin .mul (.ix (.var 1) (.var 4)) (.ix (.var 2) (.var 5))) (.bin .sub (.con (.int 1)) (.bin .mul (.con (.int 2)) (.bin .mod (.bi .intOf [.var 6]) (.con (.int 2)))))))] []]
theorem wCol_ok (Φ : Fns) {ws wide : Ws} {T : List Nat} {v : Int} {r : List Int} {c n : Nat} {d0 y6 y7 y8 : Option D} (hT : T.Pairwise (· < ·)) (hTl : T.length ≤ 100) (hv : lookA T ws = some v) (hr : Bd 32 r) (hc : c < r.length) (hw : wide.length < 16777216) :
    ∃ z6 z7, evSs Φ g0 wCol [d0, some (.dic true (iW ws)), some (iT r), some (.dic true (iW wide)), some (iK T), some (.int (c : Nat)), y6, y7, y8] = .ok .next [d0, some (.dic true (iW ws)), some (iT r), some (.dic true (iW (stp v (at0 r) T wide c))), some (iK T), some (.int (c : Nat)), z6, z7, y8] := by
  have hni := notin_nat c T
  by_cases hm : c ∈ T
  · rw [decide_eq_true hm] at hni
    refine ⟨y6, y7, ?_⟩
    have e : stp v (at0 r) T wide c = wide := by unfold stp; rw [if_pos hm]
    rw [e]
    exact V.seq_n (V.ifs_skip (V.cmp_ok (V.var_ok rfl) (V.var_ok rfl) hni) rfl) snil
  · rw [decide_eq_false hm] at hni
    have e : stp v (at0 r) T wide c = putA (ins c T) (gv wide (ins c T) + v * at0 r c * sg (gtc c T)) wide := by unfold stp; rw [if_neg hm]
    rw [e]
    have hcomp : evE Φ g0 (.comp [8] (.nm 8) .seq [.var 4] [.cmp .gt (.var 8) (.var 5)] (.var 8)) [d0, some (.dic true (iW ws)), some (iT r), some (.dic true (iW wide)), some (iK T), some (.int (c : Nat)), y6, y7, y8] = .ok (.lst ((T.filter fun k => decide (c < k)).map fun (k : Nat) => D.int k)) [d0, some (.dic true (iW ws)), some (iT r), some (.dic true (iW wide)), some (iK T), some (.int (c : Nat)), y6, y7, y8] := by
      refine V.comp_filt (α := Nat) (ik := .seq) (ds := [iK T]) (fun (k : Nat) => D.int k) (fun k => decide (c < k)) (fun (k : Nat) => D.int k) T (V.Es1 (V.var_ok rfl)) rfl (fits_ok (by omega)) fun k hk => ⟨_, rfl, V.cmp_ok (V.var_ok rfl) (V.var_ok rfl) ?_, (fun _ => V.var_ok rfl), rfl⟩
      simp only [cmpD]
      congr 1
      rw [decide_eq_decide]; omega
    have hlen : biD .len [.lst ((T.filter fun k => decide (c < k)).map fun (k : Nat) => D.int k)] = some (.int (gtc c T : Nat)) := by simp [biD, lenD, gtc]
    have hadd : binD .add (iK T) (.tup [.int (c : Nat)]) = some (.tup (iN (T ++ [c]))) := by
      simp only [binD, addD]
      rw [if_pos (fits_ok (by simp; omega))]
      simp [iN]
    have hsrt : biD .sorted [.tup (iN (T ++ [c]))] = some (.lst (iN (ins c T))) := sort_ins hT hm
    have hget : getD2 (.dic true (iW wide)) (iK (ins c T)) (.int 0) = some (.int (gv wide (ins c T))) := by
      simp only [getD2]
      rw [if_pos (isKey_iK _), look_iW]
      unfold gv
      cases lookA (ins c T) wide <;> rfl
    have hix : ixD (.dic true (iW ws)) (iK T) = some (.int v) := by
      simp only [ixD]
      rw [if_pos (isKey_iK _), look_iW, hv]; rfl
    refine ⟨some (.int (gtc c T : Nat)), some (iK (ins c T)), ?_⟩
    refine V.seq_n (V.ifs_tt (V.cmp_ok (V.var_ok rfl) (V.var_ok rfl) hni) rfl (V.seq_n (V.set_ok (V.bi1 hcomp hlen)) (V.seq_f (V.seq_n (V.set_ok (V.bi1 (V.bi1 (V.bin_ok (V.var_ok rfl) (V.tup_ok (V.Es1 (V.var_ok rfl))) hadd) hsrt) (y := iK (ins c T)) rfl)) (V.seq_f (V.seq_n (V.setix_ok (v := .int (gv wide (ins c T) + v * at0 r c * sg (gtc c T))) (ρ1 := [d0, some (.dic true (iW ws)), some (iT r), some (.dic true (iW wide)), some (iK T), some (.int (c : Nat)), some (.int (gtc c T : Nat)), some (iK (ins c T)), y8]) rfl ?_ (V.var_ok rfl) rfl (y := .dic true (iW (putA (ins c T) (gv wide (ins c T) + v * at0 r c * sg (gtc c T)) wide))) ?_) snil)))))) snil
    · refine V.bin_ok (x := .int (gv wide (ins c T))) (y := .int (v * at0 r c * sg (gtc c T))) (ρ1 := [d0, some (.dic true (iW ws)), some (iT r), some (.dic true (iW wide)), some (iK T), some (.int (c : Nat)), some (.int (gtc c T : Nat)), some (iK (ins c T)), y8]) ?_ ?_ rfl
      · simp only [evE, optR, gt, st, PX.R.bind, isDic2, hget, if_true]
      · rw [← sg_mod]
        refine V.bin_ok (V.bin_ok (V.ix_ok (V.var_ok rfl) (V.var_ok rfl) hix) (V.ix_ok (V.var_ok rfl) (V.var_ok rfl) (ix_at0 (d := iT r) rfl hc)) (b_mul (mulOk_r (Nat.lt_of_lt_of_le (at0_bd hr c) (pow_le2 (by omega)))))) (V.bin_ok V.con_ok (V.bin_ok V.con_ok (V.bin_ok (V.bi1 (V.var_ok rfl) rfl) V.con_ok (b_mod (by omega))) (b_mul (mulOk_l (by decide)))) rfl) (b_mul (mulOk_r ?_))
        have h1 : ((gtc c T : Nat) : Int).fmod 2 = ((gtc c T % 2 : Nat) : Int) := fmod_nat _ 2
        rw [h1]
        have : (2 : Nat) ^ 64 = 18446744073709551616 := by decide
        omega
    · simp only [setD]
      rw [isKey_iK, decide_eq_true (by simp only [List.length_map, sizeLine]; exact hw), putK_iW]
      rfl
theorem wRow_ok (Φ : Fns) {ws : Ws} {T : List Nat} {v : Int} {r : List Int} {d0 : Option D} (hT : T.Pairwise (· < ·)) (hTl : T.length ≤ 100) (hv : lookA T ws = some v) (hr : Bd 32 r) (wide : Ws) (y5 y6 y7 y8 : Option D) (hw : wide.length + r.length < 16777216) :
    ∃ z5 z6 z7 z8, evSs Φ g0 [.loop [] (.nm 5) .range [.bi .len [.var 2]] wCol] [d0, some (.dic true (iW ws)), some (iT r), some (.dic true (iW wide)), some (iK T), y5, y6, y7, y8] = .ok .next [d0, some (.dic true (iW ws)), some (iT r), some (.dic true (iW (row1 r.length v (at0 r) T wide))), some (iK T), z5, z6, z7, z8] := by
  have h59 : (2:Nat)^59 = 576460752303423488 := by decide
  have hl : ∀ k, (row1 k v (at0 r) T wide).length ≤ wide.length + k := fun k => by
    induction k with
    | zero => exact Nat.le_refl _
    | succ k ih =>
      have e : row1 (k + 1) v (at0 r) T wide = stp v (at0 r) T (row1 k v (at0 r) T wide) k := by
        unfold row1
        rw [List.range_succ, List.foldl_append]; rfl
      rw [e]
      have := stp_len v (at0 r) T (row1 k v (at0 r) T wide) k
      omega
  obtain ⟨ρ', l1, z5, z6, z7, z8, l2⟩ := V.forL_next (tg := asg (.nm 5)) (body := evSs Φ g0 wCol) ((List.range r.length).map fun (k : Nat) => D.int (k : Nat))
    (fun k ρ => ∃ y5 y6 y7 y8, ρ = [d0, some (.dic true (iW ws)), some (iT r), some (.dic true (iW (row1 k v (at0 r) T wide))), some (iK T), y5, y6, y7, y8])
    (ρ := [d0, some (.dic true (iW ws)), some (iT r), some (.dic true (iW wide)), some (iK T), y5, y6, y7, y8]) ⟨y5, y6, y7, y8, rfl⟩ (by
      rintro c x ρ hx ⟨y5, y6, y7, y8, rfl⟩
      have hc : c < r.length := by
        rcases Nat.lt_or_ge c r.length with q | q
        · exact q
        · rw [List.getElem?_eq_none (by simpa using q)] at hx; cases hx
      have hx' : x = .int (c : Nat) := by
        rw [List.getElem?_eq_getElem (by simpa using hc)] at hx
        simpa using hx.symm
      subst hx'
      obtain ⟨z6, z7, e⟩ := wCol_ok Φ (d0 := d0) (y6 := y6) (y7 := y7) (y8 := y8) (n := 0) hT hTl hv hr hc (wide := row1 c v (at0 r) T wide) (by have := hl c; omega)
      refine ⟨_, rfl, _, e, some (.int (c : Nat)), z6, z7, y8, ?_⟩
      have e2 : row1 (c + 1) v (at0 r) T wide = stp v (at0 r) T (row1 c v (at0 r) T wide) c := by
        unfold row1
        rw [List.range_succ, List.foldl_append]; rfl
      rw [e2])
  have hwl : ((List.range r.length).map fun (k : Nat) => D.int (k : Nat)).length = r.length := by simp
  rw [hwl] at l2
  subst l2
  have hlen : biD .len [iT r] = some (.int (r.length : Nat)) := by simp [biD, lenD]
  exact ⟨z5, z6, z7, z8, V.seq_n ((V.loop_okp (ik := .range) (ds := [.int (r.length : Nat)]) (V.Es1 (V.bi1 (V.var_ok rfl) hlen)) (range_it1 _ (by omega))).trans l1) snil⟩
theorem wKeys_ok (Φ : Fns) {ws : Ws} {r : List Int} {d0 : Option D} {n k : Nat} (g : Good n k ws) (hk : k ≤ 100) (hr : Bd 32 r) (hn : r.length = n) : ∀ (ws2 wide : Ws) (y4 y5 y6 y7 y8 : Option D), (∀ p ∈ ws2, p ∈ ws) → Good n (k + 1) wide → wide.length + n * ws2.length < 10000000 → n ≤ 100 →
    ∃ z4 z5 z6 z7 z8, forL [] (asg (.nm 4)) (evSs Φ g0 [.loop [] (.nm 5) .range [.bi .len [.var 2]] wCol]) (ws2.map fun p => iK p.1) [d0, some (.dic true (iW ws)), some (iT r), some (.dic true (iW wide)), y4, y5, y6, y7, y8] = .ok .next [d0, some (.dic true (iW ws)), some (iT r), some (.dic true (iW (rowW n (at0 r) ws2 wide))), z4, z5, z6, z7, z8]
  | [], wide, y4, y5, y6, y7, y8, _, _, _, _ => ⟨y4, y5, y6, y7, y8, rfl⟩
  | p :: ws2, wide, y4, y5, y6, y7, y8, hm, gw, hl, h100 => by
    have hp := g.pw p (hm p (by simp))
    have hv := look_mem g.nd (hm p (by simp))
    rw [List.length_cons, Nat.mul_succ] at hl
    obtain ⟨a, b, c⟩ := row1_props (k := k) p.2 (at0 r) p.1 wide hp.1 hp.2.1 hp.2.2 n (Nat.le_refl n) gw
    obtain ⟨z5, z6, z7, z8, e⟩ := wRow_ok Φ (d0 := d0) hp.1 (by omega) hv hr wide y5 y6 y7 y8 (by omega)
    rw [hn] at e
    obtain ⟨x4, x5, x6, x7, x8, e2⟩ := wKeys_ok Φ (d0 := d0) g hk hr hn ws2 (row1 n p.2 (at0 r) p.1 wide) (some (iK p.1)) z5 z6 z7 z8 (fun q hq => hm q (by simp [hq])) a (by omega) h100
    refine ⟨x4, x5, x6, x7, x8, ?_⟩
    rw [List.map_cons, forL_cons (ρ1 := [d0, some (.dic true (iW ws)), some (iT r), some (.dic true (iW wide)), some (iK p.1), y5, y6, y7, y8]) rfl e]
    exact e2
theorem larea_ok (l : Nat) {d : D} {rows : List (List Int)} {n : Nat} (hd : Sq d (rows.map iT)) (ht : Tab n n 32 rows) (hn : n ≤ 5) : Ph (l + 1) 27 [d] = .ok (.int (om rows (List.range n))) [] := by
  have hrl := ht.len
  obtain ⟨ρ', l1, ws, y2, y3, y4, y5, y6, y7, y8, l2, l3, l4, l5⟩ := V.forL_next (tg := asg (.nm 2)) (body := evSs (Ph l) g0 [.set 3 (.dic true [] []), .loop [] (.nm 4) .keys [.pk 1] [.loop [] (.nm 5) .range [.bi .len [.var 2]] wCol], .set 1 (.var 3), .frz 1]) (rows.map iT)
    (fun k ρ => ∃ ws y2 y3 y4 y5 y6 y7 y8, Good n k ws ∧ ws.length ≤ 5 ^ k ∧ (∀ S, S.Pairwise (· < ·) → (∀ x ∈ S, x < n) → gv ws S = om (rows.take k) S) ∧ ρ = [some d, some (.dic true (iW ws)), y2, y3, y4, y5, y6, y7, y8])
    (ρ := [some d, some (.dic true (iW [([], 1)])), none, none, none, none, none, none, none])
    ⟨[([], 1)], none, none, none, none, none, none, none, ⟨by simp, fun p hp => by rw [List.mem_singleton.mp hp]; exact ⟨.nil, (fun _ h => by cases h), rfl⟩⟩, by simp, fun S _ _ => by
      show (if [] = S then some (1 : Int) else none).getD 0 = dl S
      unfold dl
      by_cases e : S = []
      · rw [if_pos e, if_pos e.symm]; rfl
      · rw [if_neg e, if_neg fun z => e z.symm]; rfl, rfl⟩ (by
      rintro k x ρ hx ⟨ws, y2, y3, y4, y5, y6, y7, y8, g, hl, hg, rfl⟩
      have hk : k < rows.length := by
        rcases Nat.lt_or_ge k rows.length with q | q
        · exact q
        · rw [List.getElem?_eq_none (by simpa using q)] at hx; cases hx
      have hx' : x = iT rows[k] := by
        rw [List.getElem?_eq_getElem (by simpa using hk)] at hx
        simpa using hx.symm
      subst hx'
      have hrow := ht.row _ (List.getElem_mem hk)
      have hpow : 5 ^ k ≤ 5 ^ 4 := Nat.pow_le_pow_right (by omega) (by omega)
      have hnw : n * ws.length ≤ 5 * ws.length := Nat.mul_le_mul_right _ hn
      obtain ⟨a, b, c⟩ := rowW_props (at0 rows[k]) ws [] g (Good.nil n (k + 1))
      obtain ⟨z4, z5, z6, z7, z8, e⟩ := wKeys_ok (Ph l) (d0 := some d) g (by omega) hrow.2 hrow.1 ws [] y4 y5 y6 y7 y8 (fun p hp => hp) (Good.nil n (k + 1)) (by simp only [List.length_nil]; omega) (by omega)
      refine ⟨_, rfl, _, ?_, rowW n (at0 rows[k]) ws [], some (iT rows[k]), some (.dic true (iW (rowW n (at0 rows[k]) ws []))), z4, z5, z6, z7, z8, a, ?_, fun S h1 h2 => ?_, rfl⟩
      · refine V.seq_n (V.set_ok (x := .dic true []) (ρ1 := [some d, some (.dic true (iW ws)), some (iT rows[k]), y3, y4, y5, y6, y7, y8]) (by simp only [evE, evEs, PX.R.bind]; rfl)) (V.seq_n (ρ' := [some d, some (.dic true (iW ws)), some (iT rows[k]), some (.dic true (iW (rowW n (at0 rows[k]) ws []))), z4, z5, z6, z7, z8]) ?_ (V.seq_n (V.set_ok (V.var_ok rfl)) (V.seq_f snil)))
        rw [V.loop_okp (ik := .keys) (ds := [.dic true (iW ws)]) (xs := ws.map fun p => iK p.1) (V.Es1 (V.pk_ok rfl)) (by simp [itD, List.map_map, Function.comp_def])]
        show onlyNext (forL [] (asg (.nm 4)) _ _ [some d, some (.dic true (iW ws)), some (iT rows[k]), some (.dic true (iW [])), y4, y5, y6, y7, y8]) = _
        rw [e]
        rfl
      · have : 5 ^ (k + 1) = 5 * 5 ^ k := by rw [Nat.pow_succ, Nat.mul_comm]
        simp only [List.length_nil] at c
        omega
      · rw [b S h1 h2]
        have e1 : om (rows.take (k + 1)) S = wg (at0 rows[k]) S (om (rows.take k)) := by
          show wgl ((rows.take (k + 1)).map at0) dl S = _
          rw [List.take_succ_eq_append_getElem hk, List.map_append, wgl_app]; rfl
        rw [e1]
        show 0 + _ = _
        rw [Int.zero_add]
        refine wg_sub _ _ _ _ fun T hT => hg T (h1.sublist hT) fun x hx => h2 x (hT.subset hx))
  subst l5
  rw [List.length_map, hrl] at l2 l3 l4
  have hfull : rows.take n = rows := by rw [← hrl, List.take_length]
  rw [hfull] at l4
  have hsum := l2.sum
  rw [l4 (List.range n) List.pairwise_lt_range (fun x hx => by simpa using hx)] at hsum
  have hpow : 5 ^ n ≤ 5 ^ 5 := Nat.pow_le_pow_right (by omega) (by omega)
  refine Ph_run (F := fn__law_area) rfl (V.run_ret (ρ := [some d, some (.dic true (iW ws)), y2, y3, y4, y5, y6, y7, y8]) rfl ?_ rfl)
  refine V.seq_n (V.set_ok (x := .dic true (iW [([], 1)])) (ρ1 := [some d, none, none, none, none, none, none, none, none]) (by simp only [evE, evEs, PX.R.bind]; rfl)) (V.seq_f (V.seq_n ((V.loop_okp (ik := .seq) (ds := [d]) (xs := rows.map iT) (V.Es1 (V.var_ok rfl)) hd).trans l1) (V.seq_ret (V.ret_ok (V.bi1 (V.comp_mapp (α := List Nat × Int) (ik := .keys) (ds := [.dic true (iW ws)]) (fun p => iK p.1) (fun p => D.int p.2) ws (V.Es1 (V.pk_ok rfl)) (by simp [itD, List.map_map, Function.comp_def]) (fits_ok (by omega)) fun p hp => ⟨_, rfl, V.ix_ok (V.var_ok rfl) (V.var_ok rfl) ?_, rfl⟩) ?_)))))
  · simp only [ixD]
    rw [if_pos (isKey_iK _), look_iW, look_mem l2.nd hp]; rfl
  · simp only [biD, sumD, nums_map, Option.map_some, hsum]
end P00
end
section
set_option autoImplicit false
set_option linter.all false
set_option maxRecDepth 8000
set_option exponentiation.threshold 10000
namespace P00
open PX M00
variable {y0 y1 y2 y3 y4 y5 y6 y7 y8 y9 y10 y11 y12 y13 y14 y15 y16 y17 y18 y19 y20 y21 y22 y23 y24 y25 y26 : Option D}
theorem ix_rows {q : List Int → D} {d : D} {F : List (List Int)} (hd : Sq d (F.map q)) {k : Nat} (hk : k < F.length) : ixD d (.int (k : Nat)) = some (q F[k]) := by
  rw [hd.ix, atD_nat (by simpa using hk), List.getElem_map]
theorem ix_nats {P : List Nat} {k : Nat} (hk : k < P.length) : ixD (.tup (iN P)) (.int (k : Nat)) = some (.int (P[k] : Nat)) := by
  simp only [ixD]
  rw [atD_nat (by simpa using hk), List.getElem_map]
theorem dot_dt {r x : List Int} : ∀ {w : Nat}, r.length = w → w ≤ x.length → dotI r x = dt w r (at0 x) := by
  have gen : ∀ (r x : List Int), r.length ≤ x.length → dotI r x = dt r.length r (at0 x) := by
    intro r x
    induction r generalizing x with
    | nil => intro h; cases x with
      | nil => rfl
      | cons => rfl
    | cons a r ih =>
      intro h
      cases x with
      | nil => simp at h
      | cons b x =>
        have h' : r.length ≤ x.length := by simpa using h
        have e := ih x h'
        have hs : ∀ (n : Nat) (f : Nat → Int), sumN (n + 1) f = f 0 + sumN n (fun i => f (i + 1)) := by
          intro n f
          induction n with
          | zero => show (0 : Int) + f 0 = f 0 + 0; omega
          | succ n ih2 =>
            show sumN (n + 1) f + f (n + 1) = f 0 + (sumN n (fun i => f (i + 1)) + f (n + 1))
            rw [ih2]; omega
        have : dt (a :: r).length (a :: r) (at0 (b :: x)) = a * b + dt r.length r (at0 x) := by
          unfold dt
          rw [List.length_cons, hs]
          rfl
        rw [this, ← e]
        simp [dotI]
  intro w h1 h2
  rw [gen r x (by omega), h1]
theorem ne_nat (j k : Nat) : cmpD .ne (.int (j : Nat)) (.int (k : Nat)) = some (!decide (j = k)) := by
  have : decide ((j : Int) = (k : Int)) = decide (j = k) := by rw [decide_eq_decide]; omega
  simp only [cmpD, eqD_int, Option.map_some, this]
theorem sub_one {k : Nat} (h : 0 < k) : binD .sub (.int (k : Nat)) (.int 1) = some (.int ((k - 1 : Nat))) := by
  have : (k : Int) - 1 = ((k - 1 : Nat) : Int) := by omega
  simp only [binD, subD, this]
theorem lt_one {a : Int} (h : 1 ≤ a) : cmpD .lt (.int a) (.int 1) = some false := by
  show some (decide (a < 1)) = some false
  rw [decide_eq_false (by omega)]
abbrev fCond1 : E := .or (.not (.bi .isTup [.var 21])) (.or (.cmp .ne (.bi .len [.var 21]) (.var 2)) (.or (.cmp .ne (.call 29 [.var 21]) (.ix (.var 6) (.var 8))) (.or (.cmp .lt (.ix (.var 21) (.ix (.var 6) (.var 8))) (.con (.int 1))) (.cmp .ne (.call 21 [.var 21]) (.con (.int 1))))))
abbrev fCond2 : E := .or (.cmp .ne (.comp [24] (.nm 24) .range [.var 7] [.and (.cmp .ne (.var 24) (.var 8)) (.cmp .ne (.ix (.ix (.var 5) (.var 24)) (.ix (.var 6) (.var 8))) (.con (.int 0)))] (.var 24)) (.lst [])) (.and (.cmp .gt (.var 8) (.con (.int 0))) (.cmp .le (.ix (.var 6) (.var 8)) (.ix (.var 6) (.bin .sub (.var 8) (.con (.int 1))))))
abbrev fBody : List S := [.set 21 (.ix (.var 5) (.var 8)), .frz 21, .ifs fCond1 [.ret (.con (.bl false))] [], .ifs fCond2 [.ret (.con (.bl false))] []]
theorem and_ff {Φ : Fns} {a b : E} {ρ : Env} {k1 k2 : Bool} (h1 : evE Φ g0 a ρ = .ok (.bl k1) ρ) (h2 : k1 = true → evE Φ g0 b ρ = .ok (.bl k2) ρ) (h : k1 = true → k2 = false) : evE Φ g0 (.and a b) ρ = .ok (.bl false) ρ := by
  cases k1 with
  | false => exact V.and_f h1
  | true => rw [← h rfl]; exact V.and_t h1 (h2 rfl)
theorem fBody_ok (n : Nat) {w h B k : Nat} {rows F L : List (List Int)} {P : List Nat} (s : Sg w w h B rows F P L) (hw : w ≤ 5) (hh : h ≤ 5) (hB : B ≤ 37) (hk : k < P.length) :
    ∃ z21, evSs (Ph (n + 2)) g0 fBody [y0, y1, some (.int (w : Nat)), y3, y4, some (.tup (F.map iT)), some (.tup (iN P)), some (.int (P.length : Nat)), some (.int (k : Nat)), y9, y10, y11, y12, y13, y14, y15, y16, y17, y18, y19, y20, y21, y22, y23, y24, y25, y26] = .ok .next [y0, y1, some (.int (w : Nat)), y3, y4, some (.tup (F.map iT)), some (.tup (iN P)), some (.int (P.length : Nat)), some (.int (k : Nat)), y9, y10, y11, y12, y13, y14, y15, y16, y17, y18, y19, y20, z21, y22, y23, y24, y25, y26] := by
  have h59 : (2:Nat)^59 = 576460752303423488 := by decide
  have hcn := s.cnt
  have hlen := s.st.len
  have hkF : k < F.length := by omega
  have hf := s.fs _ (List.getElem_mem hkF)
  have hp := s.st.pos k hk
  have hlo := s.st.lo k hk
  have hoff := fun j hj hn => s.st.off j k hj hk hn
  have hlt := s.st.lt _ (pk_mem hk)
  have hb9 : Bd 9000 F[k] := hf.2.1.mono (by
    refine Nat.le_trans (bb_le (l := 5) (by omega)) ?_
    unfold bb; omega)
  rw [fk_get hkF] at hp hlo
  have hfirst := first_ok (n + 1) (d := iT F[k]) (xs := F[k]) rfl (by omega) (p := pk P k) (by omega) (by rw [← at0_get (by omega)]; omega) (fun i hi => by rw [← at0_get (by omega)]; exact hlo i hi)
  have hg := lgcds_ok n (d := iT F[k]) (xs := F[k]) rfl hb9
  rw [hf.2.2] at hg
  have hixF := ix_rows (q := iT) (d := .tup (F.map iT)) rfl hkF
  have hixP := ix_nats hk
  rw [← pk_get hk] at hixP
  have hlen21 : biD .len [iT F[k]] = some (.int (w : Nat)) := by simp [biD, lenD, hf.1]
  have hc1 : evE (Ph (n + 2)) g0 fCond1 [y0, y1, some (.int (w : Nat)), y3, y4, some (.tup (F.map iT)), some (.tup (iN P)), some (.int (P.length : Nat)), some (.int (k : Nat)), y9, y10, y11, y12, y13, y14, y15, y16, y17, y18, y19, y20, some (iT F[k]), y22, y23, y24, y25, y26] = .ok (.bl false) [y0, y1, some (.int (w : Nat)), y3, y4, some (.tup (F.map iT)), some (.tup (iN P)), some (.int (P.length : Nat)), some (.int (k : Nat)), y9, y10, y11, y12, y13, y14, y15, y16, y17, y18, y19, y20, some (iT F[k]), y22, y23, y24, y25, y26] := by
    refine V.or_f (V.not_f (V.bi1 (V.var_ok rfl) rfl) rfl) (V.or_f (V.cmp_ok (V.bi1 (V.var_ok rfl) hlen21) (V.var_ok rfl) (by simp [cmpD, eqD_int])) (V.or_f (V.cmp_ok (V.call_ok (V.Es1 (V.var_ok rfl)) hfirst rfl) (V.ix_ok (V.var_ok rfl) (V.var_ok rfl) hixP) (by simp [cmpD, eqD_int])) (V.or_f (V.cmp_ok (V.ix_ok (V.var_ok rfl) (V.ix_ok (V.var_ok rfl) (V.var_ok rfl) hixP) (ix_at0 (d := iT F[k]) rfl (i := pk P k) (by omega))) V.con_ok (lt_one (by omega))) (V.cmp_ok (V.call_ok (V.Es1 (V.var_ok rfl)) hg rfl) V.con_ok (by simp [cmpD, eqD_int])))))
  have hcomp : evE (Ph (n + 2)) g0 (.comp [24] (.nm 24) .range [.var 7] [.and (.cmp .ne (.var 24) (.var 8)) (.cmp .ne (.ix (.ix (.var 5) (.var 24)) (.ix (.var 6) (.var 8))) (.con (.int 0)))] (.var 24)) [y0, y1, some (.int (w : Nat)), y3, y4, some (.tup (F.map iT)), some (.tup (iN P)), some (.int (P.length : Nat)), some (.int (k : Nat)), y9, y10, y11, y12, y13, y14, y15, y16, y17, y18, y19, y20, some (iT F[k]), y22, y23, y24, y25, y26] = .ok (.lst []) [y0, y1, some (.int (w : Nat)), y3, y4, some (.tup (F.map iT)), some (.tup (iN P)), some (.int (P.length : Nat)), some (.int (k : Nat)), y9, y10, y11, y12, y13, y14, y15, y16, y17, y18, y19, y20, some (iT F[k]), y22, y23, y24, y25, y26] := by
    refine V.comp_nil (α := Nat) (ik := .range) (ds := [.int (P.length : Nat)]) (fun j => D.int (j : Nat)) (List.range P.length) (V.Es1 (V.var_ok rfl)) (range_it1 _ (by omega)) (fits_ok (by simp; omega)) fun j hj => ?_
    have hj' : j < P.length := by simpa using hj
    have hjF : j < F.length := by omega
    have hfj := s.fs _ (List.getElem_mem hjF)
    refine ⟨_, rfl, and_ff (k1 := !decide (j = k)) (k2 := !decide (at0 F[j] (pk P k) = 0)) (V.cmp_ok (V.var_ok rfl) (V.var_ok rfl) ?_) (fun _ => V.cmp_ok (V.ix_ok (V.ix_ok (V.var_ok rfl) (V.var_ok rfl) (ix_rows (q := iT) (d := .tup (F.map iT)) rfl hjF)) (V.ix_ok (V.var_ok rfl) (V.var_ok rfl) hixP) (ix_at0 (d := iT F[j]) rfl (i := pk P k) (by omega))) V.con_ok (by simp [cmpD, eqD_int])) fun hjk => ?_, rfl⟩
    · exact ne_nat _ _
    · have := hoff j hj' (by simpa using hjk)
      rw [fk_get hjF] at this
      rw [this]; rfl
  have hc2 : evE (Ph (n + 2)) g0 fCond2 [y0, y1, some (.int (w : Nat)), y3, y4, some (.tup (F.map iT)), some (.tup (iN P)), some (.int (P.length : Nat)), some (.int (k : Nat)), y9, y10, y11, y12, y13, y14, y15, y16, y17, y18, y19, y20, some (iT F[k]), y22, y23, y24, y25, y26] = .ok (.bl false) [y0, y1, some (.int (w : Nat)), y3, y4, some (.tup (F.map iT)), some (.tup (iN P)), some (.int (P.length : Nat)), some (.int (k : Nat)), y9, y10, y11, y12, y13, y14, y15, y16, y17, y18, y19, y20, some (iT F[k]), y22, y23, y24, y25, y26] := by
    refine V.or_f (V.cmp_ok hcomp (V.lst_ok V.Es0) rfl) (and_ff (k1 := decide (0 < (k : Int))) (k2 := decide ((pk P k : Int) ≤ (pk P (k - 1) : Nat))) (V.cmp_ok (V.var_ok rfl) V.con_ok rfl) (fun h0 => ?_) fun h0 => ?_)
    · have h0' : 0 < k := by simpa using h0
      have hixP1 := ix_nats (P := P) (k := k - 1) (by omega)
      rw [← pk_get] at hixP1
      exact V.cmp_ok (V.ix_ok (V.var_ok rfl) (V.var_ok rfl) hixP) (V.ix_ok (V.var_ok rfl) (V.bin_ok (V.var_ok rfl) V.con_ok (sub_one h0')) hixP1) rfl
    · have h0' : 0 < k := by simpa using h0
      have := List.pairwise_iff_getElem.mp s.st.pw (k - 1) k (by omega) hk (by omega)
      rw [← pk_get, ← pk_get] at this
      rw [decide_eq_false_iff_not]; omega
  exact ⟨some (iT F[k]), V.seq_n (V.set_ok (V.ix_ok (V.var_ok rfl) (V.var_ok rfl) hixF)) (V.seq_f (V.seq_n (V.ifs_skip hc1 rfl) (V.seq_n (V.ifs_skip hc2 rfl) snil)))⟩
theorem fLoop_ok (n : Nat) {w h B : Nat} {rows F L : List (List Int)} {P : List Nat} (s : Sg w w h B rows F P L) (hw : w ≤ 5) (hh : h ≤ 5) (hB : B ≤ 37) :
    ∃ z8 z21, evS (Ph (n + 2)) g0 (.loop [] (.nm 8) .range [.var 7] fBody) [y0, y1, some (.int (w : Nat)), y3, y4, some (.tup (F.map iT)), some (.tup (iN P)), some (.int (P.length : Nat)), y8, y9, y10, y11, y12, y13, y14, y15, y16, y17, y18, y19, y20, y21, y22, y23, y24, y25, y26] = .ok .next [y0, y1, some (.int (w : Nat)), y3, y4, some (.tup (F.map iT)), some (.tup (iN P)), some (.int (P.length : Nat)), z8, y9, y10, y11, y12, y13, y14, y15, y16, y17, y18, y19, y20, z21, y22, y23, y24, y25, y26] := by
  have h59 : (2:Nat)^59 = 576460752303423488 := by decide
  have hcn := s.cnt
  obtain ⟨ρ', l1, z8, z21, l2⟩ := V.forL_next (tg := asg (.nm 8)) (body := evSs (Ph (n + 2)) g0 fBody) ((List.range P.length).map fun (k : Nat) => D.int (k : Nat))
    (fun _ ρ => ∃ z8 z21, ρ = [y0, y1, some (.int (w : Nat)), y3, y4, some (.tup (F.map iT)), some (.tup (iN P)), some (.int (P.length : Nat)), z8, y9, y10, y11, y12, y13, y14, y15, y16, y17, y18, y19, y20, z21, y22, y23, y24, y25, y26]) (ρ := [y0, y1, some (.int (w : Nat)), y3, y4, some (.tup (F.map iT)), some (.tup (iN P)), some (.int (P.length : Nat)), y8, y9, y10, y11, y12, y13, y14, y15, y16, y17, y18, y19, y20, y21, y22, y23, y24, y25, y26]) ⟨y8, y21, rfl⟩ (by
      rintro k x ρ hx ⟨z8, z21, rfl⟩
      have hk : k < P.length := by
        rcases Nat.lt_or_ge k P.length with q | q
        · exact q
        · rw [List.getElem?_eq_none (by simpa using q)] at hx; cases hx
      have hx' : x = .int (k : Nat) := by
        rw [List.getElem?_eq_getElem (by simpa using hk)] at hx
        simpa using hx.symm
      subst hx'
      obtain ⟨z, e⟩ := fBody_ok n s hw hh hB hk
      exact ⟨_, rfl, _, e, _, z, rfl⟩)
  subst l2
  exact ⟨z8, z21, (V.loop_okp (ik := .range) (ds := [.int (P.length : Nat)]) (V.Es1 (V.var_ok rfl)) (range_it1 _ (by omega))).trans l1⟩
abbrev zcCond1 : E := .or (.cmp .ne (.bi .len [.var 12]) (.var 2)) (.or (.cmp .lt (.ix (.var 12) (.var 11)) (.con (.int 1))) (.or (.cmp .ne (.call 21 [.var 12]) (.con (.int 1))) (.cmp .ne (.comp [8] (.nm 8) .seq [.var 10] [.and (.cmp .ne (.var 8) (.var 11)) (.cmp .ne (.ix (.var 12) (.var 8)) (.con (.int 0)))] (.var 8)) (.lst []))))
abbrev zcCond2 : E := .cmp .ne (.comp [21] (.nm 21) .seq [.var 3] [.cmp .ne (.call 22 [.var 21, .var 12]) (.con (.int 0))] (.var 21)) (.lst [])
abbrev zcBody : List S := [.ifs zcCond1 [.ret (.con (.bl false))] [], .ifs zcCond2 [.ret (.con (.bl false))] []]
theorem zcBody_ok (n : Nat) {w h f : Nat} {rows : List (List Int)} {P fr : List Nat} {Z : List Int} (ht : Tab h w 32 rows) (hw : w ≤ 5) (hh : h ≤ 5) (hf : f < w) (hfr : ∀ k ∈ fr, k < w ∧ k ∉ P) (hfl : fr.length ≤ 100) (hz : ZP w rows P f Z) :
    evSs (Ph (n + 2)) g0 zcBody [y0, y1, some (.int (w : Nat)), some (.lst (rows.map iT)), y4, y5, y6, y7, y8, y9, some (.lst (iN fr)), some (.int (f : Nat)), some (iT Z), y13, y14, y15, y16, y17, y18, y19, y20, y21, y22, y23, y24, y25, y26] = .ok .next [y0, y1, some (.int (w : Nat)), some (.lst (rows.map iT)), y4, y5, y6, y7, y8, y9, some (.lst (iN fr)), some (.int (f : Nat)), some (iT Z), y13, y14, y15, y16, y17, y18, y19, y20, y21, y22, y23, y24, y25, y26] := by
  obtain ⟨z1, z2, z3, z4, z5, z6⟩ := hz
  have hg := lgcds_ok n (d := iT Z) (xs := Z) rfl z2
  rw [z3] at hg
  have hlen12 : biD .len [iT Z] = some (.int (w : Nat)) := by simp [biD, lenD, z1]
  have hc1 : evE (Ph (n + 2)) g0 zcCond1 [y0, y1, some (.int (w : Nat)), some (.lst (rows.map iT)), y4, y5, y6, y7, y8, y9, some (.lst (iN fr)), some (.int (f : Nat)), some (iT Z), y13, y14, y15, y16, y17, y18, y19, y20, y21, y22, y23, y24, y25, y26] = .ok (.bl false) [y0, y1, some (.int (w : Nat)), some (.lst (rows.map iT)), y4, y5, y6, y7, y8, y9, some (.lst (iN fr)), some (.int (f : Nat)), some (iT Z), y13, y14, y15, y16, y17, y18, y19, y20, y21, y22, y23, y24, y25, y26] := by
    refine V.or_f (V.cmp_ok (V.bi1 (V.var_ok rfl) hlen12) (V.var_ok rfl) (by simp [cmpD, eqD_int])) (V.or_f (V.cmp_ok (V.ix_ok (V.var_ok rfl) (V.var_ok rfl) (ix_at0 (d := iT Z) rfl (i := f) (by omega))) V.con_ok (lt_one (by omega))) (V.or_f (V.cmp_ok (V.call_ok (V.Es1 (V.var_ok rfl)) hg rfl) V.con_ok (by simp [cmpD, eqD_int])) (V.cmp_ok (V.comp_nil (α := Nat) (ik := .seq) (ds := [.lst (iN fr)]) (fun (k : Nat) => D.int k) fr (V.Es1 (V.var_ok rfl)) rfl (fits_ok (by omega)) fun k hk => ?_) (V.lst_ok V.Es0) rfl)))
    have hk' := hfr k hk
    refine ⟨_, rfl, and_ff (k1 := !decide (k = f)) (k2 := !decide (at0 Z k = 0)) (V.cmp_ok (V.var_ok rfl) (V.var_ok rfl) ?_) (fun _ => V.cmp_ok (V.ix_ok (V.var_ok rfl) (V.var_ok rfl) (ix_at0 (d := iT Z) rfl (i := k) (by omega))) V.con_ok (by simp [cmpD, eqD_int])) fun hjk => ?_, rfl⟩
    · exact ne_nat _ _
    · have := z5 k hk'.1 hk'.2 (by simpa using hjk)
      rw [this]; rfl
  have hc2 : evE (Ph (n + 2)) g0 zcCond2 [y0, y1, some (.int (w : Nat)), some (.lst (rows.map iT)), y4, y5, y6, y7, y8, y9, some (.lst (iN fr)), some (.int (f : Nat)), some (iT Z), y13, y14, y15, y16, y17, y18, y19, y20, y21, y22, y23, y24, y25, y26] = .ok (.bl false) [y0, y1, some (.int (w : Nat)), some (.lst (rows.map iT)), y4, y5, y6, y7, y8, y9, some (.lst (iN fr)), some (.int (f : Nat)), some (iT Z), y13, y14, y15, y16, y17, y18, y19, y20, y21, y22, y23, y24, y25, y26] := by
    refine V.cmp_ok (V.comp_nil (α := List Int) (ik := .seq) (ds := [.lst (rows.map iT)]) iT rows (V.Es1 (V.var_ok rfl)) rfl (fits_ok (by have := ht.len; omega)) fun r hr => ?_) (V.lst_ok V.Es0) rfl
    have hr' := ht.row r hr
    have hd := ldot_ok (n + 1) (d := iT r) (e := iT Z) (xs := r) (ys := Z) rfl rfl (fun p hp => by
      have hm := List.of_mem_zip hp
      exact mulOk_of (hr'.2 _ hm.1) (z2 _ hm.2) (by omega) (by omega)) (by omega)
    rw [dot_dt hr'.1 (by omega), z6 r hr] at hd
    exact ⟨_, rfl, V.cmp_ok (V.call_ok (V.Es2 (V.var_ok rfl) (V.var_ok rfl)) hd rfl) V.con_ok rfl, rfl⟩
  exact V.seq_n (V.ifs_skip hc1 rfl) (V.seq_n (V.ifs_skip hc2 rfl) snil)
theorem zcLoop_ok (n : Nat) {w h : Nat} {rows : List (List Int)} {P fr : List Nat} (ht : Tab h w 32 rows) (hw : w ≤ 5) (hh : h ≤ 5) (hfr : ∀ k ∈ fr, k < w ∧ k ∉ P) (hfl : fr.length ≤ 100) : ∀ (ps : List (Nat × List Int)) (x11 x12 : Option D), (∀ p ∈ ps, p.1 ∈ fr ∧ ZP w rows P p.1 p.2) →
    ∃ z11 z12, forL [] (asg (.tp [.nm 11, .nm 12])) (evSs (Ph (n + 2)) g0 zcBody) (ps.map fun p => D.tup [.int (p.1 : Nat), iT p.2]) [y0, y1, some (.int (w : Nat)), some (.lst (rows.map iT)), y4, y5, y6, y7, y8, y9, some (.lst (iN fr)), x11, x12, y13, y14, y15, y16, y17, y18, y19, y20, y21, y22, y23, y24, y25, y26] = .ok .next [y0, y1, some (.int (w : Nat)), some (.lst (rows.map iT)), y4, y5, y6, y7, y8, y9, some (.lst (iN fr)), z11, z12, y13, y14, y15, y16, y17, y18, y19, y20, y21, y22, y23, y24, y25, y26]
  | [], x11, x12, _ => ⟨x11, x12, rfl⟩
  | p :: ps, x11, x12, hp => by
    have h1 := hp p (by simp)
    obtain ⟨z11, z12, e⟩ := zcLoop_ok n ht hw hh hfr hfl ps (some (.int (p.1 : Nat))) (some (iT p.2)) fun q hq => hp q (by simp [hq])
    refine ⟨z11, z12, ?_⟩
    rw [List.map_cons, forL_cons (ρ1 := [y0, y1, some (.int (w : Nat)), some (.lst (rows.map iT)), y4, y5, y6, y7, y8, y9, some (.lst (iN fr)), some (.int (p.1 : Nat)), some (iT p.2), y13, y14, y15, y16, y17, y18, y19, y20, y21, y22, y23, y24, y25, y26]) rfl (zcBody_ok n ht hw hh (hfr _ h1.1).1 hfr hfl h1.2)]
    exact e
theorem zip_words (fr : List Nat) (Zs : List (List Int)) : itD .zip [.lst (iN fr), .tup (Zs.map iT)] = some ((fr.zip Zs).map fun p => D.tup [.int (p.1 : Nat), iT p.2]) := by
  simp only [itD, seqD, Option.bind_some, Option.map_some]
  rw [zipD_map]
end P00
end
section
set_option autoImplicit false
set_option linter.all false
set_option maxRecDepth 8000
set_option exponentiation.threshold 10000
namespace P00
open PX M00
variable {y0 y1 y2 y3 y4 y5 y6 y7 y8 y9 y10 y11 y12 y13 y14 y15 y16 y17 y18 y19 y20 y21 y22 y23 y24 y25 y26 : Option D}
abbrev dC1 : E := .cmp .ne (.cmp .is (.var 19) (.con .non)) (.cmp .gt (.call 28 [.comp [21, 25] (.tp [.nm 21, .nm 25]) .zip [.var 3, .var 14] [] (.bin .add (.var 21) (.tup [.var 25])), .bin .add (.var 2) (.con (.int 1))]) (.var 7))
abbrev dC2 : E := .or (.not (.bi .isTup [.var 19])) (.or (.not (.call 23 [.var 19, .var 2])) (.cmp .ne (.comp [8] (.nm 8) .seq [.var 10] [.cmp .ne (.ix (.var 19) (.var 8)) (.con (.int 0))] (.var 8)) (.lst [])))
abbrev dC3 : E := .cmp .ne (.comp [8] (.nm 8) .range [.var 1] [.cmp .ne (.call 22 [.ix (.var 3) (.var 8), .var 19]) (.bin .mul (.ix (.var 14) (.var 8)) (.ix (.var 19) (.neg (.con (.int 1)))))] (.var 8)) (.lst [])
abbrev dBody : List S := [.set 19 (.call 15 [.var 3, .bi .listOf [.var 14], .var 2]), .frz 19, .ifs dC1 [.ret (.con (.bl false))] [], .ifs (.cmp .isnot (.var 19) (.con .non)) [.ifs dC2 [.ret (.con (.bl false))] [], .ifs dC3 [.ret (.con (.bl false))] []] []]
theorem eq_bl (a b : Bool) : cmpD .ne (.bl a) (.bl b) = some (!(a == b)) := by cases a <;> cases b <;> rfl
theorem last_at0 {T : List Int} {w : Nat} (h : T.length = w + 1) : T.getLastD 0 = at0 T w := by
  have hne : T ≠ [] := fun e => by rw [e] at h; simp at h
  rw [at0_get (by omega), List.getLastD_eq_getLast?, List.getLast?_eq_some_getLast hne, List.getLast_eq_getElem]
  simp only [Option.getD_some, h]
  rfl
theorem wide_sol {w h : Nat} {rows : List (List Int)} {due : List Int} (ht : Tab h w 37 rows) (hl : due.length = h) (x : Nat → Int) (hx : x w = 0) : sol w rows x ↔ sol (w + 1) (aug rows due) x := by
  constructor
  · intro hs r hr
    obtain ⟨p, hp, rfl⟩ := List.mem_map.mp hr
    have hm := List.of_mem_zip hp
    rw [dt_app (ht.row _ hm.1).1, hx, Int.mul_zero, hs _ hm.1]; rfl
  · intro hs r hr
    obtain ⟨i, hi, e⟩ := List.mem_iff_getElem.mp hr
    have hz : i < (rows.zip due).length := by have := ht.len; simp; omega
    have := hs ((rows.zip due)[i].1 ++ [(rows.zip due)[i].2]) (List.mem_map.mpr ⟨_, List.getElem_mem hz, rfl⟩)
    rw [List.getElem_zip] at this
    simp only [e] at this
    rw [dt_app (ht.row r hr).1, hx, Int.mul_zero] at this
    omega
theorem dBody_ok (n : Nat) {w h B : Nat} {rows F L : List (List Int)} {P fr : List Nat} {due : List Int} (s : Sg w w h B rows F P L) (ht : Tab h w 37 rows) (hw : w ≤ 5) (hh : h ≤ 5) (hl : due.length = h) (hb : Bd 37 due) (hfr : ∀ k ∈ fr, k < w ∧ k ∉ P) (hfl : fr.length ≤ 100) :
    ∃ z19, evSs (Ph (n + 6)) g0 dBody [y0, some (.int (h : Nat)), some (.int (w : Nat)), some (.lst (rows.map iT)), y4, y5, y6, some (.int (P.length : Nat)), y8, y9, some (.lst (iN fr)), y11, y12, y13, some (iT due), y15, y16, y17, y18, y19, y20, y21, y22, y23, y24, y25, y26] = .ok .next [y0, some (.int (h : Nat)), some (.int (w : Nat)), some (.lst (rows.map iT)), y4, y5, y6, some (.int (P.length : Nat)), y8, y9, some (.lst (iN fr)), y11, y12, y13, some (iT due), y15, y16, y17, y18, z19, y20, y21, y22, y23, y24, y25, y26] := by
  have h59 : (2:Nat)^59 = 576460752303423488 := by decide
  have hrl := ht.len
  have hr1 : ∀ r ∈ rows, r.length = w := fun r hr => (ht.row r hr).1
  have hat := aug_tab ht hl hb
  obtain ⟨F', P', L', s', hs⟩ := solved_ok n (d := .lst (rows.map iT)) (e := iL due) rfl rfl ht hl hb hw hh
  obtain ⟨F2, P2, L2, s2, hrank⟩ := lrank_ok (n + 5) iT (fun r => rfl) (d := .lst ((aug rows due).map iT)) (rows := aug rows due) (w := w + 1) (b := 37) rfl hat.row (by rw [hat.len]; omega) (by omega) (by omega)
  have hP2 : P2 = P' := s2.same s'.st fun x => Iff.rfl
  obtain ⟨q1, q2⟩ := St.wide s.st s'.st (wide_sol ht hl)
  rw [hP2] at hrank
  have hset : ∀ v : D, Ph (n + 6) 15 [.lst (rows.map iT), iL due, .int (w : Nat)] = .ok v [] → evS (Ph (n + 6)) g0 (.set 19 (.call 15 [.var 3, .bi .listOf [.var 14], .var 2])) [y0, some (.int (h : Nat)), some (.int (w : Nat)), some (.lst (rows.map iT)), y4, y5, y6, some (.int (P.length : Nat)), y8, y9, some (.lst (iN fr)), y11, y12, y13, some (iT due), y15, y16, y17, y18, y19, y20, y21, y22, y23, y24, y25, y26] = .ok .next [y0, some (.int (h : Nat)), some (.int (w : Nat)), some (.lst (rows.map iT)), y4, y5, y6, some (.int (P.length : Nat)), y8, y9, some (.lst (iN fr)), y11, y12, y13, some (iT due), y15, y16, y17, y18, some v, y20, y21, y22, y23, y24, y25, y26] := fun v hv =>
    V.set_ok (V.call_ok (V.EsC (V.var_ok rfl) (V.Es2 (V.bi1 (V.var_ok rfl) (y := iL due) rfl) (V.var_ok rfl))) hv rfl)
  have haug : ∀ v : D, evE (Ph (n + 6)) g0 (.comp [21, 25] (.tp [.nm 21, .nm 25]) .zip [.var 3, .var 14] [] (.bin .add (.var 21) (.tup [.var 25]))) [y0, some (.int (h : Nat)), some (.int (w : Nat)), some (.lst (rows.map iT)), y4, y5, y6, some (.int (P.length : Nat)), y8, y9, some (.lst (iN fr)), y11, y12, y13, some (iT due), y15, y16, y17, y18, some v, y20, y21, y22, y23, y24, y25, y26] = .ok (.lst ((aug rows due).map iT)) [y0, some (.int (h : Nat)), some (.int (w : Nat)), some (.lst (rows.map iT)), y4, y5, y6, some (.int (P.length : Nat)), y8, y9, some (.lst (iN fr)), y11, y12, y13, some (iT due), y15, y16, y17, y18, some v, y20, y21, y22, y23, y24, y25, y26] := fun v =>
    aug_ev (Ph (n + 6)) iT (fun r => rfl) (it1 := .var 3) (it2 := .var 14) (e6 := .var 21) (x := 21) (y := 25) (d := .lst (rows.map iT)) (e := iT due) rfl rfl (V.var_ok rfl) (V.var_ok rfl) hr1 (by omega) (by omega) (by simp) (by simp) (by omega) (fun ρ' r hg _ => V.var_ok hg)
  have hgt : ∀ v : D, evE (Ph (n + 6)) g0 (.cmp .gt (.call 28 [.comp [21, 25] (.tp [.nm 21, .nm 25]) .zip [.var 3, .var 14] [] (.bin .add (.var 21) (.tup [.var 25])), .bin .add (.var 2) (.con (.int 1))]) (.var 7)) [y0, some (.int (h : Nat)), some (.int (w : Nat)), some (.lst (rows.map iT)), y4, y5, y6, some (.int (P.length : Nat)), y8, y9, some (.lst (iN fr)), y11, y12, y13, some (iT due), y15, y16, y17, y18, some v, y20, y21, y22, y23, y24, y25, y26] = .ok (.bl (decide ((P.length : Int) < (P'.length : Nat)))) [y0, some (.int (h : Nat)), some (.int (w : Nat)), some (.lst (rows.map iT)), y4, y5, y6, some (.int (P.length : Nat)), y8, y9, some (.lst (iN fr)), y11, y12, y13, some (iT due), y15, y16, y17, y18, some v, y20, y21, y22, y23, y24, y25, y26] := fun v =>
    V.cmp_ok (V.call_ok (V.Es2 (haug v) (V.bin_ok (V.var_ok rfl) V.con_ok (z := .int ((w + 1 : Nat))) rfl)) hrank rfl) (V.var_ok rfl) rfl
  rcases hs with ⟨hwP, hcall⟩ | ⟨hwP, T, hT, hcall⟩
  · have hlt : decide ((P.length : Int) < (P'.length : Nat)) = true := by
      rw [q2 hwP, decide_eq_true_iff, List.length_append, List.length_singleton]; omega
    have h1 := hgt .non
    rw [hlt] at h1
    refine ⟨some .non, V.seq_n (hset _ hcall) (V.seq_f (V.seq_n (V.ifs_skip (V.cmp_ok (V.cmp_ok (V.var_ok rfl) V.con_ok (k := true) rfl) h1 (eq_bl _ _)) rfl) (V.seq_n (V.ifs_skip (V.cmp_ok (V.var_ok rfl) V.con_ok (k := false) rfl) rfl) snil)))⟩
  · have hlt : decide ((P.length : Int) < (P'.length : Nat)) = false := by
      rw [q1 hwP, decide_eq_false_iff_not]; omega
    have h1 := hgt (iT T)
    rw [hlt] at h1
    have hPP := q1 hwP
    have hne : T ≠ [] := fun e => by have := hT.len; rw [e] at this; simp at this
    have hpl := lis_place_ok (n + 3) (d := iT T) (xs := T) (w : Nat) rfl hne hT.bd
    have hisP : isP T (w : Nat) = true := by
      unfold isP
      rw [last_at0 hT.len, decide_eq_true hT.pos, decide_eq_true hT.gcd, decide_eq_true (by have := hT.len; omega)]; rfl
    rw [hisP] at hpl
    have hc2 : evE (Ph (n + 6)) g0 dC2 [y0, some (.int (h : Nat)), some (.int (w : Nat)), some (.lst (rows.map iT)), y4, y5, y6, some (.int (P.length : Nat)), y8, y9, some (.lst (iN fr)), y11, y12, y13, some (iT due), y15, y16, y17, y18, some (iT T), y20, y21, y22, y23, y24, y25, y26] = .ok (.bl false) [y0, some (.int (h : Nat)), some (.int (w : Nat)), some (.lst (rows.map iT)), y4, y5, y6, some (.int (P.length : Nat)), y8, y9, some (.lst (iN fr)), y11, y12, y13, some (iT due), y15, y16, y17, y18, some (iT T), y20, y21, y22, y23, y24, y25, y26] := by
      refine V.or_f (V.not_f (V.bi1 (V.var_ok rfl) rfl) rfl) (V.or_f (V.not_f (V.call_ok (V.Es2 (V.var_ok rfl) (V.var_ok rfl)) hpl rfl) rfl) (V.cmp_ok (V.comp_nil (α := Nat) (ik := .seq) (ds := [.lst (iN fr)]) (fun (k : Nat) => D.int k) fr (V.Es1 (V.var_ok rfl)) rfl (fits_ok (by omega)) fun k hk => ?_) (V.lst_ok V.Es0) rfl))
      have hk' := hfr k hk
      have hz := hT.zero k hk'.1 (by rw [hPP]; exact hk'.2)
      have hix := ix_at0 (d := iT T) (xs := T) rfl (i := k) (by have := hT.len; omega)
      rw [hz] at hix
      exact ⟨_, rfl, V.cmp_ok (V.ix_ok (V.var_ok rfl) (V.var_ok rfl) hix) V.con_ok rfl, rfl⟩
    have hc3 : evE (Ph (n + 6)) g0 dC3 [y0, some (.int (h : Nat)), some (.int (w : Nat)), some (.lst (rows.map iT)), y4, y5, y6, some (.int (P.length : Nat)), y8, y9, some (.lst (iN fr)), y11, y12, y13, some (iT due), y15, y16, y17, y18, some (iT T), y20, y21, y22, y23, y24, y25, y26] = .ok (.bl false) [y0, some (.int (h : Nat)), some (.int (w : Nat)), some (.lst (rows.map iT)), y4, y5, y6, some (.int (P.length : Nat)), y8, y9, some (.lst (iN fr)), y11, y12, y13, some (iT due), y15, y16, y17, y18, some (iT T), y20, y21, y22, y23, y24, y25, y26] := by
      refine V.cmp_ok (V.comp_nil (α := Nat) (ik := .range) (ds := [.int (h : Nat)]) (fun (k : Nat) => D.int (k : Nat)) (List.range h) (V.Es1 (V.var_ok rfl)) (range_it1 _ (by omega)) (fits_ok (by simp; omega)) fun k hk => ?_) (V.lst_ok V.Es0) rfl
      have hk' : k < h := by simpa using hk
      have hkr : k < rows.length := by omega
      have hrow := ht.row _ (List.getElem_mem hkr)
      have hTl := hT.len
      have hd := ldot_ok (n + 5) (d := iT rows[k]) (e := iT T) (xs := rows[k]) (ys := T) rfl rfl (fun p hp => by
        have hm := List.of_mem_zip hp
        exact mulOk_of (hrow.2 _ hm.1) (hT.bd _ hm.2) (by omega) (by omega)) (by omega)
      have hz : k < (rows.zip due).length := by simp; omega
      have he := hT.eq (rows.zip due)[k] (List.getElem_mem hz)
      rw [List.getElem_zip] at he
      simp only at he
      rw [dot_dt hrow.1 (by omega), he, ← at0_get (by omega)] at hd
      have hlast := ix_last (d := iT T) (xs := T) rfl hne
      rw [last_at0 hTl] at hlast
      refine ⟨_, rfl, V.cmp_ok (V.call_ok (V.Es2 (V.ix_ok (V.var_ok rfl) (V.var_ok rfl) (ix_rows (q := iT) (d := .lst (rows.map iT)) rfl hkr)) (V.var_ok rfl)) hd rfl) (V.bin_ok (V.ix_ok (V.var_ok rfl) (V.var_ok rfl) (ix_at0 (d := iT due) (xs := due) rfl (i := k) (by omega))) (V.ix_ok (V.var_ok rfl) (V.neg_ok V.con_ok) hlast) (b_mul (mulOk_of (at0_bd hb k) (at0_bd hT.bd w) (by omega) (by omega)))) ?_, rfl⟩
      simp [cmpD, eqD_int]
    refine ⟨some (iT T), V.seq_n (hset _ hcall) (V.seq_f (V.seq_n (V.ifs_skip (V.cmp_ok (V.cmp_ok (V.var_ok rfl) V.con_ok (k := false) rfl) h1 (eq_bl _ _)) rfl) (V.seq_n (V.ifs_tt (V.cmp_ok (V.var_ok rfl) V.con_ok (k := true) rfl) rfl (V.seq_n (V.ifs_skip hc2 rfl) (V.seq_n (V.ifs_skip hc3 rfl) snil))) snil)))⟩
abbrev dIt : E := .lst [.bi .tupleOf [.comp [21] (.nm 21) .seq [.var 3] [] (.call 22 [.var 21, .var 12])], .bi .tupleOf [.comp [21] (.nm 21) .seq [.var 3] [] (.bin .sub (.call 18 [.io 0, .con (.int 7)]) (.con (.int 3)))]]
theorem dIt_ok (n : Nat) {d0 : D} {w h : Nat} {rows : List (List Int)} {word : List Int} (hs : Src d0) (ht : Tab h w 32 rows) (hw : w ≤ 5) (hh : h ≤ 5) (hwl : word.length = w) (hwb : ∀ x ∈ word, x.natAbs ≤ 4) :
    ∃ d' due1 due2, Src d' ∧ due1.length = h ∧ due2.length = h ∧ Bd 37 due1 ∧ Bd 37 due2 ∧ evE (Ph (n + 1)) g0 dIt [some d0, some (.int (h : Nat)), some (.int (w : Nat)), some (.lst (rows.map iT)), y4, y5, y6, y7, y8, y9, y10, y11, some (iL word), y13, y14, y15, y16, y17, y18, y19, y20, y21, y22, y23, y24, y25, y26] = .ok (.lst [iT due1, iT due2]) [some d', some (.int (h : Nat)), some (.int (w : Nat)), some (.lst (rows.map iT)), y4, y5, y6, y7, y8, y9, y10, y11, some (iL word), y13, y14, y15, y16, y17, y18, y19, y20, y21, y22, y23, y24, y25, y26] := by
  have hrl := ht.len
  have hc1 : evE (Ph (n + 1)) g0 (.comp [21] (.nm 21) .seq [.var 3] [] (.call 22 [.var 21, .var 12])) [some d0, some (.int (h : Nat)), some (.int (w : Nat)), some (.lst (rows.map iT)), y4, y5, y6, y7, y8, y9, y10, y11, some (iL word), y13, y14, y15, y16, y17, y18, y19, y20, y21, y22, y23, y24, y25, y26] = .ok (iL (rows.map fun r => dotI r word)) [some d0, some (.int (h : Nat)), some (.int (w : Nat)), some (.lst (rows.map iT)), y4, y5, y6, y7, y8, y9, y10, y11, some (iL word), y13, y14, y15, y16, y17, y18, y19, y20, y21, y22, y23, y24, y25, y26] := by
    refine (V.comp_mapp (α := List Int) (ik := .seq) (ds := [.lst (rows.map iT)]) iT (fun r => D.int (dotI r word)) rows (V.Es1 (V.var_ok rfl)) rfl (fits_ok (by omega)) ?_).trans ?_
    · intro r hr
      have hr' := ht.row r hr
      refine ⟨_, rfl, ?_, rfl⟩
      exact V.call_ok (V.Es2 (V.var_ok rfl) (V.var_ok rfl)) (ldot_ok n (d := iT r) (e := iL word) (xs := r) (ys := word) rfl rfl (fun p hp => by
        have hm := List.of_mem_zip hp
        exact mulOk_r (Nat.lt_of_le_of_lt (hwb _ hm.2) (by decide))) (by omega)) rfl
    · simp [iL, List.map_map, Function.comp_def]
  obtain ⟨ys, ρ', e1, e2, e3, d', z21, e4, e5⟩ := V.comp_inv (Φ := Ph (n + 1)) (gl := g0) (own := [21]) (tg := .nm 21) (ik := .seq) (its := [.var 3]) (elt := .bin .sub (.call 18 [.io 0, .con (.int 7)]) (.con (.int 3))) (ρ := [some d0, some (.int (h : Nat)), some (.int (w : Nat)), some (.lst (rows.map iT)), y4, y5, y6, y7, y8, y9, y10, y11, some (iL word), y13, y14, y15, y16, y17, y18, y19, y20, y21, y22, y23, y24, y25, y26]) (ds := [.lst (rows.map iT)]) (xs := rows.map iT)
    (fun ρ => ∃ d' z21, Src d' ∧ ρ = [some d', some (.int (h : Nat)), some (.int (w : Nat)), some (.lst (rows.map iT)), y4, y5, y6, y7, y8, y9, y10, y11, some (iL word), y13, y14, y15, y16, y17, y18, y19, y20, z21, y22, y23, y24, y25, y26]) (fun y => ∃ i, y = .int i ∧ i.natAbs ≤ 3) (V.Es1 (V.var_ok rfl)) rfl (fits_ok (by simp; omega)) ⟨d0, y21, hs, rfl⟩
    (by
      rintro x hx ρ ⟨d1, z21, hd, rfl⟩
      refine ⟨_, rfl, ?_⟩
      obtain ⟨q, d3, b1, b2, b3, b4⟩ := pick_ev n (ρ := [some d1, some (.int (h : Nat)), some (.int (w : Nat)), some (.lst (rows.map iT)), y4, y5, y6, y7, y8, y9, y10, y11, some (iL word), y13, y14, y15, y16, y17, y18, y19, y20, some x, y22, y23, y24, y25, y26]) (e := .con (.int 7)) rfl hd V.con_ok (by omega) (by decide) (fun _ => rfl)
      exact ⟨.int (q - 3), _, V.bin_ok b4 V.con_ok rfl, ⟨q - 3, rfl, by omega⟩, d3, some x, b3, rfl⟩)
  obtain ⟨xs, f1, f2, f3⟩ := ys_of e3
  subst f1 e5
  refine ⟨d', rows.map fun r => dotI r word, xs, e4, by simp [hrl], by rw [f2, e2]; simp [hrl], fun x hx => ?_, fun x hx => Nat.lt_of_le_of_lt (f3 x hx) (by decide), V.lst_ok (V.Es2 (V.bi1 hc1 rfl) (V.bi1 e1 rfl))⟩
  obtain ⟨r, hr, rfl⟩ := List.mem_map.mp hx
  have hr' := ht.row r hr
  refine sum_lt (c := 34) (l := 3) (fun t htt => ?_) (by simp; omega)
  obtain ⟨p, hp, rfl⟩ := List.mem_map.mp htt
  have hm := List.of_mem_zip hp
  have h1 := hr'.2 _ hm.1
  have h2 := hwb _ hm.2
  rw [Int.natAbs_mul]
  have := Nat.mul_le_mul_left p.1.natAbs h2
  have h34 : (2 : Nat) ^ 34 = 2 ^ 32 * 4 := by decide
  omega
theorem dLoop_ok (n : Nat) {d0 : D} {w h B : Nat} {rows F L : List (List Int)} {P fr : List Nat} {word : List Int} (s : Sg w w h B rows F P L) (hs : Src d0) (ht : Tab h w 32 rows) (hw : w ≤ 5) (hh : h ≤ 5) (hwl : word.length = w) (hwb : ∀ x ∈ word, x.natAbs ≤ 4) (hfr : ∀ k ∈ fr, k < w ∧ k ∉ P) (hfl : fr.length ≤ 100) :
    ∃ d' z14 z19, Src d' ∧ evS (Ph (n + 6)) g0 (.loop [] (.nm 14) .seq [dIt] dBody) [some d0, some (.int (h : Nat)), some (.int (w : Nat)), some (.lst (rows.map iT)), y4, y5, y6, some (.int (P.length : Nat)), y8, y9, some (.lst (iN fr)), y11, some (iL word), y13, y14, y15, y16, y17, y18, y19, y20, y21, y22, y23, y24, y25, y26] = .ok .next [some d', some (.int (h : Nat)), some (.int (w : Nat)), some (.lst (rows.map iT)), y4, y5, y6, some (.int (P.length : Nat)), y8, y9, some (.lst (iN fr)), y11, some (iL word), y13, z14, y15, y16, y17, y18, z19, y20, y21, y22, y23, y24, y25, y26] := by
  obtain ⟨d', due1, due2, h1, h2, h3, h4, h5, h6⟩ := dIt_ok (n + 5) (y4 := y4) (y5 := y5) (y6 := y6) (y8 := y8) (y9 := y9) (y11 := y11) (y13 := y13) (y14 := y14) (y15 := y15) (y16 := y16) (y17 := y17) (y18 := y18) (y19 := y19) (y20 := y20) (y21 := y21) (y22 := y22) (y23 := y23) (y24 := y24) (y25 := y25) (y26 := y26) (y7 := some (.int (P.length : Nat))) (y10 := some (.lst (iN fr))) hs ht hw hh hwl hwb
  have ht37 := ht.mono (l := 37) (by omega)
  obtain ⟨z, e1⟩ := dBody_ok n (y0 := some d') (y4 := y4) (y5 := y5) (y6 := y6) (y8 := y8) (y9 := y9) (y11 := y11) (y12 := some (iL word)) (y13 := y13) (y15 := y15) (y16 := y16) (y17 := y17) (y18 := y18) (y19 := y19) (y20 := y20) (y21 := y21) (y22 := y22) (y23 := y23) (y24 := y24) (y25 := y25) (y26 := y26) s ht37 hw hh h2 h4 hfr hfl
  obtain ⟨z', e2⟩ := dBody_ok n (y0 := some d') (y4 := y4) (y5 := y5) (y6 := y6) (y8 := y8) (y9 := y9) (y11 := y11) (y12 := some (iL word)) (y13 := y13) (y15 := y15) (y16 := y16) (y17 := y17) (y18 := y18) (y19 := z) (y20 := y20) (y21 := y21) (y22 := y22) (y23 := y23) (y24 := y24) (y25 := y25) (y26 := y26) s ht37 hw hh h3 h5 hfr hfl
  refine ⟨d', some (iT due2), z', h1, ?_⟩
  rw [V.loop_ok (ik := .seq) (xs := [iT due1, iT due2]) (V.Es1 h6) rfl]
  show forL [] (asg (.nm 14)) _ [iT due1, iT due2] _ = _
  rw [forL_cons rfl e1, forL_cons rfl e2]
  rfl
end P00
end
section
set_option autoImplicit false
set_option linter.all false
set_option maxRecDepth 8000
set_option exponentiation.threshold 10000
namespace P00
open PX M00
variable {y0 y1 y2 y3 y4 y5 y6 y7 y8 y9 y10 y11 y12 y13 y14 y15 y16 y17 y18 y19 y20 y21 y22 y23 y24 y25 y26 : Option D}
/-- the rest of a body ends well -/
def Ends (Φ : Fns) (ss : List S) (ρ : Env) : Prop := ∃ ρ' io, evSs Φ g0 ss ρ = .ok (.ret (.bl true)) ρ' ∧ gt ρ' 0 = some io
theorem E_n {Φ : Fns} {s : S} {ss : List S} {ρ ρ' : Env} (h : evS Φ g0 s ρ = .ok .next ρ') (h2 : Ends Φ ss ρ') : Ends Φ (s :: ss) ρ := by
  obtain ⟨ρ2, io, a, b⟩ := h2
  exact ⟨ρ2, io, V.seq_n h a, b⟩
theorem E_f {Φ : Fns} {i : Nat} {ss : List S} {ρ : Env} (h2 : Ends Φ ss ρ) : Ends Φ (.frz i :: ss) ρ := E_n (by simp only [evS]) h2
theorem same2 (n : Nat) {x : D} (h : nest 2 x = true) (h1 : ∀ xs, x = .tup xs → xs.length ≤ 16777216) (h2 : ∀ xs, x = .tup xs → ∀ ys, D.tup ys ∈ xs → ys.length ≤ 16777216) : Ph (n + 3) 19 [x, x] = .ok (.bl true) [] := same_nest 2 n x h h1 h2 (by omega)
theorem nest_ints (n : Nat) (xs : List Int) : nest (n + 1) (iT xs) = true := by
  show (xs.map D.int).all (nest n) = true
  rw [List.all_eq_true]
  intro x hx
  obtain ⟨i, _, rfl⟩ := List.mem_map.mp hx
  cases n <;> rfl
theorem len_tups {xs : List D} {ls : List (List Int)} {m : Nat} (h : ∀ ys, D.tup ys ∈ xs → ∃ l ∈ ls, ys = l.map D.int) (hl : ∀ l ∈ ls, l.length ≤ m) : ∀ ys, D.tup ys ∈ xs → ys.length ≤ m := fun ys hy => by
  obtain ⟨l, h1, rfl⟩ := h ys hy
  simpa using hl l h1
abbrev sA : S := .ifs (.not (.call 19 [.tup [.call 0 [.var 15, .var 16], .call 1 [.var 12], .call 2 [.var 12]], .tup [.call 20 [.var 15, .var 16], .call 21 [.var 12], .bi .tupleOf [.comp [26] (.nm 26) .seq [.var 12] [] (.bin .fdiv (.var 26) (.bi .max2 [.call 21 [.var 12], .con (.int 1)]))]]])) [.ret (.con (.bl false))] []
theorem sA_ok (n : Nat) {word : List Int} {a b : Int} (hl : word.length ≤ 5) (hb : Bd 9000 word) (hbb : b.natAbs < 2 ^ 9000) :
    evS (Ph (n + 6)) g0 sA [y0, y1, y2, y3, y4, y5, y6, y7, y8, y9, y10, y11, some (iL word), y13, y14, some (.int a), some (.int b), y17, y18, y19, y20, y21, y22, y23, y24, y25, y26] = .ok .next [y0, y1, y2, y3, y4, y5, y6, y7, y8, y9, y10, y11, some (iL word), y13, y14, some (.int a), some (.int b), y17, y18, y19, y20, y21, y22, y23, y24, y25, y26] := by
  have h1 := shared_ok (n + 5) a b
  have h2 := shared_all_ok (n + 4) (d := iL word) (xs := word) rfl hb
  have h3 := lowest_ok (n + 3) (d := iL word) (xs := word) rfl hb (by omega)
  have h4 := lgcd_ok (n + 5) a b hbb
  have h5 := lgcds_ok (n + 4) (d := iL word) (xs := word) rfl hb
  have hdv : divOk (cm word) = true := divOk_of (by have := cm_pos word; omega) (cm_lt (by omega) hb)
  have hc : evE (Ph (n + 6)) g0 (.comp [26] (.nm 26) .seq [.var 12] [] (.bin .fdiv (.var 26) (.bi .max2 [.call 21 [.var 12], .con (.int 1)]))) [y0, y1, y2, y3, y4, y5, y6, y7, y8, y9, y10, y11, some (iL word), y13, y14, some (.int a), some (.int b), y17, y18, y19, y20, y21, y22, y23, y24, y25, y26] = .ok (iL (low word)) [y0, y1, y2, y3, y4, y5, y6, y7, y8, y9, y10, y11, some (iL word), y13, y14, some (.int a), some (.int b), y17, y18, y19, y20, y21, y22, y23, y24, y25, y26] := by
    refine (V.comp_mapp (α := Int) (ik := .seq) (ds := [iL word]) D.int (fun x => D.int (x.fdiv (cm word))) word (V.Es1 (V.var_ok rfl)) rfl (fits_ok (by omega)) ?_).trans ?_
    · intro x hx
      refine ⟨_, rfl, V.bin_ok (V.var_ok rfl) (V.bi_ok (V.Es2 (V.call_ok (V.Es1 (V.var_ok rfl)) h5 rfl) V.con_ok) (y := .int (cm word)) rfl) (b_fdiv hdv), rfl⟩
    · simp [low, iL, List.map_map, Function.comp_def]
  have hs := same2 (n + 3) (x := .tup [.int (Int.gcd a b : Nat), .int (gcdL word : Nat), iT (low word)]) (by
    show [D.int (Int.gcd a b : Nat), .int (gcdL word : Nat), iT (low word)].all (nest 1) = true
    simp only [List.all_cons, nest_ints, List.all_nil]; rfl) (fun xs e => by cases e; simp) (fun xs e => by
    cases e
    exact len_tups (ls := [low word]) (fun ys hy => ⟨low word, by simp, by simpa using hy⟩) (fun l hl' => by rw [List.mem_singleton.mp hl', low_len]; omega))
  exact V.ifs_skip (V.not_f (V.call_ok (V.Es2 (V.tup_ok (V.EsC (V.call_ok (V.Es2 (V.var_ok rfl) (V.var_ok rfl)) h1 rfl) (V.Es2 (V.call_ok (V.Es1 (V.var_ok rfl)) h2 rfl) (V.call_ok (V.Es1 (V.var_ok rfl)) h3 rfl)))) (V.tup_ok (V.EsC (V.call_ok (V.Es2 (V.var_ok rfl) (V.var_ok rfl)) h4 rfl) (V.Es2 (V.call_ok (V.Es1 (V.var_ok rfl)) h5 rfl) (V.bi1 hc (y := iT (low word)) rfl))))) hs rfl) rfl) rfl
abbrev sB : S := .ifs (.not (.call 19 [.tup [.call 3 [.var 12, .var 13], .call 3 [.var 12, .bin .sub (.con (.int 0)) (.var 13)]], .tup [.call 25 [.var 12, .var 13], .call 25 [.comp [26] (.nm 26) .seq [.var 12] [] (.bin .sub (.con (.int 0)) (.var 26)), .var 13]]])) [.ret (.con (.bl false))] []
theorem sB_ok (n : Nat) {word : List Int} {u : Int} (hl : word.length ≤ 5) (hb : Bd 9000 word) (hu : 0 < u) (hub : u.natAbs < 2 ^ 9000) :
    evS (Ph (n + 6)) g0 sB [y0, y1, y2, y3, y4, y5, y6, y7, y8, y9, y10, y11, some (iL word), some (.int u), y14, y15, y16, y17, y18, y19, y20, y21, y22, y23, y24, y25, y26] = .ok .next [y0, y1, y2, y3, y4, y5, y6, y7, y8, y9, y10, y11, some (iL word), some (.int u), y14, y15, y16, y17, y18, y19, y20, y21, y22, y23, y24, y25, y26] := by
  have hb' : Bd 9000 (word.map (fun x => 0 - x)) := by
    intro y hy
    obtain ⟨x, hx, rfl⟩ := List.mem_map.mp hy
    have := hb x hx
    rw [Int.zero_sub, Int.natAbs_neg]; exact this
  have h1 := place_of_ok (n + 2) (d := iL word) (xs := word) (u := u) rfl hb hub (by omega)
  have h2 := place_of_ok (n + 2) (d := iL word) (xs := word) (u := 0 - u) rfl hb (by rw [Int.zero_sub, Int.natAbs_neg]; exact hub) (by omega)
  have h3 := lplace_ok (n + 3) (d := iL word) (xs := word) (u := u) rfl hb hub hu (by omega)
  have h4 := lplace_ok (n + 3) (d := iL (word.map (fun x => 0 - x))) (xs := word.map (fun x => 0 - x)) (u := u) rfl hb' hub hu (by simp; omega)
  have e : plz (word.map (fun x => 0 - x)) u = plz word (0 - u) := by
    unfold plz
    rw [if_neg (by omega), if_pos (by omega)]
    have : -(0 - u) = u := by omega
    rw [this]
    congr 1
    congr 1
    exact List.map_congr_left fun x _ => by omega
  rw [e] at h4
  have hpl : ∀ v, (plz word v).length ≤ 16777216 := fun v => by
    unfold plz; split <;> rw [low_len] <;> simp <;> omega
  have hc : evE (Ph (n + 6)) g0 (.comp [26] (.nm 26) .seq [.var 12] [] (.bin .sub (.con (.int 0)) (.var 26))) [y0, y1, y2, y3, y4, y5, y6, y7, y8, y9, y10, y11, some (iL word), some (.int u), y14, y15, y16, y17, y18, y19, y20, y21, y22, y23, y24, y25, y26] = .ok (iL (word.map (fun x => 0 - x))) [y0, y1, y2, y3, y4, y5, y6, y7, y8, y9, y10, y11, some (iL word), some (.int u), y14, y15, y16, y17, y18, y19, y20, y21, y22, y23, y24, y25, y26] := by
    refine (V.comp_mapp (α := Int) (ik := .seq) (ds := [iL word]) D.int (fun x => D.int (0 - x)) word (V.Es1 (V.var_ok rfl)) rfl (fits_ok (by omega)) ?_).trans ?_
    · intro x hx
      exact ⟨_, rfl, V.bin_ok V.con_ok (V.var_ok rfl) rfl, rfl⟩
    · simp only [iL, List.map_map, Function.comp_def]
  have hs := same2 (n + 3) (x := .tup [iT (plz word u), iT (plz word (0 - u))]) (by
    show [iT (plz word u), iT (plz word (0 - u))].all (nest 1) = true
    simp only [List.all_cons, nest_ints, List.all_nil]; rfl) (fun xs e => by cases e; simp) (fun xs e => by
    cases e
    refine len_tups (ls := [plz word u, plz word (0 - u)]) (fun ys hy => ?_) (fun l hl' => ?_)
    · simp only [List.mem_cons, D.tup.injEq, List.not_mem_nil, or_false] at hy
      rcases hy with hy | hy
      · exact ⟨_, by simp, hy⟩
      · exact ⟨plz word (0 - u), by simp, hy⟩
    · simp only [List.mem_cons, List.not_mem_nil, or_false] at hl'
      rcases hl' with z | z <;> rw [z] <;> exact hpl _)
  exact V.ifs_skip (V.not_f (V.call_ok (V.Es2 (V.tup_ok (V.Es2 (V.call_ok (V.Es2 (V.var_ok rfl) (V.var_ok rfl)) h1 rfl) (V.call_ok (V.Es2 (V.var_ok rfl) (V.bin_ok V.con_ok (V.var_ok rfl) rfl)) h2 rfl))) (V.tup_ok (V.Es2 (V.call_ok (V.Es2 (V.var_ok rfl) (V.var_ok rfl)) h3 rfl) (V.call_ok (V.Es2 hc (V.var_ok rfl)) h4 rfl)))) hs rfl) rfl) rfl
abbrev eRep : E := .bin .mul (.slc (.var 12) (.con .non) (.con (.int 1))) (.var 1)
theorem eRep_ok (Φ : Fns) {word : List Int} {h : Nat} (hw : 0 < word.length) (hh : h ≤ 5) : evE Φ g0 eRep [y0, some (.int (h : Nat)), y2, y3, y4, y5, y6, y7, y8, y9, y10, y11, some (iL word), y13, y14, y15, y16, y17, y18, y19, y20, y21, y22, y23, y24, y25, y26] = .ok (iL (List.replicate h (at0 word 0))) [y0, some (.int (h : Nat)), y2, y3, y4, y5, y6, y7, y8, y9, y10, y11, some (iL word), y13, y14, y15, y16, y17, y18, y19, y20, y21, y22, y23, y24, y25, y26] := by
  cases word with
  | nil => simp at hw
  | cons a t =>
    have h1 : evE Φ g0 (.slc (.var 12) (.con .non) (.con (.int 1))) [y0, some (.int (h : Nat)), y2, y3, y4, y5, y6, y7, y8, y9, y10, y11, some (iL (a :: t)), y13, y14, y15, y16, y17, y18, y19, y20, y21, y22, y23, y24, y25, y26] = .ok (.lst [.int a]) [y0, some (.int (h : Nat)), y2, y3, y4, y5, y6, y7, y8, y9, y10, y11, some (iL (a :: t)), y13, y14, y15, y16, y17, y18, y19, y20, y21, y22, y23, y24, y25, y26] := by
      simp only [evE, optR, gt, PX.R.bind, partR, partD, slcD, Option.bind_some]
      rw [show (1 : Int) = ((1 : Nat) : Int) from rfl, cut_take]
      rfl
    refine V.bin_ok h1 (V.var_ok rfl) ?_
    have h2 : (2 : Int) ^ 62 = 4611686018427387904 := by decide
    have : (decide ((h : Int) < 2 ^ 62) && decide (-(2 ^ 62) < (h : Int)) && fits ([D.int a].length * (h : Int).toNat)) = true := by
      simp only [h2, Bool.and_eq_true, decide_eq_true_eq]
      refine ⟨⟨by omega, by omega⟩, fits_ok (by simp; omega)⟩
    simp only [binD, mulD]
    rw [if_pos this]
    simp [at0]
abbrev sC : List S := [.set 19 (.tup [.call 6 [.var 17, .var 18], .call 7 [.var 17, .var 18], .call 8 [.var 17, .bin .sub (.con (.int 0)) (.con (.int 3))], .call 5 [.var 17, .var 18], .call 9 [eRep, .var 3, .var 2]]), .frz 19, .set 14 (.tup [.bi .tupleOf [.comp [22, 23] (.tp [.nm 22, .nm 23]) .zip [.var 17, .var 18] [] (.bin .add (.var 22) (.var 23))], .bi .tupleOf [.comp [22, 23] (.tp [.nm 22, .nm 23]) .zip [.var 17, .var 18] [] (.bin .sub (.var 22) (.var 23))], .bi .tupleOf [.comp [22] (.nm 22) .seq [.var 17] [] (.bin .sub (.con (.int 0)) (.bin .mul (.con (.int 3)) (.var 22)))], .call 22 [.var 17, .var 18]]), .frz 14, .ifs (.not (.call 19 [.var 19, .bin .add (.var 14) (.tup [.call 24 [.var 3, eRep, .var 2]])])) [.ret (.con (.bl false))] []]
theorem sC_ok (n : Nat) {h w : Nat} {rows : List (List Int)} {word a b : List Int} (ht : Tab h w 32 rows) (hw : w ≤ 5) (hh : h ≤ 5) (hwl : 0 < word.length) (hwb : ∀ x ∈ word, x.natAbs ≤ 4) (ha : a.length = w ∧ Bd 32 a) (hb : b.length = w ∧ Bd 32 b) :
    ∃ z19 z14, evSs (Ph (n + 6)) g0 sC [y0, some (.int (h : Nat)), some (.int (w : Nat)), some (.lst (rows.map iT)), y4, y5, y6, y7, y8, y9, y10, y11, some (iL word), y13, y14, y15, y16, some (iT a), some (iT b), y19, y20, y21, y22, y23, y24, y25, y26] = .ok .next [y0, some (.int (h : Nat)), some (.int (w : Nat)), some (.lst (rows.map iT)), y4, y5, y6, y7, y8, y9, y10, y11, some (iL word), y13, z14, y15, y16, some (iT a), some (iT b), z19, y20, y21, y22, y23, y24, y25, y26] := by
  have hm : ∀ p ∈ a.zip b, mulOk p.1 p.2 = true := fun p hp => by
    have hmz := List.of_mem_zip hp
    exact mulOk_of (ha.2 _ hmz.1) (hb.2 _ hmz.2) (by omega) (by omega)
  have h1 := plus_ok (n + 5) (d := iT a) (e := iT b) (xs := a) (ys := b) rfl rfl (by omega)
  have h2 := less_ok (n + 5) (d := iT a) (e := iT b) (xs := a) (ys := b) rfl rfl (by omega)
  have h3 := times_ok (n + 5) (d := iT a) (xs := a) (0 - 3) rfl (fun x _ => mulOk_r (by decide)) (by omega)
  have h4 := dot_ok (n + 5) (d := iT a) (e := iT b) (xs := a) (ys := b) rfl rfl hm (by omega)
  have h4' := ldot_ok (n + 5) (d := iT a) (e := iT b) (xs := a) (ys := b) rfl rfl hm (by omega)
  have hrb : Bd 64 (List.replicate h (at0 word 0)) := fun x hx => by
    rw [(List.mem_replicate.mp hx).2, at0_get hwl]
    exact Nat.lt_of_le_of_lt (hwb _ (List.getElem_mem hwl)) (by decide)
  have h5 := combined_ok (n + 5) iT (fun r => rfl) (d := iL (List.replicate h (at0 word 0))) (e := .lst (rows.map iT)) (fs := List.replicate h (at0 word 0)) (rows := rows) (w := w) rfl rfl hrb (fun r hr => (ht.row r hr).1) (by omega)
  have h6 := lsum_ok (n + 5) iT (fun r => rfl) (d := .lst (rows.map iT)) (e := iL (List.replicate h (at0 word 0))) (fs := List.replicate h (at0 word 0)) (rows := rows) (w := w) rfl rfl hrb (fun r hr => (ht.row r hr).1) (by omega) (by simp; omega)
  have t3 : a.map (fun x => x * (0 - 3)) = a.map fun x => 0 - 3 * x := List.map_congr_left fun x _ => by omega
  rw [t3] at h3
  have c1 : ∀ z19 : Option D, evE (Ph (n + 6)) g0 (.bi .tupleOf [.comp [22, 23] (.tp [.nm 22, .nm 23]) .zip [.var 17, .var 18] [] (.bin .add (.var 22) (.var 23))]) [y0, some (.int (h : Nat)), some (.int (w : Nat)), some (.lst (rows.map iT)), y4, y5, y6, y7, y8, y9, y10, y11, some (iL word), y13, y14, y15, y16, some (iT a), some (iT b), z19, y20, y21, y22, y23, y24, y25, y26] = .ok (iT ((a.zip b).map fun p => p.1 + p.2)) [y0, some (.int (h : Nat)), some (.int (w : Nat)), some (.lst (rows.map iT)), y4, y5, y6, y7, y8, y9, y10, y11, some (iL word), y13, y14, y15, y16, some (iT a), some (iT b), z19, y20, y21, y22, y23, y24, y25, y26] := fun z19 => by
    refine V.bi1 (V.comp_mapp (α := Int × Int) (ik := .zip) (ds := [iT a, iT b]) (fun p => D.tup [.int p.1, .int p.2]) (fun p => D.int (p.1 + p.2)) (a.zip b) (V.Es2 (V.var_ok rfl) (V.var_ok rfl)) (it_zip rfl rfl) (fits_ok (by simp; omega)) ?_) ?_
    · intro x hx
      exact ⟨_, rfl, V.bin_ok (V.var_ok rfl) (V.var_ok rfl) rfl, rfl⟩
    · simp only [biD, tupD, iT, List.map_map, Function.comp_def]
  have c2 : ∀ z19 : Option D, evE (Ph (n + 6)) g0 (.bi .tupleOf [.comp [22, 23] (.tp [.nm 22, .nm 23]) .zip [.var 17, .var 18] [] (.bin .sub (.var 22) (.var 23))]) [y0, some (.int (h : Nat)), some (.int (w : Nat)), some (.lst (rows.map iT)), y4, y5, y6, y7, y8, y9, y10, y11, some (iL word), y13, y14, y15, y16, some (iT a), some (iT b), z19, y20, y21, y22, y23, y24, y25, y26] = .ok (iT ((a.zip b).map fun p => p.1 - p.2)) [y0, some (.int (h : Nat)), some (.int (w : Nat)), some (.lst (rows.map iT)), y4, y5, y6, y7, y8, y9, y10, y11, some (iL word), y13, y14, y15, y16, some (iT a), some (iT b), z19, y20, y21, y22, y23, y24, y25, y26] := fun z19 => by
    refine V.bi1 (V.comp_mapp (α := Int × Int) (ik := .zip) (ds := [iT a, iT b]) (fun p => D.tup [.int p.1, .int p.2]) (fun p => D.int (p.1 - p.2)) (a.zip b) (V.Es2 (V.var_ok rfl) (V.var_ok rfl)) (it_zip rfl rfl) (fits_ok (by simp; omega)) ?_) ?_
    · intro x hx
      exact ⟨_, rfl, V.bin_ok (V.var_ok rfl) (V.var_ok rfl) rfl, rfl⟩
    · simp only [biD, tupD, iT, List.map_map, Function.comp_def]
  have c3 : ∀ z19 : Option D, evE (Ph (n + 6)) g0 (.bi .tupleOf [.comp [22] (.nm 22) .seq [.var 17] [] (.bin .sub (.con (.int 0)) (.bin .mul (.con (.int 3)) (.var 22)))]) [y0, some (.int (h : Nat)), some (.int (w : Nat)), some (.lst (rows.map iT)), y4, y5, y6, y7, y8, y9, y10, y11, some (iL word), y13, y14, y15, y16, some (iT a), some (iT b), z19, y20, y21, y22, y23, y24, y25, y26] = .ok (iT (a.map fun x => 0 - 3 * x)) [y0, some (.int (h : Nat)), some (.int (w : Nat)), some (.lst (rows.map iT)), y4, y5, y6, y7, y8, y9, y10, y11, some (iL word), y13, y14, y15, y16, some (iT a), some (iT b), z19, y20, y21, y22, y23, y24, y25, y26] := fun z19 => by
    refine V.bi1 (V.comp_mapp (α := Int) (ik := .seq) (ds := [iT a]) D.int (fun x => D.int (0 - 3 * x)) a (V.Es1 (V.var_ok rfl)) rfl (fits_ok (by omega)) ?_) ?_
    · intro x hx
      exact ⟨_, rfl, V.bin_ok V.con_ok (V.bin_ok V.con_ok (V.var_ok rfl) (b_mul (mulOk_l (by decide)))) rfl, rfl⟩
    · simp only [biD, tupD, iT, List.map_map, Function.comp_def]
  have hs := same2 (n + 3) (x := .tup [iT ((a.zip b).map fun p => p.1 + p.2), iT ((a.zip b).map fun p => p.1 - p.2), iT (a.map fun x => 0 - 3 * x), .int (dotI a b), iT ((List.range w).map (colS (List.replicate h (at0 word 0)) rows))]) (by
    show [iT ((a.zip b).map fun p => p.1 + p.2), iT ((a.zip b).map fun p => p.1 - p.2), iT (a.map fun x => 0 - 3 * x), .int (dotI a b), iT ((List.range w).map (colS (List.replicate h (at0 word 0)) rows))].all (nest 1) = true
    simp only [List.all_cons, nest_ints, List.all_nil]; rfl) (fun xs e => by cases e; simp) (fun xs e => by
    cases e
    refine len_tups (ls := [(a.zip b).map fun p => p.1 + p.2, (a.zip b).map fun p => p.1 - p.2, a.map fun x => 0 - 3 * x, (List.range w).map (colS (List.replicate h (at0 word 0)) rows)]) (fun ys hy => ?_) (fun l hl' => ?_)
    · simp only [List.mem_cons, D.tup.injEq, List.not_mem_nil, or_false, reduceCtorEq, false_or] at hy
      rcases hy with hy | hy | hy | hy
      · exact ⟨_, by simp, hy⟩
      · exact ⟨(a.zip b).map fun p => p.1 - p.2, by simp, hy⟩
      · exact ⟨a.map fun x => 0 - 3 * x, by simp, hy⟩
      · exact ⟨(List.range w).map (colS (List.replicate h (at0 word 0)) rows), by simp, hy⟩
    · simp only [List.mem_cons, List.not_mem_nil, or_false] at hl'
      rcases hl' with z | z | z | z <;> rw [z] <;> simp <;> omega)
  refine ⟨_, _, V.seq_n (V.set_ok (V.tup_ok (V.EsC (V.call_ok (V.Es2 (V.var_ok rfl) (V.var_ok rfl)) h1 rfl) (V.EsC (V.call_ok (V.Es2 (V.var_ok rfl) (V.var_ok rfl)) h2 rfl) (V.EsC (V.call_ok (V.Es2 (V.var_ok rfl) (V.bin_ok V.con_ok V.con_ok rfl)) h3 rfl) (V.EsC (V.call_ok (V.Es2 (V.var_ok rfl) (V.var_ok rfl)) h4 rfl) (V.Es1 (V.call_ok (V.EsC (eRep_ok _ hwl hh) (V.Es2 (V.var_ok rfl) (V.var_ok rfl))) h5 rfl)))))))) (V.seq_f (V.seq_n (V.set_ok (V.tup_ok (V.EsC (c1 _) (V.EsC (c2 _) (V.EsC (c3 _) (V.Es1 (V.call_ok (V.Es2 (V.var_ok rfl) (V.var_ok rfl)) h4' rfl))))))) (V.seq_f (V.seq_n (V.ifs_skip (V.not_f (V.call_ok (V.Es2 (V.var_ok rfl) (V.bin_ok (op := .add) (V.var_ok rfl) (V.tup_ok (V.Es1 (V.call_ok (V.EsC (V.var_ok rfl) (V.Es2 (eRep_ok _ hwl hh) (V.var_ok rfl))) h6 rfl))) ?_)) hs rfl) rfl) rfl) snil))))⟩
  simp only [binD, addD]
  rw [if_pos (fits_ok (by simp))]
  rfl
abbrev sD : List S := [.set 20 (.bin .add (.bi .tupleOf [.var 12]) (.tup [.var 13])), .frz 20, .ret (.and (.cmp .eq (.call 4 [.var 20, .var 2]) (.call 23 [.var 20, .var 2])) (.and (.cmp .is (.call 4 [.var 20, .bin .add (.var 2) (.con (.int 1))]) (.con (.bl false))) (.cmp .is (.call 4 [.bin .add (.slc (.var 20) (.con .non) (.neg (.con (.int 1)))) (.tup [.con (.int 0)]), .var 2]) (.con (.bl false)))))]
theorem sD_ok (n : Nat) {d0 : D} {w : Nat} {word : List Int} {u : Int} (hw : w ≤ 5) (hwl : word.length = w) (hwb : Bd 9000 word) (hub : u.natAbs < 2 ^ 9000) : Ends (Ph (n + 6)) sD [some d0, y1, some (.int (w : Nat)), y3, y4, y5, y6, y7, y8, y9, y10, y11, some (iL word), some (.int u), y14, y15, y16, y17, y18, y19, y20, y21, y22, y23, y24, y25, y26] := by
  have hb : ∀ v : Int, v.natAbs < 2 ^ 9000 → Bd 9000 (word ++ [v]) := fun v hv x hx => by
    rcases List.mem_append.mp hx with z | z
    · exact hwb x z
    · rw [List.mem_singleton.mp z]; exact hv
  have h1 := is_place_ok (n + 3) (d := iT (word ++ [u])) (xs := word ++ [u]) (w : Nat) rfl (by simp) (hb u hub)
  have h2 := lis_place_ok (n + 3) (d := iT (word ++ [u])) (xs := word ++ [u]) (w : Nat) rfl (by simp) (hb u hub)
  have h3 := is_place_ok (n + 3) (d := iT (word ++ [u])) (xs := word ++ [u]) ((w : Nat) + 1) rfl (by simp) (hb u hub)
  have h4 := is_place_ok (n + 3) (d := iT (word ++ [0])) (xs := word ++ [0]) (w : Nat) rfl (by simp) (hb 0 (Nat.two_pow_pos _))
  have e3 : isP (word ++ [u]) ((w : Nat) + 1) = false := by
    unfold isP
    rw [decide_eq_false (by simp; omega)]; rfl
  have e4 : isP (word ++ [0]) (w : Nat) = false := by
    unfold isP
    have : (word ++ [(0 : Int)]).getLastD 0 = 0 := by simp
    rw [this]; simp
  rw [e3] at h3
  rw [e4] at h4
  have hadd : ∀ v : Int, binD .add (iT word) (.tup [.int v]) = some (iT (word ++ [v])) := fun v => by
    simp only [binD, addD]
    rw [if_pos (fits_ok (by simp; omega))]
    simp [iT]
  have hslc : evE (Ph (n + 6)) g0 (.slc (.var 20) (.con .non) (.neg (.con (.int 1)))) [some d0, y1, some (.int (w : Nat)), y3, y4, y5, y6, y7, y8, y9, y10, y11, some (iL word), some (.int u), y14, y15, y16, y17, y18, y19, some (iT (word ++ [u])), y21, y22, y23, y24, y25, y26] = .ok (iT word) [some d0, y1, some (.int (w : Nat)), y3, y4, y5, y6, y7, y8, y9, y10, y11, some (iL word), some (.int u), y14, y15, y16, y17, y18, y19, some (iT (word ++ [u])), y21, y22, y23, y24, y25, y26] := by
    have hcut : cutD ((word ++ [u]).map D.int) none (some (-1)) = word.map D.int := by
      simp only [cutD, six]
      rw [if_pos (by omega)]
      simp only [List.drop_zero, Nat.sub_zero, List.length_map, List.length_append, List.length_singleton]
      have : (-1 + ((word.length + 1 : Nat) : Int)).toNat = word.length := by omega
      rw [this, List.map_append, List.take_append_of_le_length (by simp), List.take_of_length_le (by simp)]
    simp only [evE, optR, gt, PX.R.bind, partR, partD, slcD, Option.bind_some, negD, hcut]
  refine ⟨[some d0, y1, some (.int (w : Nat)), y3, y4, y5, y6, y7, y8, y9, y10, y11, some (iL word), some (.int u), y14, y15, y16, y17, y18, y19, some (iT (word ++ [u])), y21, y22, y23, y24, y25, y26], d0, ?_, rfl⟩
  refine V.seq_n (V.set_ok (V.bin_ok (V.bi1 (V.var_ok rfl) (y := iT word) rfl) (V.tup_ok (V.Es1 (V.var_ok rfl))) (hadd u))) (V.seq_f (V.seq_ret (V.ret_ok (V.and_t (V.cmp_ok (V.call_ok (V.Es2 (V.var_ok rfl) (V.var_ok rfl)) h1 rfl) (V.call_ok (V.Es2 (V.var_ok rfl) (V.var_ok rfl)) h2 rfl) (k := true) ?_) (V.and_t (V.cmp_ok (V.call_ok (V.Es2 (V.var_ok rfl) (V.bin_ok (V.var_ok rfl) V.con_ok rfl)) h3 rfl) V.con_ok rfl) (V.cmp_ok (V.call_ok (V.Es2 (V.bin_ok hslc (V.tup_ok (V.Es1 V.con_ok)) (hadd 0)) (V.var_ok rfl)) h4 rfl) V.con_ok rfl))))))
  cases isP (word ++ [u]) (w : Nat) <;> rfl
end P00
end
section
set_option autoImplicit false
set_option linter.all false
set_option maxRecDepth 8000
set_option exponentiation.threshold 10000
namespace P00
open PX M00
theorem pick1 (n : Nat) {ρ : Env} {d : D} (m : Nat) (h0 : 0 < m) (hm : m ≤ 100) (hg : gt ρ 0 = some d) (hs : Src d) : ∃ (h : Nat) (d' : D), 1 ≤ h ∧ h ≤ m ∧ Src d' ∧ evE (Ph (n + 1)) g0 (.bin .add (.con (.int 1)) (.call 18 [.io 0, .con (.int (m : Nat))])) ρ = .ok (.int (h : Nat)) (st ρ 0 (some d')) := by
  have h64 : (2 : Int) ^ 64 = 18446744073709551616 := by decide
  obtain ⟨p, d', a1, a2, a3, a4⟩ := pick_ev n (ρ := ρ) (m := (m : Nat)) (e := .con (.int (m : Nat))) hg hs V.con_ok (by omega) (by omega) (fun _ => rfl)
  obtain ⟨q, rfl⟩ := Int.eq_ofNat_of_zero_le a1
  refine ⟨1 + q, d', by omega, by omega, a3, V.bin_ok V.con_ok a4 ?_⟩
  simp only [binD, addD]
  congr 2
theorem table_ev (n : Nat) {ρ : Env} {d : D} {i j : Nat} {h w : Nat} (hg : gt ρ 0 = some d) (hi : gt ρ i = some (.int (h : Nat))) (hj : gt ρ j = some (.int (w : Nat))) (hs : Src d) (hh : h ≤ 5) (hw : w ≤ 5) :
    ∃ rows d', Tab h w 32 rows ∧ Src d' ∧ evE (Ph (n + 2)) g0 (.call 26 [.io 0, .var i, .var j]) ρ = .ok (.lst (rows.map iT)) (st ρ 0 (some d')) := by
  obtain ⟨rows, d', h1, h2, h3⟩ := table_ok n hs hh hw
  refine ⟨rows, d', h1, h2, ?_⟩
  simp only [evE, evEs, hg, hi, hj, optR, PX.R.bind, h3, callR, setIos]
theorem lists_ev (Φ : Fns) {ρ : Env} {x i : Nat} {rows : List (List Int)} (hi : gt ρ i = some (.lst (rows.map iT))) (hl : rows.length ≤ 100) (hx : x < ρ.length) : evE Φ g0 (.comp [x] (.nm x) .seq [.var i] [] (.bi .listOf [.var x])) ρ = .ok (.lst (rows.map iL)) ρ := by
  refine V.comp_mapp (α := List Int) (ik := .seq) (ds := [.lst (rows.map iT)]) iT iL rows (V.Es1 (V.var_ok hi)) rfl (fits_ok (by omega)) ?_
  intro r hr
  have e : gt (st (wipe [x] ρ) x (some (iT r))) x = some (iT r) := V.gt_st_eq (by rw [V.wipe_len]; exact hx)
  refine ⟨st (wipe [x] ρ) x (some (iT r)), rfl, V.bi1 (V.var_ok e) rfl, ?_⟩
  refine V.ext (by rw [V.wipe_len, V.st_len]) fun j => ?_
  show gt (st (st (st ρ x none) x (some (iT r))) x none) j = gt (st ρ x none) j
  by_cases q : j = x
  · subst q
    rw [V.gt_st_eq (by rw [V.st_len, V.st_len]; omega), V.gt_st_eq hx]
  · rw [V.gt_st_ne (Ne.symm q), V.gt_st_ne (Ne.symm q)]
theorem par_ok {Φ : Fns} {i j : Nat} {a b : E} {ρ : Env} {x y : D} (h1 : evE Φ g0 a ρ = .ok x ρ) (h2 : evE Φ g0 b ρ = .ok y ρ) : evS Φ g0 (.par i j a b) ρ = .ok .next (st (st ρ i (some x)) j (some y)) := by
  simp only [evS, h1, h2, PX.R.bind]
theorem evSs_app {Φ : Fns} {b : List S} : ∀ (a : List S) {ρ ρ' : Env}, evSs Φ g0 a ρ = .ok .next ρ' → evSs Φ g0 (a ++ b) ρ = evSs Φ g0 b ρ'
  | [], ρ, ρ', h => by
    simp only [evSs, PX.R.ok.injEq, true_and] at h
    rw [h]; rfl
  | s :: a, ρ, ρ', h => by
    simp only [evSs] at h
    show evSs Φ g0 (s :: (a ++ b)) ρ = _
    simp only [evSs]
    cases hs : evS Φ g0 s ρ with
    | fail => rw [hs] at h; simp [PX.R.bind] at h
    | exc => rw [hs] at h; simp [PX.R.bind] at h
    | ok o ρ1 =>
      rw [hs] at h
      cases o with
      | next => exact evSs_app a h
      | ret d => simp [PX.R.bind] at h
theorem E_app {Φ : Fns} {a b : List S} {ρ ρ' : Env} (h : evSs Φ g0 a ρ = .ok .next ρ') (h2 : Ends Φ b ρ') : Ends Φ (a ++ b) ρ := by
  obtain ⟨ρ2, io, x, y⟩ := h2
  exact ⟨ρ2, io, (evSs_app a h).trans x, y⟩
variable {y0 y1 y2 y3 y4 y5 y6 y7 y8 y9 y10 y11 y12 y13 y14 y15 y16 y17 y18 y19 y20 y21 y22 y23 y24 y25 y26 : Option D}
theorem sol_app {w : Nat} {R F : List (List Int)} (h : ∀ x, sol w R x ↔ sol w F x) (x : Nat → Int) : sol w (R ++ F) x ↔ sol w R x := by
  constructor
  · intro z r hr; exact z r (List.mem_append.mpr (.inl hr))
  · intro z r hr
    rcases List.mem_append.mp hr with q | q
    · exact z r q
    · exact (h x).mp z r q
abbrev sR8 : S := .ifs (.not (.call 19 [.call 10 [.comp [21] (.nm 21) .seq [.var 4] [] (.bi .listOf [.var 21])], .call 27 [.var 4]])) [.ret (.con (.bl false))] []
theorem sR8_ok (n : Nat) {h : Nat} {square : List (List Int)} (ht : Tab h h 32 square) (hh : h ≤ 5) : evS (Ph (n + 6)) g0 sR8 [y0, y1, y2, y3, some (.lst (square.map iT)), y5, y6, y7, y8, y9, y10, y11, y12, y13, y14, y15, y16, y17, y18, y19, y20, y21, y22, y23, y24, y25, y26] = .ok .next [y0, y1, y2, y3, some (.lst (square.map iT)), y5, y6, y7, y8, y9, y10, y11, y12, y13, y14, y15, y16, y17, y18, y19, y20, y21, y22, y23, y24, y25, y26] := by
  have h1 := area_ok (n + 5) (d := .lst (square.map iL)) iL (fun r => rfl) rfl ht hh
  have h2 := larea_ok (n + 5) (d := .lst (square.map iT)) rfl ht hh
  have h3 := same_int (n + 5) (om square (List.range h)) (om square (List.range h))
  rw [decide_eq_true rfl] at h3
  exact V.ifs_skip (V.not_f (V.call_ok (V.Es2 (V.call_ok (V.Es1 (lists_ev _ rfl (by have := ht.len; omega) (by simp))) h1 rfl) (V.call_ok (V.Es1 (V.var_ok rfl)) h2 rfl)) h3 rfl) rfl) rfl
abbrev sR12 : S := .ifs (.or (.not (.bi .isTup [.var 5])) (.or (.not (.bi .isTup [.var 6])) (.or (.cmp .ne (.bi .len [.var 5]) (.var 7)) (.or (.cmp .ne (.bi .len [.var 6]) (.var 7)) (.not (.call 19 [.call 13 [.var 3, .var 2], .var 7])))))) [.ret (.con (.bl false))] []
theorem ne_self (a : Nat) : cmpD .ne (.int (a : Nat)) (.int (a : Nat)) = some false := by
  rw [ne_nat, decide_eq_true rfl]; rfl
theorem sR12_ok (n : Nat) {w : Nat} {rows F : List (List Int)} {P : List Nat} (hl : F.length = P.length) (hr : Ph (n + 6) 13 [.lst (rows.map iT), .int (w : Nat)] = .ok (.int (P.length : Nat)) []) : evS (Ph (n + 6)) g0 sR12 [y0, y1, some (.int (w : Nat)), some (.lst (rows.map iT)), y4, some (.tup (F.map iT)), some (.tup (iN P)), some (.int (P.length : Nat)), y8, y9, y10, y11, y12, y13, y14, y15, y16, y17, y18, y19, y20, y21, y22, y23, y24, y25, y26] = .ok .next [y0, y1, some (.int (w : Nat)), some (.lst (rows.map iT)), y4, some (.tup (F.map iT)), some (.tup (iN P)), some (.int (P.length : Nat)), y8, y9, y10, y11, y12, y13, y14, y15, y16, y17, y18, y19, y20, y21, y22, y23, y24, y25, y26] := by
  have l5 : biD .len [.tup (F.map iT)] = some (.int (P.length : Nat)) := by simp [biD, lenD, hl]
  have l6 : biD .len [.tup (iN P)] = some (.int (P.length : Nat)) := by simp [biD, lenD]
  have h3 := same_int (n + 5) (P.length : Nat) (P.length : Nat)
  rw [decide_eq_true rfl] at h3
  exact V.ifs_skip (V.or_f (V.not_f (V.bi1 (V.var_ok rfl) rfl) rfl) (V.or_f (V.not_f (V.bi1 (V.var_ok rfl) rfl) rfl) (V.or_f (V.cmp_ok (V.bi1 (V.var_ok rfl) l5) (V.var_ok rfl) (ne_self _)) (V.or_f (V.cmp_ok (V.bi1 (V.var_ok rfl) l6) (V.var_ok rfl) (ne_self _)) (V.not_f (V.call_ok (V.Es2 (V.call_ok (V.Es2 (V.var_ok rfl) (V.var_ok rfl)) hr rfl) (V.var_ok rfl)) h3 rfl) rfl))))) rfl
abbrev sR14 : S := .ifs (.cmp .ne (.call 28 [.bin .add (.bi .listOf [.var 3]) (.bi .listOf [.var 5]), .var 2]) (.var 7)) [.ret (.con (.bl false))] []
theorem sR14_ok (n : Nat) {w : Nat} {rows F : List (List Int)} {P : List Nat} (hl : rows.length + F.length ≤ 100) (hr : Ph (n + 6) 28 [.lst ((rows ++ F).map iT), .int (w : Nat)] = .ok (.int (P.length : Nat)) []) : evS (Ph (n + 6)) g0 sR14 [y0, y1, some (.int (w : Nat)), some (.lst (rows.map iT)), y4, some (.tup (F.map iT)), y6, some (.int (P.length : Nat)), y8, y9, y10, y11, y12, y13, y14, y15, y16, y17, y18, y19, y20, y21, y22, y23, y24, y25, y26] = .ok .next [y0, y1, some (.int (w : Nat)), some (.lst (rows.map iT)), y4, some (.tup (F.map iT)), y6, some (.int (P.length : Nat)), y8, y9, y10, y11, y12, y13, y14, y15, y16, y17, y18, y19, y20, y21, y22, y23, y24, y25, y26] := by
  have ha : binD .add (.lst (rows.map iT)) (.lst (F.map iT)) = some (.lst ((rows ++ F).map iT)) := by
    simp only [binD, addD]
    rw [if_pos (fits_ok (by simp; omega)), List.map_append]
  exact V.ifs_skip (V.cmp_ok (V.call_ok (V.Es2 (V.bin_ok (V.bi1 (V.var_ok rfl) (y := .lst (rows.map iT)) rfl) (V.bi1 (V.var_ok rfl) (y := .lst (F.map iT)) rfl) ha) (V.var_ok rfl)) hr rfl) (V.var_ok rfl) (ne_self _)) rfl
abbrev sR19 : S := .ifs (.or (.not (.bi .isTup [.var 9])) (.cmp .ne (.bi .len [.var 9]) (.bi .len [.var 10]))) [.ret (.con (.bl false))] []
theorem sR19_ok (Φ : Fns) {Zs : List (List Int)} {fr : List Nat} (hl : Zs.length = fr.length) : evS Φ g0 sR19 [y0, y1, y2, y3, y4, y5, y6, y7, y8, some (.tup (Zs.map iT)), some (.lst (iN fr)), y11, y12, y13, y14, y15, y16, y17, y18, y19, y20, y21, y22, y23, y24, y25, y26] = .ok .next [y0, y1, y2, y3, y4, y5, y6, y7, y8, some (.tup (Zs.map iT)), some (.lst (iN fr)), y11, y12, y13, y14, y15, y16, y17, y18, y19, y20, y21, y22, y23, y24, y25, y26] := by
  have l9 : biD .len [.tup (Zs.map iT)] = some (.int (fr.length : Nat)) := by simp [biD, lenD, hl]
  have l10 : biD .len [.lst (iN fr)] = some (.int (fr.length : Nat)) := by simp [biD, lenD]
  exact V.ifs_skip (V.or_f (V.not_f (V.bi1 (V.var_ok rfl) rfl) rfl) (V.cmp_ok (V.bi1 (V.var_ok rfl) l9) (V.bi1 (V.var_ok rfl) l10) (ne_self _))) rfl
theorem word_ev (n : Nat) {d0 : D} {w : Nat} (hs : Src d0) (hw : w ≤ 5) : ∃ word d', word.length = w ∧ (∀ x ∈ word, x.natAbs ≤ 4) ∧ Src d' ∧ evE (Ph (n + 1)) g0 (.comp [8] (.nm 8) .range [.var 2] [] (.bin .sub (.call 18 [.io 0, .con (.int 9)]) (.con (.int 4)))) [some d0, y1, some (.int (w : Nat)), y3, y4, y5, y6, y7, y8, y9, y10, y11, y12, y13, y14, y15, y16, y17, y18, y19, y20, y21, y22, y23, y24, y25, y26] = .ok (iL word) [some d', y1, some (.int (w : Nat)), y3, y4, y5, y6, y7, y8, y9, y10, y11, y12, y13, y14, y15, y16, y17, y18, y19, y20, y21, y22, y23, y24, y25, y26] := by
  have h59 : (2:Nat)^59 = 576460752303423488 := by decide
  obtain ⟨ys, ρ', e1, e2, e3, d', z8, e4, e5⟩ := V.comp_inv (Φ := Ph (n + 1)) (gl := g0) (own := [8]) (tg := .nm 8) (ik := .range) (its := [.var 2]) (elt := .bin .sub (.call 18 [.io 0, .con (.int 9)]) (.con (.int 4))) (ρ := [some d0, y1, some (.int (w : Nat)), y3, y4, y5, y6, y7, y8, y9, y10, y11, y12, y13, y14, y15, y16, y17, y18, y19, y20, y21, y22, y23, y24, y25, y26]) (ds := [.int (w : Nat)]) (xs := (List.range w).map fun (k : Nat) => D.int (k : Nat))
    (fun ρ => ∃ d' z8, Src d' ∧ ρ = [some d', y1, some (.int (w : Nat)), y3, y4, y5, y6, y7, z8, y9, y10, y11, y12, y13, y14, y15, y16, y17, y18, y19, y20, y21, y22, y23, y24, y25, y26]) (fun y => ∃ i, y = .int i ∧ i.natAbs ≤ 4) (V.Es1 (V.var_ok rfl)) (range_it1 w (by omega)) (fits_ok (by simp; omega)) ⟨d0, y8, hs, rfl⟩
    (by
      rintro x hx ρ ⟨d1, z8, hd, rfl⟩
      refine ⟨_, rfl, ?_⟩
      obtain ⟨q, d3, b1, b2, b3, b4⟩ := pick_ev n (ρ := [some d1, y1, some (.int (w : Nat)), y3, y4, y5, y6, y7, some x, y9, y10, y11, y12, y13, y14, y15, y16, y17, y18, y19, y20, y21, y22, y23, y24, y25, y26]) (e := .con (.int 9)) rfl hd V.con_ok (by omega) (by decide) (fun _ => rfl)
      exact ⟨.int (q - 4), _, V.bin_ok b4 V.con_ok rfl, ⟨q - 4, rfl, by omega⟩, d3, some x, b3, rfl⟩)
  obtain ⟨xs, f1, f2, f3⟩ := ys_of e3
  subst f1 e5
  exact ⟨xs, d', by rw [f2, e2]; simp, f3, e4, e1⟩
theorem right_ends (n : Nat) {d0 : D} (hs0 : Src d0) : Ends (Ph (n + 6)) b__law_right ([some d0, y1, y2, y3, y4, y5, y6, y7, y8, y9, y10, y11, y12, y13, y14, y15, y16, y17, y18, y19, y20, y21, y22, y23, y24, y25, y26]) := by
  have h59 : (2:Nat)^59 = 576460752303423488 := by decide
  -- sizes and tables
  obtain ⟨h, d1, h1, h5, hs1, e1⟩ := pick1 (n + 5) (ρ := [some d0, y1, y2, y3, y4, y5, y6, y7, y8, y9, y10, y11, y12, y13, y14, y15, y16, y17, y18, y19, y20, y21, y22, y23, y24, y25, y26]) 5 (by omega) (by omega) rfl hs0
  refine E_n (ρ' := [some d1, some (.int (h : Nat)), y2, y3, y4, y5, y6, y7, y8, y9, y10, y11, y12, y13, y14, y15, y16, y17, y18, y19, y20, y21, y22, y23, y24, y25, y26]) (V.set_ok e1) (E_f ?_)
  obtain ⟨w, d2, w1, w5, hs2, e2⟩ := pick1 (n + 5) (ρ := [some d1, some (.int (h : Nat)), y2, y3, y4, y5, y6, y7, y8, y9, y10, y11, y12, y13, y14, y15, y16, y17, y18, y19, y20, y21, y22, y23, y24, y25, y26]) 5 (by omega) (by omega) rfl hs1
  refine E_n (ρ' := [some d2, some (.int (h : Nat)), some (.int (w : Nat)), y3, y4, y5, y6, y7, y8, y9, y10, y11, y12, y13, y14, y15, y16, y17, y18, y19, y20, y21, y22, y23, y24, y25, y26]) (V.set_ok e2) (E_f ?_)
  obtain ⟨rows, d3, ht, hs3, e3⟩ := table_ev (n + 4) (ρ := [some d2, some (.int (h : Nat)), some (.int (w : Nat)), y3, y4, y5, y6, y7, y8, y9, y10, y11, y12, y13, y14, y15, y16, y17, y18, y19, y20, y21, y22, y23, y24, y25, y26]) (i := 1) (j := 2) rfl rfl rfl hs2 h5 w5
  refine E_n (ρ' := [some d3, some (.int (h : Nat)), some (.int (w : Nat)), some (.lst (rows.map iT)), y4, y5, y6, y7, y8, y9, y10, y11, y12, y13, y14, y15, y16, y17, y18, y19, y20, y21, y22, y23, y24, y25, y26]) (V.set_ok e3) (E_f ?_)
  obtain ⟨square, d4, htq, hs4, e4⟩ := table_ev (n + 4) (ρ := [some d3, some (.int (h : Nat)), some (.int (w : Nat)), some (.lst (rows.map iT)), y4, y5, y6, y7, y8, y9, y10, y11, y12, y13, y14, y15, y16, y17, y18, y19, y20, y21, y22, y23, y24, y25, y26]) (i := 1) (j := 1) rfl rfl rfl hs3 h5 h5
  refine E_n (ρ' := [some d4, some (.int (h : Nat)), some (.int (w : Nat)), some (.lst (rows.map iT)), some (.lst (square.map iT)), y5, y6, y7, y8, y9, y10, y11, y12, y13, y14, y15, y16, y17, y18, y19, y20, y21, y22, y23, y24, y25, y26]) (V.set_ok e4) (E_f ?_)
  refine E_n (sR8_ok n htq h5) ?_
  -- stairs
  have ht37 := ht.mono (l := 37) (by omega)
  have hrl := ht.len
  obtain ⟨F, P, L, s, hcall⟩ := stairs_ok (n + 1) iL (fun r => rfl) (d := .lst (rows.map iL)) rfl ht37 (by omega) h5 (by omega)
  refine E_n (ρ' := [some d4, some (.int (h : Nat)), some (.int (w : Nat)), some (.lst (rows.map iT)), some (.lst (square.map iT)), some (.tup (F.map iT)), some (.tup (iN P)), y7, y8, y9, y10, y11, y12, y13, y14, y15, y16, y17, y18, y19, y20, y21, y22, y23, y24, y25, y26]) (by
    simp only [evS]
    rw [V.call_ok (V.Es2 (lists_ev _ rfl (by omega) (by simp)) (V.var_ok rfl)) hcall rfl]
    rfl) ?_
  obtain ⟨F2, P2, L2, s2, hrank⟩ := lrank_ok (n + 5) iT (fun r => rfl) (d := .lst (rows.map iT)) (rows := rows) (w := w) (b := 37) rfl ht37.row (by omega) (by omega) (by omega)
  have hP2 : P2 = P := s2.same s.st fun x => Iff.rfl
  rw [hP2] at hrank
  refine E_n (ρ' := [some d4, some (.int (h : Nat)), some (.int (w : Nat)), some (.lst (rows.map iT)), some (.lst (square.map iT)), some (.tup (F.map iT)), some (.tup (iN P)), some (.int (P.length : Nat)), y8, y9, y10, y11, y12, y13, y14, y15, y16, y17, y18, y19, y20, y21, y22, y23, y24, y25, y26]) (V.set_ok (V.call_ok (V.Es2 (V.var_ok rfl) (V.var_ok rfl)) hrank rfl)) (E_f ?_)
  obtain ⟨F3, P3, L3, s3, hcall3⟩ := stairs_ok n iT (fun r => rfl) (d := .lst (rows.map iT)) rfl ht37 (by omega) h5 (by omega)
  have hP3 : P3 = P := s3.st.same s.st fun x => Iff.rfl
  have hrk := rank_ok n hcall3
  rw [s3.st.len, hP3] at hrk
  refine E_n (sR12_ok n s.st.len hrk) ?_
  obtain ⟨z8, z21, ef⟩ := fLoop_ok (n + 4) (y0 := some d4) (y1 := some (.int (h : Nat))) (y3 := some (.lst (rows.map iT))) (y4 := some (.lst (square.map iT))) (y8 := y8) (y9 := y9) (y10 := y10) (y11 := y11) (y12 := y12) (y13 := y13) (y14 := y14) (y15 := y15) (y16 := y16) (y17 := y17) (y18 := y18) (y19 := y19) (y20 := y20) (y21 := y21) (y22 := y22) (y23 := y23) (y24 := y24) (y25 := y25) (y26 := y26) s w5 h5 (by omega)
  refine E_n ef ?_
  have hcn := s.cnt
  have hFl := s.st.len
  obtain ⟨F4, P4, L4, s4, hrank4⟩ := lrank_ok (n + 5) iT (fun r => rfl) (d := .lst ((rows ++ F).map iT)) (rows := rows ++ F) (w := w) (b := 1215) rfl (fun r hr => by
    rcases List.mem_append.mp hr with q | q
    · exact ⟨(ht.row r q).1, (ht.row r q).2.mono (by omega)⟩
    · have := s.fs r q
      refine ⟨this.1, this.2.1.mono ?_⟩
      refine Nat.le_trans (bb_le (l := 5) (by omega)) ?_
      unfold bb; omega) (by rw [List.length_append]; omega) (by omega) (by omega)
  have hP4 : P4 = P := s4.same s.st fun x => sol_app s.st.fin x
  rw [hP4] at hrank4
  refine E_n (sR14_ok n (by omega) hrank4) ?_
  -- zeros
  obtain ⟨F5, P5, L5, s5, hcall5⟩ := stairs_ok n iL (fun r => rfl) (d := .lst (rows.map iL)) rfl ht37 (by omega) h5 (by omega)
  have hP5 : P5 = P := s5.st.same s.st fun x => Iff.rfl
  obtain ⟨Zs, hzl, hzp, hzc⟩ := zeros_ok n s5 (by omega) h5 (by omega) hcall5
  rw [hP5] at hzl hzp
  generalize hfr : (List.range w).filter (fun f => !decide (f ∈ P)) = fr at hzl hzp
  have hfrp : ∀ k ∈ fr, k < w ∧ k ∉ P := fun k hk => by
    rw [← hfr, List.mem_filter] at hk
    exact ⟨by simpa using hk.1, by simpa using hk.2⟩
  have hfrl : fr.length ≤ 100 := by
    have := List.length_filter_le (fun f => !decide (f ∈ P)) (List.range w)
    rw [hfr, List.length_range] at this
    omega
  refine E_n (ρ' := [some d4, some (.int (h : Nat)), some (.int (w : Nat)), some (.lst (rows.map iT)), some (.lst (square.map iT)), some (.tup (F.map iT)), some (.tup (iN P)), some (.int (P.length : Nat)), z8, some (.tup (Zs.map iT)), y10, y11, y12, y13, y14, y15, y16, y17, y18, y19, y20, z21, y22, y23, y24, y25, y26]) (V.set_ok (V.call_ok (V.Es2 (lists_ev _ rfl (by omega) (by simp)) (V.var_ok rfl)) hzc rfl)) (E_f ?_)
  have hfc : evE (Ph (n + 6)) g0 (.comp [11] (.nm 11) .range [.var 2] [.cmp .notin (.var 11) (.var 6)] (.var 11)) [some d4, some (.int (h : Nat)), some (.int (w : Nat)), some (.lst (rows.map iT)), some (.lst (square.map iT)), some (.tup (F.map iT)), some (.tup (iN P)), some (.int (P.length : Nat)), z8, some (.tup (Zs.map iT)), y10, y11, y12, y13, y14, y15, y16, y17, y18, y19, y20, z21, y22, y23, y24, y25, y26] = .ok (.lst (iN fr)) [some d4, some (.int (h : Nat)), some (.int (w : Nat)), some (.lst (rows.map iT)), some (.lst (square.map iT)), some (.tup (F.map iT)), some (.tup (iN P)), some (.int (P.length : Nat)), z8, some (.tup (Zs.map iT)), y10, y11, y12, y13, y14, y15, y16, y17, y18, y19, y20, z21, y22, y23, y24, y25, y26] := by
    rw [← hfr]
    exact V.comp_filt (α := Nat) (ik := .range) (ds := [.int (w : Nat)]) (fun k => D.int (k : Nat)) (fun f => !decide (f ∈ P)) (fun (k : Nat) => D.int k) (List.range w) (V.Es1 (V.var_ok rfl)) (range_it1 w (by omega)) (fits_ok (by simp; omega)) fun k hk => ⟨_, rfl, V.cmp_ok (V.var_ok rfl) (V.var_ok rfl) (notin_nat k P), (fun _ => V.var_ok rfl), rfl⟩
  refine E_n (ρ' := [some d4, some (.int (h : Nat)), some (.int (w : Nat)), some (.lst (rows.map iT)), some (.lst (square.map iT)), some (.tup (F.map iT)), some (.tup (iN P)), some (.int (P.length : Nat)), z8, some (.tup (Zs.map iT)), some (.lst (iN fr)), y11, y12, y13, y14, y15, y16, y17, y18, y19, y20, z21, y22, y23, y24, y25, y26]) (V.set_ok hfc) (E_f ?_)
  refine E_n (sR19_ok _ hzl) ?_
  obtain ⟨z11, z12, ez⟩ := zcLoop_ok (n + 4) (y0 := some d4) (y1 := some (.int (h : Nat))) (y4 := some (.lst (square.map iT))) (y5 := some (.tup (F.map iT))) (y6 := some (.tup (iN P))) (y7 := some (.int (P.length : Nat))) (y8 := z8) (y9 := some (.tup (Zs.map iT))) (y13 := y13) (y14 := y14) (y15 := y15) (y16 := y16) (y17 := y17) (y18 := y18) (y19 := y19) (y20 := y20) (y21 := z21) (y22 := y22) (y23 := y23) (y24 := y24) (y25 := y25) (y26 := y26) ht w5 h5 hfrp hfrl (fr.zip Zs) y11 y12 (fun p hp => ⟨(List.of_mem_zip hp).1, hzp p hp⟩)
  refine E_n ((V.loop_okp (ik := .zip) (ds := [.lst (iN fr), .tup (Zs.map iT)]) (V.Es2 (V.var_ok rfl) (V.var_ok rfl)) (zip_words fr Zs)).trans ez) ?_
  -- dues
  obtain ⟨word, d5, hwl, hwb, hs5, ew⟩ := word_ev (n + 5) (y1 := some (.int (h : Nat))) (y3 := some (.lst (rows.map iT))) (y4 := some (.lst (square.map iT))) (y5 := some (.tup (F.map iT))) (y6 := some (.tup (iN P))) (y7 := some (.int (P.length : Nat))) (y8 := z8) (y9 := some (.tup (Zs.map iT))) (y10 := some (.lst (iN fr))) (y11 := z11) (y12 := z12) (y13 := y13) (y14 := y14) (y15 := y15) (y16 := y16) (y17 := y17) (y18 := y18) (y19 := y19) (y20 := y20) (y21 := z21) (y22 := y22) (y23 := y23) (y24 := y24) (y25 := y25) (y26 := y26) hs4 w5
  refine E_n (ρ' := [some d5, some (.int (h : Nat)), some (.int (w : Nat)), some (.lst (rows.map iT)), some (.lst (square.map iT)), some (.tup (F.map iT)), some (.tup (iN P)), some (.int (P.length : Nat)), z8, some (.tup (Zs.map iT)), some (.lst (iN fr)), z11, some (iL word), y13, y14, y15, y16, y17, y18, y19, y20, z21, y22, y23, y24, y25, y26]) (V.set_ok ew) (E_f ?_)
  obtain ⟨u, d6, u1, u4, hs6, eu⟩ := pick1 (n + 5) (ρ := [some d5, some (.int (h : Nat)), some (.int (w : Nat)), some (.lst (rows.map iT)), some (.lst (square.map iT)), some (.tup (F.map iT)), some (.tup (iN P)), some (.int (P.length : Nat)), z8, some (.tup (Zs.map iT)), some (.lst (iN fr)), z11, some (iL word), y13, y14, y15, y16, y17, y18, y19, y20, z21, y22, y23, y24, y25, y26]) 4 (by omega) (by omega) rfl hs5
  refine E_n (ρ' := [some d6, some (.int (h : Nat)), some (.int (w : Nat)), some (.lst (rows.map iT)), some (.lst (square.map iT)), some (.tup (F.map iT)), some (.tup (iN P)), some (.int (P.length : Nat)), z8, some (.tup (Zs.map iT)), some (.lst (iN fr)), z11, some (iL word), some (.int (u : Nat)), y14, y15, y16, y17, y18, y19, y20, z21, y22, y23, y24, y25, y26]) (V.set_ok eu) (E_f ?_)
  obtain ⟨d7, z14, z19, hs7, ed⟩ := dLoop_ok n (y4 := some (.lst (square.map iT))) (y5 := some (.tup (F.map iT))) (y6 := some (.tup (iN P))) (y8 := z8) (y9 := some (.tup (Zs.map iT))) (y11 := z11) (y13 := some (.int (u : Nat))) (y14 := y14) (y15 := y15) (y16 := y16) (y17 := y17) (y18 := y18) (y19 := y19) (y20 := y20) (y21 := z21) (y22 := y22) (y23 := y23) (y24 := y24) (y25 := y25) (y26 := y26) s hs6 ht w5 h5 hwl hwb hfrp hfrl
  refine E_n ed ?_
  -- the rest
  have hwne : word ≠ [] := fun e => by rw [e] at hwl; simp at hwl; omega
  have hrne : rows ≠ [] := fun e => by rw [e] at hrl; simp at hrl; omega
  have hw9 : Bd 9000 word := fun x hx => Nat.lt_of_le_of_lt (hwb x hx) (Nat.lt_of_lt_of_le (show 4 < 2 ^ 3 by decide) (pow_le2 (by omega)))
  have hlast9 : (word.getLastD 0).natAbs < 2 ^ 9000 := by
    obtain ⟨w', hw'⟩ : ∃ w', word.length = w' + 1 := ⟨w - 1, by omega⟩
    rw [last_at0 hw']; exact at0_bd hw9 _
  refine E_n (ρ' := [some d7, some (.int (h : Nat)), some (.int (w : Nat)), some (.lst (rows.map iT)), some (.lst (square.map iT)), some (.tup (F.map iT)), some (.tup (iN P)), some (.int (P.length : Nat)), z8, some (.tup (Zs.map iT)), some (.lst (iN fr)), z11, some (iL word), some (.int (u : Nat)), z14, some (.int (at0 word 0)), some (.int (word.getLastD 0)), y17, y18, z19, y20, z21, y22, y23, y24, y25, y26]) (par_ok (V.ix_ok (V.var_ok rfl) V.con_ok (ix_at0 (d := iL word) (xs := word) rfl (i := 0) (by omega))) (V.ix_ok (V.var_ok rfl) (V.neg_ok V.con_ok) (ix_last (d := iL word) (xs := word) rfl hwne))) ?_
  refine E_n (sA_ok n (by omega) hw9 hlast9) ?_
  refine E_n (sB_ok n (by omega) hw9 (by omega) (Nat.lt_of_le_of_lt (show ((u : Nat) : Int).natAbs ≤ 4 by omega) (Nat.lt_of_lt_of_le (show 4 < 2 ^ 3 by decide) (pow_le2 (by omega))))) ?_
  have hr0 : 0 < rows.length := by omega
  have ha := ht.row _ (List.getElem_mem hr0)
  have hb := ht.row _ (List.getLast_mem hrne)
  have hixl : ixD (.lst (rows.map iT)) (.int (-1)) = some (iT (rows.getLast hrne)) := by
    simp only [ixD]
    rw [atD_last (by simpa using hrne), List.getLast_map]
  refine E_n (ρ' := [some d7, some (.int (h : Nat)), some (.int (w : Nat)), some (.lst (rows.map iT)), some (.lst (square.map iT)), some (.tup (F.map iT)), some (.tup (iN P)), some (.int (P.length : Nat)), z8, some (.tup (Zs.map iT)), some (.lst (iN fr)), z11, some (iL word), some (.int (u : Nat)), z14, some (.int (at0 word 0)), some (.int (word.getLastD 0)), some (iT rows[0]), some (iT (rows.getLast hrne)), z19, y20, z21, y22, y23, y24, y25, y26]) (par_ok (V.ix_ok (V.var_ok rfl) V.con_ok (ix_rows (q := iT) (d := .lst (rows.map iT)) rfl hr0)) (V.ix_ok (V.var_ok rfl) (V.neg_ok V.con_ok) hixl)) ?_
  obtain ⟨x19, x14, ec⟩ := sC_ok n (y0 := some d7) (y4 := some (.lst (square.map iT))) (y5 := some (.tup (F.map iT))) (y6 := some (.tup (iN P))) (y7 := some (.int (P.length : Nat))) (y8 := z8) (y9 := some (.tup (Zs.map iT))) (y10 := some (.lst (iN fr))) (y11 := z11) (y13 := some (.int (u : Nat))) (y14 := z14) (y15 := some (.int (at0 word 0))) (y16 := some (.int (word.getLastD 0))) (y19 := z19) (y20 := y20) (y21 := z21) (y22 := y22) (y23 := y23) (y24 := y24) (y25 := y25) (y26 := y26) ht w5 h5 (by omega) hwb ha hb
  refine E_app (a := sC) (b := sD) ec ?_
  exact sD_ok n w5 hwl hw9 (Nat.lt_of_le_of_lt (show ((u : Nat) : Int).natAbs ≤ 4 by omega) (Nat.lt_of_lt_of_le (show 4 < 2 ^ 3 by decide) (pow_le2 (by omega))))
theorem right_ok (n : Nat) {d0 : D} (hs : Src d0) : ∃ io, Ph (n + 7) 30 [d0] = .ok (.bl true) [io] := by
  obtain ⟨ρ', io, h1, h2⟩ := right_ends n (y1 := none) (y2 := none) (y3 := none) (y4 := none) (y5 := none) (y6 := none) (y7 := none) (y8 := none) (y9 := none) (y10 := none) (y11 := none) (y12 := none) (y13 := none) (y14 := none) (y15 := none) (y16 := none) (y17 := none) (y18 := none) (y19 := none) (y20 := none) (y21 := none) (y22 := none) (y23 := none) (y24 := none) (y25 := none) (y26 := none) hs
  refine ⟨io, Ph_run (F := fn__law_right) rfl (V.run_ret (ρ := ρ') rfl h1 ?_)⟩
  show (gt ρ' 0).bind _ = _
  rw [h2]; rfl
theorem law_ok (n : Nat) (ns : List Int) (hl : ns.length ≤ 63) : Ph (n + 8) 31 [.scr ns] = .ok (.bl true) [] := by
  have h59 : (2:Nat)^59 = 576460752303423488 := by decide
  have hmin : biD .min2 [.int (ns.length : Nat), .int 6] = some (.int ((min ns.length 6 : Nat))) := by
    simp only [biD, min2D]
    congr 2
    split <;> omega
  obtain ⟨ρ', l1, y1, l2⟩ := V.forL_next (tg := asg (.nm 1)) (body := evSs (Ph (n + 7)) g0 [.ifs (.not (.call 30 [.tmp (.callF 17 [.call 16 [.var 0, .var 1], .var 1])])) [.ret (.con (.bl false))] []]) ((List.range (min ns.length 6 + 3)).map fun (k : Nat) => D.int (k : Nat))
    (fun _ ρ => ∃ y1, ρ = [some (.scr ns), y1]) (ρ := [some (.scr ns), none]) ⟨none, rfl⟩ (by
      rintro k x ρ hx ⟨y1, rfl⟩
      have hx' : x = .int (k : Nat) := by
        rcases Nat.lt_or_ge k (min ns.length 6 + 3) with q | q
        · rw [List.getElem?_eq_getElem (by simpa using q)] at hx
          simpa using hx.symm
        · rw [List.getElem?_eq_none (by simpa using q)] at hx; cases hx
      subst hx'
      obtain ⟨i, hc⟩ := cell_ok (n + 6) ns k
      obtain ⟨d, hd, hsrc⟩ := source_ok (n + 6) i k
      obtain ⟨io, hr⟩ := right_ok n hd
      refine ⟨_, rfl, _, V.seq_n (V.ifs_skip (V.not_f (x := .bl true) (ρ1 := [some (.scr ns), some (.int (k : Nat))]) ?_ rfl) rfl) snil, _, rfl⟩
      have e1 : evE (Ph (n + 7)) g0 (.call 16 [.var 0, .var 1]) [some (.scr ns), some (.int (k : Nat))] = .ok (.int i) [some (.scr ns), some (.int (k : Nat))] := V.call_ok (V.Es2 (V.var_ok rfl) (V.var_ok rfl)) hc rfl
      show evE (Ph (n + 7)) g0 (.call 30 [.tmp (.callF 17 [.call 16 [.var 0, .var 1], .var 1])]) [some (.scr ns), some (.int (k : Nat))] = _
      simp only [evE, evEs] at e1 ⊢
      rw [e1]
      simp only [PX.R.bind, gt, optR, hsrc, callR, setIos, hr])
  subst l2
  refine Ph_run (F := fn_law) rfl (V.run_ret (ρ := [some (.scr ns), y1]) rfl ?_ rfl)
  exact V.seq_n ((V.loop_okp (ik := .range) (ds := [.int ((min ns.length 6 + 3 : Nat))]) (V.Es1 (V.bin_ok (V.bi_ok (V.Es2 (V.bi1 (V.var_ok rfl) rfl) V.con_ok) hmin) V.con_ok rfl)) (range_it1 _ (by omega))).trans l1) (V.seq_ret (V.ret_ok V.con_ok))
end P00
end
section
set_option autoImplicit false
set_option linter.all false
namespace P00
open PX
theorem fns_eq : ∀ n, K00.fns n = P00.fns n
  | 0 => rfl
  | 1 => rfl
  | 2 => rfl
  | 3 => rfl
  | 4 => rfl
  | 5 => rfl
  | 6 => rfl
  | 7 => rfl
  | 8 => rfl
  | 9 => rfl
  | 10 => rfl
  | 11 => rfl
  | 12 => rfl
  | 13 => rfl
  | 14 => rfl
  | 15 => rfl
  | 16 => rfl
  | 17 => rfl
  | 18 => rfl
  | 19 => rfl
  | 20 => rfl
  | 21 => rfl
  | 22 => rfl
  | 23 => rfl
  | 24 => rfl
  | 25 => rfl
  | 26 => rfl
  | 27 => rfl
  | 28 => rfl
  | 29 => rfl
  | 30 => rfl
  | 31 => rfl
  | _ + 32 => rfl
theorem plain : K00.Plain := fun ns hl => by
  rw [show K00.fns = P00.fns from funext fns_eq]
  exact law_ok 32 ns hl
end P00
theorem k00_law : PySem.Challenge.rw_polywhole_k00_whole_areas_and_stairs.Holds := k00_holds P00.plain
end
theorem PySem.Challenge.cw_polywhole_k00_whole_areas_and_stairs_holds : PySem.Challenge.rw_polywhole_k00_whole_areas_and_stairs.Holds := by
  exact k00_law
