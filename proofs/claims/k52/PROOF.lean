import PyProof.Rows.All
import Wide.All
import OpenK.AllK
import Wide.FinOn
import HandS.ForMost
import HandS.TupAny
import HandS.TupMul
import HandS.TupLe
import HandS.Wide
import KE.SortData
import KE.DataMinMax
import KE.DataCmp
import KE.DataFind
import KE.DataAny
import KE.DataIsa
import HandS.ExcOwn
import HandS.More
import HandS.ExcValue
import HandS.IsInst
import HandS.Gcd
import HandS.Style
import HandS.Flow
import HandS.Walk
import HandS.Codes
import HandS.Zip
import HandS.Deep
import KE.GoesEnum
import HandS.DictComp
import HandS.ListItems
import HandS.Sort
import PyProof.SumAny
import HandS.ForExc
import HandS.Defaults
import HandS.Head2
import HandS.HeadEnd
import HandS.HeadHook2
import HandS.Head3
import PySem.Challenge.RW_rockystairs_k52_across_best_squares
set_option Elab.async false
set_option linter.all false
set_option maxRecDepth 1000000
namespace Ev
open PySem

/-- values; dic: its entries, each a tuple of key and value; ref: a changeable cell; clo: a lambda with what it holds -/
inductive D where
  | non | bl (b : Bool) | int (i : Int) | str (s : Str)
  | tup (l : List D) | lst (l : List D) | dic (l : List D)
  | ref (n : Nat) | clo (f : Nat) (l : List D) | exc (c : Nat) (l : List D)
  deriving Inhabited

abbrev Mem := List D
inductive Out (α : Type) where
  | ok (a : α) (m : Mem)
  | exc (c : Nat) (l : List D) (m : Mem)
  | no
def Out.bind {α β : Type} : Out α → (α → Mem → Out β) → Out β
  | .ok a m, f => f a m
  | .exc c l m, _ => .exc c l m
  | .no, _ => .no
@[simp] theorem bind_ok {α β : Type} (a : α) (m : Mem) (f : α → Mem → Out β) : (Out.ok a m).bind f = f a m := rfl
@[simp] theorem bind_exc {α β : Type} (c : Nat) (l : List D) (m : Mem) (f : α → Mem → Out β) : (Out.exc c l m : Out α).bind f = .exc c l m := rfl
@[simp] theorem bind_no {α β : Type} (f : α → Mem → Out β) : (Out.no : Out α).bind f = .no := rfl
/-- a pure step -/
def Out.of {α : Type} (m : Mem) : Option α → Out α
  | some a => .ok a m
  | none => .no
@[simp] theorem of_some {α : Type} (m : Mem) (a : α) : Out.of m (some a) = .ok a m := rfl
@[simp] theorem of_none {α : Type} (m : Mem) : Out.of m (none : Option α) = .no := rfl
theorem bind_eq_ok {α β : Type} {o : Out α} {f : α → Mem → Out β} {b : β} {m : Mem} (h : o.bind f = .ok b m) : ∃ a m1, o = .ok a m1 ∧ f a m1 = .ok b m := by
  cases o with
  | ok a m1 => exact ⟨a, m1, rfl, h⟩
  | exc c l m1 => cases h
  | no => cases h
theorem of_eq_ok {α : Type} {m m' : Mem} {o : Option α} {a : α} (h : Out.of m o = .ok a m') : o = some a ∧ m = m' := by
  cases o with
  | some x => cases h; exact ⟨rfl, rfl⟩
  | none => cases h

inductive Sl where
  | val (d : D) | own (d : D)
abbrev Env := List (Option Sl)

inductive BOp where
  | add | sub | mul | fdiv | mod | pow | shl
  deriving DecidableEq
inductive COp where
  | eq | ne | lt | le | gt | ge | is | isnot | mem | nmem
  deriving DecidableEq
/-- built-in functions -/
inductive Prim where
  | len | sum | min | max | min2 | max2 | sorted | all | any | list | tuple | int | abs | sumv | listv
  | isInt | isBool | isTup | isLst | isTupLst | isStr | gcd
  deriving DecidableEq
/-- methods of built-in types -/
inductive Meth where
  | get1 | get2 | count | index
  deriving DecidableEq
/-- what a loop walks -/
inductive ItK where
  | val | rng | enum | zip | items | vals
  deriving DecidableEq
/-- targets -/
inductive T where
  | name (i : Nat) | tup (t : T) | nil | cons (t ts : T)
inductive E where
  | slot (i : Nat) | brw (i : Nat) | idxc (i : Nat) (e : E) | cst (d : D)
  | nil | cons (e es : E)
  | tup (es : E) | lst (es : E) | dsp (es : E)
  | bin (op : BOp) (a b : E) | neg (a : E)
  | cmp (op : COp) (a b : E) | chn (o p : COp) (a b c : E)
  | and (a b : E) | or (a b : E) | not (a : E) | ite (c a b : E)
  | idx (a i : E) | slc (a lo hi : E) | skipE | rev (a : E)
  | call (f : Nat) (es : E) | callv (i : Nat)
  | prim (p : Prim) (es : E)
  | meth (m : Meth) (o es : E)
  | comp (own : List Nat) (t : T) (k : ItK) (it ifs elt : E)
  | dcomp (own : List Nat) (t : T) (k : ItK) (it ifs key val : E)
  | sitems (a : E)
  | fld (i : Nat) (n : Nat)
def isSkip : E → Bool
  | .skipE => true
  | _ => false
inductive S where
  | skip | seq (s r : S)
  | expr (e : E) | asg (t : T) (e : E) | own (i : Nat) (e : E)
  | par (fl : List (Nat × Bool)) (es : E)
  | app (i : Nat) (e : E) | sub (i : Nat) (k v : E) | subc (i : Nat) (k v : E) | pop (i j : Nat)
  | aug (i : Nat) (op : BOp) (e : E)
  | frz (i : Nat)
  | ite (c : E) (a b : S)
  | for (w : List Nat) (t : T) (k : ItK) (it : E) (b : S)
  | whl (n : Nat) (w : List Nat) (c : E) (b : S)
  | ret (e : E) | brk | cnt
  | rais (c : Nat) (es : E)

mutual
/-- python's == of plain data -/
def eqD : D → D → Bool
  | .non, .non => true
  | .bl a, .bl b => a == b
  | .bl a, .int j => (if a then 1 else 0) == j
  | .int i, .bl b => i == (if b then 1 else 0)
  | .int i, .int j => i == j
  | .str x, .str y => x == y
  | .lst xs, .lst ys => eqDs xs ys
  | .tup xs, .tup ys => eqDs xs ys
  | _, _ => false
def eqDs : List D → List D → Bool
  | [], [] => true
  | x :: xs, y :: ys => eqD x y && eqDs xs ys
  | _, _ => false
end
/-- plain data of at most this depth -/
def okD : Nat → D → Bool
  | _, .non => true
  | _, .bl _ => true
  | _, .int _ => true
  | _, .str s => PyData.strOk s
  | n + 1, .tup l => l.all (okD n)
  | n + 1, .lst l => l.all (okD n)
  | _, _ => false
abbrev okDep : Nat := 12
def LIM : Nat := 16777216
mutual
/-- the two compare place by place -/
def alkD : D → D → Bool
  | .bl _, .bl _ => true
  | .int _, .int _ => true
  | .lst xs, .lst ys => alkDs xs ys
  | .tup xs, .tup ys => alkDs xs ys
  | _, _ => false
def alkDs : List D → List D → Bool
  | x :: xs, y :: ys => alkD x y && alkDs xs ys
  | _, _ => true
end
mutual
/-- < of such -/
def ltB : D → D → Bool
  | .bl a, .bl b => !a && b
  | .int i, .int j => decide (i < j)
  | .lst xs, .lst ys => ltBs xs ys
  | .tup xs, .tup ys => ltBs xs ys
  | _, _ => false
def ltBs : List D → List D → Bool
  | x :: xs, y :: ys => if eqD x y then ltBs xs ys else ltB x y
  | [], _ :: _ => true
  | _, _ => false
end
def ordB : COp → D → D → Bool
  | .lt, x, y => ltB x y
  | .gt, x, y => ltB y x
  | .le, x, y => !ltB y x
  | .ge, x, y => !ltB x y
  | _, _, _ => false
/-- <, <=, >, >= -/
def ordD (op : COp) (x y : D) : Option Bool := if okD okDep x && okD okDep y && alkD x y then some (ordB op x y) else none
def isNone : D → Bool
  | .non => true
  | _ => false
def seqOf : D → Option (List D)
  | .tup l => some l
  | .lst l => some l
  | _ => none
def keysOf : List D → Option (List D)
  | [] => some []
  | .tup [k, _] :: r => (keysOf r).map (k :: ·)
  | _ => none
def keyIsD : D → D → Bool
  | .int i, .int j => decide (i = j)
  | .str s, .str t => decide (s = t)
  | _, _ => false
def isKeyD : D → Bool
  | .int _ => true
  | .str _ => true
  | _ => false
def hasD (k : D) : List D → Bool
  | [] => false
  | .tup [q, _] :: r => keyIsD q k || hasD k r
  | _ :: r => hasD k r
def valsOf : List D → Option (List D)
  | [] => some []
  | .tup [_, v] :: r => (valsOf r).map (v :: ·)
  | _ => none
/-- in, of a tuple, a list -/
def memD (x : D) (y : D) : Option Bool :=
  match y with
  | .tup l => if okD okDep x && l.all (okD okDep) then some (l.any fun z => eqD z x) else none
  | .lst l => if okD okDep x && l.all (okD okDep) then some (l.any fun z => eqD z x) else none
  | _ => none
def cmpD : COp → D → D → Option D
  | .eq, x, y => if okD okDep x && okD okDep y then some (.bl (eqD x y)) else none
  | .ne, x, y => if okD okDep x && okD okDep y then some (.bl (!eqD x y)) else none
  | .is, x, y => if isNone y then some (.bl (isNone x)) else none
  | .isnot, x, y => if isNone y then some (.bl (!isNone x)) else none
  | .mem, x, y => (memD x y).map .bl
  | .nmem, x, y => (memD x y).map fun b => .bl (!b)
  | op, x, y => (ordD op x y).map .bl
def mulOk (i j : Int) : Bool := (decide (-(2 ^ 64) < i) && decide (i < 2 ^ 64)) || (decide (-(2 ^ 64) < j) && decide (j < 2 ^ 64))
def addD : D → D → Option D
  | .int i, .int j => some (.int (i + j))
  | .tup l, .tup m => if l.length + m.length ≤ LIM then some (.tup (l ++ m)) else none
  | .lst l, .lst m => if l.length + m.length ≤ LIM then some (.lst (l ++ m)) else none
  | _, _ => none
def subD : D → D → Option D
  | .int i, .int j => some (.int (i - j))
  | _, _ => none
def mulD : D → D → Option D
  | .int i, .int j => if mulOk i j then some (.int (i * j)) else none
  | .tup l, .int k => if decide (1 ≤ k) && decide (k ≤ 1000) && decide (l.length ≤ 1000) then some (.tup (List.replicate k.toNat l).flatten) else none
  | .lst l, .int k => if decide (0 ≤ k) && decide (k ≤ 1000) && decide (l.length ≤ 1000) then some (.lst (List.replicate k.toNat l).flatten) else none
  | _, _ => none
def fdivD : D → D → Option D
  | .int i, .int j => if decide (0 < j) && (decide (j < 1073741824) || decide (j.natAbs.log2 < 9000)) then some (.int (i / j)) else none
  | _, _ => none
def shlD : D → D → Option D
  | .int i, .int j => if decide (0 ≤ j) && decide (j ≤ 1000) && decide (i.natAbs < 1000000) then some (.int (i * 2 ^ j.toNat)) else none
  | _, _ => none
def modD : D → D → Option D
  | .int i, .int j => if decide (0 < j) then some (.int (i % j)) else none
  | _, _ => none
def powD : D → D → Option D
  | .int i, .int j => if decide (0 ≤ j) && decide (j ≤ 1000) && decide (i.natAbs < 1000000) then some (.int (i ^ j.toNat)) else none
  | _, _ => none
def binD : BOp → D → D → Option D
  | .add => addD
  | .sub => subD
  | .mul => mulD
  | .fdiv => fdivD
  | .mod => modD
  | .pow => powD
  | .shl => shlD
def truD : D → Option Bool
  | .non => some false
  | .bl b => some b
  | .int i => some (i != 0)
  | .tup l => some (!l.isEmpty)
  | .lst l => some (!l.isEmpty)
  | _ => none
/-- python's place i in n things -/
def ixD (n : Nat) (i : Int) : Option Nat := if 0 ≤ i then (if i < n then some i.toNat else none) else if -(n : Int) ≤ i then some (i + n).toNat else none
def lookD (k : D) : List D → Option D
  | [] => none
  | .tup [q, v] :: r => if keyIsD q k then some v else lookD k r
  | _ :: _ => none
def idxD : D → D → Option D
  | .tup l, .int i => (ixD l.length i).bind fun j => l[j]?
  | .lst l, .int i => (ixD l.length i).bind fun j => l[j]?
  | .dic l, k => if isKeyD k then lookD k l else none
  | _, _ => none
def cutI (n d : Nat) : D → Option Nat
  | .non => some d
  | .int i => some (if i < 0 then (i + n).toNat else min i.toNat n)
  | _ => none
def cutL (l : List D) (lo hi : D) : Option (List D) :=
  (cutI l.length 0 lo).bind fun a => (cutI l.length l.length hi).map fun b => (l.drop a).take (b - a)
def slcD : D → D → D → Option D
  | .tup l, lo, hi => (cutL l lo hi).map .tup
  | .lst l, lo, hi => (cutL l lo hi).map .lst
  | _, _, _ => none
def slcG (s t : Bool) (x y z : D) : Option D := if (s || !isNone y) && (t || !isNone z) then slcD x y z else none
def revD : D → Option D
  | .lst l => some (.lst l.reverse)
  | _ => none
def intsOf : List D → Option (List Int)
  | [] => some []
  | .int i :: r => (intsOf r).map (i :: ·)
  | _ => none
def blsOf : List D → Option (List Bool)
  | [] => some []
  | .bl i :: r => (blsOf r).map (i :: ·)
  | _ => none
/-- any two compare -/
def alkAll (l : List D) : Bool := l.all (okD okDep) && l.all fun x => l.all fun y => alkD x y
/-- the least, the greatest of things, the first of equal ones -/
def minB (x : D) (r : List D) : D := r.foldl (fun b y => if ltB y b then y else b) x
def maxB (x : D) (r : List D) : D := r.foldl (fun b y => if ltB b y then y else b) x
def minD : List D → Option D
  | [] => none
  | x :: r => if alkAll (x :: r) then some (minB x r) else none
def maxD : List D → Option D
  | [] => none
  | x :: r => if alkAll (x :: r) then some (maxB x r) else none
/-- put in order, equal ones as they stood -/
def insB (x : D) : List D → List D
  | [] => [x]
  | y :: r => if ltB y x then y :: insB x r else x :: y :: r
def sortB : List D → List D
  | [] => []
  | x :: r => insB x (sortB r)
def isTupC : D → Bool
  | .tup _ => true
  | _ => false
def noTup : D → Bool
  | .tup _ => false
  | .non => false
  | _ => true
def sortD (l : List D) : Option (List D) := if alkAll l && (l.all isTupC || l.all noTup) then some (sortB l) else none
def rngD (a b : Int) : Option (List D) := if decide (-1000000 ≤ a) && decide (a ≤ 1000000) && decide (b ≤ 1000000) && decide (-1000000 ≤ b) then some ((List.range (b - a).toNat).map fun (i : Nat) => .int (a + i)) else none
def rngN (a b : Int) : Option (List D) := if decide (-1000000 ≤ a) && decide (a ≤ 1000000) && decide (b ≤ 1000000) && decide (-1000000 ≤ b) then some ((List.range (a - b).toNat).map fun (i : Nat) => .int (a + i * (-1))) else none
def lenD : List D → Option D
  | [.tup l] => some (.int l.length)
  | [.lst l] => some (.int l.length)
  | _ => none
def sumD : List D → Option D
  | [.lst l] => (intsOf l).map fun ns => .int ns.sum
  | [.tup l] => (intsOf l).map fun ns => .int ns.sum
  | _ => none
def allD : List D → Option D
  | [.lst l] => (blsOf l).map fun bs => .bl (bs.all id)
  | _ => none
def anyD : List D → Option D
  | [.lst l] => (blsOf l).map fun bs => .bl (bs.any id)
  | _ => none
def minP : List D → Option D
  | [.lst l] => minD l
  | [.tup l] => minD l
  | _ => none
def maxP : List D → Option D
  | [.lst l] => maxD l
  | [.tup l] => maxD l
  | _ => none
def min2D : List D → Option D
  | [.int i, .int j] => some (.int (if j < i then j else i))
  | _ => none
def max2D : List D → Option D
  | [.int i, .int j] => some (.int (if j > i then j else i))
  | _ => none
def sortP : List D → Option D
  | [.lst l] => (sortD l).map .lst
  | [.tup l] => (sortD l).map .lst
  | [.dic l] => (keysOf l).bind fun ks => if (intsOf ks).isSome && decide (ks.length < 64) then some (.lst (sortB ks)) else none
  | _ => none
def listP : List D → Option D
  | [.lst l] => some (.lst l)
  | [.tup l] => some (.lst l)
  | _ => none
def tupP : List D → Option D
  | [.lst l] => some (.tup l)
  | [.tup l] => some (.tup l)
  | _ => none
def intP : List D → Option D
  | [.int i] => some (.int i)
  | _ => none
def absP : List D → Option D
  | [.int i] => some (.int (if i < 0 then -i else i))
  | _ => none
/-- a value's type, by a number -/
def tyD : D → Option Nat
  | .non => some 0
  | .bl _ => some 1
  | .int _ => some 2
  | .str _ => some 3
  | .tup _ => some 4
  | .lst _ => some 5
  | _ => none
def tyIs : Prim → Nat → Bool
  | .isInt, n => n == 1 || n == 2
  | .isBool, n => n == 1
  | .isStr, n => n == 3
  | .isTup, n => n == 4
  | .isLst, n => n == 5
  | .isTupLst, n => n == 4 || n == 5
  | _, _ => false
def isP (p : Prim) : List D → Option D
  | [x] => (tyD x).map fun n => .bl (tyIs p n)
  | _ => none
def gcdP : List D → Option D
  | [.int i, .int j] => some (.int ((Nat.gcd i.natAbs j.natAbs : Nat) : Int))
  | _ => none
/-- sum(d.values()), list(d.values()) -/
def sumvD : List D → Option D
  | [.dic l] => (valsOf l).bind fun vs => (intsOf vs).map fun ns => .int ns.sum
  | _ => none
def listvD : List D → Option D
  | _ => none
def primD : Prim → List D → Option D
  | .len => lenD
  | .sum => sumD
  | .all => allD
  | .any => anyD
  | .min => minP
  | .max => maxP
  | .min2 => min2D
  | .max2 => max2D
  | .sorted => sortP
  | .list => listP
  | .tuple => tupP
  | .int => intP
  | .abs => absP
  | .isInt => isP .isInt
  | .isBool => isP .isBool
  | .isTup => isP .isTup
  | .isLst => isP .isLst
  | .isStr => isP .isStr
  | .isTupLst => isP .isTupLst
  | .gcd => gcdP
  | .sumv => sumvD
  | .listv => listvD
def methD : Meth → D → List D → Option D
  | .count, .lst l, [x] => if okD okDep x && l.all (okD okDep) then some (.int (l.countP fun z => eqD z x)) else none
  | .count, .tup l, [x] => if okD okDep x && l.all (okD okDep) then some (.int (l.countP fun z => eqD z x)) else none
  | .index, .lst l, [x] => if okD okDep x && l.all (okD okDep) then (l.findIdx? fun z => eqD z x).map fun (j : Nat) => D.int j else none
  | _, _, _ => none
def enumFrom (i : Nat) : List D → List D
  | [] => []
  | x :: r => .tup [.int i, x] :: enumFrom (i + 1) r
def zip2 : List D → List D → List D
  | x :: r, y :: s => .tup [x, y] :: zip2 r s
  | _, _ => []
def zip3 : List D → List D → List D → List D
  | x :: r, y :: s, z :: t => .tup [x, y, z] :: zip3 r s t
  | _, _, _ => []
/-- the items of a walk -/
def itemsD : ItK → List D → Option (List D)
  | .val, [.lst l] => some l
  | .val, [.tup l] => some l
  | .val, [.dic l] => keysOf l
  | .items, [.dic l] => some l
  | .vals, [.dic l] => valsOf l
  | .rng, [.int i, .int j, .int c] => if c = -1 then rngN i j else none
  | .rng, [.int j] => rngD 0 j
  | .rng, [.int i, .int j] => rngD i j
  | .enum, [.lst l] => some (enumFrom 0 l)
  | .enum, [.tup l] => some (enumFrom 0 l)
  | .zip, [.lst l, .lst m] => some (zip2 l m)
  | .zip, [.tup l, .tup m] => some (zip2 l m)
  | _, _ => none

def repD (k v : D) : List D → List D
  | [] => []
  | .tup [q, w] :: r => .tup [q, if keyIsD q k then v else w] :: repD k v r
  | x :: r => x :: repD k v r
/-- k: v in its place, or at the end -/
def dputD (k v : D) (l : List D) : List D := if hasD k l then repD k v l else l ++ [.tup [k, v]]
def sitD : D → Option D
  | .dic l => (sortD l).map .lst
  | _ => none

def setE (ρ : Env) (i : Nat) (x : Option Sl) : Env := List.set ρ i x
def wipeE (ρ : Env) : List Nat → Env
  | [] => ρ
  | v :: vs => setE (wipeE ρ vs) v none
def putT : T → D → Env → Option Env
  | .name i, d, ρ => if i < ρ.length then some (setE ρ i (some (.val d))) else none
  | .tup ts, .tup l, ρ => putT ts (.tup l) ρ
  | .nil, .tup [], ρ => some ρ
  | .cons t ts, .tup (x :: r), ρ => (putT t x ρ).bind fun ρ1 => putT ts (.tup r) ρ1
  | _, _, _ => none
def consD (x : D) : D → Option D
  | .tup xs => some (.tup (x :: xs))
  | _ => none

abbrev Phi := Nat → List D → Mem → Out D
/-- a comprehension's turns -/
def compL (g : D → Mem → Out (Option D)) : List D → List D → Mem → Out D
  | [], acc, m => .ok (.lst acc) m
  | x :: r, acc, m => (g x m).bind fun y m => match y with
    | some y => compL g r (acc ++ [y]) m
    | none => compL g r acc m
/-- a dict comprehension's turns -/
def dcompL (g : D → Mem → Out (Option (D × D))) : List D → List D → Mem → Out D
  | [], acc, m => .ok (.dic acc) m
  | x :: r, acc, m => (g x m).bind fun y m => match y with
    | some (k, v) => if isKeyD k then dcompL g r (dputD k v acc) m else .no
    | none => dcompL g r acc m
def argsOf : D → List D
  | .tup l => l
  | _ => []
def evE (φ : Phi) : E → Env → Mem → Out D
  | .slot i, ρ, m => match ρ[i]? with
    | some (some (.val d)) => .ok d m
    | _ => .no
  | .brw i, ρ, m => match ρ[i]? with
    | some (some (.own d)) => .ok d m
    | _ => .no
  | .idxc i e, ρ, m => match ρ[i]? with
    | some (some (.val (.ref n))) => (evE φ e ρ m).bind fun y m => (Out.of m m[n]?).bind fun x m => Out.of m (idxD x y)
    | _ => .no
  | .cst d, _, m => .ok d m
  | .nil, _, m => .ok (.tup []) m
  | .cons e es, ρ, m => (evE φ e ρ m).bind fun x m => (evE φ es ρ m).bind fun r m => Out.of m (consD x r)
  | .tup es, ρ, m => evE φ es ρ m
  | .lst es, ρ, m => (evE φ es ρ m).bind fun r m => .ok (.lst (argsOf r)) m
  | .dsp _, _, _ => .no
  | .bin op a b, ρ, m => (evE φ a ρ m).bind fun x m => (evE φ b ρ m).bind fun y m => Out.of m (binD op x y)
  | .neg a, ρ, m => (evE φ a ρ m).bind fun x m => match x with
    | .int i => .ok (.int (-i)) m
    | _ => .no
  | .cmp op a b, ρ, m => (evE φ a ρ m).bind fun x m => (evE φ b ρ m).bind fun y m => Out.of m (cmpD op x y)
  | .chn o p a b c, ρ, m => (evE φ a ρ m).bind fun x m => (evE φ b ρ m).bind fun y m => (Out.of m (cmpD o x y)).bind fun r m => match r with
    | .bl true => (evE φ c ρ m).bind fun z m => Out.of m (cmpD p y z)
    | .bl false => .ok (.bl false) m
    | _ => .no
  | .and a b, ρ, m => (evE φ a ρ m).bind fun x m => match truD x with
    | some true => evE φ b ρ m
    | some false => .ok x m
    | none => .no
  | .or a b, ρ, m => (evE φ a ρ m).bind fun x m => match truD x with
    | some true => .ok x m
    | some false => evE φ b ρ m
    | none => .no
  | .not a, ρ, m => (evE φ a ρ m).bind fun x m => match truD x with
    | some t => .ok (.bl (!t)) m
    | none => .no
  | .ite c a b, ρ, m => (evE φ c ρ m).bind fun x m => match truD x with
    | some true => evE φ a ρ m
    | some false => evE φ b ρ m
    | none => .no
  | .idx a i, ρ, m => (evE φ a ρ m).bind fun x m => (evE φ i ρ m).bind fun y m => Out.of m (idxD x y)
  | .slc a lo hi, ρ, m => (evE φ a ρ m).bind fun x m => (evE φ lo ρ m).bind fun y m => (evE φ hi ρ m).bind fun z m => Out.of m (slcG (isSkip lo) (isSkip hi) x y z)
  | .skipE, _, m => .ok .non m
  | .rev a, ρ, m => (evE φ a ρ m).bind fun x m => Out.of m (revD x)
  | .call f es, ρ, m => (evE φ es ρ m).bind fun r m => φ f (argsOf r) m
  | .callv i, ρ, m => match ρ[i]? with
    | some (some (.val (.clo f l))) => φ f l m
    | _ => .no
  | .prim p es, ρ, m => (evE φ es ρ m).bind fun r m => Out.of m (primD p (argsOf r))
  | .meth q o es, ρ, m => (evE φ o ρ m).bind fun x m => (evE φ es ρ m).bind fun r m => Out.of m (methD q x (argsOf r))
  | .comp own t k it ifs elt, ρ, m => (evE φ it ρ m).bind fun r m => (Out.of m (itemsD k (argsOf r))).bind fun xs m =>
      compL (fun x m => match putT t x (wipeE ρ own) with
        | some ρ1 => (evE φ ifs ρ1 m).bind fun c m => match truD c with
          | some true => (evE φ elt ρ1 m).bind fun y m => .ok (some y) m
          | some false => .ok none m
          | none => .no
        | none => .no) xs [] m
  | .dcomp own t k it ifs key val, ρ, m => (evE φ it ρ m).bind fun r m => (Out.of m (itemsD k (argsOf r))).bind fun xs m =>
      dcompL (fun x m => match putT t x (wipeE ρ own) with
        | some ρ1 => (evE φ ifs ρ1 m).bind fun c m => match truD c with
          | some true => (evE φ key ρ1 m).bind fun y m => (evE φ val ρ1 m).bind fun z m => .ok (some (y, z)) m
          | some false => .ok none m
          | none => .no
        | none => .no) xs [] m
  | .sitems a, ρ, m => (evE φ a ρ m).bind fun x m => Out.of m (sitD x)
  | .fld i n, ρ, m => match ρ[i]? with
    | some (some (.val (.exc _ l))) => Out.of m l[n]?
    | _ => .no
inductive Flow where
  | nx (ρ : Env) | bk (ρ : Env) | ct (ρ : Env) | rt (d : D)
/-- a for's turns -/
def forL (g : D → Env → Mem → Out Flow) (w : List Nat) : List D → Env → Mem → Out Flow
  | [], ρ, m => .ok (.nx ρ) m
  | x :: r, ρ, m => (g x ρ m).bind fun f m => match f with
    | .nx ρ1 => forL g w r (wipeE ρ1 w) m
    | .ct ρ1 => forL g w r (wipeE ρ1 w) m
    | .bk ρ1 => .ok (.nx (wipeE ρ1 w)) m
    | .rt d => .ok (.rt d) m
def whlL (c : Env → Mem → Out D) (g : Env → Mem → Out Flow) (w : List Nat) : Nat → Env → Mem → Out Flow
  | 0, _, _ => .no
  | n + 1, ρ, m => (c ρ m).bind fun x m => match truD x with
    | some true => (g ρ m).bind fun f m => match f with
      | .nx ρ1 => whlL c g w n (wipeE ρ1 w) m
      | .ct ρ1 => whlL c g w n (wipeE ρ1 w) m
      | .bk ρ1 => .ok (.nx (wipeE ρ1 w)) m
      | .rt d => .ok (.rt d) m
    | some false => .ok (.nx ρ) m
    | none => .no
def parE : List (Nat × Bool) → List D → Env → Option Env
  | [], [], ρ => some ρ
  | (i, b) :: r, x :: xs, ρ => if i < ρ.length then parE r xs (setE ρ i (some (if b then .own x else .val x))) else none
  | _, _, _ => none
def isOwnable : D → Bool
  | .lst _ => true
  | _ => false
def putL (l : List D) (k v : D) : Option D := match k with
  | .int i => (ixD l.length i).map fun j => .lst (l.set j v)
  | _ => none
def evS (φ : Phi) : S → Env → Mem → Out Flow
  | .skip, ρ, m => .ok (.nx ρ) m
  | .seq s r, ρ, m => (evS φ s ρ m).bind fun f m => match f with
    | .nx ρ1 => evS φ r ρ1 m
    | f => .ok f m
  | .expr e, ρ, m => (evE φ e ρ m).bind fun _ m => .ok (.nx ρ) m
  | .asg t e, ρ, m => (evE φ e ρ m).bind fun x m => (Out.of m (putT t x ρ)).bind fun ρ1 m => .ok (.nx ρ1) m
  | .own i e, ρ, m => (evE φ e ρ m).bind fun x m => if isOwnable x && decide (i < ρ.length) then .ok (.nx (setE ρ i (some (.own x)))) m else .no
  | .par fl es, ρ, m => (evE φ es ρ m).bind fun r m => (Out.of m (parE fl (argsOf r) ρ)).bind fun ρ1 m => .ok (.nx ρ1) m
  | .app i e, ρ, m => (evE φ e ρ m).bind fun x m => match ρ[i]? with
    | some (some (.own (.lst l))) => if l.length < LIM then .ok (.nx (setE ρ i (some (.own (.lst (l ++ [x])))))) m else .no
    | _ => .no
  | .sub i k v, ρ, m => (evE φ v ρ m).bind fun x m => (evE φ k ρ m).bind fun y m => match ρ[i]? with
    | some (some (.own (.lst l))) => (Out.of m (putL l y x)).bind fun d m => .ok (.nx (setE ρ i (some (.own d)))) m
    | _ => .no
  | .subc i k v, ρ, m => (evE φ v ρ m).bind fun x m => (evE φ k ρ m).bind fun y m => match ρ[i]? with
    | some (some (.val (.ref n))) => match m[n]? with
      | some (.lst l) => (Out.of m (putL l y x)).bind fun d m => .ok (.nx ρ) (m.set n d)
      | _ => .no
    | _ => .no
  | .pop _ _, _, _ => .no
  | .aug i op e, ρ, m => match ρ[i]? with
    | some (some (.val x)) => (evE φ e ρ m).bind fun y m => (match x, y with
      | .int a, .int b => Out.of m (binD op (.int a) (.int b))
      | _, _ => .no).bind fun z m => .ok (.nx (setE ρ i (some (.val z)))) m
    | _ => .no
  | .frz i, ρ, m => match ρ[i]? with
    | some (some (.own d)) => .ok (.nx (setE ρ i (some (.val d)))) m
    | _ => .no
  | .ite c a b, ρ, m => (evE φ c ρ m).bind fun x m => match truD x with
    | some true => evS φ a ρ m
    | some false => evS φ b ρ m
    | none => .no
  | .for w t k it b, ρ, m => (evE φ it ρ m).bind fun r m => (Out.of m (itemsD k (argsOf r))).bind fun xs m =>
      forL (fun x ρ m => (Out.of m (putT t x ρ)).bind fun ρ1 m => evS φ b ρ1 m) w xs (wipeE ρ w) m
  | .whl n w c b, ρ, m => whlL (evE φ c) (evS φ b) w n (wipeE ρ w) m
  | .ret e, ρ, m => (evE φ e ρ m).bind fun x m => .ok (.rt x) m
  | .brk, ρ, m => .ok (.bk ρ) m
  | .cnt, ρ, m => .ok (.ct ρ) m
  | .rais c es, ρ, m => (evE φ es ρ m).bind fun r m => .exc c (argsOf r) m

/-- a def: its name, parameters, all names by slot, body -/
structure Fn where
  name : Str
  ps : List Str
  N : List Str
  body : S
abbrev Tab := Nat → Option Fn
def startE (n : Nat) (ds : List D) : Env := ds.map (fun d => some (.val d)) ++ List.replicate (n - ds.length) none
mutual
def noRef : D → Bool
  | .ref _ => false
  | .clo _ l => noRefs l
  | .tup l => noRefs l
  | .lst l => noRefs l
  | .dic l => noRefs l
  | .exc _ l => noRefs l
  | _ => true
def noRefs : List D → Bool
  | [] => true
  | x :: r => noRef x && noRefs r
end
def finD (m m' : Mem) (d : D) : Out D := if m'.length = m.length then .ok d m' else if noRef d && decide (m.length ≤ m'.length) then .ok d (m'.take m.length) else .no
def fin (m : Mem) : Out Flow → Out D
  | .ok (.rt d) m' => finD m m' d
  | .ok (.nx _) m' => finD m m' .non
  | .exc c l m' => .exc c l (m'.take m.length)
  | _ => .no
def callK (Φ : Tab) : Nat → Phi
  | 0, _, _, _ => .no
  | k + 1, f, ds, m => match Φ f with
    | some fn => if ds.length = fn.ps.length then fin m (evS (callK Φ k) fn.body (startE fn.N.length ds) m) else .no
    | none => .no
end Ev

set_option maxHeartbeats 2000000
namespace Ev
open PySem PySem.Spec PyProof.Rows L2
abbrev Frag := PySem.W.Frag
abbrev SSt := L2.St
theorem lim_line : LIM = sizeLine := by rw [sizeLine_eq]; rfl
/-- a list to be read outside O, or one of the written part -/
def SqO (K : Frag) (O : List Addr) (H : Hp) (a : Addr) (xs : List V) : Prop := (Rd H a (.lst xs) ∧ a ∉ O) ∨ SqL K (fun _ => none) a xs
theorem SqO.sq {K : Frag} {O : List Addr} {H : Hp} {a : Addr} {xs : List V} (h : SqO K O H a xs) : SqL K H a xs := by
  rcases h with ⟨h, _⟩ | ((h | ⟨o, h⟩) | h)
  · exact .inl h
  · cases h
  · cases h
  · exact .inr h
/-- a key as a value -/
def keyD : Key → D
  | .inl i => .int i
  | .inr s => .str s
def entsK : List (Key × V) → List D → List D
  | p :: r, d :: ds => .tup [keyD p.1, d] :: entsK r ds
  | _, _ => []
mutual
/-- a value lies at v: its lists stand outside O, its cells are told by C -/
inductive Rp (K : Frag) (O C : List Addr) (H : Hp) : D → V → Prop
  | non : Rp K O C H .non .non
  | bl (b : Bool) : Rp K O C H (.bl b) (.bl b)
  | int (i : Int) : Rp K O C H (.int i) (.int i)
  | str (s : Str) : Rp K O C H (.str s) (.str s)
  | tup {a : Addr} {xs : List V} {ds : List D} : SqT K H a xs → xs.length ≤ sizeLine → RpAll K O C H ds xs → Rp K O C H (.tup ds) (.ref a)
  | lst {a : Addr} {xs : List V} {ds : List D} : SqO K O H a xs → xs.length ≤ sizeLine → RpAll K O C H ds xs → Rp K O C H (.lst ds) (.ref a)
  | ref {n : Nat} {a : Addr} : C[n]? = some a → Rp K O C H (.ref n) (.ref a)
  | dic {a : Addr} {o : Obj} {kvs : List (Key × V)} {ds l : List D} : H a = some (.frz o (.dK kvs)) → kvs.length ≤ sizeLine → l = entsK kvs ds → RpAll K O C H ds (kvs.map (·.2)) → Rp K O C H (.dic l) (.ref a)
inductive RpAll (K : Frag) (O C : List Addr) (H : Hp) : List D → List V → Prop
  | nil : RpAll K O C H [] []
  | cons {d : D} {v : V} {ds : List D} {vs : List V} : Rp K O C H d v → RpAll K O C H ds vs → RpAll K O C H (d :: ds) (v :: vs)
end
/-- what is not at Z is kept; tuples and locked things always -/
structure Keep (Z : List Addr) (H H' : Hp) : Prop where
  ob : ∀ a o, H a = some o → a ∉ Z → H' a = some o
  tp : ∀ a xs, H a = some (.tup xs) → H' a = some (.tup xs)
  fz : ∀ a o u, H a = some (.frz o u) → H' a = some (.frz o u)
section
variable {K : Frag} {O O' C C' Z Z' : List Addr} {H H' H2 : Hp}
theorem Keep.refl : Keep Z H H := ⟨fun _ _ e _ => e, fun _ _ e => e, fun _ _ _ e => e⟩
theorem Keep.trans (a : Keep Z H H') (b : Keep Z H' H2) : Keep Z H H2 :=
  ⟨fun x o e n => b.ob x o (a.ob x o e n) n, fun x xs e => b.tp x xs (a.tp x xs e), fun x o u e => b.fz x o u (a.fz x o u e)⟩
theorem Keep.mono (a : Keep Z H H') (h : ∀ x ∈ Z, x ∈ Z') : Keep Z' H H' := ⟨fun x o e n => a.ob x o e fun z => n (h x z), a.tp, a.fz⟩
/-- a new object -/
theorem Keep.new {p : Addr} {o : HO} (h : H p = none) : Keep Z H (upd H p o) :=
  ⟨fun x u e _ => by rw [upd_ne (ne_of_none e h)]; exact e, fun x u e => by rw [upd_ne (ne_of_none e h)]; exact e, fun x u w e => by rw [upd_ne (ne_of_none e h)]; exact e⟩
/-- a list is written -/
theorem Keep.put {p : Addr} {xs : List V} {o : HO} (h : H p = some (.lst xs)) (z : p ∈ Z) : Keep Z H (upd H p o) := by
  refine ⟨fun x u e n => ?_, fun x u e => ?_, fun x u w e => ?_⟩
  · rw [upd_ne (fun q => n (by rw [q]; exact z))]; exact e
  · rw [upd_ne (fun q => by subst q; rw [h] at e; cases e)]; exact e
  · rw [upd_ne (fun q => by subst q; rw [h] at e; cases e)]; exact e
theorem sqT_keep {a : Addr} {xs : List V} (k : Keep Z H H') (h : SqT K H a xs) : SqT K H' a xs := by
  rcases h with (h | ⟨o, h⟩) | h
  · exact .inl (.inl (k.tp a xs h))
  · exact .inl (.inr ⟨o, k.fz a o _ h⟩)
  · exact .inr h
theorem sqO_keep {a : Addr} {xs : List V} (k : Keep Z H H') (hZ : ∀ a ∈ Z, a ∈ O) (hO : ∀ a, a ∉ O → a ∉ O') (h : SqO K O H a xs) : SqO K O' H' a xs := by
  rcases h with ⟨h | ⟨o, h⟩, n⟩ | h
  · exact .inl ⟨.inl (k.ob a _ h fun q => n (hZ _ q)), hO _ n⟩
  · exact .inl ⟨.inr ⟨o, k.fz a o _ h⟩, hO _ n⟩
  · exact .inr h
mutual
/-- over a change at Z, Z within O; O may shrink, C may grow -/
theorem Rp.move (hZ : ∀ a ∈ Z, a ∈ O) (k : Keep Z H H') (hO : ∀ a, a ∉ O → a ∉ O') (hC : ∀ (n : Nat) a, C[n]? = some a → C'[n]? = some a) : ∀ {d : D} {v : V}, Rp K O C H d v → Rp K O' C' H' d v
  | _, _, .non => .non
  | _, _, .bl b => .bl b
  | _, _, .int i => .int i
  | _, _, .str s => .str s
  | _, _, .tup h z r => .tup (sqT_keep k h) z (RpAll.move hZ k hO hC r)
  | _, _, .lst h z r => .lst (sqO_keep k hZ hO h) z (RpAll.move hZ k hO hC r)
  | _, _, .ref h => .ref (hC _ _ h)
  | _, _, .dic h z e r => .dic (k.fz _ _ _ h) z e (RpAll.move hZ k hO hC r)
theorem RpAll.move (hZ : ∀ a ∈ Z, a ∈ O) (k : Keep Z H H') (hO : ∀ a, a ∉ O → a ∉ O') (hC : ∀ (n : Nat) a, C[n]? = some a → C'[n]? = some a) : ∀ {ds : List D} {vs : List V}, RpAll K O C H ds vs → RpAll K O' C' H' ds vs
  | _, _, .nil => .nil
  | _, _, .cons h r => .cons (Rp.move hZ k hO hC h) (RpAll.move hZ k hO hC r)
end
theorem Rp.keep (hZ : ∀ a ∈ Z, a ∈ O) (k : Keep Z H H') {d : D} {v : V} (h : Rp K O C H d v) : Rp K O C H' d v := h.move hZ k (fun _ n => n) fun _ _ e => e
theorem RpAll.keep (hZ : ∀ a ∈ Z, a ∈ O) (k : Keep Z H H') {d : List D} {v : List V} (h : RpAll K O C H d v) : RpAll K O C H' d v := h.move hZ k (fun _ n => n) fun _ _ e => e
theorem RpAll.length : ∀ {ds : List D} {vs : List V}, RpAll K O C H ds vs → ds.length = vs.length
  | _, _, .nil => rfl
  | _, _, .cons _ r => congrArg (· + 1) r.length
theorem RpAll.append : ∀ {ds es : List D} {vs ws : List V}, RpAll K O C H ds vs → RpAll K O C H es ws → RpAll K O C H (ds ++ es) (vs ++ ws)
  | _, _, _, _, .nil, s => s
  | _, _, _, _, .cons h r, s => .cons h (r.append s)
theorem RpAll.get : ∀ {ds : List D} {vs : List V} {i : Nat} {d : D}, RpAll K O C H ds vs → ds[i]? = some d → ∃ v, vs[i]? = some v ∧ Rp K O C H d v
  | _, _, _, _, .nil, e => by simp at e
  | _, _, 0, _, .cons h _, e => by simp at e; subst e; exact ⟨_, rfl, h⟩
  | _, _, i + 1, d, .cons _ r, e => by
    obtain ⟨v, h1, h2⟩ := RpAll.get (i := i) (d := d) r (by simpa using e)
    exact ⟨v, by simpa using h1, h2⟩
theorem RpAll.get' : ∀ {ds : List D} {vs : List V} {i : Nat} {v : V}, RpAll K O C H ds vs → vs[i]? = some v → ∃ d, ds[i]? = some d ∧ Rp K O C H d v
  | _, _, _, _, .nil, e => by simp at e
  | _, _, 0, _, .cons h _, e => by simp at e; subst e; exact ⟨_, rfl, h⟩
  | _, _, i + 1, d, .cons _ r, e => by
    obtain ⟨v, h1, h2⟩ := RpAll.get' (i := i) (v := d) r (by simpa using e)
    exact ⟨v, by simpa using h1, h2⟩
theorem RpAll.take : ∀ {ds : List D} {vs : List V} (n : Nat), RpAll K O C H ds vs → RpAll K O C H (ds.take n) (vs.take n)
  | _, _, 0, _ => .nil
  | _, _, _ + 1, .nil => .nil
  | _, _, n + 1, .cons h r => .cons h (r.take n)
theorem RpAll.drop : ∀ {ds : List D} {vs : List V} (n : Nat), RpAll K O C H ds vs → RpAll K O C H (ds.drop n) (vs.drop n)
  | _, _, 0, r => r
  | _, _, _ + 1, .nil => .nil
  | _, _, n + 1, .cons h r => r.drop n
theorem RpAll.set {d : D} {v : V} (h : Rp K O C H d v) : ∀ {ds : List D} {vs : List V} (i : Nat), RpAll K O C H ds vs → RpAll K O C H (ds.set i d) (vs.set i v)
  | _, _, _, .nil => .nil
  | _, _, 0, .cons _ r => .cons h r
  | _, _, i + 1, .cons g r => .cons g (RpAll.set h i r)
theorem RpAll.rev {ds : List D} {vs : List V} (h : RpAll K O C H ds vs) : RpAll K O C H ds.reverse vs.reverse := by
  suffices ∀ {ds : List D} {vs : List V}, RpAll K O C H ds vs → ∀ {es : List D} {ws : List V}, RpAll K O C H es ws → RpAll K O C H (ds.reverseAux es) (vs.reverseAux ws) from this h .nil
  intro ds
  induction ds with
  | nil => intro vs h es ws g; cases h; exact g
  | cons d r ih => intro vs h es ws g; cases h with | cons a b => exact ih b (.cons a g)
theorem RpAll.rep {ds : List D} {vs : List V} (h : RpAll K O C H ds vs) : ∀ k : Nat, RpAll K O C H (List.replicate k ds).flatten (List.replicate k vs).flatten
  | 0 => .nil
  | k + 1 => by
    rw [List.replicate_succ, List.replicate_succ, List.flatten_cons, List.flatten_cons]
    exact h.append (h.rep k)
end

/-- a changeable list at a -/
def OwnAt (K : Frag) (O C : List Addr) (H : Hp) (a : Addr) : D → Prop
  | .lst ds => ∃ xs, H a = some (.lst xs) ∧ xs.length ≤ sizeLine ∧ RpAll K O C H ds xs
  | _ => False
structure EnvOk (K : Frag) (O C : List Addr) (H : Hp) (ρ : Env) (σ : SSt) : Prop where
  len : ρ.length = σ.length
  val : ∀ (i : Nat) d, ρ[i]? = some (some (.val d)) → ∃ v, σ[i]? = some (some v) ∧ Rp K O C H d v
  own : ∀ (i : Nat) d, ρ[i]? = some (some (.own d)) → ∃ a, σ[i]? = some (some (V.ref a)) ∧ a ∈ O ∧ a ∉ C ∧ OwnAt K O C H a d
  inj : ∀ (i j : Nat) d e a, i ≠ j → ρ[i]? = some (some (.own d)) → ρ[j]? = some (some (.own e)) → σ[i]? = some (some (V.ref a)) → σ[j]? ≠ some (some (V.ref a))
structure MemOk (K : Frag) (O C : List Addr) (H : Hp) (m : Mem) : Prop where
  len : m.length = C.length
  at_ : ∀ (n : Nat) a d, C[n]? = some a → m[n]? = some d → OwnAt K O C H a d
  sub : ∀ a ∈ C, a ∈ O
  nd : C.Nodup
  al : ∀ a ∈ O, ∃ o, H a = some o
section
variable {K : Frag} {O O' C C' Z Z' : List Addr} {H H' H2 : Hp} {ρ : Env} {σ : SSt} {m : Mem}
theorem OwnAt.move (hZ : ∀ a ∈ Z, a ∈ O) (k : Keep Z H H') (hO : ∀ a, a ∉ O → a ∉ O') (hC : ∀ (n : Nat) a, C[n]? = some a → C'[n]? = some a) {a : Addr} (n : a ∉ Z) : ∀ {d : D}, OwnAt K O C H a d → OwnAt K O' C' H' a d
  | .lst _, ⟨xs, e, z, r⟩ => ⟨xs, k.ob a _ e n, z, r.move hZ k hO hC⟩
/-- the slots are kept over a change of cells -/
theorem EnvOk.keep (h : EnvOk K O C H ρ σ) (hC : ∀ a ∈ C, a ∈ O) (k : Keep C H H') : EnvOk K O C H' ρ σ :=
  ⟨h.len, fun i d e => let ⟨v, e1, r⟩ := h.val i d e; ⟨v, e1, r.keep hC k⟩, fun i d e => let ⟨a, e1, i1, i2, r⟩ := h.own i d e; ⟨a, e1, i1, i2, r.move hC k (fun _ n => n) (fun _ _ e => e) i2⟩, h.inj⟩
theorem MemOk.grow (h : MemOk K O C H m) (k : ∀ Z, Keep Z H H') : MemOk K O C H' m :=
  ⟨h.len, fun n a d e1 e2 => (h.at_ n a d e1 e2).move (Z := []) (by simp) (k []) (fun _ n => n) (fun _ _ e => e) (by simp), h.sub, h.nd, fun a ha => let ⟨o, e⟩ := h.al a ha; ⟨o, (k []).ob a o e (by simp)⟩⟩
end
/-- how a result lies: plainly; perhaps read in place; made anew -/
inductive Kd where
  | pl | br | fr
/-- read in place -/
def Rb (K : Frag) (O C : List Addr) (H : Hp) : D → V → Prop
  | .lst ds, v => ∃ a xs, v = .ref a ∧ SqO K C H a xs ∧ xs.length ≤ sizeLine ∧ RpAll K O C H ds xs
  | d, v => Rp K O C H d v
def Rv (k : Kd) (K : Frag) (O C : List Addr) (H0 H : Hp) (d : D) (v : V) : Prop := match k, d with
  | .br, d => Rb K O C H d v
  | .fr, .lst ds => ∃ p xs, v = .ref p ∧ H0 p = none ∧ H p = some (.lst xs) ∧ xs.length ≤ sizeLine ∧ RpAll K (p :: O) C H ds xs
  | _, d => Rp K O C H d v
section
variable {K : Frag} {O C : List Addr} {H0 H : Hp} {d : D} {v : V} {m : Mem}
theorem SqO.mono {O' : List Addr} {a : Addr} {xs : List V} (h : SqO K O H a xs) (s : ∀ b, b ∉ O → b ∉ O') : SqO K O' H a xs := h.elim (fun x => .inl ⟨x.1, s _ x.2⟩) .inr
theorem SqO.more {p a : Addr} {xs : List V} (hp : H p = none) (h : SqO K O H a xs) : SqO K (p :: O) H a xs := by
  rcases h with ⟨h | ⟨o, h⟩, n⟩ | h
  · exact .inl ⟨.inl h, by rw [List.mem_cons, not_or]; exact ⟨ne_of_none h hp, n⟩⟩
  · exact .inl ⟨.inr ⟨o, h⟩, by rw [List.mem_cons, not_or]; exact ⟨ne_of_none h hp, n⟩⟩
  · exact .inr h
theorem Rp.rb (hC : ∀ a ∈ C, a ∈ O) (h : Rp K O C H d v) : Rb K O C H d v := by
  cases h with
  | lst h z r => exact ⟨_, _, rfl, h.mono fun b n q => n (hC _ q), z, r⟩
  | non => exact .non
  | bl b => exact .bl b
  | int i => exact .int i
  | str s => exact .str s
  | tup h z r => exact .tup h z r
  | ref h => exact .ref h
  | dic h z e r => exact .dic h z e r
theorem RpAll.less {p : Addr} {ds : List D} {vs : List V} (h : RpAll K (p :: O) C H ds vs) : RpAll K O C H ds vs :=
  h.move (Z := []) (by simp) Keep.refl (fun a n q => n (List.mem_cons_of_mem _ q)) fun _ _ e => e
mutual
theorem Rp.more {p : Addr} (hp : H p = none) : ∀ {d : D} {v : V}, Rp K O C H d v → Rp K (p :: O) C H d v
  | _, _, .non => .non
  | _, _, .bl b => .bl b
  | _, _, .int i => .int i
  | _, _, .str s => .str s
  | _, _, .tup h z r => .tup h z (RpAll.more hp r)
  | _, _, .lst h z r => .lst (h.more hp) z (RpAll.more hp r)
  | _, _, .ref h => .ref h
  | _, _, .dic h z e r => .dic h z e (RpAll.more hp r)
theorem RpAll.more {p : Addr} (hp : H p = none) : ∀ {ds : List D} {vs : List V}, RpAll K O C H ds vs → RpAll K (p :: O) C H ds vs
  | _, _, .nil => .nil
  | _, _, .cons h r => .cons (Rp.more hp h) (RpAll.more hp r)
end
/-- a new list, p: told -/
theorem Rv.fr_new {p : Addr} {ds : List D} {xs : List V} (hp : H p = none) (z : xs.length ≤ sizeLine) (r : RpAll K O C H ds xs) : Rv .fr K O C H (upd H p (.lst xs)) (.lst ds) (.ref p) :=
  ⟨p, xs, rfl, hp, upd_same, z, (r.more hp).move (Z := []) (by simp) (Keep.new hp) (fun _ n => n) fun _ _ e => e⟩
theorem Rp.tup_new {p : Addr} {ds : List D} {xs : List V} (hp : H p = none) (z : xs.length ≤ sizeLine) (r : RpAll K O C H ds xs) : Rp K O C (upd H p (.tup xs)) (.tup ds) (.ref p) :=
  .tup (.inl (.inl upd_same)) z (r.move (Z := []) (by simp) (Keep.new hp) (fun _ n => n) fun _ _ e => e)
/-- a new thing is a thing -/
theorem Rv.pl_of (h : Rv .fr K O C H0 H d v) (al : ∀ a ∈ O, ∃ o, H0 a = some o) : Rp K O C H d v := by
  cases d with
  | lst ds =>
    obtain ⟨p, xs, rfl, hp, e, z, r⟩ := h
    exact .lst (.inl ⟨.inl e, fun q => by obtain ⟨o, e'⟩ := al _ q; rw [hp] at e'; cases e'⟩) z r.less
  | _ => exact h
theorem Rv.fr_pl {i : D} (h : Rp K O C H i v) (n : ∀ l, i ≠ .lst l) : Rv .fr K O C H0 H i v := by
  cases i with
  | lst l => exact absurd rfl (n l)
  | _ => exact h
theorem Rb.int {i : Int} (h : Rb K O C H (.int i) v) : v = .int i := by cases (show Rp K O C H (.int i) v from h); rfl
theorem Rb.bl {i : Bool} (h : Rb K O C H (.bl i) v) : v = .bl i := by cases (show Rp K O C H (.bl i) v from h); rfl
theorem Rb.non (h : Rb K O C H .non v) : v = .non := by cases (show Rp K O C H .non v from h); rfl
theorem Rb.str {i : Str} (h : Rb K O C H (.str i) v) : v = .str i := by cases (show Rp K O C H (.str i) v from h); rfl
theorem Rb.dic {l : List D} (h : Rb K O C H (.dic l) v) : ∃ a o kvs ds, v = .ref a ∧ H a = some (.frz o (.dK kvs)) ∧ kvs.length ≤ sizeLine ∧ l = entsK kvs ds ∧ RpAll K O C H ds (kvs.map (·.2)) := by
  cases (show Rp K O C H (.dic l) v from h) with
  | dic h1 z e r => exact ⟨_, _, _, _, rfl, h1, z, e, r⟩
theorem Rb.tup {ds : List D} (h : Rb K O C H (.tup ds) v) : ∃ a xs, v = .ref a ∧ SqT K H a xs ∧ xs.length ≤ sizeLine ∧ RpAll K O C H ds xs := by
  cases (show Rp K O C H (.tup ds) v from h) with
  | tup h1 z r => exact ⟨_, _, rfl, h1, z, r⟩
theorem Rb.lst {ds : List D} (h : Rb K O C H (.lst ds) v) : ∃ a xs, v = .ref a ∧ SqL K H a xs ∧ xs.length ≤ sizeLine ∧ RpAll K O C H ds xs := by
  obtain ⟨a, xs, e, h, z, r⟩ := h
  exact ⟨a, xs, e, h.sq, z, r⟩
theorem Rb.keep {H' : Hp} (hC : ∀ a ∈ C, a ∈ O) (k : Keep C H H') (h : Rb K O C H d v) : Rb K O C H' d v := by
  cases d with
  | lst ds =>
    obtain ⟨a, xs, e, h, z, r⟩ := h
    exact ⟨a, xs, e, sqO_keep k (fun _ q => q) (fun _ q => q) h, z, r.keep hC k⟩
  | _ => exact Rp.keep hC k h
end
end Ev

set_option maxHeartbeats 4000000
namespace Ev
open PySem PySem.Spec PyProof.Rows L2
/-- two values and what f says of them -/
def rOp (K : Frag) (k : Kd) (f : D → D → Option D) : R2 := fun x y H Q => ∃ O C d1 d2 r, (∀ a ∈ C, a ∈ O) ∧ Rb K O C H d1 x ∧ Rb K O C H d2 y ∧ f d1 d2 = some r ∧
  ∀ v H', (∀ Z, Keep Z H H') → Rv k K O C H H' r v → Q v H'
section
variable {X : Cx}
theorem mulOk_ok {i j : Int} (h : mulOk i j = true) : IntMulOk i j := by
  unfold mulOk at h
  simp only [Bool.or_eq_true, Bool.and_eq_true, decide_eq_true_eq] at h
  exact CMul.ok h
theorem op_addE : OpR X (binaryOp .Add) (rOp X.K .fr addD) := by
  intro pins s σ H x y v u Q I rx ry h
  obtain ⟨O, C, d1, d2, r, hC, b1, b2, e, q⟩ := h
  unfold addD at e
  split at e
  · rename_i i j
    cases e
    cases b1.int
    cases b2.int
    exact op_add pins s σ H _ _ v u Q I rx ry ⟨i, j, rfl, rfl, q _ _ (fun _ => Keep.refl) (Rp.int _)⟩
  · rename_i l m
    split at e
    · rename_i hz
      cases e
      obtain ⟨a, xs, rfl, h1, z1, r1⟩ := b1.tup
      obtain ⟨b, ys, rfl, h2, z2, r2⟩ := b2.tup
      rw [lim_line, r1.length, r2.length] at hz
      refine op_catA pins s σ H _ _ v u Q I rx ry ⟨a, b, xs, ys, rfl, rfl, h1, h2, hz, fun e0 => ?_, fun _ e0 => ?_, fun _ _ p hp => ?_⟩
      · subst e0
        cases r1
        exact q _ _ (fun _ => Keep.refl) (Rp.tup h2 z2 r2)
      · subst e0
        cases r2
        rw [List.append_nil] at q
        exact q _ _ (fun _ => Keep.refl) (Rp.tup h1 z1 r1)
      · exact q _ _ (fun _ => Keep.new hp) (Rp.tup_new hp (by rw [List.length_append]; exact hz) (r1.append r2))
    · cases e
  · rename_i l m
    split at e
    · rename_i hz
      cases e
      obtain ⟨a, xs, rfl, h1, z1, r1⟩ := b1.lst
      obtain ⟨b, ys, rfl, h2, z2, r2⟩ := b2.lst
      rw [lim_line, r1.length, r2.length] at hz
      cases rx
      cases ry
      obtain ⟨its, g1, p1, _⟩ := I.list h1
      obtain ⟨its2, g2, p2, _⟩ := I.list h2
      obtain ⟨⟨cls, dd, data, sl⟩, ho, hc, n, hd⟩ := id p1.isList
      obtain ⟨⟨cls2, dd2, data2, sl2⟩, ho2, hc2, n2, hd2⟩ := id p2.isList
      simp only at hc hd hc2 hd2
      subst hc hd hc2 hd2
      have e1 : its.toArray ++ its2.toArray = (its ++ its2).toArray := by simp
      refine PySem.concat_meets ⟨_, ho, rfl⟩ ⟨_, ho2, rfl⟩ noFill_list_add seq_list_add PySem.F.slot_list_add PySem.F.entry_list_add (PySem.F.args_list_add_2 _ _) (list_addW a b its.toArray its2.toArray n n2 dd dd2 sl sl2 (by rw [List.size_toArray, List.size_toArray, ← g1.length, ← g2.length]; exact hz)) ⟨ho, ho2, ?_⟩
      rw [e1]
      exact ⟨.ref _, _, I.lnew (t' := s.toks) (g1.append g2) (by rw [List.length_append]; exact hz), rfl, q _ _ (fun _ => Keep.new I.fresh) (Rv.fr_new I.fresh (by rw [List.length_append]; exact hz) (r1.append r2))⟩
    · cases e
  · cases e
theorem op_subE : OpR X (binaryOp .Sub) (rOp X.K .fr subD) := by
  intro pins s σ H x y v u Q I rx ry h
  obtain ⟨O, C, d1, d2, r, hC, b1, b2, e, q⟩ := h
  unfold subD at e
  split at e
  · rename_i i j
    cases e
    cases b1.int
    cases b2.int
    exact op_sub pins s σ H _ _ v u Q I rx ry ⟨i, j, rfl, rfl, q _ _ (fun _ => Keep.refl) (Rp.int _)⟩
  · cases e
theorem op_modE : OpR X (binaryOp .Mod) (rOp X.K .fr modD) := by
  intro pins s σ H x y v u Q I rx ry h
  obtain ⟨O, C, d1, d2, r, hC, b1, b2, e, q⟩ := h
  unfold modD at e
  split at e
  · rename_i i j
    split at e
    · rename_i hz
      cases e
      cases b1.int
      cases b2.int
      exact op_mod pins s σ H _ _ v u Q I rx ry ⟨i, j, rfl, rfl, of_decide_eq_true hz, q _ _ (fun _ => Keep.refl) (Rp.int _)⟩
    · cases e
  · cases e
theorem op_fdivE : OpR X (binaryOp .FloorDiv) (rOp X.K .fr fdivD) := by
  intro pins s σ H x y v u Q I rx ry h
  obtain ⟨O, C, d1, d2, r, hC, b1, b2, e, q⟩ := h
  unfold fdivD at e
  split at e
  · rename_i i j
    split at e
    · rename_i hz
      simp only [Bool.and_eq_true, Bool.or_eq_true, decide_eq_true_eq] at hz
      cases e
      cases b1.int
      cases b2.int
      rcases hz.2 with h2 | h2
      · exact op_fdiv pins s σ H _ _ v u Q I rx ry ⟨i, j, rfl, rfl, ⟨hz.1, h2⟩, q _ _ (fun _ => Keep.refl) (Rp.int _)⟩
      · exact op_fdivW pins s σ H _ _ v u Q I rx ry ⟨i, j, rfl, rfl, ⟨hz.1, h2⟩, q _ _ (fun _ => Keep.refl) (Rp.int _)⟩
    · cases e
  · cases e
theorem op_shlE : OpR X (binaryOp .LShift) (rOp X.K .fr shlD) := by
  intro pins s σ H x y v u Q I rx ry h
  obtain ⟨O, C, d1, d2, r, hC, b1, b2, e, q⟩ := h
  unfold shlD at e
  split at e
  · rename_i i j
    split at e
    · rename_i hz
      simp only [Bool.and_eq_true, decide_eq_true_eq] at hz
      cases e
      cases b1.int
      cases b2.int
      exact op_shl pins s σ H _ _ v u Q I rx ry ⟨i, j, rfl, rfl, ⟨hz.1.1, by omega, by omega⟩, q _ _ (fun _ => Keep.refl) (Rp.int _)⟩
    · cases e
  · cases e
theorem op_powE : OpR X (binaryOp .Pow) (rOp X.K .fr powD) := by
  intro pins s σ H x y v u Q I rx ry h
  obtain ⟨O, C, d1, d2, r, hC, b1, b2, e, q⟩ := h
  unfold powD at e
  split at e
  · rename_i i j
    split at e
    · rename_i hz
      simp only [Bool.and_eq_true, decide_eq_true_eq] at hz
      cases e
      cases b1.int
      cases b2.int
      exact op_pow pins s σ H _ _ v u Q I rx ry ⟨i, j, rfl, rfl, ⟨hz.1.1, by omega, by omega⟩, q _ _ (fun _ => Keep.refl) (Rp.int _)⟩
    · cases e
  · cases e
theorem tuple_mulS (l : Addr) (items : Array Value) (n : Nat) (dd : Option Addr) (sl : Array (Option Value)) (x : Int) (u : Tok) (c0 : (decide (x < -(2 ^ 63)) || decide (x ≥ 2 ^ 63)) = false) (c1 : (items.isEmpty || x == 1) = true) :
    Meets (Builtin.«tuple.__mul__» ⟨[.ref l, .int x u], []⟩) (fun _ R s => s.heap.get? l = some { cls := .type "tuple", dict := dd, data := .seq items n, slots := sl } ∧
      R (.ok (.ret (Value.ref l))) s) :=
  .of_wp fun prog w A R s h => by
    obtain ⟨hp, g, d, tk, os⟩ := s
    obtain ⟨hl, h⟩ := h
    have f1 := AutoSeq1.idx_int
    have f2 := AutoSeq1.sub_tuple_tuple
    wp_walk using wpAny_loadPart' hl
    repeat (first
      | (refine wpAny_ite_false (decide_eq_false (by rw [c0]; exact Bool.false_ne_true)) ?_; wp_walk using wpAny_loadPart' hl)
      | (refine wpAny_ite_true (decide_eq_true (by rw [c1])) ?_; wp_walk using wpAny_loadPart' hl))
    exact ⟨_, rfl, h⟩
end
end Ev

set_option maxHeartbeats 4000000
namespace Ev
open PySem PySem.Spec PyProof.Rows L2
mutual
def toPy : D → PyData
  | .bl b => .bool b
  | .int i => .int i
  | .str s => .str s
  | .tup l => .tuple (toPys l)
  | .lst l => .list (toPys l)
  | _ => .none
def toPys : List D → List PyData
  | [] => []
  | x :: r => toPy x :: toPys r
end
theorem okD_py : ∀ (n : Nat) (d : D), okD n d = true → (toPy d).canLay0 = true ∧ (toPy d).depth ≤ n
  | 0, .non, _ => ⟨rfl, Nat.zero_le _⟩
  | 0, .bl _, _ => ⟨rfl, Nat.zero_le _⟩
  | 0, .int _, _ => ⟨rfl, Nat.zero_le _⟩
  | 0, .str s, h => ⟨h, Nat.zero_le _⟩
  | 0, .tup _, h => by cases h
  | 0, .lst _, h => by cases h
  | 0, .dic _, h => by cases h
  | 0, .ref _, h => by cases h
  | 0, .clo _ _, h => by cases h
  | 0, .exc _ _, h => by cases h
  | n + 1, .non, _ => ⟨rfl, Nat.zero_le _⟩
  | n + 1, .bl _, _ => ⟨rfl, Nat.zero_le _⟩
  | n + 1, .int _, _ => ⟨rfl, Nat.zero_le _⟩
  | n + 1, .str s, h => ⟨h, Nat.zero_le _⟩
  | n + 1, .dic _, h => by cases h
  | n + 1, .ref _, h => by cases h
  | n + 1, .clo _ _, h => by cases h
  | n + 1, .exc _ _, h => by cases h
  | n + 1, .tup l, h => by
    have a := all_py n l h
    exact ⟨a.1, Nat.succ_le_succ a.2⟩
  | n + 1, .lst l, h => by
    have a := all_py n l h
    exact ⟨a.1, Nat.succ_le_succ a.2⟩
where
  all_py (n : Nat) : ∀ l : List D, l.all (okD n) = true → PyData.canLayAll0 (toPys l) = true ∧ PyData.depthAll (toPys l) ≤ n
  | [], _ => ⟨rfl, Nat.zero_le _⟩
  | x :: r, h => by
    rw [List.all_cons, Bool.and_eq_true] at h
    have a := okD_py n x h.1
    have b := all_py n r h.2
    refine ⟨?_, Nat.max_le.mpr ⟨a.2, b.2⟩⟩
    show ((toPy x).canLay0 && PyData.canLayAll0 (toPys r)) = true
    rw [a.1, b.1] <;> rfl
theorem okD_shaped {n : Nat} (hn : n ≤ 64) {d : D} (h : okD n d = true) : SeqAt.shaped (toPy d) = true := by
  have a := okD_py n d h
  unfold SeqAt.shaped
  rw [a.1, decide_eq_true (Nat.le_trans a.2 hn)] <;> rfl
mutual
theorem eqD_py : ∀ (n : Nat) (x y : D), okD n x = true → okD n y = true → PyData.eqv (toPy x) (toPy y) = eqD x y
  | 0, x, y, hx, hy => by
    cases x <;> cases y <;> first | (cases hx; done) | (cases hy; done) | rfl
  | n + 1, .tup l, y, hx, hy => by
    cases y <;> first | (cases hy; done) | rfl | exact eqDs_py n l _ hx hy
  | n + 1, .lst l, y, hx, hy => by
    cases y <;> first | (cases hy; done) | rfl | exact eqDs_py n l _ hx hy
  | n + 1, .non, y, hx, hy => by cases y <;> first | (cases hy; done) | rfl
  | n + 1, .bl _, y, hx, hy => by cases y <;> first | (cases hy; done) | rfl
  | n + 1, .int _, y, hx, hy => by cases y <;> first | (cases hy; done) | rfl
  | n + 1, .str _, y, hx, hy => by cases y <;> first | (cases hy; done) | rfl
  | n + 1, .dic _, y, hx, hy => by cases hx
  | n + 1, .ref _, y, hx, hy => by cases hx
  | n + 1, .clo _ _, y, hx, hy => by cases hx
  | n + 1, .exc _ _, y, hx, hy => by cases hx
theorem eqDs_py : ∀ (n : Nat) (x y : List D), x.all (okD n) = true → y.all (okD n) = true → PyData.eqvAll (toPys x) (toPys y) = eqDs x y
  | n, [], [], _, _ => rfl
  | n, [], _ :: _, _, _ => rfl
  | n, _ :: _, [], _, _ => rfl
  | n, x :: xs, y :: ys, hx, hy => by
    rw [List.all_cons, Bool.and_eq_true] at hx hy
    show (PyData.eqv (toPy x) (toPy y) && PyData.eqvAll (toPys xs) (toPys ys)) = (eqD x y && eqDs xs ys)
    rw [eqD_py n x y hx.1 hy.1, eqDs_py n xs ys hx.2 hy.2]
end
section
variable {K : Frag} {O C : List Addr} {H : Hp}
theorem rp_dp : ∀ (n : Nat) {d : D} {v : V}, okD n d = true → Rp K O C H d v → Dp K H v (toPy d)
  | _, _, _, _, .non => .non
  | _, _, _, _, .bl b => .bl b
  | _, _, _, _, .int i => .int i
  | _, _, _, _, .str s => .str s
  | 0, _, _, h, .tup .. => by cases h
  | 0, _, _, h, .lst .. => by cases h
  | n + 1, _, _, h, .tup q _ r => .tup q (all n r h)
  | n + 1, _, _, h, .lst q _ r => .lst q.sq (all n r h)
  | 0, _, _, h, .ref _ => by cases h
  | n + 1, _, _, h, .ref _ => by cases h
  | 0, _, _, h, .dic _ _ _ _ => by cases h
  | n + 1, _, _, h, .dic _ _ _ _ => by cases h
where
  all (n : Nat) : ∀ {ds : List D} {vs : List V}, RpAll K O C H ds vs → ds.all (okD n) = true → DpAll K H vs (toPys ds)
  | _, _, .nil, _ => .nil
  | _, _, .cons h r, e => by
    rw [List.all_cons, Bool.and_eq_true] at e
    exact .cons (rp_dp n e.1 h) (all n r e.2)
theorem rb_dp {n : Nat} {d : D} {v : V} (h : okD n d = true) (b : Rb K O C H d v) : Dp K H v (toPy d) := by
  cases d with
  | lst ds =>
    obtain ⟨a, xs, rfl, q, z, r⟩ := b
    cases n with
    | zero => cases h
    | succ n => exact .lst q.sq (rp_dp.all n r h)
  | _ => exact rp_dp n h b
end
section
variable {X : Cx}
theorem op_eqE (hu : X.A.units + 80 < cLine) : OpR X (compareOp .Eq) (rOp X.K .fr (cmpD .eq)) := by
  intro pins s σ H x y v u Q I rx ry h
  obtain ⟨O, C, d1, d2, r, hC, b1, b2, e, q⟩ := h
  unfold cmpD at e
  simp only at e
  split at e
  · rename_i hz
    rw [Bool.and_eq_true] at hz
    cases e
    refine op_eqD (by omega) pins s σ H x y v u Q I rx ry ⟨_, _, rb_dp hz.1 b1, rb_dp hz.2 b2, okD_shaped (by decide) hz.1, okD_shaped (by decide) hz.2, ?_⟩
    rw [eqD_py _ _ _ hz.1 hz.2]
    exact q _ _ (fun _ => Keep.refl) (Rp.bl _)
  · cases e
theorem op_neE (hu : X.A.units + 80 < cLine) : OpR X (compareOp .NotEq) (rOp X.K .fr (cmpD .ne)) := by
  intro pins s σ H x y v u Q I rx ry h
  obtain ⟨O, C, d1, d2, r, hC, b1, b2, e, q⟩ := h
  unfold cmpD at e
  simp only at e
  split at e
  · rename_i hz
    rw [Bool.and_eq_true] at hz
    cases e
    refine op_neD (by omega) pins s σ H x y v u Q I rx ry ⟨_, _, rb_dp hz.1 b1, rb_dp hz.2 b2, okD_shaped (by decide) hz.1, okD_shaped (by decide) hz.2, ?_⟩
    rw [eqD_py _ _ _ hz.1 hz.2]
    exact q _ _ (fun _ => Keep.refl) (Rp.bl _)
  · cases e
theorem rb_isNone {K : Frag} {O C : List Addr} {H : Hp} {d : D} {v : V} (b : Rb K O C H d v) : decide (v = V.non) = isNone d := by
  cases d with
  | lst ds => obtain ⟨a, xs, rfl, _⟩ := b; rfl
  | _ => cases (show Rp K O C H _ v from b) <;> rfl
theorem op_isE : OpR X (compareOp .Is) (rOp X.K .fr (cmpD .is)) := by
  intro pins s σ H x y v u Q I rx ry h
  obtain ⟨O, C, d1, d2, r, hC, b1, b2, e, q⟩ := h
  unfold cmpD at e
  simp only at e
  split at e
  · rename_i hz
    cases e
    have e2 : y = .non := by rw [← rb_isNone b2] at hz; exact of_decide_eq_true hz
    refine op_isN pins s σ H x y v u Q I rx ry ⟨e2, ?_⟩
    rw [rb_isNone b1]
    exact q _ _ (fun _ => Keep.refl) (Rp.bl _)
  · cases e
theorem op_isnotE : OpR X (compareOp .IsNot) (rOp X.K .fr (cmpD .isnot)) := by
  intro pins s σ H x y v u Q I rx ry h
  obtain ⟨O, C, d1, d2, r, hC, b1, b2, e, q⟩ := h
  unfold cmpD at e
  simp only at e
  split at e
  · rename_i hz
    cases e
    have e2 : y = .non := by rw [← rb_isNone b2] at hz; exact of_decide_eq_true hz
    refine op_notN pins s σ H x y v u Q I rx ry ⟨e2, ?_⟩
    rw [rb_isNone b1]
    exact q _ _ (fun _ => Keep.refl) (Rp.bl _)
  · cases e
theorem anyPy {n : Nat} {x : D} (hx : okD n x = true) : ∀ {l : List D}, l.all (okD n) = true → ((toPys l).any fun z => PyData.eqv z (toPy x)) = l.any fun z => eqD z x
  | [], _ => rfl
  | y :: r, h => by
    rw [List.all_cons, Bool.and_eq_true] at h
    show (PyData.eqv (toPy y) (toPy x) || (toPys r).any _) = (eqD y x || r.any _)
    rw [eqD_py n y x h.1 hx, anyPy hx h.2]
/-- in: the truth k (not in: its other), by what the model's rules say -/
theorem memE {op : CmpOp} {neg : Bool → Bool} (hu : X.A.units + 80 < cLine)
    (hl : ∀ {s : Shared} {a b : Value} {xs : List PyData} {d : PyData} {as bs : List Addr} {Q : Value → Shared → Prop}, Reads s.heap b (.list xs) bs → Reads s.heap a d as → (PyData.list xs).canLay0 = true → d.canLay0 = true → X.A.units + d.depth + 1 < cLine → Q (.bool (neg (xs.any fun z => PyData.eqv z d))) s → wpAny (model X.prog X.w) X.A (compareOp op a b) Q X.xe s)
    (ht : ∀ {s : Shared} {a b : Value} {xs : List PyData} {d : PyData} {as bs : List Addr} {Q : Value → Shared → Prop}, Reads s.heap b (.tuple xs) bs → Reads s.heap a d as → (PyData.tuple xs).canLay0 = true → d.canLay0 = true → X.A.units + d.depth + 1 < cLine → Q (.bool (neg (xs.any fun z => PyData.eqv z d))) s → wpAny (model X.prog X.w) X.A (compareOp op a b) Q X.xe s) :
    OpR X (compareOp op) (rOp X.K .fr fun x y => (memD x y).map fun b => .bl (neg b)) := by
  intro pins s σ H x y v u Q I rx ry h
  obtain ⟨O, C, d1, d2, r, hC, b1, b2, e, q⟩ := h
  obtain ⟨b, eb, e⟩ := Option.map_eq_some_iff.mp e
  cases e
  unfold memD at eb
  split at eb
  · split at eb
    · rename_i l hz
      rw [Bool.and_eq_true] at hz
      cases eb
      have hy : okD (okDep + 1) (D.tup l) = true := hz.2
      obtain ⟨as, g1⟩ := Dp.reads I _ x v (rb_dp hz.1 b1) rx
      obtain ⟨bs, g2⟩ := Dp.reads I _ y u (rb_dp hy b2) ry
      have p1 := okD_py _ _ hz.1
      refine ht g2 g1 (okD_py _ _ hy).1 p1.1 (by have := p1.2; have e12 : okDep = 12 := rfl; omega) ⟨.bl _, H, I, rfl, ?_⟩
      rw [anyPy hz.1 hz.2]
      exact q _ _ (fun _ => Keep.refl) (Rp.bl _)
    · cases eb
  · split at eb
    · rename_i l hz
      rw [Bool.and_eq_true] at hz
      cases eb
      have hy : okD (okDep + 1) (D.lst l) = true := hz.2
      obtain ⟨as, g1⟩ := Dp.reads I _ x v (rb_dp hz.1 b1) rx
      obtain ⟨bs, g2⟩ := Dp.reads I _ y u (rb_dp hy b2) ry
      have p1 := okD_py _ _ hz.1
      refine hl g2 g1 (okD_py _ _ hy).1 p1.1 (by have := p1.2; have e12 : okDep = 12 := rfl; omega) ⟨.bl _, H, I, rfl, ?_⟩
      rw [anyPy hz.1 hz.2]
      exact q _ _ (fun _ => Keep.refl) (Rp.bl _)
    · cases eb
  · cases eb
theorem op_memE (hu : X.A.units + 80 < cLine) : OpR X (compareOp .In) (rOp X.K .fr (cmpD .mem)) :=
  memE (neg := fun b => b) hu (fun r1 r2 c1 c2 z q => SeqAt.in_list_reads r1 r2 c1 c2 (by omega) q) (fun r1 r2 c1 c2 z q => SeqAt.in_tuple_reads r1 r2 c1 c2 (by omega) q)
theorem op_nmemE (hu : X.A.units + 80 < cLine) : OpR X (compareOp .NotIn) (rOp X.K .fr (cmpD .nmem)) :=
  memE (neg := fun b => !b) hu (fun r1 r2 c1 c2 z q => SeqAt.notIn_list_reads r1 r2 c1 c2 (by omega) q) (fun r1 r2 c1 c2 z q => SeqAt.notIn_tuple_reads r1 r2 c1 c2 (by omega) q)
end

def pyC : COp → CmpOp
  | .lt => .Lt
  | .le => .LtE
  | .gt => .Gt
  | .ge => .GtE
  | .eq => .Eq
  | .ne => .NotEq
  | .is => .Is
  | .isnot => .IsNot
  | .mem => .In
  | .nmem => .NotIn
def isOrd : COp → Bool
  | .lt | .le | .gt | .ge => true
  | _ => false
mutual
theorem alk_py : ∀ x y : D, alkD x y = true → PySem.W.alike (toPy x) (toPy y) = true
  | .bl _, .bl _, _ => rfl
  | .int _, .int _, _ => rfl
  | .lst xs, .lst ys, h => alks_py xs ys h
  | .tup xs, .tup ys, h => alks_py xs ys h
  | .non, _, h => by cases h
  | .str _, _, h => by cases h
  | .dic _, _, h => by cases h
  | .ref _, _, h => by cases h
  | .clo _ _, _, h => by cases h
  | .exc _ _, _, h => by cases h
theorem alks_py : ∀ x y : List D, alkDs x y = true → PySem.W.alikeAll (toPys x) (toPys y) = true
  | [], _, _ => by cases ‹List D› <;> rfl
  | _ :: _, [], _ => rfl
  | x :: xs, y :: ys, h => by
    have h : (alkD x y && alkDs xs ys) = true := h
    rw [Bool.and_eq_true] at h
    show (PySem.W.alike (toPy x) (toPy y) && PySem.W.alikeAll (toPys xs) (toPys ys)) = true
    rw [alk_py x y h.1, alks_py xs ys h.2] <;> rfl
end
theorem alk_nn {x y : D} (h : alkD x y = true) : toPy x ≠ .none := by
  cases x <;> first | (cases h; done) | (intro z; cases z)
theorem lt_int_tok (i j : Int) : PySem.W.dataLt (.int i) (.int j) = decide (i < j) := by
  show PyProof.Rows.lexLt PyProof.Rows.itemOrd [.inl i] [.inl j] = _
  by_cases e : i = j
  · subst e
    rw [PyProof.Rows.lex_self, decide_eq_false (Int.lt_irrefl _)]
    rfl
  · rw [PyProof.Rows.lex_diff (fun z => e (Sum.inl.inj z))]
    rfl
theorem toks_inj {x y : D} (n : Nat) (hx : okD n x = true) (hy : okD n y = true) (h : alkD x y = true) :
    (eqD x y = true → PySem.W.keyToks (toPy x) = PySem.W.keyToks (toPy y)) ∧ (eqD x y = false → ∀ l m, PyProof.Rows.lexLt PyProof.Rows.itemOrd (PySem.W.keyToks (toPy x) ++ l) (PySem.W.keyToks (toPy y) ++ m) = PySem.W.dataLt (toPy x) (toPy y)) := by
  have q := PySem.W.toks_eqv (toPy x) (toPy y) (alk_py x y h)
  rw [eqD_py n x y hx hy] at q
  exact q
mutual
theorem ltB_py : ∀ (n : Nat) (x y : D), okD n x = true → okD n y = true → alkD x y = true → PySem.W.dataLt (toPy x) (toPy y) = ltB x y
  | _, .bl a, .bl b, _, _, _ => by
    show PySem.W.dataLt (.bool a) (.bool b) = (!a && b)
    have e : PySem.W.dataLt (.bool a) (.bool b) = PySem.W.dataLt (.int (if a = true then 1 else 0)) (.int (if b = true then 1 else 0)) := rfl
    rw [e, lt_int_tok]
    cases a <;> cases b <;> rfl
  | _, .int i, .int j, _, _, _ => lt_int_tok i j
  | n + 1, .lst xs, .lst ys, hx, hy, h => ltBs_py n xs ys hx hy h
  | n + 1, .tup xs, .tup ys, hx, hy, h => ltBs_py n xs ys hx hy h
  | 0, .lst _, .lst _, hx, _, _ => by cases hx
  | 0, .tup _, .tup _, hx, _, _ => by cases hx
  | _, .non, _, _, _, h => by cases h
  | _, .str _, _, _, _, h => by cases h
  | _, .dic _, _, _, _, h => by cases h
  | _, .ref _, _, _, _, h => by cases h
  | _, .clo _ _, _, _, _, h => by cases h
  | _, .exc _ _, _, _, _, h => by cases h
theorem ltBs_py : ∀ (n : Nat) (x y : List D), x.all (okD n) = true → y.all (okD n) = true → alkDs x y = true → PyProof.Rows.lexLt PyProof.Rows.itemOrd (PySem.W.keyToksAll (toPys x)) (PySem.W.keyToksAll (toPys y)) = ltBs x y
  | _, [], [], _, _, _ => by
    show PyProof.Rows.lexLt PyProof.Rows.itemOrd [.inl 0] [.inl 0] = false
    rw [PyProof.Rows.lex_self] <;> rfl
  | _, [], y :: ys, _, _, _ => by
    show PyProof.Rows.lexLt PyProof.Rows.itemOrd [.inl 0] (.inl 1 :: _) = true
    rw [PyProof.Rows.lex_diff (by intro z; cases z)] <;> rfl
  | _, x :: xs, [], _, _, _ => by
    show PyProof.Rows.lexLt PyProof.Rows.itemOrd (.inl 1 :: _) [.inl 0] = false
    rw [PyProof.Rows.lex_diff (by intro z; cases z)] <;> rfl
  | n, x :: xs, y :: ys, hx, hy, h => by
    have h : (alkD x y && alkDs xs ys) = true := h
    rw [Bool.and_eq_true] at h
    rw [List.all_cons, Bool.and_eq_true] at hx hy
    obtain ⟨t1, t2⟩ := toks_inj n hx.1 hy.1 h.1
    show PyProof.Rows.lexLt PyProof.Rows.itemOrd (.inl 1 :: (PySem.W.keyToks (toPy x) ++ PySem.W.keyToksAll (toPys xs))) (.inl 1 :: (PySem.W.keyToks (toPy y) ++ PySem.W.keyToksAll (toPys ys))) = if eqD x y = true then ltBs xs ys else ltB x y
    rw [PyProof.Rows.lex_self]
    cases c : eqD x y with
    | true =>
      rw [t1 c, PySem.W.lex_pre, ltBs_py n xs ys hx.2 hy.2 h.2] <;> rfl
    | false =>
      rw [t2 c, ltB_py n x y hx.1 hy.1 h.1] <;> rfl
end
mutual
theorem alk_symm : ∀ x y : D, alkD x y = true → alkD y x = true
  | .bl _, .bl _, _ => rfl
  | .int _, .int _, _ => rfl
  | .lst xs, .lst ys, h => alks_symm xs ys h
  | .tup xs, .tup ys, h => alks_symm xs ys h
  | .non, _, h => by cases h
  | .str _, _, h => by cases h
  | .dic _, _, h => by cases h
  | .ref _, _, h => by cases h
  | .clo _ _, _, h => by cases h
  | .exc _ _, _, h => by cases h
theorem alks_symm : ∀ x y : List D, alkDs x y = true → alkDs y x = true
  | [], [], _ => rfl
  | [], _ :: _, _ => rfl
  | _ :: _, [], _ => rfl
  | x :: xs, y :: ys, h => by
    have h : (alkD x y && alkDs xs ys) = true := h
    rw [Bool.and_eq_true] at h
    show (alkD y x && alkDs ys xs) = true
    rw [alk_symm x y h.1, alks_symm xs ys h.2] <;> rfl
end
section
variable {X : Cx}
theorem ordD_some {op : COp} {x y : D} {b : Bool} (e : ordD op x y = some b) : okD okDep x = true ∧ okD okDep y = true ∧ alkD x y = true ∧ b = ordB op x y := by
  unfold ordD at e
  split at e
  · rename_i hz
    rw [Bool.and_eq_true, Bool.and_eq_true] at hz
    cases e
    exact ⟨hz.1.1, hz.1.2, hz.2, rfl⟩
  · cases e
theorem op_ordE {op : COp} (ho : isOrd op = true) (hu : X.A.units + 80 < cLine) : OpR X (compareOp (pyC op)) (rOp X.K .fr (cmpD op)) := by
  intro pins s σ H x y v u Q I rx ry h
  obtain ⟨O, C, d1, d2, r, hC, b1, b2, e, q⟩ := h
  have e : (ordD op d1 d2).map D.bl = some r := by cases op <;> first | (cases ho; done) | exact e
  obtain ⟨b, eb, e⟩ := Option.map_eq_some_iff.mp e
  cases e
  obtain ⟨k1, k2, k3, rfl⟩ := ordD_some eb
  obtain ⟨as, g1⟩ := Dp.reads I _ x v (rb_dp k1 b1) rx
  obtain ⟨bs, g2⟩ := Dp.reads I _ y u (rb_dp k2 b2) ry
  have p1 := okD_py _ _ k1
  have e12 : okDep = 12 := rfl
  have hu2 : X.A.units + min (toPy d1).depth (toPy d2).depth < cLine := by omega
  have fin : ∀ b, EP X pins σ (fun v H' => v = .bl b ∧ H' = H) (.bool b) s := fun b => ⟨.bl b, H, I, rfl, rfl, rfl⟩
  have l1 := ltB_py _ _ _ k1 k2 k3
  cases op with
  | lt =>
    refine PySem.W.lt_data g1 g2 (alk_py _ _ k3) (alk_nn k3) hu2 ?_
    rw [l1]
    exact ⟨.bl _, H, I, rfl, q _ _ (fun _ => Keep.refl) (Rp.bl _)⟩
  | ge =>
    refine PySem.W.ge_data g1 g2 (alk_py _ _ k3) (alk_nn k3) hu2 ?_
    rw [l1]
    exact ⟨.bl _, H, I, rfl, q _ _ (fun _ => Keep.refl) (Rp.bl _)⟩
  | gt =>
    refine PySem.W.gt_data g1 g2 (alk_py _ _ k3) (alk_nn k3) hu2 ?_
    rw [ltB_py _ _ _ k2 k1 (alk_symm _ _ k3)]
    exact ⟨.bl _, H, I, rfl, q _ _ (fun _ => Keep.refl) (Rp.bl _)⟩
  | le =>
    refine PySem.W.le_data g1 g2 (alk_py _ _ k3) (alk_nn k3) hu2 ?_
    rw [ltB_py _ _ _ k2 k1 (alk_symm _ _ k3)]
    exact ⟨.bl _, H, I, rfl, q _ _ (fun _ => Keep.refl) (Rp.bl _)⟩
  | _ => cases ho
theorem op_cmpE (op : COp) (hu : X.A.units + 80 < cLine) : OpR X (compareOp (pyC op)) (rOp X.K .fr (cmpD op)) := by
  cases op with
  | eq => exact op_eqE hu
  | ne => exact op_neE hu
  | is => exact op_isE
  | isnot => exact op_isnotE
  | mem => exact op_memE hu
  | nmem => exact op_nmemE hu
  | lt => exact op_ordE rfl hu
  | le => exact op_ordE rfl hu
  | gt => exact op_ordE rfl hu
  | ge => exact op_ordE rfl hu
end
end Ev

set_option maxHeartbeats 4000000
namespace Ev
open PySem PySem.Spec PyProof.Rows L2
theorem list_mulW (l : Addr) (items : Array Value) (n : Nat) (dd : Option Addr) (sl : Array (Option Value)) (x : Int) (u : Tok) (hc0 : ¬(!Builtin.List.listFitsIndex x) = true) (hc1 : ¬items.size * x.toNat > (2 ^ 63 - 1) / 8) (hc2 : ¬Builtin.List.listTooLong (items.size * x.toNat) = true)
    (hsz : (List.foldl (fun x1 x2 => x1 ++ x2) #[] (List.replicate (if items.isEmpty = true then 0 else x.toNat) items)).size ≤ sizeLine) :
    Meets (Builtin.«list.__mul__» ⟨[.ref l, .int x u], []⟩) (fun _ R s => s.heap.get? l = some { cls := .type "list", dict := dd, data := .seq items n, slots := sl } ∧
      R (.ok (.ret (Value.ref s.heap.objs.size))) { s with heap := s.heap.push { cls := Value.type "list", data := Data.seq (List.foldl (fun x1 x2 => x1 ++ x2) #[] (List.replicate (if items.isEmpty = true then 0 else x.toNat) items)) }, toks := s.toks }) :=
  .of_wp fun prog w A R s h => by
    obtain ⟨hp, g, d, tk, os⟩ := s
    obtain ⟨hl, h⟩ := h
    have f1 := AutoSeq1.idx_int
    wp_walk using wpAny_loadPart' hl
    refine wpAny_ite_false (decide_eq_false (Nat.not_lt.mpr hsz)) ?_
    wp_walk using wpAny_loadPart' hl
    exact ⟨_, rfl, h⟩
theorem int_rmul_listW (a : Int) (t : Tok) (l : Addr) (items : Array Value) (n : Nat) (dd : Option Addr) (sl : Array (Option Value)) :
    Meets (Builtin.«int.__rmul__» ⟨[.int a t, .ref l], []⟩) (fun _ R s => s.heap.get? l = some { cls := .type "list", dict := dd, data := .seq items n, slots := sl } ∧ R (.ok (.ret Value.notImplemented)) s) :=
  .of_wp fun prog w A R s h => by
    obtain ⟨hp, g, d, tk, os⟩ := s
    obtain ⟨hl, h⟩ := h
    wp_walk using wpAny_loadPart' hl
    exact ⟨_, rfl, h⟩
section
variable {X : Cx}
theorem op_mulE : OpR X (binaryOp .Mult) (rOp X.K .fr mulD) := by
  intro pins s σ H x y v u Q I rx ry h
  obtain ⟨O, C, d1, d2, r, hC, b1, b2, e, q⟩ := h
  unfold mulD at e
  split at e
  · rename_i i j
    split at e
    · rename_i hz
      cases e
      cases b1.int
      cases b2.int
      obtain ⟨t, rfl⟩ := rx
      obtain ⟨t', rfl⟩ := ry
      exact mul_int ⟨.int _, H, I.tok _, ⟨_, rfl⟩, q _ _ (fun _ => Keep.refl) (Rp.int _)⟩ (mulOk_ok hz)
    · cases e
  · rename_i l k
    split at e
    · rename_i hz
      simp only [Bool.and_eq_true, decide_eq_true_eq] at hz
      obtain ⟨⟨k1, k2⟩, k3⟩ := hz
      cases e
      cases b2.int
      obtain ⟨a, xs, rfl, h1, z1, r1⟩ := b1.tup
      have lx := r1.length
      have zf : (List.replicate k.toNat xs).flatten.length ≤ sizeLine := by
        rw [PyProof.Rows.lm_len_rep_flat, sizeLine_eq]
        have a1 : k.toNat * xs.length ≤ 1000 * 1000 := Nat.mul_le_mul (by omega) (by omega)
        omega
      have one : (k = 1 ∨ xs = []) → (List.replicate k.toNat xs).flatten = xs ∧ (List.replicate k.toNat l).flatten = l := fun h => by
        rcases h with rfl | rfl
        · exact ⟨by simp, by simp⟩
        · have e0 : l = [] := List.eq_nil_of_length_eq_zero (by rw [lx]; rfl)
          subst e0
          simp
      by_cases ho : k = 1 ∨ xs = []
      · obtain ⟨e1, e2⟩ := one ho
        rw [e2] at q
        cases rx
        obtain ⟨t, rfl⟩ := ry
        obtain ⟨its, rr, ⟨⟨cls, dd, data, sl⟩, hob, hc, n, hd⟩, hs⟩ := I.tuple h1
        simp only at hc hd
        subst hc hd
        have c0 : (decide (k < -(2 ^ 63)) || decide (k ≥ 2 ^ 63)) = false := by
          rw [decide_eq_false (by omega), decide_eq_false (by omega)] <;> rfl
        have c1 : (its.toArray.isEmpty || k == 1) = true := by
          rcases ho with rfl | rfl
          · simp
          · cases rr; rfl
        refine wpAny_binaryOp_repeat_ref (T := "tuple") (U := "int") (by decide) ⟨_, hob, rfl⟩ (fun s' => typeIs_int s' k t) noFill_tuple_mul F.fills_int_mul F.slot_int_rmul repeat_tuple F.slot_int_index.lookup
          (call_meets F.slot_int_rmul (typeIs_int s k t) F.entry_int_rmul (F.args_int_rmul_2 _ _) (int_rmul_tuple k t a its.toArray n dd sl)
            ⟨hob, rfl, ⟨_, hob, rfl⟩, call_meets F.slot_tuple_mul ⟨_, hob, rfl⟩ F.entry_tuple_mul (F.args_tuple_mul_2 _ _) (tuple_mulS a its.toArray n dd sl k t c0 c1) ⟨hob, ?_⟩⟩)
        exact ⟨.ref a, H, I, rfl, q _ _ (fun _ => Keep.refl) (Rp.tup h1 z1 r1)⟩
      · rw [not_or] at ho
        exact op_repT pins s σ H _ _ v u Q I rx ry ⟨a, k, xs, rfl, rfl, h1, ho.2, by omega, k2, by omega, fun p hp => q _ _ (fun _ => Keep.new hp) (Rp.tup_new hp zf (r1.rep _))⟩
    · cases e
  · rename_i l k
    split at e
    · rename_i hz
      simp only [Bool.and_eq_true, decide_eq_true_eq] at hz
      obtain ⟨⟨k1, k2⟩, k3⟩ := hz
      cases e
      cases b2.int
      obtain ⟨a, xs, rfl, h1, z1, r1⟩ := b1.lst
      have lx := r1.length
      have zf : (List.replicate k.toNat xs).flatten.length ≤ sizeLine := by
        rw [PyProof.Rows.lm_len_rep_flat, sizeLine_eq]
        have a1 : k.toNat * xs.length ≤ 1000 * 1000 := Nat.mul_le_mul (by omega) (by omega)
        omega
      cases rx
      obtain ⟨t, rfl⟩ := ry
      obtain ⟨its, rr, pl, hs⟩ := I.list h1
      obtain ⟨⟨cls, dd, data, sl⟩, hob, hc, n, hd⟩ := id pl.isList
      simp only at hc hd
      subst hc hd
      have hl := rr.length
      have m1 : its.length * k.toNat ≤ 1000 * 1000 := Nat.mul_le_mul (by omega) (by omega)
      have hcap : ¬ its.toArray.size * k.toNat > (2 ^ 63 - 1) / 8 := by
        rw [List.size_toArray]
        omega
      have hfit : ¬ (!Builtin.List.listFitsIndex k) = true := by
        rw [fitsIndex_both (by omega) (by omega)]
        exact Bool.false_ne_true
      have hlong : ¬ Builtin.List.listTooLong (its.toArray.size * k.toNat) = true := by
        rw [notLongL (by rw [List.size_toArray, sizeLine_eq]; omega)]
        exact Bool.false_ne_true
      have hnew : List.foldl (fun x1 x2 => x1 ++ x2) #[] (List.replicate (if its.toArray.isEmpty = true then 0 else k.toNat) its.toArray) = (List.replicate k.toNat its).flatten.toArray := by
        rw [size_rep]
        cases its with
        | nil => simp
        | cons a r' => rw [if_neg (by simp)]
      refine wpAny_binaryOp_repeat_ref (T := "list") (U := "int") (by decide) ⟨_, hob, rfl⟩ (fun s' => typeIs_int s' k t) noFill_list_mul F.fills_int_mul F.slot_int_rmul repeat_list F.slot_int_index.lookup
        (call_meets F.slot_int_rmul (typeIs_int s k t) F.entry_int_rmul (F.args_int_rmul_2 _ _) (int_rmul_listW k t a its.toArray n dd sl)
          ⟨hob, rfl, ⟨_, hob, rfl⟩, call_meets F.slot_list_mul ⟨_, hob, rfl⟩ F.entry_list_mul (F.args_list_mul_2 _ _) (list_mulW a its.toArray n dd sl k t hfit hcap hlong (by rw [hnew, List.size_toArray, PyProof.Rows.lm_len_rep_flat, sizeLine_eq, Nat.mul_comm]; omega)) ⟨hob, ?_⟩⟩)
      rw [hnew]
      exact ⟨.ref _, _, I.lnew (t' := s.toks) (rr.rep k.toNat) zf, rfl, q _ _ (fun _ => Keep.new I.fresh) (Rv.fr_new I.fresh zf (r1.rep _))⟩
    · cases e
  · cases e
/-- an operator of the text -/
def pyB : BOp → Operator
  | .add => .Add
  | .sub => .Sub
  | .mul => .Mult
  | .fdiv => .FloorDiv
  | .mod => .Mod
  | .pow => .Pow
  | .shl => .LShift
theorem op_binE (op : BOp) : OpR X (binaryOp (pyB op)) (rOp X.K .fr (binD op)) := by
  cases op with
  | add => exact op_addE
  | sub => exact op_subE
  | mul => exact op_mulE
  | fdiv => exact op_fdivE
  | mod => exact op_modE
  | pow => exact op_powE
  | shl => exact op_shlE
end
end Ev

set_option maxHeartbeats 4000000
namespace Ev
open PySem PySem.Spec PyProof.Rows L2
inductive RbAll (K : Frag) (O C : List Addr) (H : Hp) : List D → List V → Prop
  | nil : RbAll K O C H [] []
  | cons {d : D} {v : V} {ds : List D} {vs : List V} : Rb K O C H d v → RbAll K O C H ds vs → RbAll K O C H (d :: ds) (v :: vs)
/-- a call's values and what f says of them -/
def rPr (K : Frag) (k : Kd) (f : List D → Option D) : List V → Hp → VK → Prop := fun vs H Q => ∃ O C ds r, (∀ a ∈ C, a ∈ O) ∧ RbAll K O C H ds vs ∧ f ds = some r ∧
  ∀ v H', (∀ Z, Keep Z H H') → Rv k K O C H H' r v → Q v H'
section
variable {K : Frag} {O C : List Addr} {H : Hp}
theorem RbAll.one {d : D} {vs : List V} (h : RbAll K O C H [d] vs) : ∃ v, vs = [v] ∧ Rb K O C H d v := by
  cases h with
  | cons a b => cases b; exact ⟨_, rfl, a⟩
theorem RbAll.two {d e : D} {vs : List V} (h : RbAll K O C H [d, e] vs) : ∃ v w, vs = [v, w] ∧ Rb K O C H d v ∧ Rb K O C H e w := by
  cases h with
  | cons a b =>
    obtain ⟨w, rfl, c⟩ := b.one
    exact ⟨_, _, rfl, a, c⟩
theorem RpAll.ints : ∀ {l : List D} {xs : List V} {ns : List Int}, intsOf l = some ns → RpAll K O C H l xs → xs = ns.map V.int
  | [], _, _, e, h => by cases e; cases h; rfl
  | .int i :: r, _, _, e, h => by
    obtain ⟨ms, e1, rfl⟩ := Option.map_eq_some_iff.mp (show (intsOf r).map (i :: ·) = some _ from e)
    cases h with
    | cons a b => cases a; rw [RpAll.ints e1 b]; rfl
  | .non :: _, _, _, e, _ => by cases e
  | .bl _ :: _, _, _, e, _ => by cases e
  | .str _ :: _, _, _, e, _ => by cases e
  | .tup _ :: _, _, _, e, _ => by cases e
  | .lst _ :: _, _, _, e, _ => by cases e
  | .dic _ :: _, _, _, e, _ => by cases e
  | .ref _ :: _, _, _, e, _ => by cases e
  | .clo _ _ :: _, _, _, e, _ => by cases e
  | .exc _ _ :: _, _, _, e, _ => by cases e
theorem RpAll.bls : ∀ {l : List D} {xs : List V} {ns : List Bool}, blsOf l = some ns → RpAll K O C H l xs → xs = ns.map V.bl
  | [], _, _, e, h => by cases e; cases h; rfl
  | .bl i :: r, _, _, e, h => by
    obtain ⟨ms, e1, rfl⟩ := Option.map_eq_some_iff.mp (show (blsOf r).map (i :: ·) = some _ from e)
    cases h with
    | cons a b => cases a; rw [RpAll.bls e1 b]; rfl
  | .non :: _, _, _, e, _ => by cases e
  | .int _ :: _, _, _, e, _ => by cases e
  | .str _ :: _, _, _, e, _ => by cases e
  | .tup _ :: _, _, _, e, _ => by cases e
  | .lst _ :: _, _, _, e, _ => by cases e
  | .dic _ :: _, _, _, e, _ => by cases e
  | .ref _ :: _, _, _, e, _ => by cases e
  | .clo _ _ :: _, _, _, e, _ => by cases e
  | .exc _ _ :: _, _, _, e, _ => by cases e
end
section
variable {prog : Program} {w : World} {A : Around} {E : Value → Shared → Prop} {s : Shared} {l : Addr}
theorem sum_tup {its : List Value} {ns : List Int} {Q : Value → Shared → Prop} (hh : A.handled = none) (ht : s.heap.IsTuple l its.toArray) (hi : IntsAre its ns)
    (h : ∀ h' tk t', (∀ b o, s.heap.get? b = some o → h'.get? b = some o) → Q (.int ns.sum t') { s with heap := h', toks := tk }) : wpAny (model prog w) A (call (.builtin "sum") [.ref l]) Q E s := by
  obtain ⟨xs, e⟩ := hi.allInts.items
  have hn : numsOf (intItems xs).toList = ns := by rw [← e]; exact hi.numsOf
  rw [nums_intItems] at hn
  rw [e] at ht
  have hlt : l < s.heap.objs.size := by
    obtain ⟨o, ho, _⟩ := ht
    exact Heap.lt_size ho
  have hne : l ≠ s.heap.objs.size := Nat.ne_of_lt hlt
  refine call_sum_walkG (wpAny_pyIter_tuple ht ?_)
  refine ⟨s.heap.objs.size, _, _, _, _, _, numAt xs, rfl, Walks.tuple (A := A.in1) hh _ l hne (intItems xs), ⟨⟨_, Heap.get?_push_size _ rfl, rfl, rfl⟩, let ⟨o, ho, hc⟩ := ht; ⟨o, Heap.get?_push_of_some _ ho, hc⟩⟩, fun b hb => ?_, fun i v h => intItems_at h, fun h' tk t' hk => ?_⟩
  · have eb : b = s.heap.objs.size ∨ b = l := by simpa using hb
    show b < (s.heap.push _).objs.size
    rw [Heap.size_push]
    rcases eb with rfl | rfl
    · exact Nat.lt_succ_self _
    · exact Nat.lt_succ_of_lt hlt
  · have q := h h' tk t' fun b o e => hk b o (by
      intro z
      have z : b = s.heap.objs.size := by simpa using z
      exact absurd (Heap.lt_size e) (by rw [z]; exact Nat.lt_irrefl _)) (Heap.get?_push_of_some _ e)
    have es : (intItems xs).size = xs.size := by simp [intItems]
    rw [es, preSum_eq, List.take_of_length_le (by simp), hn]
    exact q
end
section
variable {X : Cx}
theorem Inv.grown {pins : List (Addr × Obj)} {σ : SSt} {H : Hp} {s : Shared} {h' : Heap} {t' : Nat} (I : Inv X pins σ H s) (k : ∀ b u, s.heap.get? b = some u → h'.get? b = some u) : Inv X pins σ H { s with heap := h', toks := t' } := I.kept k
/-- the list or tuple that lies at v -/
theorem rb_seq {K : Frag} {O C : List Addr} {H : Hp} {v : V} {l : List D} (b : Rb K O C H (.lst l) v ∨ Rb K O C H (.tup l) v) : ∃ a xs, v = .ref a ∧ (SqL K H a xs ∨ SqT K H a xs) ∧ xs.length ≤ sizeLine ∧ RpAll K O C H l xs := by
  rcases b with b | b
  · obtain ⟨a, xs, e, h, z, r⟩ := b.lst
    exact ⟨a, xs, e, .inl h, z, r⟩
  · obtain ⟨a, xs, e, h, z, r⟩ := b.tup
    exact ⟨a, xs, e, .inr h, z, r⟩
theorem pr_len : CallR X (.builtin "len") (rPr X.K .fr lenD) := by
  intro pins s σ H vs us Q I r h
  obtain ⟨O, C, ds, d, hC, b0, e, q⟩ := h
  unfold lenD at e
  split at e
  · cases e
    obtain ⟨v, rfl, b⟩ := b0.one
    obtain ⟨a, xs, rfl, h1, z1, r1⟩ := rb_seq (.inr b)
    refine call_len_seq pins s σ H _ us Q I r ⟨a, xs, rfl, h1, ?_⟩
    rw [← r1.length]
    exact q _ _ (fun _ => Keep.refl) (Rp.int _)
  · cases e
    obtain ⟨v, rfl, b⟩ := b0.one
    obtain ⟨a, xs, rfl, h1, z1, r1⟩ := rb_seq (.inl b)
    refine call_len_seq pins s σ H _ us Q I r ⟨a, xs, rfl, h1, ?_⟩
    rw [← r1.length]
    exact q _ _ (fun _ => Keep.refl) (Rp.int _)
  · cases e
theorem pr_sum (hc : X.calm = true) : CallR X (.builtin "sum") (rPr X.K .fr sumD) := by
  intro pins s σ H vs us Q I r h
  obtain ⟨O, C, ds, d, hC, b0, e, q⟩ := h
  unfold sumD at e
  split at e
  · obtain ⟨ns, e1, rfl⟩ := Option.map_eq_some_iff.mp e
    obtain ⟨v, rfl, b⟩ := b0.one
    obtain ⟨a, xs, rfl, h1, z1, r1⟩ := b.lst
    obtain rfl := r1.ints e1
    exact cr_sum hc pins s σ H _ us Q I r ⟨a, ns, rfl, h1, q _ _ (fun _ => Keep.refl) (Rp.int _)⟩
  · obtain ⟨ns, e1, rfl⟩ := Option.map_eq_some_iff.mp e
    obtain ⟨v, rfl, b⟩ := b0.one
    obtain ⟨a, xs, rfl, h1, z1, r1⟩ := b.tup
    obtain rfl := r1.ints e1
    obtain ⟨u, rfl, ru⟩ := vals1 r
    cases ru
    obtain ⟨its, g1, p1, _⟩ := I.tuple h1
    exact sum_tup (I.ok.hd hc) p1 (Vals.ints g1) fun h' tk t' k => ⟨.int _, H, I.kept k, ⟨_, rfl⟩, q _ _ (fun _ => Keep.refl) (Rp.int _)⟩
  · cases e
theorem pr_all (hc : X.calm = true) : CallR X (.builtin "all") (rPr X.K .fr allD) := by
  intro pins s σ H vs us Q I r h
  obtain ⟨O, C, ds, d, hC, b0, e, q⟩ := h
  unfold allD at e
  split at e
  · obtain ⟨ns, e1, rfl⟩ := Option.map_eq_some_iff.mp e
    obtain ⟨v, rfl, b⟩ := b0.one
    obtain ⟨a, xs, rfl, h1, z1, r1⟩ := b.lst
    obtain rfl := r1.bls e1
    exact cr_all hc pins s σ H _ us Q I r ⟨a, ns, rfl, h1, q _ _ (fun _ => Keep.refl) (Rp.bl _)⟩
  · cases e
theorem pr_any (hc : X.calm = true) : CallR X (.builtin "any") (rPr X.K .fr anyD) := by
  intro pins s σ H vs us Q I r h
  obtain ⟨O, C, ds, d, hC, b0, e, q⟩ := h
  unfold anyD at e
  split at e
  · obtain ⟨ns, e1, rfl⟩ := Option.map_eq_some_iff.mp e
    obtain ⟨v, rfl, b⟩ := b0.one
    obtain ⟨a, xs, rfl, h1, z1, r1⟩ := b.lst
    obtain rfl := r1.bls e1
    exact cr_any hc pins s σ H _ us Q I r ⟨a, ns, rfl, h1, q _ _ (fun _ => Keep.refl) (Rp.bl _)⟩
  · cases e
theorem pr_min2 (hc : X.calm = true) : CallR X (.builtin "min") (rPr X.K .fr min2D) := by
  intro pins s σ H vs us Q I r h
  obtain ⟨O, C, ds, d, hC, b0, e, q⟩ := h
  unfold min2D at e
  split at e
  · cases e
    obtain ⟨v, w, rfl, b1, b2⟩ := b0.two
    cases b1.int
    cases b2.int
    exact call_min2 hc pins s σ H _ us Q I r ⟨_, _, rfl, q _ _ (fun _ => Keep.refl) (Rp.int _)⟩
  · cases e
theorem pr_max2 (hc : X.calm = true) : CallR X (.builtin "max") (rPr X.K .fr max2D) := by
  intro pins s σ H vs us Q I r h
  obtain ⟨O, C, ds, d, hC, b0, e, q⟩ := h
  unfold max2D at e
  split at e
  · cases e
    obtain ⟨v, w, rfl, b1, b2⟩ := b0.two
    cases b1.int
    cases b2.int
    exact call_max2 hc pins s σ H _ us Q I r ⟨_, _, rfl, q _ _ (fun _ => Keep.refl) (Rp.int _)⟩
  · cases e
theorem pr_abs : CallR X (.builtin "abs") (rPr X.K .fr absP) := by
  intro pins s σ H vs us Q I r h
  obtain ⟨O, C, ds, d, hC, b0, e, q⟩ := h
  unfold absP at e
  split at e
  · cases e
    obtain ⟨v, rfl, b⟩ := b0.one
    cases b.int
    exact call_abs pins s σ H _ us Q I r ⟨_, rfl, q _ _ (fun _ => Keep.refl) (Rp.int _)⟩
  · cases e
theorem pr_int : CallR X (.type "int") (rPr X.K .fr intP) := by
  intro pins s σ H vs us Q I r h
  obtain ⟨O, C, ds, d, hC, b0, e, q⟩ := h
  unfold intP at e
  split at e
  · cases e
    obtain ⟨v, rfl, b⟩ := b0.one
    cases b.int
    exact call_int1 pins s σ H _ us Q I r (.inl ⟨_, rfl, q _ _ (fun _ => Keep.refl) (Rp.int _)⟩)
  · cases e
theorem pr_list : CallR X (.type "list") (rPr X.K .fr listP) := by
  intro pins s σ H vs us Q I r h
  obtain ⟨O, C, ds, d, hC, b0, e, q⟩ := h
  have key : ∀ l, ds = [D.lst l] ∨ ds = [D.tup l] → d = .lst l → wpAny (model X.prog X.w) X.A (call (.type "list") us) (EP X pins σ Q) X.xe s := by
    intro l hl hd
    subst hd
    have hb : ∃ v, vs = [v] ∧ (Rb X.K O C H (.lst l) v ∨ Rb X.K O C H (.tup l) v) := by
      rcases hl with rfl | rfl
      · obtain ⟨v, e, b⟩ := b0.one
        exact ⟨v, e, .inl b⟩
      · obtain ⟨v, e, b⟩ := b0.one
        exact ⟨v, e, .inr b⟩
    obtain ⟨v, rfl, b⟩ := hb
    obtain ⟨a, xs, rfl, h1, z1, r1⟩ := rb_seq b
    exact call_list_of pins s σ H _ us Q I r ⟨a, xs, rfl, h1, fun p hp => q _ _ (fun _ => Keep.new hp) (Rv.fr_new hp z1 r1)⟩
  unfold listP at e
  split at e
  · cases e; exact key _ (.inl rfl) rfl
  · cases e; exact key _ (.inr rfl) rfl
  · cases e
theorem pr_tuple : CallR X (.type "tuple") (rPr X.K .fr tupP) := by
  intro pins s σ H vs us Q I r h
  obtain ⟨O, C, ds, d, hC, b0, e, q⟩ := h
  unfold tupP at e
  split at e
  · cases e
    obtain ⟨v, rfl, b⟩ := b0.one
    obtain ⟨a, xs, rfl, h1, z1, r1⟩ := b.lst
    exact call_tuple_of pins s σ H _ us Q I r ⟨a, xs, rfl, .inl ⟨h1, fun p hp => q _ _ (fun _ => Keep.new hp) (Rp.tup_new hp z1 r1)⟩⟩
  · cases e
    obtain ⟨v, rfl, b⟩ := b0.one
    obtain ⟨a, xs, rfl, h1, z1, r1⟩ := b.tup
    exact call_tuple_of pins s σ H _ us Q I r ⟨a, xs, rfl, .inr ⟨h1, q _ _ (fun _ => Keep.refl) (Rp.tup h1 z1 r1)⟩⟩
  · cases e
end
end Ev

set_option maxHeartbeats 2000000
namespace Ev
open PySem PySem.W PySem.Calls PyProof.Rows
def Sortable2 (ds : List PyData) : Prop := PySem.W.Sortable ds ∨ ∀ d ∈ ds, ∃ xs, d = .tuple xs
section
open PySem.SeqAt
variable {A : Around} {s : Shared}
theorem call_tuple_lt {prog : Program} {w : World} {E : Value → Shared → Prop} {Q : Value → Shared → Prop} {l b : Addr} {items items2 : Array Value} {e r : Nat → Bool} (hl : s.heap.IsTuple l items) (hb : s.heap.IsTuple b items2)
    (he : ∀ j (h1 : j < items.size) (h2 : j < items2.size), EqAt A.in1 s items[j] items2[j] (e j)) (hr : ∀ j (h1 : j < items.size) (h2 : j < items2.size), e j = false → RcLt A.in1 s items[j] items2[j] (r j))
    (h : Q (.bool (firstLt e r (decide (items.size < items2.size)) (List.range (min items.size items2.size)))) s) : wpAny (model prog w) A (call (.builtin "tuple.__lt__") [.ref l, .ref b]) Q E s := by
  obtain ⟨⟨cls, dd, data, sl⟩, ho, hc, n, hd⟩ := id hl
  obtain ⟨⟨cls2, dd2, data2, sl2⟩, ho2, hc2, n2, hd2⟩ := id hb
  simp only at hc hd hc2 hd2
  subst hc hd hc2 hd2
  exact call_meets F.slot_tuple_lt ⟨_, ho, rfl⟩ F.entry_tuple_lt (F.args_tuple_lt_2 _ _) (tuple_ltAt l b items items2 n n2 dd dd2 sl sl2 e r) ⟨ho, ho2, he, hr, h⟩
end
section
variable {prog : Program} {w : World} {A : Around} {E : Value → Shared → Prop} {s : Shared}
open PySem.SeqAt in
theorem oneLt_tup {f : Bool} {xs ys : List PyData} {a b : Value} {as bs : List Addr} {Q : Bool → Shared → Prop} (ra : Reads s.heap a (.tuple xs) as) (rb : Reads s.heap b (.tuple ys) bs) (h : alike (.tuple xs) (.tuple ys) = true)
    (hu : A.units + min (PyData.tuple xs).depth (PyData.tuple ys).depth < cLine) (hq : Q (dataLt (.tuple xs) (.tuple ys)) s) : wpAny (model prog w) A (oneLt' f a b) Q E s := by
  cases f with
  | false => exact oneLt_alike (fun h => by cases h) ra rb h (by simp) hu hq
  | true =>
    have hal : alikeAll xs ys = true := by simpa [alike] using h
    cases ra with
    | @tuple l o vs n _ as₁ h1 h2 h3 h4 =>
      cases rb with
      | @tuple l' o' vs' n' _ bs₁ k1 k2 k3 k4 =>
        have n1 : vs.size = xs.length := by simpa using ReadsAll.length _ _ _ h4
        have n2 : vs'.size = ys.length := by simpa using ReadsAll.length _ _ _ k4
        rw [dataLt_tuple, ← firstLt_toks xs ys hal, ← n1, ← n2] at hq
        rw [oneLt'_eq]
        simp only [if_true]
        refine wpAny_bind (wpAny_cRoomFor (room_here hu) ?_)
        refine wpAny_bind (wpAny_callSpecialIfBound?_slot (T := "tuple") ⟨_, h1, h2⟩ F.slot_tuple_lt (call_tuple_lt (e := pairEq xs ys) (r := fun j => dataLt (xs.getD j .none) (ys.getD j .none)) ⟨_, h1, h2, _, h3⟩ ⟨_, k1, k2, _, k3⟩ (fun j j1 j2 => ?_) (fun j j1 j2 hj => ?_) ?_))
        · have := eqAt_alikeAll xs ys A.in1 s vs.toList vs'.toList _ _ h4 k4 hal (room_in hu) j (by simpa using j1) (by simpa using j2)
          simpa using this
        · have := rcLt_alikeAll xs ys A.in1 s vs.toList vs'.toList _ _ h4 k4 hal (room_in hu) j (by simpa using j1) (by simpa using j2) hj
          simpa using this
        · exact wpAny_truthy_bool hq
/-- a tuple with something in it -/
def neT : PyData → Bool
  | .tuple [] => false
  | _ => true
theorem first_tup {M : Model} {v : Value} {xs : List PyData} {as : List Addr} (r : Reads s.heap v (.tuple xs) as) : ∃ o : Option Value, o.isSome = !xs.isEmpty ∧ ∀ (Q : Option Value → Shared → Prop) (E : Value → Shared → Prop), Q o s → wpAny M A (firstOfTuple' v) Q E s := by
  cases r with
  | @tuple l o vs n _ as₁ h1 h2 h3 h4 =>
    have n1 : vs.size = xs.length := by simpa using SeqAt.ReadsAll.length _ _ _ h4
    refine ⟨vs[0]?, ?_, fun Q E hq => ?_⟩
    · cases xs with
      | nil =>
        have : vs[0]? = none := by
          rw [Array.getElem?_eq_none_iff]
          rw [n1]
          exact Nat.le_refl _
        rw [this]; rfl
      | cons x t =>
        have : 0 < vs.size := by rw [n1]; simp
        rw [Array.getElem?_eq_getElem this]
        rfl
    · rw [kas_first_eq]
      refine wpAny_bind (Looks.here (show Looks M s.heap (typeOf (.ref l)) o.cls from (Looks.ld h1).andThen .now) ?_)
      rw [h2, if_neg (by first | decide | simp)]
      exact wpAny_bind (listItems_at h1 h3 (wpAny_pure hq))
theorem firsts_tup {M : Model} : ∀ {vs : List Value} {ds : List PyData}, EachIs (fun v d => ∃ as, Reads s.heap v d as) vs ds → (∀ d ∈ ds, ∃ xs, d = .tuple xs) →
    ∃ os : List (Option Value), os.map (·.isSome) = ds.map neT ∧ ∀ (Q : List (Option Value) → Shared → Prop) (E : Value → Shared → Prop), Q os s → wpAny M A (vs.mapM firstOfTuple') Q E s
  | _, _, .nil, _ => ⟨[], rfl, fun Q E h => by rw [List.mapM_nil]; exact wpAny_pure h⟩
  | _, _, .cons (b := d) ⟨as, r⟩ t, ht => by
    obtain ⟨xs, rfl⟩ := ht d (List.mem_cons_self ..)
    obtain ⟨o, e1, h1⟩ := first_tup (M := M) (A := A) r
    obtain ⟨os, e2, h2⟩ := firsts_tup (M := M) t fun d hd => ht d (List.mem_cons_of_mem _ hd)
    refine ⟨o :: os, ?_, fun Q E hq => ?_⟩
    · rw [List.map_cons, List.map_cons, e1, e2]
      congr 1
      cases xs <;> rfl
    · rw [List.mapM_cons]
      exact wpAny_bind (h1 _ _ (wpAny_bind (h2 (fun bs s' => wpAny M A (pure (o :: bs)) Q E s') E (wpAny_pure hq))))
theorem kind_tup {M : Model} {vs : List Value} {ds : List PyData} (e : EachIs (fun v d => ∃ as, Reads s.heap v d as) vs ds) (ht : ∀ d ∈ ds, ∃ xs, d = .tuple xs) (he : PyData.tuple [] ∈ ds) :
    ∃ kd : SortKind, (kd = general' ∨ kd = oneType') ∧ ∀ (E : Value → Shared → Prop) {Q : SortKind → Shared → Prop}, Q kd s → wpAny M A (keyKind' vs.toArray) Q E s := by
  obtain ⟨os, e1, h1⟩ := firsts_tup (M := M) (A := A) e ht
  have hall : ¬ (os.toArray.all fun x => x.isSome) = true := by
    rw [List.all_toArray]
    intro hh
    have h3 : (os.map (·.isSome)).all id = true := by rw [List.all_map]; exact hh
    rw [e1, List.all_map, List.all_eq_true] at h3
    exact absurd (h3 _ he) (by show ¬ false = true; simp)
  by_cases h0 : (os.toArray[0]?.bind id).isSome = true
  · refine ⟨general', .inl rfl, fun E Q hq => ?_⟩
    rw [kat_kind_eq, List.mapM_toArray, map_eq_pure_bind]
    refine wpAny_bind (wpAny_bind (h1 _ _ (wpAny_pure ?_)))
    rw [if_neg hall, if_pos h0]
    exact wpAny_pure hq
  · refine ⟨oneType', .inr rfl, fun E Q hq => ?_⟩
    rw [kat_kind_eq, List.mapM_toArray, map_eq_pure_bind]
    refine wpAny_bind (wpAny_bind (h1 _ _ (wpAny_pure ?_)))
    rw [if_neg hall, if_neg h0, oneTypeOnly'_eq, List.mapM_toArray, map_eq_pure_bind]
    refine wpAny_bind (wpAny_bind (wpAny_bind (kas_mapM (r := Value.type "tuple") _ (fun v hv Q' hq => ?_) (wpAny_pure ?_))))
    · obtain ⟨d, hd, as, r⟩ := e.left v hv
      obtain ⟨xs, rfl⟩ := ht d hd
      exact (show Looks M s.heap (typeOf v) (.type "tuple") from looks_reads r).here hq
    · have hne : 0 < vs.length := by
        rw [e.length]
        exact List.length_pos_of_mem he
      obtain ⟨v₁, rest, rfl⟩ : ∃ v₁ rest, vs = v₁ :: rest := by
        cases vs with
        | nil => exact absurd hne (Nat.lt_irrefl 0)
        | cons v r => exact ⟨v, r, rfl⟩
      have hall2 : ((List.map (fun _ => Value.type "tuple") (v₁ :: rest)).toArray.all fun x => x == Value.type "tuple") = true := by
        simp only [List.all_toArray, List.all_map, List.all_eq_true]
        intro _ _
        exact beq_self_eq_true _
      have h00 : (List.map (fun _ => Value.type "tuple") (v₁ :: rest)).toArray[0]? = some (Value.type "tuple") := by simp
      rw [h00]
      simp only [hall2, if_true]
      exact wpAny_pure (wpAny_pure hq)
theorem SortsAt.data2 {vs : List Value} {ds : List PyData} (e : EachIs (fun v d => ∃ as, Reads s.heap v d as) vs ds) (hal : AllAlike ds) (hk : Sortable2 ds) (hu : ∀ d, d ∈ ds → A.units + d.depth < cLine) : SortsAt prog w A s (dataKind s.heap ds) vs := by
  rcases hk with hk | ht
  · exact SortsAt.data e hal hk hu
  by_cases he : PyData.tuple [] ∈ ds
  · have room : ∀ {d d' : PyData}, d ∈ ds → A.units + min d.depth d'.depth < cLine := fun {d d'} hd => Nat.lt_of_le_of_lt (Nat.add_le_add_left (Nat.min_le_left _ _) _) (hu d hd)
    refine ⟨fun v hv => ?_, ?_⟩
    · obtain ⟨d, hd, as, r⟩ := e.left v hv
      exact ⟨_, dataKind_some hal hd r⟩
    · obtain ⟨kd, hkd, hkind⟩ := kind_tup (M := model prog w) (A := A) e ht he
      refine ⟨kd, ?_, fun _ E Q hq => hkind E hq⟩
      intro E x y a b Q ha hb hq
      obtain ⟨d, as, hd, ra, rfl⟩ := dataKind_inv ha
      obtain ⟨d', as', hd', rb, rfl⟩ := dataKind_inv hb
      have hdd := hal d hd d' hd'
      have hroom := room (d' := d') hd
      obtain ⟨xs, rfl⟩ := ht d hd
      obtain ⟨ys, rfl⟩ := ht d' hd'
      rcases hkd with rfl | rfl
      · show wpAny (model prog w) A (oneLt' false x y) Q E s
        exact oneLt_tup ra rb hdd hroom hq
      · rw [keyLt'_oneType]
        exact oneLt_tup ra rb hdd hroom hq
  · refine SortsAt.data e hal (.inl fun d hd => ?_) hu
    obtain ⟨xs, rfl⟩ := ht d hd
    cases xs with
    | nil => exact absurd hd he
    | cons x r => exact ⟨x, r, rfl⟩
end
end Ev

set_option maxHeartbeats 4000000
namespace Ev
open PySem PySem.Spec PyProof.Rows L2
mutual
theorem toPy_inj : ∀ (n : Nat) (x y : D), okD n x = true → okD n y = true → toPy x = toPy y → x = y
  | n, .non, y, hx, hy, e => by cases y <;> first | rfl | (cases e; done) | (cases n <;> cases hy)
  | n, .bl a, y, hx, hy, e => by cases y <;> first | (cases e; rfl) | (cases e; done)
  | n, .int a, y, hx, hy, e => by cases y <;> first | (cases e; rfl) | (cases e; done)
  | n, .str a, y, hx, hy, e => by cases y <;> first | (cases e; rfl) | (cases e; done)
  | 0, .tup _, _, hx, _, _ => by cases hx
  | 0, .lst _, _, hx, _, _ => by cases hx
  | n + 1, .tup l, y, hx, hy, e => by
    cases y with
    | tup m =>
      have e : PyData.tuple (toPys l) = .tuple (toPys m) := e
      injection e with e
      rw [toPys_inj n l m hx hy e]
    | _ => cases e
  | n + 1, .lst l, y, hx, hy, e => by
    cases y with
    | lst m =>
      have e : PyData.list (toPys l) = .list (toPys m) := e
      injection e with e
      rw [toPys_inj n l m hx hy e]
    | _ => cases e
  | n, .dic _, _, hx, _, _ => by cases n <;> cases hx
  | n, .ref _, _, hx, _, _ => by cases n <;> cases hx
  | n, .clo _ _, _, hx, _, _ => by cases n <;> cases hx
  | n, .exc _ _, _, hx, _, _ => by cases n <;> cases hx
theorem toPys_inj : ∀ (n : Nat) (x y : List D), x.all (okD n) = true → y.all (okD n) = true → toPys x = toPys y → x = y
  | _, [], [], _, _, _ => rfl
  | _, [], _ :: _, _, _, e => by cases e
  | _, _ :: _, [], _, _, e => by cases e
  | n, x :: xs, y :: ys, hx, hy, e => by
    rw [List.all_cons, Bool.and_eq_true] at hx hy
    have e : toPy x :: toPys xs = toPy y :: toPys ys := e
    injection e with e1 e2
    rw [toPy_inj n x y hx.1 hy.1 e1, toPys_inj n xs ys hx.2 hy.2 e2]
end
theorem alkAll_ok {l : List D} (h : alkAll l = true) : l.all (okD okDep) = true ∧ ∀ x ∈ l, ∀ y ∈ l, alkD x y = true := by
  unfold alkAll at h
  rw [Bool.and_eq_true] at h
  exact ⟨h.1, fun x hx y hy => List.all_eq_true.mp (List.all_eq_true.mp h.2 x hx) y hy⟩
theorem mem_toPys {z : PyData} : ∀ {l : List D}, z ∈ toPys l → ∃ x ∈ l, z = toPy x
  | [], h => by cases h
  | x :: r, h => by
    have h : z ∈ toPy x :: toPys r := h
    rcases List.mem_cons.mp h with e | h
    · exact ⟨x, List.mem_cons_self, e⟩
    · obtain ⟨y, hy, e⟩ := mem_toPys h
      exact ⟨y, List.mem_cons_of_mem _ hy, e⟩
theorem alkAll_py {l : List D} (h : alkAll l = true) : PySem.W.AlikeAll (toPys l) := by
  obtain ⟨_, h2⟩ := alkAll_ok h
  refine ⟨fun x hx y hy => ?_, fun x hx => ?_⟩
  · obtain ⟨a, ha, rfl⟩ := mem_toPys hx
    obtain ⟨b, hb, rfl⟩ := mem_toPys hy
    exact alk_py _ _ (h2 a ha b hb)
  · obtain ⟨a, ha, rfl⟩ := mem_toPys hx
    exact alk_nn (h2 a ha a ha)
/-- the running best, told on data -/
theorem best_py {g : D → D → Bool} {G : PyData → PyData → Bool} : ∀ (r : List D) (x : D), (∀ a ∈ x :: r, ∀ b ∈ x :: r, G (toPy a) (toPy b) = g a b) →
    (toPys r).foldl (fun a y => if G y a then y else a) (toPy x) = toPy (r.foldl (fun b y => if g y b then y else b) x)
  | [], x, _ => rfl
  | y :: r, x, h => by
    show (toPys r).foldl _ (if G (toPy y) (toPy x) = true then toPy y else toPy x) = toPy (r.foldl _ (if g y x = true then y else x))
    rw [h y (by simp) x (by simp)]
    have e : (if g y x = true then toPy y else toPy x) = toPy (if g y x = true then y else x) := by split <;> rfl
    rw [e]
    refine best_py r _ fun a ha b hb => ?_
    have sub : ∀ z, z ∈ (if g y x = true then y else x) :: r → z ∈ x :: y :: r := fun z hz => by
      rcases List.mem_cons.mp hz with rfl | hz
      · split <;> simp
      · simp [hz]
    exact h a (sub a ha) b (sub b hb)
theorem best_mem {g : D → D → Bool} : ∀ (r : List D) (x : D), r.foldl (fun b y => if g y b then y else b) x ∈ x :: r
  | [], x => by simp
  | y :: r, x => by
    have h := best_mem (g := g) r (if g y x = true then y else x)
    show r.foldl _ (if g y x = true then y else x) ∈ _
    rcases List.mem_cons.mp h with e | h
    · rw [e]; split <;> simp
    · exact List.mem_cons_of_mem _ (List.mem_cons_of_mem _ h)
section
variable {X : Cx}
/-- min, max: from the model's rule to values -/
theorem pr_best {name : String} {f : List D → Option D} {g : D → D → Bool} (hf : ∀ l d, f l = some d → ∃ x r, l = x :: r ∧ alkAll l = true ∧ d = r.foldl (fun b y => if g y b then y else b) x)
    {F : PyData → List PyData → PyData} (hF : ∀ (x : D) r, alkAll (x :: r) = true → F (toPy x) (toPys r) = toPy (r.foldl (fun b y => if g y b then y else b) x))
    (ml : ∀ {s : Shared} {l : Addr} {vs : Array Value} {x : PyData} {xs : List PyData} {as : List Addr} {Q : Value → Shared → Prop}, s.heap.IsList l vs → ReadsAll s.heap vs.toList (x :: xs) as → PySem.W.AlikeAll (x :: xs) → X.A.units + 1 + PyData.depthAll (x :: xs) < cLine →
      (∀ (i : Nat) v h' tk bs, vs[i]? = some v → Reads h' v (F x xs) bs → (∀ b o, s.heap.get? b = some o → h'.get? b = some o) → Q v { s with heap := h', toks := tk }) → wpAny (model X.prog X.w) X.A (call (.builtin name) [.ref l]) Q X.xe s)
    (mt : ∀ {s : Shared} {l : Addr} {vs : Array Value} {x : PyData} {xs : List PyData} {as : List Addr} {Q : Value → Shared → Prop}, s.heap.IsTuple l vs → ReadsAll s.heap vs.toList (x :: xs) as → PySem.W.AlikeAll (x :: xs) → X.A.units + 1 + PyData.depthAll (x :: xs) < cLine →
      (∀ (i : Nat) v h' tk bs, vs[i]? = some v → Reads h' v (F x xs) bs → (∀ b o, s.heap.get? b = some o → h'.get? b = some o) → Q v { s with heap := h', toks := tk }) → wpAny (model X.prog X.w) X.A (call (.builtin name) [.ref l]) Q X.xe s)
    (hu : X.A.units + 80 < cLine) : CallR X (.builtin name) (rPr X.K .pl fun ds => match ds with
      | [.lst l] => f l
      | [.tup l] => f l
      | _ => none) := by
  intro pins s σ H vs us Q I r h
  obtain ⟨O, C, ds, d, hC, b0, e, q⟩ := h
  have key : ∀ l, (ds = [D.lst l] ∨ ds = [D.tup l]) → f l = some d → wpAny (model X.prog X.w) X.A (call (.builtin name) us) (EP X pins σ Q) X.xe s := by
    intro l hl hfl
    obtain ⟨x, rr, rfl, hal, rfl⟩ := hf l d hfl
    have hb : ∃ v, vs = [v] ∧ (Rb X.K O C H (.lst (x :: rr)) v ∨ Rb X.K O C H (.tup (x :: rr)) v) := by
      rcases hl with rfl | rfl
      · obtain ⟨v, e, b⟩ := b0.one
        exact ⟨v, e, .inl b⟩
      · obtain ⟨v, e, b⟩ := b0.one
        exact ⟨v, e, .inr b⟩
    obtain ⟨v, rfl, b⟩ := hb
    obtain ⟨a, xs, rfl, h1, z1, r1⟩ := rb_seq b
    obtain ⟨u, rfl, ru⟩ := vals1 r
    cases ru
    have ok := (alkAll_ok hal).1
    have dep := (okD_py.all_py okDep (x :: rr) ok).2
    have e12 : okDep = 12 := rfl
    -- the end, from the place of the best one
    have fin : ∀ {its : List Value} (g1 : Vals xs its) (i : Nat) (v : Value) (h' : Heap) (tk : Nat) (bs : List Addr), its[i]? = some v → Reads h' v (F (toPy x) (toPys rr)) bs → (∀ b o, s.heap.get? b = some o → h'.get? b = some o) → EP X pins σ Q v { s with heap := h', toks := tk } := by
      intro its g1 i v h' tk bs hi hr hk
      have I' : Inv X pins σ H { s with heap := h', toks := tk } := I.kept hk
      have hlt : i < xs.length := by rw [g1.length]; exact (List.getElem?_eq_some_iff.mp hi).1
      obtain ⟨y, hy, ry⟩ : ∃ y, xs[i]? = some y ∧ RelV y v := by
        obtain ⟨u, hu', ry⟩ := g1.get (i := i) (x := xs[i]) (List.getElem?_eq_getElem hlt)
        rw [hi] at hu'; cases hu'
        exact ⟨_, List.getElem?_eq_getElem hlt, ry⟩
      obtain ⟨d', hd', rp⟩ := r1.get' hy
      have okd' := List.all_eq_true.mp ok d' (List.mem_of_getElem? hd')
      obtain ⟨as', hr'⟩ := Dp.reads I' _ y v (rp_dp okDep okd' rp) ry
      have okb := List.all_eq_true.mp ok _ (best_mem (g := g) rr x)
      rw [hF x rr hal] at hr
      have e1 := (PySem.Reads.unique hr _ _ hr').1
      have e2 := toPy_inj okDep _ _ okb okd' e1
      exact ⟨y, H, I', ry, q _ _ (fun _ => Keep.refl) (by rw [e2]; exact rp)⟩
    rcases h1 with h1 | h1
    · obtain ⟨its, g1, p1, _⟩ := I.list h1
      obtain ⟨as, hr⟩ := Dp.readsAll I _ _ its (rp_dp.all okDep r1 ok) g1
      refine ml p1.isList (x := toPy x) (xs := toPys rr) (show ReadsAll s.heap its.toArray.toList (toPys (x :: rr)) as by rw [List.toList_toArray]; exact hr) (alkAll_py hal) (by show X.A.units + 1 + PyData.depthAll (toPys (x :: rr)) < cLine; omega) fun i v h' tk bs hi hr hk => fin g1 i v h' tk bs (by simpa using hi) hr hk
    · obtain ⟨its, g1, p1, _⟩ := I.tuple h1
      obtain ⟨as, hr⟩ := Dp.readsAll I _ _ its (rp_dp.all okDep r1 ok) g1
      refine mt p1 (x := toPy x) (xs := toPys rr) (show ReadsAll s.heap its.toArray.toList (toPys (x :: rr)) as by rw [List.toList_toArray]; exact hr) (alkAll_py hal) (by show X.A.units + 1 + PyData.depthAll (toPys (x :: rr)) < cLine; omega) fun i v h' tk bs hi hr hk => fin g1 i v h' tk bs (by simpa using hi) hr hk
  simp only at e
  split at e
  · exact key _ (.inl rfl) e
  · exact key _ (.inr rfl) e
  · cases e
theorem alk_lt {x y : D} {l : List D} (h : alkAll l = true) (hx : x ∈ l) (hy : y ∈ l) : PySem.W.dataLt (toPy x) (toPy y) = ltB x y := by
  obtain ⟨h1, h2⟩ := alkAll_ok h
  exact ltB_py okDep x y (List.all_eq_true.mp h1 x hx) (List.all_eq_true.mp h1 y hy) (h2 x hx y hy)
theorem minP_eq : minP = fun ds => match ds with
    | [.lst l] => minD l
    | [.tup l] => minD l
    | _ => none := rfl
theorem maxP_eq : maxP = fun ds => match ds with
    | [.lst l] => maxD l
    | [.tup l] => maxD l
    | _ => none := rfl
theorem pr_min (hc : X.calm = true) (ok : X.Ok) (hu : X.A.units + 80 < cLine) : CallR X (.builtin "min") (rPr X.K .pl minP) := by
  rw [minP_eq]
  refine pr_best (g := ltB) (F := PySem.W.minD) (fun l d e => ?_) (fun x r h => ?_) (fun a b c d e => PySem.W.min_list_data (ok.hd hc) a b c d e) (fun a b c d e => PySem.W.min_tuple_data (ok.hd hc) a b c d e) hu
  · cases l with
    | nil => cases e
    | cons x r =>
      have e : (if alkAll (x :: r) then some (minB x r) else none) = some d := e
      split at e
      · cases e; exact ⟨x, r, rfl, by assumption, rfl⟩
      · cases e
  · exact best_py (G := PySem.W.dataLt) r x fun a ha b hb => alk_lt h ha hb
theorem pr_max (hc : X.calm = true) (ok : X.Ok) (hu : X.A.units + 80 < cLine) : CallR X (.builtin "max") (rPr X.K .pl maxP) := by
  rw [maxP_eq]
  refine pr_best (g := fun y b => ltB b y) (F := PySem.W.maxD) (fun l d e => ?_) (fun x r h => ?_) (fun a b c d e => PySem.W.max_list_data (ok.hd hc) a b c d e) (fun a b c d e => PySem.W.max_tuple_data (ok.hd hc) a b c d e) hu
  · cases l with
    | nil => cases e
    | cons x r =>
      have e : (if alkAll (x :: r) then some (maxB x r) else none) = some d := e
      split at e
      · cases e; exact ⟨x, r, rfl, by assumption, rfl⟩
      · cases e
  · exact best_py (G := fun y a => PySem.W.dataLt a y) r x fun a ha b hb => alk_lt h hb ha
end

theorem insB_perm (x : D) : ∀ l : List D, (insB x l).Perm (x :: l)
  | [] => .refl _
  | y :: r => by
    unfold insB
    split
    · exact ((insB_perm x r).cons y).trans (.swap x y r)
    · exact .refl _
theorem sortB_perm : ∀ l : List D, (sortB l).Perm l
  | [] => .refl _
  | x :: r => (insB_perm x _).trans ((sortB_perm r).cons x)
abbrev leP (x y : D) : Bool := PySem.W.dataLe false toPy x y
theorem leP_total : PySem.W.TotalLe leP := PySem.W.sortLe_total _ _ _
theorem leP_lt {l : List D} (h : alkAll l = true) {x y : D} (hx : x ∈ l) (hy : y ∈ l) : leP x y = !ltB y x := by
  rw [← alk_lt h hy hx]
  rfl
theorem sub3 {x y : D} {r : List D} (a : D) (h : a ∈ x :: r) : a ∈ x :: y :: r := by
  rcases List.mem_cons.mp h with rfl | h
  · simp
  · simp [h]
theorem insB_sort (x : D) : ∀ l : List D, (∀ a ∈ x :: l, ∀ b ∈ x :: l, leP a b = !ltB b a) → l.Pairwise (fun a b => leP a b = true) → (insB x l).Pairwise (fun a b => leP a b = true)
  | [], _, _ => List.pairwise_singleton _ _
  | y :: r, h, p => by
    obtain ⟨p1, p2⟩ := List.pairwise_cons.mp p
    have e := h x (by simp) y (by simp)
    unfold insB
    split
    · rename_i hlt
      refine List.pairwise_cons.mpr ⟨fun z hz => ?_, insB_sort x r (fun a ha b hb => h a (sub3 a ha) b (sub3 b hb)) p2⟩
      rcases List.mem_cons.mp ((insB_perm x r).mem_iff.mp hz) with rfl | hz
      · rw [hlt] at e
        exact (leP_total.total y z).elim id fun q => by rw [e] at q; cases q
      · exact p1 z hz
    · rename_i hlt
      have hxy : leP x y = true := by rw [e]; simpa using hlt
      refine List.pairwise_cons.mpr ⟨fun z hz => ?_, p⟩
      rcases List.mem_cons.mp hz with rfl | hz
      · exact hxy
      · exact leP_total.trans x y z hxy (p1 z hz)
theorem insB_stab (x c : D) : ∀ l : List D, (∀ a ∈ x :: l, ∀ b ∈ x :: l, leP a b = !ltB b a) → (insB x l).filter (PySem.W.sameRank leP c) = (x :: l).filter (PySem.W.sameRank leP c)
  | [], _ => rfl
  | y :: r, h => by
    unfold insB
    split
    · rename_i hlt
      have e := h x (by simp) y (by simp)
      rw [hlt] at e
      have ih := insB_stab x c r fun a ha b hb => h a (sub3 a ha) b (sub3 b hb)
      rw [List.filter_cons, ih]
      cases hy : PySem.W.sameRank leP c y with
      | false => simp [List.filter_cons, hy]
      | true =>
        cases hx : PySem.W.sameRank leP c x with
        | false => simp [List.filter_cons, hy, hx]
        | true =>
          exfalso
          unfold PySem.W.sameRank at hx hy
          rw [Bool.and_eq_true] at hx hy
          rw [leP_total.trans x c y hx.2 hy.1] at e
          cases e
    · rfl
theorem sortB_merge (l : List D) (h : ∀ a ∈ l, ∀ b ∈ l, leP a b = !ltB b a) : sortB l = l.mergeSort leP := by
  suffices ∀ l : List D, (∀ a ∈ l, ∀ b ∈ l, leP a b = !ltB b a) → (sortB l).Pairwise (fun a b => leP a b = true) ∧ ∀ c, (sortB l).filter (PySem.W.sameRank leP c) = l.filter (PySem.W.sameRank leP c) from PySem.W.sort_unique leP_total (this l h).1 (this l h).2
  intro l
  induction l with
  | nil => exact fun _ => ⟨.nil, fun _ => rfl⟩
  | cons x r ih =>
    intro h
    obtain ⟨h1, h2⟩ := ih fun a ha b hb => h a (List.mem_cons_of_mem _ ha) b (List.mem_cons_of_mem _ hb)
    have sub : ∀ a, a ∈ x :: sortB r → a ∈ x :: r := fun a ha => by
      rcases List.mem_cons.mp ha with rfl | ha
      · simp
      · exact List.mem_cons_of_mem _ ((sortB_perm r).mem_iff.mp ha)
    have h3 : ∀ a ∈ x :: sortB r, ∀ b ∈ x :: sortB r, leP a b = !ltB b a := fun a ha b hb => h a (sub a ha) b (sub b hb)
    refine ⟨insB_sort x _ h3 h1, fun c => ?_⟩
    show (insB x (sortB r)).filter _ = _
    rw [insB_stab x c _ h3, List.filter_cons, List.filter_cons, h2 c]
section
variable {prog : Program} {w : World} {A : Around} {E : Value → Shared → Prop} {s : Shared} {β : Type} {enc : β → PyData} {R : Value → β → Prop}
open PySem.W PySem.Calls in
/-- sorted(v), v gathered as P tells -/
theorem sorted_col {it : Value} {P : Heap → Nat → List Value → Prop} {Q : Value → Shared → Prop}
    (hcol : ∀ Rr : List Value → Shared → Prop, (∀ h1 tk vs, P h1 tk vs → Rr vs { s with heap := h1, toks := tk }) → wpAny (model prog w) A.in1 (collect it) Rr E s)
    (h : ∀ h1 tk vs, P h1 tk vs → ∃ bs : List β, EachIs R vs bs ∧ EachIs (fun v b => ∃ as, Reads h1 v (enc b) as) vs bs ∧ AllAlike (bs.map enc) ∧ Sortable2 (bs.map enc) ∧ bs.length ≤ sizeLine ∧ (∀ b, b ∈ bs → A.units + 2 + (enc b).depth < cLine) ∧
      ∀ out p h' c, out.length = bs.length → EachIs R out (bs.mergeSort (dataLe false enc)) → (∀ b o', h1.get? b = some o' → b ≠ p) → h'.get? p = some (seqObj "list" (List.toArray out) c) → (∀ b o', h1.get? b = some o' → h'.get? b = some o') → Q (.ref p) { s with heap := h', toks := tk }) :
    wpAny (model prog w) A (call (.builtin "sorted") [it]) Q E s := by
  refine call_function_entry_kw kind_sorted plain_sorted entry_sorted (args_sorted1 _) ?_
  unfold Builtin.«sorted»
  refine wpAny_bind (m := checkCount "sorted" 1 1 _) (wpAny_pure ?_)
  refine wpAny_bind (hcol _ fun h1 tk vs hP => ?_)
  obtain ⟨bs, e, er, hal, hk, hL, hu, h⟩ := h h1 tk vs hP
  have hL' : vs.length ≤ sizeLine := by rw [e.length]; exact hL
  refine wpAny_bind (wpAny_newList ?_ hL')
  have hat : (h1.push (seqObj "list" vs.toArray 0)).get? h1.objs.size = some (seqObj "list" vs.toArray 0) := Heap.get?_push_size _ rfl
  have k2 : ∀ b o', h1.get? b = some o' → (h1.push (seqObj "list" vs.toArray 0)).get? b = some o' := fun b o' q => Heap.get?_push_of_some _ q
  have hlt : ∀ b o', h1.get? b = some o' → b ≠ h1.objs.size := fun b o' q => Nat.ne_of_lt (Heap.lt_size q)
  refine wpAny_bind (wpAny_holding (wpAny_call_entry_kw slot_list_sort ⟨_, hat, rfl⟩ entry_list_sort ?body (args_list_sort _)))
  case body =>
    show wpAny (model prog w) A.in1.in1 (Builtin.«list.sort» ⟨[.ref h1.objs.size], []⟩) _ _ _
    have er' : EachIs (fun v b => ∃ as, Reads (sortingHeap (h1.push (seqObj "list" vs.toArray 0)) h1.objs.size vs) v (enc b) as) vs bs := er.mono fun _ _ ⟨as, r⟩ => ⟨as, PyProof.Rows.Reads.keeps (fun b o' q => sortingHeap_old (hlt b o' q) (k2 b o' q)) r⟩
    refine list_sort_vals (κ := dataKind (sortingHeap (h1.push (seqObj "list" vs.toArray 0)) h1.objs.size vs) (bs.map enc)) hat (Ev.SortsAt.data2 (s := { s with heap := sortingHeap (h1.push (seqObj "list" vs.toArray 0)) h1.objs.size vs, toks := tk }) (each_map (R := fun v d => ∃ as, Reads (sortingHeap (h1.push (seqObj "list" vs.toArray 0)) h1.objs.size vs) v d as) enc er') hal hk (bound_map hu)) hL' ?_
    refine ⟨_, rfl, wpAny_pure ⟨_, rfl, ?_⟩⟩
    obtain ⟨c, hcc⟩ := sortedHeap_at (vs := vs) (out := (sortVals (dataKind (sortingHeap (h1.push (seqObj "list" vs.toArray 0)) h1.objs.size vs) (bs.map enc)) false vs vs).toArray) hat
    refine h _ _ _ c ?_ (sortVals_data false e er' hal) hlt hcc fun b o' q => ?_
    · rw [sortVals_length false rfl]; exact e.length
    · refine (sortedHeap_old (hlt b o' q) ?_).trans (k2 b o' q)
      have hz := Heap.lt_size q
      show _ < (h1.push (seqObj "list" vs.toArray 0)).objs.size
      rw [size_push']
      exact Nat.lt_succ_of_lt hz
end
section
variable {X : Cx}
open PySem.W in
/-- what sorting asks of values, and what it gives -/
theorem sort_data {pins : List (Addr × Obj)} {σ : SSt} {H : Hp} {s : Shared} {O C : List Addr} {l m : List D} {xs : List V} {its : List Value} (hu : X.A.units + 80 < cLine) (I : Inv X pins σ H s) (r1 : RpAll X.K O C H l xs) (g1 : Vals xs its) (z1 : xs.length ≤ sizeLine) (hm : sortD l = some m) :
    ∃ bs : List (V × D), EachIs (fun v (p : V × D) => RelV p.1 v) its bs ∧ EachIs (fun v (p : V × D) => ∃ as, Reads s.heap v (toPy p.2) as) its bs ∧ AllAlike (bs.map fun p => toPy p.2) ∧ Sortable2 (bs.map fun p => toPy p.2) ∧ bs.length ≤ sizeLine ∧ (∀ p, p ∈ bs → X.A.units + 2 + (toPy p.2).depth < cLine) ∧
      ∀ out p h' c tk, out.length = bs.length → EachIs (fun v (p : V × D) => RelV p.1 v) out (bs.mergeSort (dataLe false fun p => toPy p.2)) → (∀ b o', s.heap.get? b = some o' → b ≠ p) → h'.get? p = some (seqObj "list" (List.toArray out) c) → (∀ b o', s.heap.get? b = some o' → h'.get? b = some o') →
        ∃ ys, Inv X pins σ (upd H p (.lst ys)) { s with heap := h', toks := tk } ∧ (∀ Z, Keep Z H (upd H p (.lst ys))) ∧ Rv .fr X.K O C H (upd H p (.lst ys)) (.lst m) (.ref p) := by
  unfold sortD at hm
  split at hm
  case isFalse => cases hm
  rename_i hcond
  cases hm
  rw [Bool.and_eq_true, Bool.or_eq_true] at hcond
  obtain ⟨hal, hkind⟩ := hcond
  obtain ⟨hok, _⟩ := alkAll_ok hal
  have hpair : ∃ bs : List (V × D), bs.map (·.1) = xs ∧ bs.map (·.2) = l ∧ (∀ p ∈ bs, Rp X.K O C H p.2 p.1) ∧ EachIs (fun v (p : V × D) => RelV p.1 v) its bs := by
    have : ∀ (l : List D) (xs : List V) (its : List Value), RpAll X.K O C H l xs → Vals xs its → ∃ bs : List (V × D), bs.map (·.1) = xs ∧ bs.map (·.2) = l ∧ (∀ p ∈ bs, Rp X.K O C H p.2 p.1) ∧ EachIs (fun v (p : V × D) => RelV p.1 v) its bs := by
      intro l
      induction l with
      | nil => intro xs its r v; cases r; cases v; exact ⟨[], rfl, rfl, by simp, .nil⟩
      | cons x t ih =>
        intro xs its r v
        cases r with
        | cons r1 r2 =>
          cases v with
          | cons v1 v2 =>
            obtain ⟨bs, e1, e2, e3, e4⟩ := ih _ _ r2 v2
            exact ⟨(_, x) :: bs, by simp [e1], by simp [e2], by intro p hp; rcases List.mem_cons.mp hp with rfl | hp; exact r1; exact e3 p hp, .cons v1 e4⟩
    exact this l xs its r1 g1
  obtain ⟨bs, ex, el, hrp, hea⟩ := hpair
  have hmem : ∀ p ∈ bs, p.2 ∈ l := fun p hp => el ▸ List.mem_map_of_mem hp
  have hokp : ∀ p ∈ bs, okD okDep p.2 = true := fun p hp => List.all_eq_true.mp hok _ (hmem p hp)
  have her : EachIs (fun v (p : V × D) => ∃ as, Reads s.heap v (toPy p.2) as) its bs := (each_mem hea).mono fun v p ⟨rv, hp⟩ => Dp.reads I _ _ _ (rp_dp okDep (hokp p hp) (hrp p hp)) rv
  have hal' : AllAlike (bs.map fun p => toPy p.2) := by
    intro x hx y hy
    obtain ⟨p, hp, rfl⟩ := List.mem_map.mp hx
    obtain ⟨p', hp', rfl⟩ := List.mem_map.mp hy
    exact alk_py _ _ ((alkAll_ok hal).2 _ (hmem p hp) _ (hmem p' hp'))
  have hk' : Sortable2 (bs.map fun p => toPy p.2) := by
    rcases hkind with hkind | hkind
    · refine .inr fun x hx => ?_
      obtain ⟨p, hp, rfl⟩ := List.mem_map.mp hx
      have t := List.all_eq_true.mp hkind _ (hmem p hp)
      unfold isTupC at t
      split at t
      · rename_i y e
        rw [e]
        exact ⟨toPys y, rfl⟩
      · cases t
    · refine .inl (.inr fun x hx => ?_)
      obtain ⟨p, hp, rfl⟩ := List.mem_map.mp hx
      have t := List.all_eq_true.mp hkind _ (hmem p hp)
      have t2 := hokp p hp
      generalize p.2 = y at t t2
      cases y with
      | non => exact absurd t (by decide)
      | tup l => exact absurd (show false = true from t) (by decide)
      | bl b => exact ⟨fun q => (by cases (show PyData.bool b = PyData.none from q)), fun _ q => (by cases (show PyData.bool b = PyData.tuple _ from q))⟩
      | int b => exact ⟨fun q => (by cases (show PyData.int b = PyData.none from q)), fun _ q => (by cases (show PyData.int b = PyData.tuple _ from q))⟩
      | str b => exact ⟨fun q => (by cases (show PyData.str b = PyData.none from q)), fun _ q => (by cases (show PyData.str b = PyData.tuple _ from q))⟩
      | lst b => exact ⟨fun q => (by cases (show PyData.list (toPys b) = PyData.none from q)), fun _ q => (by cases (show PyData.list (toPys b) = PyData.tuple _ from q))⟩
      | dic _ => exact absurd (show false = true from t2) (by decide)
      | ref _ => exact absurd (show false = true from t2) (by decide)
      | clo _ _ => exact absurd (show false = true from t2) (by decide)
      | exc _ _ => exact absurd (show false = true from t2) (by decide)
  have hlen : bs.length = xs.length := by rw [← ex, List.length_map]
  refine ⟨bs, hea, her, hal', hk', by rw [hlen]; exact z1, fun p hp => ?_, fun out p h' c tk hlo heo hnew hat k => ?_⟩
  · have := (okD_py okDep _ (hokp p hp)).2
    show X.A.units + 2 + (toPy p.2).depth < cLine
    unfold okDep at this
    omega
  · have hn : H p = none := by
      cases qq : H p with
      | none => rfl
      | some o' => obtain ⟨u, hu⟩ := objOk_get (I.hok p o' qq); exact absurd rfl (hnew _ _ hu)
    have hg : s.heap.get? p = none := by
      cases qq : s.heap.get? p with
      | none => rfl
      | some o' => exact absurd rfl (hnew _ _ qq)
    have hperm := List.mergeSort_perm bs (dataLe false fun p => toPy p.2)
    have hz : ((bs.mergeSort (dataLe false fun p => toPy p.2)).map (·.1)).length ≤ sizeLine := by rw [List.length_map, hperm.length_eq, hlen]; exact z1
    have hv : Vals ((bs.mergeSort (dataLe false fun p => toPy p.2)).map (·.1)) out := by
      generalize bs.mergeSort (dataLe false fun p => toPy p.2) = cs at heo
      clear hlo hat
      induction heo with
      | nil => exact .nil
      | cons a b ih => exact .cons a ih
    have hr : RpAll X.K O C H (sortB l) ((bs.mergeSort (dataLe false fun p => toPy p.2)).map (·.1)) := by
      have e1 : sortB l = (bs.mergeSort (dataLe false fun p => toPy p.2)).map (·.2) := by
        rw [sortB_merge l fun a ha b hb => leP_lt hal ha hb, ← el]
        exact (List.map_mergeSort (f := fun (p : V × D) => p.2) (fun a _ b _ => rfl)).symm
      rw [e1]
      have hin : ∀ p ∈ bs.mergeSort (dataLe false fun p => toPy p.2), Rp X.K O C H p.2 p.1 := fun p hp => hrp p (hperm.mem_iff.mp hp)
      generalize bs.mergeSort (dataLe false fun p => toPy p.2) = cs at hin
      clear heo hz hv e1
      induction cs with
      | nil => exact .nil
      | cons p t ih => exact .cons (hin p (by simp)) (ih fun q hq => hin q (by simp [hq]))
    exact ⟨_, I.laidN (t' := tk) k hg hn ⟨hz, out, c, hv, hat⟩, fun _ => Keep.new hn, Rv.fr_new hn hz hr⟩
theorem intsOf_eq : ∀ {l : List D} {ns : List Int}, intsOf l = some ns → l = ns.map D.int
  | [], _, e => by cases e; rfl
  | .int i :: r, _, e => by
    obtain ⟨ms, e1, rfl⟩ := Option.map_eq_some_iff.mp (show (intsOf r).map (i :: ·) = some _ from e)
    rw [List.map_cons, ← intsOf_eq e1]
  | .non :: _, _, e | .bl _ :: _, _, e | .str _ :: _, _, e | .tup _ :: _, _, e | .lst _ :: _, _, e | .dic _ :: _, _, e | .ref _ :: _, _, e | .clo _ _ :: _, _, e | .exc _ _ :: _, _, e => by cases e
theorem keys_ents : ∀ (kvs : List (Key × V)) (ds ks : List D), ds.length = kvs.length → keysOf (entsK kvs ds) = some ks → ks = kvs.map fun p => keyD p.1
  | [], ds, ks, _, e => by cases ds <;> (cases e; rfl)
  | p :: r, [], ks, h, _ => by cases h
  | p :: r, d :: ds, ks, h, e => by
    obtain ⟨ms, e1, rfl⟩ := Option.map_eq_some_iff.mp (show (keysOf (entsK r ds)).map (keyD p.1 :: ·) = some ks from e)
    rw [List.map_cons, ← keys_ents r ds ms (Nat.succ.inj h) e1]
theorem keys_int : ∀ (kvs : List (Key × V)) (ns : List Int), ns.map D.int = kvs.map (fun p => keyD p.1) → kvs.map (·.1) = ns.map Sum.inl
  | [], [], _ => rfl
  | [], _ :: _, e => by cases e
  | _ :: _, [], e => by cases e
  | (.inl i, v) :: r, n :: ns, e => by
    rw [List.map_cons, List.map_cons] at e
    injection e with e1 e2
    injection e1 with e1
    rw [List.map_cons, List.map_cons, keys_int r ns e2, e1]
  | (.inr i, v) :: r, n :: ns, e => by
    rw [List.map_cons, List.map_cons] at e
    injection e with e1 e2
    cases e1
theorem ints_rp {K : Frag} {O C : List Addr} {H : Hp} : ∀ ns : List Int, RpAll K O C H (ns.map D.int) (ns.map V.int)
  | [] => .nil
  | n :: r => .cons (.int n) (ints_rp r)
theorem insB_int (x : Int) : ∀ l : List Int, ∃ m : List Int, insB (.int x) (l.map D.int) = m.map D.int ∧ m.Perm (x :: l) ∧ (l.Pairwise (· ≤ ·) → m.Pairwise (· ≤ ·))
  | [] => ⟨[x], rfl, .refl _, fun _ => List.pairwise_singleton _ _⟩
  | y :: r => by
    obtain ⟨m, e, p, s⟩ := insB_int x r
    show ∃ m : List Int, (if ltB (.int y) (.int x) then D.int y :: insB (.int x) (r.map D.int) else D.int x :: D.int y :: r.map D.int) = m.map D.int ∧ _
    by_cases h : y < x
    · rw [if_pos (show ltB (.int y) (.int x) = true from decide_eq_true h), e]
      refine ⟨y :: m, rfl, (p.cons y).trans (.swap x y r), fun q => ?_⟩
      obtain ⟨q1, q2⟩ := List.pairwise_cons.mp q
      refine List.pairwise_cons.mpr ⟨fun z hz => ?_, s q2⟩
      rcases List.mem_cons.mp (p.mem_iff.mp hz) with rfl | hz
      · omega
      · exact q1 z hz
    · rw [if_neg (show ¬ ltB (.int y) (.int x) = true by show ¬ decide (y < x) = true; simp; omega)]
      refine ⟨x :: y :: r, rfl, .refl _, fun q => ?_⟩
      obtain ⟨q1, q2⟩ := List.pairwise_cons.mp q
      refine List.pairwise_cons.mpr ⟨fun z hz => ?_, q⟩
      rcases List.mem_cons.mp hz with rfl | hz
      · omega
      · exact Int.le_trans (by omega) (q1 z hz)
theorem sortB_int : ∀ l : List Int, ∃ m : List Int, sortB (l.map D.int) = m.map D.int ∧ m.Perm l ∧ m.Pairwise (· ≤ ·)
  | [] => ⟨[], rfl, .refl _, .nil⟩
  | x :: r => by
    obtain ⟨m, e, p, s⟩ := sortB_int r
    obtain ⟨m2, e2, p2, s2⟩ := insB_int x m
    refine ⟨m2, ?_, p2.trans (p.cons x), s2 s⟩
    show insB (.int x) (sortB (r.map D.int)) = _
    rw [e, e2]
theorem sortB_ints {ns ys : List Int} (p : ys.Perm ns) (s : ys.Pairwise (· ≤ ·)) : sortB (ns.map D.int) = ys.map D.int := by
  obtain ⟨m, e, p2, s2⟩ := sortB_int ns
  rw [e, List.Perm.eq_of_pairwise (fun a b _ _ h1 h2 => Int.le_antisymm h1 h2) s2 s (p2.trans p.symm)]
open PySem.W in
theorem pr_sorted (hcalm : X.calm = true) (hu : X.A.units + 80 < cLine) : CallR X (.builtin "sorted") (rPr X.K .fr sortP) := by
  intro pins s σ H vs us Q I r h
  obtain ⟨O, C, ds, d, hC, b0, e, q⟩ := h
  have key : ∀ l m, (ds = [D.lst l] ∨ ds = [D.tup l]) → sortD l = some m → d = .lst m → wpAny (model X.prog X.w) X.A (call (.builtin "sorted") us) (EP X pins σ Q) X.xe s := by
    intro l m hl hm hd
    subst hd
    have hb : ∃ v, vs = [v] ∧ (Rb X.K O C H (.lst l) v ∨ Rb X.K O C H (.tup l) v) := by
      rcases hl with rfl | rfl
      · obtain ⟨v, e, b⟩ := b0.one
        exact ⟨v, e, .inl b⟩
      · obtain ⟨v, e, b⟩ := b0.one
        exact ⟨v, e, .inr b⟩
    obtain ⟨v, rfl, b⟩ := hb
    obtain ⟨a, xs, rfl, h1, z1, r1⟩ := rb_seq b
    obtain ⟨u, rfl, ru⟩ := vals1 r
    cases ru
    have hseq : ∃ (its : List Value) (T : String) (o : Obj) (n : Nat), Vals xs its ∧ (T = "list" ∨ T = "tuple") ∧ s.heap.get? a = some o ∧ o.cls = .type T ∧ o.data = .seq its.toArray n := by
      rcases h1 with h1 | h1
      · obtain ⟨its, g1, ⟨o, n, a1, a2, a3, a4⟩, _⟩ := I.list h1
        exact ⟨its, "list", o, n, g1, .inl rfl, a1, a2, a4⟩
      · obtain ⟨its, g1, ⟨o, a1, a2, n, a3⟩, _⟩ := I.tuple h1
        exact ⟨its, "tuple", o, n, g1, .inr rfl, a1, a2, a3⟩
    obtain ⟨its, T, o, n, g1, hT, ho, hc, hd⟩ := hseq
    have hlen : its.length ≤ sizeLine := by rw [← g1.length]; exact z1
    refine sorted_col (P := fun h1 tk vs => vs = its ∧ tk = s.toks ∧ ∀ b o', s.heap.get? b = some o' → h1.get? b = some o') (R := fun v (p : V × D) => RelV p.1 v) (enc := fun p => toPy p.2)
      (fun Rr hR => wpAny_collect_seq a hT ho hc hd (fun h1 k1 => hR h1 s.toks its ⟨rfl, rfl, k1⟩) (by simpa using hlen)) fun h1 tk vs hP => ?_
    obtain ⟨rfl, rfl, k1⟩ := hP
    have I1 : Inv X pins σ H { s with heap := h1, toks := s.toks } := I.kept k1
    obtain ⟨bs, c1, c2, c3, c4, c5, c6, fin⟩ := sort_data hu I1 r1 g1 z1 hm
    refine ⟨bs, c1, c2, c3, c4, c5, c6, fun out p h' c e1 e2 e3 e4 e5 => ?_⟩
    obtain ⟨ys, J, kk, R⟩ := fin out p h' c s.toks e1 e2 e3 e4 e5
    exact ⟨.ref p, _, J, rfl, q _ _ kk R⟩
  unfold sortP at e
  split at e
  · obtain ⟨m, e1, e2⟩ := Option.map_eq_some_iff.mp e
    exact key _ _ (.inl rfl) e1 e2.symm
  · obtain ⟨m, e1, e2⟩ := Option.map_eq_some_iff.mp e
    exact key _ _ (.inr rfl) e1 e2.symm
  · rename_i l
    obtain ⟨ks, e1, e⟩ := Option.bind_eq_some_iff.mp e
    split at e
    case isFalse => cases e
    rename_i hc2
    rw [Bool.and_eq_true, decide_eq_true_eq] at hc2
    cases e
    obtain ⟨ns, hns⟩ := Option.isSome_iff_exists.mp hc2.1
    obtain ⟨v, rfl, b⟩ := b0.one
    obtain ⟨a, o, kvs, ds', rfl, hd, z, rfl, rr⟩ := b.dic
    obtain rfl := intsOf_eq hns
    have hk := keys_ents kvs ds' _ (by rw [rr.length, List.length_map]) e1
    refine call_sortedDI hcalm pins s σ H _ us Q I r ⟨a, kvs, ns, rfl, .inr ⟨o, hd⟩, keys_int kvs ns hk, by simpa using hc2.2, fun ys p hp1 hp2 hn => ?_⟩
    have hy : sortB (ns.map D.int) = ys.map D.int := sortB_ints hp1 hp2
    rw [hy] at q
    have hz : (ys.map V.int).length ≤ sizeLine := by rw [List.length_map, hp1.length_eq, sizeLine_eq]; have := hc2.2; rw [List.length_map] at this; omega
    exact q _ _ (fun _ => Keep.new hn) (Rv.fr_new hn hz (ints_rp ys))
  · cases e
end
end Ev

set_option maxHeartbeats 4000000
namespace Ev
open PySem PySem.Spec PyProof.Rows L2
def tyN : Nat → String
  | 0 => "NoneType"
  | 1 => "bool"
  | 2 => "int"
  | 3 => "str"
  | 4 => "tuple"
  | _ => "list"
/-- the class that is asked -/
def isiT : Prim → Option String
  | .isInt => some "int"
  | .isBool => some "bool"
  | .isStr => some "str"
  | .isTup => some "tuple"
  | .isLst => some "list"
  | _ => none
theorem tyD_le {d : D} {n : Nat} (h : tyD d = some n) : n ≤ 5 := by
  cases d <;> first | (cases h; decide) | cases h
theorem isi_kit {K : Frag} {p : Prim} {T : String} {n : Nat} (h : isiT p = some T) (hn : n ≤ 5) : PySem.W.kitOne K (.type (tyN n)) (.type T) = some (tyIs p n) := by
  have hn : n = 0 ∨ n = 1 ∨ n = 2 ∨ n = 3 ∨ n = 4 ∨ n = 5 := by omega
  cases p <;> first | (cases h; done) | (cases h; rcases hn with rfl | rfl | rfl | rfl | rfl | rfl <;> exact kit_ty (by decide +kernel))
section
variable {K : Frag} {O C : List Addr} {H : Hp}
theorem rb_ty {d : D} {v : V} {n : Nat} (b : Rb K O C H d v) (h : tyD d = some n) : TyX K H v (.type (tyN n)) := by
  cases d with
  | non => cases h; cases b.non; exact .base .non
  | bl x => cases h; cases b.bl; exact .base (.bl x)
  | int x => cases h; cases b.int; exact .base (.int x)
  | str x => cases h; cases b.str; exact .base (.str x)
  | tup l =>
    cases h
    obtain ⟨a, xs, rfl, h1, z, r⟩ := b.tup
    rcases h1 with (h1 | ⟨o, h1⟩) | h1
    · exact .base (.tup h1)
    · exact .fTuple h1
    · obtain ⟨o, _, _, e, c, _⟩ := h1
      exact .kTuple e c
  | lst l =>
    cases h
    obtain ⟨a, xs, rfl, h1, z, r⟩ := b.lst
    rcases h1 with (h1 | ⟨o, h1⟩) | h1
    · exact .base (.lst h1)
    · exact .base (.frz h1)
    · obtain ⟨o, _, _, e, c, _⟩ := h1
      exact .kList e c
  | _ => cases h
end
section
variable {X : Cx}
/-- isinstance(x, T) -/
def rIsiE (K : Frag) (p : Prim) (T : String) : List V → Hp → VK → Prop := fun vs H Q => ∃ v, vs = [v, .ty T] ∧ rPr K .fr (isP p) [v] H Q
theorem pr_isi {p : Prim} {T : String} (hT : isiT p = some T) : CallR X (.builtin "isinstance") (rIsiE X.K p T) := by
  intro pins s σ H vs us Q I r h
  obtain ⟨v, rfl, O, C, ds, d, hC, b0, e, q⟩ := h
  unfold isP at e
  split at e
  · obtain ⟨n, e1, rfl⟩ := Option.map_eq_some_iff.mp e
    obtain ⟨v', hv, b⟩ := b0.one
    cases hv
    exact call_isi pins s σ H _ us Q I r ⟨v, .ty T, _, _, tyIs p n, rfl, .ty T, rb_ty b e1, isi_kit hT (tyD_le e1), q _ _ (fun _ => Keep.refl) (Rp.bl _)⟩
  · cases e
/-- isinstance(x, (tuple, list)) -/
def rIsiTE (K : Frag) : List V → Hp → VK → Prop := fun vs H Q => ∃ v t, vs = [v, .ref t] ∧ H t = some (.tup [.ty "tuple", .ty "list"]) ∧ rPr K .fr (isP .isTupLst) [v] H Q
theorem pr_isiT : CallR X (.builtin "isinstance") (rIsiTE X.K) := by
  intro pins s σ H vs us Q I r h
  obtain ⟨v, t, rfl, ht, O, C, ds, d, hC, b0, e, q⟩ := h
  unfold isP at e
  split at e
  · obtain ⟨n, e1, rfl⟩ := Option.map_eq_some_iff.mp e
    obtain ⟨v', hv, b⟩ := b0.one
    cases hv
    have hn := tyD_le e1
    have hk : PySem.W.kitAny X.K (.type (tyN n)) [.type "tuple", .type "list"] = some (tyIs .isTupLst n) := by
      refine kitAny_cons (isi_kit (p := .isTup) rfl hn) (fun h0 => kitAny_cons (isi_kit (p := .isLst) rfl hn) (fun h1 => ?_) fun h1 => ?_) fun h1 => ?_
      · show some false = _
        have h0 : (n == 4) = false := h0
        have h1 : (n == 5) = false := h1
        show _ = some (n == 4 || n == 5)
        rw [h0, h1]; rfl
      · have h1 : (n == 5) = true := h1
        show (n == 4 || n == 5) = true
        rw [h1, Bool.or_true]
      · have h1 : (n == 4) = true := h1
        show (n == 4 || n == 5) = true
        rw [h1, Bool.true_or]
    exact call_isiT pins s σ H _ us Q I r ⟨v, t, _, _, _, tyIs .isTupLst n, rfl, ht, .cons (.ty _) (.cons (.ty _) .nil), rb_ty b e1, hk, q _ _ (fun _ => Keep.refl) (Rp.bl _)⟩
  · cases e
theorem pr_gcd : CallR X (.builtin "math.gcd") (rPr X.K .fr gcdP) := by
  intro pins s σ H vs us Q I r h
  obtain ⟨O, C, ds, d, hC, b0, e, q⟩ := h
  unfold gcdP at e
  split at e
  · cases e
    obtain ⟨v, w, rfl, b1, b2⟩ := b0.two
    cases b1.int
    cases b2.int
    exact cr_gcd pins s σ H _ us Q I r ⟨_, _, rfl, q _ _ (fun _ => Keep.refl) (Rp.int _)⟩
  · cases e
end
end Ev

set_option maxHeartbeats 4000000
namespace Ev
open PySem PySem.Spec PyProof.Rows L2
def kdP : Prim → Kd
  | .min => .pl
  | .max => .pl
  | _ => .fr
/-- how an expression's value lies -/
def kd : E → Kd
  | .brw _ => .br
  | .lst _ => .fr
  | .bin _ _ _ => .fr
  | .slc _ _ _ => .fr
  | .rev _ => .fr
  | .prim p _ => kdP p
  | .comp _ _ _ _ _ _ => .fr
  | .chn _ _ _ _ _ => .fr
  | .sitems _ => .fr
  | .cmp _ _ _ => .fr
  | _ => .pl
def isBr : Kd → Bool
  | .br => true
  | _ => false
def isFr : Kd → Bool
  | .fr => true
  | _ => false
section
variable {K : Frag} {O C : List Addr} {H0 H H1 H' : Hp} {d : D} {v : V} {m m' : Mem} {ρ : Env} {σ : SSt} {k : Kd}
theorem MemOk.alC (h : MemOk K O C H m) : ∀ a ∈ C, ∃ o, H a = some o := fun a ha => h.al a (h.sub a ha)
theorem Rv.rb (M : MemOk K O C H0 m) (h : Rv k K O C H0 H d v) : Rb K O C H d v := by
  cases k with
  | br => exact h
  | pl => exact Rp.rb M.sub (by cases d <;> exact h)
  | fr =>
    cases d with
    | lst ds =>
      obtain ⟨p, xs, rfl, hp, e, z, r⟩ := h
      exact ⟨p, xs, rfl, .inl ⟨.inl e, fun q => by obtain ⟨o, e'⟩ := M.alC p q; rw [hp] at e'; cases e'⟩, z, r.less⟩
    | _ => exact Rp.rb M.sub h
theorem Rv.pl (M : MemOk K O C H0 m) (nb : isBr k = false) (h : Rv k K O C H0 H d v) : Rp K O C H d v := by
  cases k with
  | br => cases nb
  | pl => cases d <;> exact h
  | fr => exact Rv.pl_of h M.al
theorem Rv.base (k1 : Keep C H H1) (M : MemOk K O C H1 m) (h : Rv k K O C H1 H' d v) : Rv k K O C H H' d v := by
  cases k with
  | br => exact h
  | pl => cases d <;> exact h
  | fr =>
    cases d with
    | lst ds =>
      obtain ⟨p, xs, rfl, hp, e, z, r⟩ := h
      refine ⟨p, xs, rfl, ?_, e, z, r⟩
      cases q : H p with
      | none => rfl
      | some o =>
        by_cases hc : p ∈ C
        · obtain ⟨o', e'⟩ := M.alC p hc
          rw [hp] at e'; cases e'
        · rw [k1.ob p o q hc] at hp; cases hp
    | _ => exact h
end
/-- a new list stands apart from all that stands -/
def FrM (k : Kd) (K : Frag) (O C : List Addr) (H : Hp) (m : Mem) (d : D) (v : V) : Prop := match k with
  | .fr => ∀ ds p, d = .lst ds → v = .ref p → MemOk K (p :: O) C H m
  | _ => True
theorem MemOk.moreO {K : Frag} {O C : List Addr} {H1 H' : Hp} {m : Mem} {p : Addr} {o : HO} (M : MemOk K O C H1 m) (hp : H1 p = none) (k : ∀ Z, Keep Z H1 H') (e : H' p = some o) : MemOk K (p :: O) C H' m := by
  refine ⟨M.len, fun n a d e1 e2 => ?_, fun a ha => List.mem_cons_of_mem _ (M.sub a ha), M.nd, fun a ha => ?_⟩
  · have := M.at_ n a d e1 e2
    cases d with
    | lst ds =>
      obtain ⟨xs, e, z, r⟩ := this
      exact ⟨xs, (k []).ob a _ e (by simp), z, (r.more hp).move (Z := []) (by simp) (k []) (fun _ n => n) fun _ _ e => e⟩
    | _ => exact this.elim
  · rcases List.mem_cons.mp ha with rfl | ha
    · exact ⟨o, e⟩
    · obtain ⟨o', e'⟩ := M.al a ha
      exact ⟨o', (k []).ob a o' e' (by simp)⟩
theorem Rv.frm {k : Kd} {K : Frag} {O C : List Addr} {H2 H' : Hp} {m : Mem} {d : D} {v : V} (M : MemOk K O C H2 m) (kk : ∀ Z, Keep Z H2 H') (R : Rv k K O C H2 H' d v) : FrM k K O C H' m d v := by
  cases k with
  | fr =>
    intro ds p ed ev
    subst ed
    obtain ⟨p', xs, e, hp, e2, _⟩ := R
    rw [ev] at e; cases e
    exact M.moreO hp kk e2
  | _ => trivial
/-- an expression, read by its evaluator -/
def tE (K : Frag) (φ : Phi) (e : E) : TE := fun σ H Q => ∃ O C ρ m r m', MemOk K O C H m ∧ EnvOk K O C H ρ σ ∧ evE φ e ρ m = .ok r m' ∧
  ∀ v H', Keep C H H' → MemOk K O C H' m' → Rv (kd e) K O C H H' r v → FrM (kd e) K O C H' m' r v → Q v H'
def tT (K : Frag) (φ : Phi) (e : E) : TT := fun σ H Q => ∃ O C ρ m r m' t, MemOk K O C H m ∧ EnvOk K O C H ρ σ ∧ evE φ e ρ m = .ok r m' ∧ truD r = some t ∧
  ∀ H', Keep C H H' → MemOk K O C H' m' → Q t H'
def RaAll (b : Bool) (K : Frag) (O C : List Addr) (H : Hp) (ds : List D) (vs : List V) : Prop := match b with
  | true => RpAll K O C H ds vs
  | false => RbAll K O C H ds vs
def tA (b : Bool) (K : Frag) (φ : Phi) (e : E) : TA := fun σ H Q => ∃ O C ρ m ds m', MemOk K O C H m ∧ EnvOk K O C H ρ σ ∧ evE φ e ρ m = .ok (.tup ds) m' ∧
  ∀ vs H', Keep C H H' → MemOk K O C H' m' → RaAll b K O C H' ds vs → Q vs H'
/-- a call of the function f by values -/
def spF (K : Frag) (φ : Phi) (n f : Nat) : Sp := fun vs H Q _ => vs.length = n ∧ ∃ O C m ds r m', MemOk K O C H m ∧ RpAll K O C H ds vs ∧ φ f ds m = .ok r m' ∧
  ∀ v H', Keep C H H' → MemOk K O C H' m' → Rp K O C H' r v → Q v H'
theorem pe_imp {X : Cx} {e : Expr} {t t' : TE} (h : PE X e t) (i : ∀ σ H Q, t' σ H Q → t σ H Q) : PE X e t' := ⟨fun pins s σ H Q I q => h.run pins s σ H Q I (i σ H Q q)⟩
theorem pt_imp {X : Cx} {e : Expr} {t t' : TT} (h : PT X e t) (i : ∀ σ H Q, t' σ H Q → t σ H Q) : PT X e t' := ⟨fun pins s σ H Q I q => h.run pins s σ H Q I (i σ H Q q)⟩
theorem pa_imp {X : Cx} {e : List Expr} {t t' : TA} (h : PA X e t) (i : ∀ σ H Q, t' σ H Q → t σ H Q) : PA X e t' := ⟨fun pos pins s σ H Q I q => h.run pos pins s σ H Q I (i σ H Q q)⟩
section
variable {K : Frag} {φ : Phi} {X : Cx} {σ : SSt} {H : Hp} {Q : VK}
/-- read one expression, go on -/
theorem tE.go {e : E} {O C : List Addr} {ρ : Env} {m m' : Mem} {r : D} (M : MemOk K O C H m) (En : EnvOk K O C H ρ σ) (ev : evE φ e ρ m = .ok r m')
    (h : ∀ v H', Keep C H H' → MemOk K O C H' m' → EnvOk K O C H' ρ σ → Rv (kd e) K O C H H' r v → Q v H') : tE K φ e σ H Q :=
  ⟨O, C, ρ, m, r, m', M, En, ev, fun v H' k M' R _ => h v H' k M' (En.keep M.sub k) R⟩
theorem tE_slot {i : Nat} : tE K φ (.slot i) σ H Q → tVar i σ H Q := by
  rintro ⟨O, C, ρ, m, r, m', M, En, ev, q⟩
  have ev : (match ρ[i]? with | some (some (.val d)) => Out.ok d m | _ => .no) = .ok r m' := ev
  split at ev
  · rename_i d hd
    cases ev
    obtain ⟨v, e1, r1⟩ := En.val i r hd
    exact ⟨v, e1, q v H Keep.refl M (by cases r <;> exact r1) trivial⟩
  · cases ev
theorem tE_brw {i : Nat} : tE K φ (.brw i) σ H Q → tVar i σ H Q := by
  rintro ⟨O, C, ρ, m, r, m', M, En, ev, q⟩
  have ev : (match ρ[i]? with | some (some (.own d)) => Out.ok d m | _ => .no) = .ok r m' := ev
  split at ev
  · rename_i d hd
    cases ev
    obtain ⟨a, e1, h1, h2, h3⟩ := En.own i r hd
    refine ⟨.ref a, e1, q _ H Keep.refl M ?_ trivial⟩
    show Rb K O C H r _
    cases r with
    | lst ds =>
      obtain ⟨xs, e2, z, r⟩ := h3
      exact ⟨a, xs, rfl, .inl ⟨.inl e2, h2⟩, z, r⟩
    | _ => exact h3.elim
  · cases ev
theorem tE_cst {d : D} {v : V} (h : ∀ O C H, Rp K O C H d v) : tE K φ (.cst d) σ H Q → tC v σ H Q := by
  rintro ⟨O, C, ρ, m, r, m', M, En, ev, q⟩
  cases ev
  exact q v H Keep.refl M (by cases d <;> exact h O C H) trivial
theorem RaAll.len {b : Bool} {O C : List Addr} {ds : List D} {vs : List V} (h : RaAll b K O C H ds vs) : ds.length = vs.length := by
  cases b with
  | true => exact RpAll.length h
  | false =>
    have h2 : RbAll K O C H ds vs := h
    clear h
    induction h2 with
    | nil => rfl
    | cons a b ih => exact congrArg (· + 1) ih
theorem RaAll.keep {b : Bool} {O C : List Addr} {H' : Hp} {ds : List D} {vs : List V} (hC : ∀ a ∈ C, a ∈ O) (k : Keep C H H') (h : RaAll b K O C H ds vs) : RaAll b K O C H' ds vs := by
  cases b with
  | true => exact RpAll.keep hC k h
  | false =>
    have h2 : RbAll K O C H ds vs := h
    clear h
    induction h2 with
    | nil => exact RbAll.nil
    | cons a b ih => exact RbAll.cons (a.keep hC k) ih
theorem tA_nil {b : Bool} {Q : List V → Hp → Prop} : tA b K φ .nil σ H Q → tNil σ H Q := by
  rintro ⟨O, C, ρ, m, r, m', M, En, ev, q⟩
  cases ev
  exact q [] H Keep.refl M (by cases b <;> exact .nil)
theorem tA_cons {b : Bool} {e es : E} {Q : List V → Hp → Prop} (hb : b = true → isBr (kd e) = false) : tA b K φ (.cons e es) σ H Q → tCons (tE K φ e) (tA b K φ es) σ H Q := by
  rintro ⟨O, C, ρ, m, ds, m', M, En, ev, q⟩
  have ev : (evE φ e ρ m).bind (fun x m => (evE φ es ρ m).bind fun r m => Out.of m (consD x r)) = .ok (.tup ds) m' := ev
  obtain ⟨x, m1, e1, ev⟩ := bind_eq_ok ev
  obtain ⟨r, m2, e2, ev⟩ := bind_eq_ok ev
  obtain ⟨e3, rfl⟩ := of_eq_ok ev
  unfold consD at e3
  split at e3
  · cases e3
    refine .go M En e1 fun v H1 k1 M1 En1 R => ?_
    refine ⟨O, C, ρ, m1, _, m2, M1, En1, e2, fun vs H2 k2 M2 R2 => ?_⟩
    refine q (v :: vs) H2 (k1.trans k2) M2 ?_
    cases b with
    | true => exact RpAll.cons ((R.pl M (hb rfl)).keep M1.sub k2) R2
    | false => exact RbAll.cons ((R.rb M).keep M1.sub k2) R2
  · cases e3
theorem tE_tup {es : E} : tE K φ (.tup es) σ H Q → (∀ ds m m' ρ, evE φ es ρ m = .ok ds m' → ∃ l, ds = .tup l) → (∀ (l : List D) ρ m m', evE φ es ρ m = .ok (.tup l) m' → l.length ≤ sizeLine) → tTup (tA true K φ es) σ H Q := by
  rintro ⟨O, C, ρ, m, r, m', M, En, ev, q⟩ ht hz
  have ev : evE φ es ρ m = .ok r m' := ev
  obtain ⟨l, rfl⟩ := ht _ _ _ _ ev
  refine ⟨O, C, ρ, m, l, m', M, En, ev, fun vs H1 k1 M1 R => ?_⟩
  have hl := R.len
  have z : vs.length ≤ sizeLine := by rw [← hl]; exact hz _ _ _ _ ev
  refine ⟨z, fun p hp => q _ _ (k1.trans (Keep.new hp)) (M1.grow fun _ => Keep.new hp) ?_ trivial⟩
  exact Rp.tup_new hp z R
theorem tE_lst {es : E} : tE K φ (.lst es) σ H Q → (∀ ds m m' ρ, evE φ es ρ m = .ok ds m' → ∃ l, ds = .tup l) → (∀ (l : List D) ρ m m', evE φ es ρ m = .ok (.tup l) m' → l.length ≤ sizeLine) → tLst (tA true K φ es) σ H Q := by
  rintro ⟨O, C, ρ, m, r, m', M, En, ev, q⟩ ht hz
  have ev : (evE φ es ρ m).bind (fun r m => Out.ok (.lst (argsOf r)) m) = .ok r m' := ev
  obtain ⟨ds, m1, ev, e3⟩ := bind_eq_ok ev
  cases e3
  obtain ⟨l, rfl⟩ := ht _ _ _ _ ev
  refine ⟨O, C, ρ, m, l, m', M, En, ev, fun vs H1 k1 M1 R => ?_⟩
  have hl := R.len
  have z : vs.length ≤ sizeLine := by rw [← hl]; exact hz _ _ _ _ ev
  refine ⟨z, fun p hp => q _ _ (k1.trans (Keep.new hp)) (M1.grow fun _ => Keep.new hp) ?_ (Rv.frm M1 (fun _ => Keep.new hp) (Rv.fr_new hp z R))⟩
  exact (Rv.fr_new hp z R).base k1 M1
/-- two expressions and an operation -/
theorem tE_op {e a b : E} {f : D → D → Option D} {k : Kd} (hk : kd e = k) (he : ∀ ρ m, evE φ e ρ m = (evE φ a ρ m).bind fun x m => (evE φ b ρ m).bind fun y m => Out.of m (f x y)) :
    tE K φ e σ H Q → tOp (rOp K k f) (tE K φ a) (tE K φ b) σ H Q := by
  rintro ⟨O, C, ρ, m, r, m', M, En, ev, q⟩
  rw [he] at ev
  rw [hk] at q
  obtain ⟨x, m1, e1, ev⟩ := bind_eq_ok ev
  obtain ⟨y, m2, e2, ev⟩ := bind_eq_ok ev
  obtain ⟨e3, rfl⟩ := of_eq_ok ev
  refine .go M En e1 fun v H1 k1 M1 En1 R1 => ?_
  refine .go M1 En1 e2 fun u H2 k2 M2 En2 R2 => ?_
  refine ⟨O, C, x, y, r, M.sub, (R1.rb M).keep M.sub k2, R2.rb M1, e3, fun w H' k R => ?_⟩
  exact q w H' ((k1.trans k2).trans (k C)) (M2.grow k) (R.base (k1.trans k2) M2) (Rv.frm M2 k R)
end
end Ev

set_option maxHeartbeats 4000000
namespace Ev
open PySem PySem.Spec PyProof.Rows L2
section
variable {K : Frag} {φ : Phi} {X : Cx} {σ : SSt} {H : Hp} {Q : VK}
theorem tru_v {O C : List Addr} {d : D} {v : V} {t : Bool} (b : Rb K O C H d v) (h : truD d = some t) : TruV K v H t := by
  cases d with
  | non => cases h; cases b.non; rfl
  | bl x => cases h; cases b.bl; rfl
  | int x => cases h; cases b.int; rfl
  | tup l =>
    cases h
    obtain ⟨a, xs, rfl, h1, z, r⟩ := b.tup
    refine .inr (.inl ⟨xs, h1, ?_⟩)
    cases r <;> rfl
  | lst l =>
    cases h
    obtain ⟨a, xs, rfl, h1, z, r⟩ := b.lst
    refine .inl ⟨xs, h1, ?_⟩
    cases r <;> rfl
  | _ => cases h
/-- a test by the value's truth -/
theorem tT_val {e : E} {Q : Bool → Hp → Prop} : tT K φ e σ H Q → tE K φ e σ H fun x H' => ∃ k, TruV K x H' k ∧ Q k H' := by
  rintro ⟨O, C, ρ, m, r, m', t, M, En, ev, ht, q⟩
  exact ⟨O, C, ρ, m, r, m', M, En, ev, fun v H' k M' R _ => ⟨t, tru_v (R.rb M) ht, q H' k M'⟩⟩
theorem cmpD_bl {op : COp} {x y r : D} (h : cmpD op x y = some r) : ∃ b, r = .bl b := by
  cases op <;> simp only [cmpD] at h <;> first
    | (split at h <;> cases h; exact ⟨_, rfl⟩)
    | (obtain ⟨b, _, e⟩ := Option.map_eq_some_iff.mp h; exact ⟨_, e.symm⟩)
/-- a comparison as a test -/
theorem tT_bl {e : E} {Q : Bool → Hp → Prop} (hb : ∀ ρ m r m', evE φ e ρ m = .ok r m' → ∃ b, r = .bl b) : tT K φ e σ H Q → tTest (tE K φ e) σ H Q := by
  rintro ⟨O, C, ρ, m, r, m', t, M, En, ev, ht, q⟩
  obtain ⟨b, rfl⟩ := hb _ _ _ _ ev
  cases ht
  exact ⟨O, C, ρ, m, _, m', M, En, ev, fun v H' k M' R _ => ⟨_, (R.rb M).bl, q H' k M'⟩⟩
theorem tE_neg {a : E} : tE K φ (.neg a) σ H Q → tUn (rU fun i => .int (-i)) (tE K φ a) σ H Q := by
  rintro ⟨O, C, ρ, m, r, m', M, En, ev, q⟩
  obtain ⟨x, m1, e1, ev⟩ := bind_eq_ok (show (evE φ a ρ m).bind (fun x m => match x with | .int i => Out.ok (.int (-i)) m | _ => .no) = .ok r m' from ev)
  refine .go M En e1 fun v H1 k1 M1 En1 R => ?_
  split at ev
  · rename_i i
    cases ev
    exact ⟨i, (R.rb M).int, q _ _ k1 M1 (Rp.int _) trivial⟩
  · cases ev
theorem tE_chn {o p : COp} {a b c : E} : tE K φ (.chn o p a b c) σ H Q → tChain (rOp K .fr (cmpD o)) (rOp K .fr (cmpD p)) (tE K φ a) (tE K φ b) (tE K φ c) σ H Q := by
  rintro ⟨O, C, ρ, m, r, m', M, En, ev, q⟩
  obtain ⟨x, m1, e1, ev⟩ := bind_eq_ok (show (evE φ a ρ m).bind (fun x m => (evE φ b ρ m).bind fun y m => (Out.of m (cmpD o x y)).bind fun r m => match r with
    | .bl true => (evE φ c ρ m).bind fun z m => Out.of m (cmpD p y z)
    | .bl false => .ok (.bl false) m
    | _ => .no) = .ok r m' from ev)
  obtain ⟨y, m2, e2, ev⟩ := bind_eq_ok ev
  obtain ⟨w, m3, e3', ev⟩ := bind_eq_ok ev
  obtain ⟨e3, rfl⟩ := of_eq_ok e3'
  clear e3'
  refine .go M En e1 fun v H1 k1 M1 En1 R1 => ?_
  refine .go M1 En1 e2 fun u H2 k2 M2 En2 R2 => ?_
  refine ⟨O, C, x, y, w, M.sub, (R1.rb M).keep M.sub k2, R2.rb M1, e3, fun z H3 k3 R3 => ?_⟩
  have M3 : MemOk K O C H3 m2 := M2.grow k3
  have En3 : EnvOk K O C H3 ρ σ := En2.keep M.sub (k3 C)
  obtain ⟨bb, rfl⟩ := cmpD_bl e3
  refine ⟨bb, (R3.rb M2).bl, ?_⟩
  cases bb with
  | true =>
    obtain ⟨zz, m4, e4, ev⟩ := bind_eq_ok ev
    obtain ⟨e5, rfl⟩ := of_eq_ok ev
    refine .go M3 En3 e4 fun w H4 k4 M4 En4 R4 => ?_
    refine ⟨O, C, y, zz, r, M.sub, ((R2.rb M1).keep M.sub (k3 C)).keep M.sub k4, R4.rb M3, e5, fun w' H5 k5 R5 => ?_⟩
    have kk := ((k1.trans k2).trans (k3 C)).trans k4
    exact q w' H5 (kk.trans (k5 C)) (M4.grow k5) (R5.base kk M4) (Rv.frm M4 k5 R5)
  | false =>
    cases ev
    exact q _ _ ((k1.trans k2).trans (k3 C)) M3 (Rp.bl _) (fun _ _ e => by cases e)
theorem tE_and {a b : E} (ha : isBr (kd a) = false) (hb : isBr (kd b) = false) : tE K φ (.and a b) σ H Q → tAndT K (tE K φ a) (tE K φ b) σ H Q := by
  rintro ⟨O, C, ρ, m, r, m', M, En, ev, q⟩
  obtain ⟨x, m1, e1, ev⟩ := bind_eq_ok (show (evE φ a ρ m).bind (fun x m => match truD x with
    | some true => evE φ b ρ m
    | some false => .ok x m
    | none => .no) = .ok r m' from ev)
  refine .go M En e1 fun v H1 k1 M1 En1 R1 => ?_
  split at ev
  · rename_i ht
    refine ⟨true, tru_v (R1.rb M) ht, ?_⟩
    (try dsimp only)
    rw [if_pos rfl]
    exact .go M1 En1 ev fun w H2 k2 M2 En2 R2 => q w H2 (k1.trans k2) M2 (by have := R2.pl M1 hb; cases r <;> exact this) trivial
  · rename_i ht
    cases ev
    refine ⟨false, tru_v (R1.rb M) ht, ?_⟩
    (try dsimp only)
    rw [if_neg Bool.false_ne_true]
    exact q v H1 k1 M1 (by have := R1.pl M ha; cases r <;> exact this) trivial
  · cases ev
theorem tE_or {a b : E} (ha : isBr (kd a) = false) (hb : isBr (kd b) = false) : tE K φ (.or a b) σ H Q → tOrT K (tE K φ a) (tE K φ b) σ H Q := by
  rintro ⟨O, C, ρ, m, r, m', M, En, ev, q⟩
  obtain ⟨x, m1, e1, ev⟩ := bind_eq_ok (show (evE φ a ρ m).bind (fun x m => match truD x with
    | some true => .ok x m
    | some false => evE φ b ρ m
    | none => .no) = .ok r m' from ev)
  refine .go M En e1 fun v H1 k1 M1 En1 R1 => ?_
  split at ev
  · rename_i ht
    cases ev
    refine ⟨true, tru_v (R1.rb M) ht, ?_⟩
    (try dsimp only)
    rw [if_pos rfl]
    exact q v H1 k1 M1 (by have := R1.pl M ha; cases r <;> exact this) trivial
  · rename_i ht
    refine ⟨false, tru_v (R1.rb M) ht, ?_⟩
    (try dsimp only)
    rw [if_neg Bool.false_ne_true]
    exact .go M1 En1 ev fun w H2 k2 M2 En2 R2 => q w H2 (k1.trans k2) M2 (by have := R2.pl M1 hb; cases r <;> exact this) trivial
  · cases ev
theorem tE_not {a : E} : tE K φ (.not a) σ H Q → tNotT K (tE K φ a) σ H Q := by
  rintro ⟨O, C, ρ, m, r, m', M, En, ev, q⟩
  obtain ⟨x, m1, e1, ev⟩ := bind_eq_ok (show (evE φ a ρ m).bind (fun x m => match truD x with
    | some t => Out.ok (.bl (!t)) m
    | none => .no) = .ok r m' from ev)
  refine .go M En e1 fun v H1 k1 M1 En1 R1 => ?_
  split at ev
  · rename_i t ht
    cases ev
    exact ⟨t, tru_v (R1.rb M) ht, q _ _ k1 M1 (Rp.bl _) trivial⟩
  · cases ev
theorem tT_and {a b : E} {Q : Bool → Hp → Prop} : tT K φ (.and a b) σ H Q → tAnd (tT K φ a) (tT K φ b) σ H Q := by
  rintro ⟨O, C, ρ, m, r, m', t, M, En, ev, ht, q⟩
  obtain ⟨x, m1, e1, ev⟩ := bind_eq_ok (show (evE φ a ρ m).bind (fun x m => match truD x with
    | some true => evE φ b ρ m
    | some false => .ok x m
    | none => .no) = .ok r m' from ev)
  split at ev
  · rename_i hx
    refine ⟨O, C, ρ, m, x, m1, true, M, En, e1, hx, fun H1 k1 M1 => ?_⟩
    (try dsimp only)
    rw [if_pos rfl]
    exact ⟨O, C, ρ, m1, r, m', t, M1, En.keep M.sub k1, ev, ht, fun H2 k2 M2 => q H2 (k1.trans k2) M2⟩
  · rename_i hx
    cases ev
    refine ⟨O, C, ρ, m, r, m', false, M, En, e1, hx, fun H1 k1 M1 => ?_⟩
    (try dsimp only)
    rw [if_neg Bool.false_ne_true]
    rw [hx] at ht; cases ht
    exact q H1 k1 M1
  · cases ev
theorem tT_or {a b : E} {Q : Bool → Hp → Prop} : tT K φ (.or a b) σ H Q → tOr (tT K φ a) (tT K φ b) σ H Q := by
  rintro ⟨O, C, ρ, m, r, m', t, M, En, ev, ht, q⟩
  obtain ⟨x, m1, e1, ev⟩ := bind_eq_ok (show (evE φ a ρ m).bind (fun x m => match truD x with
    | some true => .ok x m
    | some false => evE φ b ρ m
    | none => .no) = .ok r m' from ev)
  split at ev
  · rename_i hx
    cases ev
    refine ⟨O, C, ρ, m, r, m', true, M, En, e1, hx, fun H1 k1 M1 => ?_⟩
    (try dsimp only)
    rw [if_pos rfl]
    rw [hx] at ht; cases ht
    exact q H1 k1 M1
  · rename_i hx
    refine ⟨O, C, ρ, m, x, m1, false, M, En, e1, hx, fun H1 k1 M1 => ?_⟩
    (try dsimp only)
    rw [if_neg Bool.false_ne_true]
    exact ⟨O, C, ρ, m1, r, m', t, M1, En.keep M.sub k1, ev, ht, fun H2 k2 M2 => q H2 (k1.trans k2) M2⟩
  · cases ev
theorem tT_not {a : E} {Q : Bool → Hp → Prop} : tT K φ (.not a) σ H Q → tNot (tT K φ a) σ H Q := by
  rintro ⟨O, C, ρ, m, r, m', t, M, En, ev, ht, q⟩
  obtain ⟨x, m1, e1, ev⟩ := bind_eq_ok (show (evE φ a ρ m).bind (fun x m => match truD x with
    | some t => Out.ok (.bl (!t)) m
    | none => .no) = .ok r m' from ev)
  split at ev
  · rename_i u hx
    cases ev
    cases ht
    exact ⟨O, C, ρ, m, x, m', u, M, En, e1, hx, q⟩
  · cases ev
theorem tE_ite {c a b : E} (ha : isBr (kd a) = false) (hb : isBr (kd b) = false) : tE K φ (.ite c a b) σ H Q → tIf (tT K φ c) (tE K φ a) (tE K φ b) σ H Q := by
  rintro ⟨O, C, ρ, m, r, m', M, En, ev, q⟩
  obtain ⟨x, m1, e1, ev⟩ := bind_eq_ok (show (evE φ c ρ m).bind (fun x m => match truD x with
    | some true => evE φ a ρ m
    | some false => evE φ b ρ m
    | none => .no) = .ok r m' from ev)
  split at ev
  · rename_i hx
    refine ⟨O, C, ρ, m, x, m1, true, M, En, e1, hx, fun H1 k1 M1 => ?_⟩
    (try dsimp only)
    rw [if_pos rfl]
    exact .go M1 (En.keep M.sub k1) ev fun w H2 k2 M2 En2 R2 => q w H2 (k1.trans k2) M2 (by have := R2.pl M1 ha; cases r <;> exact this) trivial
  · rename_i hx
    refine ⟨O, C, ρ, m, x, m1, false, M, En, e1, hx, fun H1 k1 M1 => ?_⟩
    (try dsimp only)
    rw [if_neg Bool.false_ne_true]
    exact .go M1 (En.keep M.sub k1) ev fun w H2 k2 M2 En2 R2 => q w H2 (k1.trans k2) M2 (by have := R2.pl M1 hb; cases r <;> exact this) trivial
  · cases ev
theorem keyIs_keyD (p k : Key) : keyIsD (keyD p) (keyD k) = decide (p = k) := by
  cases p <;> cases k <;> simp [keyIsD, keyD]
theorem look_ents {K : Frag} {O C : List Addr} {H : Hp} (k : Key) : ∀ {kvs : List (Key × V)} {ds : List D} {r : D}, RpAll K O C H ds (kvs.map (·.2)) → lookD (keyD k) (entsK kvs ds) = some r → ∃ v, valV kvs k = some v ∧ Rp K O C H r v
  | [], ds, r, _, e => by cases ds <;> cases e
  | p :: kvs, _, r, .cons h1 h2, e => by
    rename_i d ds
    have e : (if keyIsD (keyD p.1) (keyD k) then some d else lookD (keyD k) (entsK kvs ds)) = some r := e
    rw [keyIs_keyD] at e
    by_cases hk : p.1 = k
    · rw [decide_eq_true hk, if_pos rfl] at e
      cases e
      exact ⟨_, valV_pos hk, h1⟩
    · rw [decide_eq_false hk, if_neg (by decide)] at e
      obtain ⟨v, e1, r1⟩ := look_ents k h2 e
      exact ⟨v, by rw [valV_neg hk]; exact e1, r1⟩
theorem key_of {K : Frag} {O C : List Addr} {H : Hp} {d : D} {v : V} (hk : isKeyD d = true) (h : Rp K O C H d v) : ∃ k, v = kV k ∧ d = keyD k := by
  cases d with
  | int i => cases h; exact ⟨.inl i, rfl, rfl⟩
  | str s => cases h; exact ⟨.inr s, rfl, rfl⟩
  | _ => cases hk
/-- d[k] -/
theorem ix_dict (hu : X.A.units + 1 < cLine) : IxR X (fun x y H Q => ∃ a v, x = .ref a ∧ DGet H a y (some v) ∧ Q v H) := by
  intro value slice pins s σ H x y u iv Q I rx ry h hs
  obtain ⟨a, v, rfl, g, q⟩ := h
  obtain rfl : u = Value.ref a := rx
  have hT := dict_typeIs I g
  unfold subscriptTail
  refine wpAny_bind ?_
  rw [getitemInPython_of_ne hT.not_modules]
  refine wpAny_bind (wpAny_specialOf hT PySem.F.slot_dict_getitem.lookup ?_)
  have fin : wpAny (model X.prog X.w) X.A (subscripted slice false (.ref a) iv) (fun r s₃ => wpAny (model X.prog X.w) X.A (letTemporaryGo value (.ref a) r >>= fun _ => pure r) (EP X pins σ Q) X.xe s₃) X.xe s := by
    rw [hs]
    refine wpAny_operating ?_
    exact d_getItem hu I g ry fun w' s3 I3 rw' => wpAny_bind (wpAny_letTemporaryGo (wpAny_pure ⟨v, H, I3, rw', q⟩))
  first
    | exact wpAny_pure (wpAny_bind fin)
    | exact wpAny_bind (wpAny_pure (wpAny_bind fin))
    | exact wpAny_bind fin
theorem ix_E (hu : X.A.units + 1 < cLine) : IxR X (fun x y H Q => rOp X.K .pl idxD x y H Q) := by
  intro value slice pins s σ H x y v u Q I rx ry h hs
  obtain ⟨O, C, d1, d2, r, hC, b1, b2, e, q⟩ := h
  unfold idxD at e
  split at e
  · rename_i l i
    obtain ⟨a, xs, rfl, h1, z1, r1⟩ := b1.tup
    cases b2.int
    obtain ⟨j, e1, e2⟩ := Option.bind_eq_some_iff.mp e
    obtain ⟨w, e3, r3⟩ := r1.get e2
    refine ix_tup value slice pins s σ H _ _ v u Q I rx ry ⟨a, xs, i, w, rfl, rfl, h1, ?_, q w H (fun _ => Keep.refl) (by cases r <;> exact r3)⟩ hs
    unfold atI
    rw [← r1.length]
    exact Option.bind_eq_some_iff.mpr ⟨j, e1, e3⟩
  · rename_i l i
    obtain ⟨a, xs, rfl, h1, z1, r1⟩ := b1.lst
    cases b2.int
    obtain ⟨j, e1, e2⟩ := Option.bind_eq_some_iff.mp e
    obtain ⟨w, e3, r3⟩ := r1.get e2
    refine ix_list value slice pins s σ H _ _ v u Q I rx ry ⟨a, xs, i, w, rfl, rfl, h1, ?_, q w H (fun _ => Keep.refl) (by cases r <;> exact r3)⟩ hs
    unfold atI
    rw [← r1.length]
    exact Option.bind_eq_some_iff.mpr ⟨j, e1, e3⟩
  · rename_i l k
    split at e
    case isFalse => cases e
    rename_i hk
    obtain ⟨a, o, kvs, ds, rfl, hd, z, rfl, rr⟩ := b1.dic
    obtain ⟨kk, rfl, rfl⟩ : ∃ kk, y = kV kk ∧ d2 = keyD kk := by
      cases d2 with
      | int i => cases b2.int; exact ⟨.inl i, rfl, rfl⟩
      | str i => cases b2.str; exact ⟨.inr i, rfl, rfl⟩
      | _ => cases hk
    obtain ⟨w, e1, r1⟩ := look_ents kk rr e
    exact ix_dict hu value slice pins s σ H _ _ v u Q I rx ry ⟨a, w, rfl, .inl ⟨kvs, kk, .inr ⟨o, hd⟩, rfl, e1.symm⟩, q w H (fun _ => Keep.refl) (by cases r <;> exact r1)⟩ hs
  · cases e
/-- a slice's end -/
def oD : D → Option (Option Int)
  | .non => some none
  | .int i => some (some i)
  | _ => none
theorem cutI_sIx {n d : Nat} {x : D} {a : Nat} (h : cutI n d x = some a) : ∃ o, oD x = some o ∧ a = HT.sIx n d o := by
  cases x with
  | non => cases h; exact ⟨none, rfl, rfl⟩
  | int i => cases h; exact ⟨some i, rfl, rfl⟩
  | _ => cases h
theorem cutL_V {l : List D} {xs : List V} {lo hi : D} {c : List D} {O C : List Addr} (h : cutL l lo hi = some c) (r : RpAll K O C H l xs) : ∃ o p, oD lo = some o ∧ oD hi = some p ∧ RpAll K O C H c (cutV xs o p) ∧
    ((HT.sIx xs.length 0 o = 0 ∧ HT.sIx xs.length xs.length p = xs.length) → c = l) := by
  unfold cutL at h
  obtain ⟨a, e1, h⟩ := Option.bind_eq_some_iff.mp h
  obtain ⟨b, e2, rfl⟩ := Option.map_eq_some_iff.mp h
  obtain ⟨o, q1, rfl⟩ := cutI_sIx e1
  obtain ⟨p, q2, rfl⟩ := cutI_sIx e2
  refine ⟨o, p, q1, q2, ?_, fun hh => ?_⟩
  · unfold cutV
    rw [r.length]
    exact (r.drop _).take _
  · rw [r.length]
    rw [hh.1, hh.2, ← r.length]
    simp
def rSlE (K : Frag) : V → Option Int → Option Int → Hp → VK → Prop := fun x lo hi H Q => ∃ O C d1 dl dh r, (∀ a ∈ C, a ∈ O) ∧ Rb K O C H d1 x ∧ oD dl = some lo ∧ oD dh = some hi ∧ slcD d1 dl dh = some r ∧
  ∀ v H', (∀ Z, Keep Z H H') → Rv .fr K O C H H' r v → Q v H'
theorem sl_E : SlR X (rSlE X.K) := by
  intro pins s σ H x v vl vu lo hi sl Q I rx hs pl pu h
  obtain ⟨O, C, d1, dl, dh, r, hC, b1, el, eh, e, q⟩ := h
  unfold slcD at e
  split at e
  · rename_i l dl dh
    obtain ⟨c, e1, rfl⟩ := Option.map_eq_some_iff.mp e
    obtain ⟨a, xs, rfl, h1, z1, r1⟩ := b1.tup
    obtain ⟨o, p, q1, q2, r2, hw⟩ := cutL_V e1 r1
    rw [el] at q1; cases q1
    rw [eh] at q2; cases q2
    refine sl_tupA pins s σ H _ v vl vu lo hi sl Q I rx hs pl pu ⟨a, xs, rfl, h1, fun hh => ?_, fun _ p hp => ?_⟩
    · have := hw hh
      subst this
      exact q _ _ (fun _ => Keep.refl) (Rp.tup h1 z1 r1)
    · exact q _ _ (fun _ => Keep.new hp) (Rp.tup_new hp (Nat.le_trans (cutV_length xs lo hi) z1) r2)
  · rename_i l dl dh
    obtain ⟨c, e1, rfl⟩ := Option.map_eq_some_iff.mp e
    obtain ⟨a, xs, rfl, h1, z1, r1⟩ := b1.lst
    obtain ⟨o, p, q1, q2, r2, hw⟩ := cutL_V e1 r1
    rw [el] at q1; cases q1
    rw [eh] at q2; cases q2
    refine sl_list pins s σ H _ v vl vu lo hi sl Q I rx hs pl pu ⟨a, xs, rfl, h1, fun p hp => ?_⟩
    exact q _ _ (fun _ => Keep.new hp) (Rv.fr_new hp (Nat.le_trans (cutV_length xs lo hi) z1) r2)
  · cases e
/-- a slice's end, read -/
def tO (K : Frag) (φ : Phi) (e : E) : TO := fun σ H Q => ∃ O C ρ m r m' o, MemOk K O C H m ∧ EnvOk K O C H ρ σ ∧ evE φ e ρ m = .ok r m' ∧ (isSkip e || !isNone r) = true ∧ oD r = some o ∧ ∀ H', Keep C H H' → MemOk K O C H' m' → Q o H'
theorem po_imp {e : Option Expr} {t t' : TO} (h : PO X e t) (i : ∀ σ H Q, t' σ H Q → t σ H Q) : PO X e t' := ⟨fun pins s σ H Q I q => h.run pins s σ H Q I (i σ H Q q)⟩
theorem tO_skip {Q : Option Int → Hp → Prop} : tO K φ .skipE σ H Q → tNoPart σ H Q := by
  rintro ⟨O, C, ρ, m, r, m', o, M, En, ev, _, ho, q⟩
  cases ev
  cases ho
  exact q H Keep.refl M
/-- an end that is a number for sure -/
theorem tO_some {e : E} {Q : Option Int → Hp → Prop} (hn : isSkip e = false) : tO K φ e σ H Q → tPart (tE K φ e) σ H Q := by
  rintro ⟨O, C, ρ, m, r, m', o, M, En, ev, hsk, ho, q⟩
  rw [hn, Bool.false_or] at hsk
  refine .go M En ev fun v H1 k1 M1 En1 R1 => ?_
  cases r with
  | int i => cases ho; exact ⟨i, (R1.rb M).int, q H1 k1 M1⟩
  | non => cases hsk
  | _ => cases ho
theorem tE_slc {a lo hi : E} : tE K φ (.slc a lo hi) σ H Q → tSl (rSlE K) (tE K φ a) (tO K φ lo) (tO K φ hi) σ H Q := by
  rintro ⟨O, C, ρ, m, r, m', M, En, ev, q⟩
  obtain ⟨x, m1, e1, ev⟩ := bind_eq_ok (show (evE φ a ρ m).bind (fun x m => (evE φ lo ρ m).bind fun y m => (evE φ hi ρ m).bind fun z m => Out.of m (slcG (isSkip lo) (isSkip hi) x y z)) = .ok r m' from ev)
  obtain ⟨y, m2, e2, ev⟩ := bind_eq_ok ev
  obtain ⟨z, m3, e3, ev⟩ := bind_eq_ok ev
  obtain ⟨e4, rfl⟩ := of_eq_ok ev
  unfold slcG at e4
  split at e4
  case isFalse => cases e4
  rename_i hsk
  rw [Bool.and_eq_true] at hsk
  have ho : ∃ o p, oD y = some o ∧ oD z = some p := by
    unfold slcD at e4
    split at e4
    · obtain ⟨c, e5, _⟩ := Option.map_eq_some_iff.mp e4
      unfold cutL at e5
      obtain ⟨_, h1, h⟩ := Option.bind_eq_some_iff.mp e5
      obtain ⟨_, h2, _⟩ := Option.map_eq_some_iff.mp h
      obtain ⟨o, q1, _⟩ := cutI_sIx h1
      obtain ⟨p, q2, _⟩ := cutI_sIx h2
      exact ⟨o, p, q1, q2⟩
    · obtain ⟨c, e5, _⟩ := Option.map_eq_some_iff.mp e4
      unfold cutL at e5
      obtain ⟨_, h1, h⟩ := Option.bind_eq_some_iff.mp e5
      obtain ⟨_, h2, _⟩ := Option.map_eq_some_iff.mp h
      obtain ⟨o, q1, _⟩ := cutI_sIx h1
      obtain ⟨p, q2, _⟩ := cutI_sIx h2
      exact ⟨o, p, q1, q2⟩
    · cases e4
  obtain ⟨o, p, ho, hp⟩ := ho
  refine .go M En e1 fun v H1 k1 M1 En1 R1 => ?_
  refine ⟨O, C, ρ, m1, y, m2, o, M1, En1, e2, hsk.1, ho, fun H2 k2 M2 => ?_⟩
  refine ⟨O, C, ρ, m2, z, m3, p, M2, En1.keep M.sub k2, e3, hsk.2, hp, fun H3 k3 M3 => ?_⟩
  refine ⟨O, C, x, y, z, r, M.sub, ((R1.rb M).keep M.sub k2).keep M.sub k3, ho, hp, e4, fun w H' k R => ?_⟩
  have kk := (k1.trans k2).trans k3
  exact q w H' (kk.trans (k C)) (M3.grow k) (R.base kk M3) (Rv.frm M3 k R)
theorem tE_call {n f : Nat} {es : E} (hn : ∀ ρ m l m', evE φ es ρ m = .ok (.tup l) m' → l.length = n) (ht : ∀ ρ m r m', evE φ es ρ m = .ok r m' → ∃ l, r = .tup l) : tE K φ (.call f es) σ H Q → tCall (spF K φ n f) [] E0 (tA true K φ es) σ H Q := by
  rintro ⟨O, C, ρ, m, r, m', M, En, ev, q⟩
  obtain ⟨x, m1, e1, ev⟩ := bind_eq_ok (show (evE φ es ρ m).bind (fun r m => φ f (argsOf r) m) = .ok r m' from ev)
  obtain ⟨l, rfl⟩ := ht _ _ _ _ e1
  refine ⟨O, C, ρ, m, l, m1, M, En, e1, fun vs H1 k1 M1 R => ?_⟩
  have hl := R.len
  rw [hn _ _ _ _ e1] at hl
  show spF K φ n f (vs ++ []) H1 Q E0
  rw [List.append_nil]
  refine ⟨hl.symm, O, C, m1, l, r, m', M1, R, ev, fun v H2 k2 M2 R2 => ?_⟩
  exact q v H2 (k1.trans k2) M2 (by cases r <;> exact R2) trivial
theorem tE_prim {p : Prim} {es : E} (ht : ∀ ρ m r m', evE φ es ρ m = .ok r m' → ∃ l, r = .tup l) : tE K φ (.prim p es) σ H Q → tCB (rPr K (kdP p) (primD p)) (tA false K φ es) σ H Q := by
  rintro ⟨O, C, ρ, m, r, m', M, En, ev, q⟩
  obtain ⟨x, m1, e1, ev⟩ := bind_eq_ok (show (evE φ es ρ m).bind (fun r m => Out.of m (primD p (argsOf r))) = .ok r m' from ev)
  obtain ⟨l, rfl⟩ := ht _ _ _ _ e1
  obtain ⟨e2, rfl⟩ := of_eq_ok ev
  refine ⟨O, C, ρ, m, l, m1, M, En, e1, fun vs H1 k1 M1 R => ?_⟩
  refine ⟨O, C, l, r, M.sub, R, e2, fun v H2 k2 R2 => ?_⟩
  exact q v H2 (k1.trans (k2 C)) (M1.grow k2) (R2.base k1 M1) (Rv.frm M1 k2 R2)
theorem tE_rev {a : E} : tE K φ (.rev a) σ H Q → tRevL K (tE K φ a) σ H Q := by
  rintro ⟨O, C, ρ, m, r, m', M, En, ev, q⟩
  obtain ⟨x, m1, e1, ev⟩ := bind_eq_ok (show (evE φ a ρ m).bind (fun x m => Out.of m (revD x)) = .ok _ m' from ev)
  obtain ⟨e2, rfl⟩ := of_eq_ok ev
  refine .go M En e1 fun v H1 k1 M1 En1 R1 => ?_
  unfold revD at e2
  split at e2
  · rename_i l'
    cases e2
    obtain ⟨a, xs, rfl, h1, z1, r1⟩ := (R1.rb M).lst
    refine ⟨a, xs, rfl, h1, fun p hp => q _ _ (k1.trans (Keep.new hp)) (M1.grow fun _ => Keep.new hp) ?_ (Rv.frm M1 (fun _ => Keep.new hp) (Rv.fr_new hp (by rw [List.length_reverse]; exact z1) r1.rev))⟩
    exact (Rv.fr_new hp (by rw [List.length_reverse]; exact z1) r1.rev).base k1 M1
  · cases e2
/-- an item of a cell -/
theorem tE_idxc {i : Nat} {e : E} : tE K φ (.idxc i e) σ H Q → tOp (rIxL K) (tVar i) (tE K φ e) σ H Q := by
  rintro ⟨O, C, ρ, m, r, m', M, En, ev, q⟩
  have ev : (match ρ[i]? with
    | some (some (.val (.ref n))) => (evE φ e ρ m).bind fun y m => (Out.of m m[n]?).bind fun x m => Out.of m (idxD x y)
    | _ => .no) = .ok r m' := ev
  split at ev
  · rename_i n hi
    obtain ⟨y, m1, e1, ev⟩ := bind_eq_ok ev
    obtain ⟨x, m2, e2', ev⟩ := bind_eq_ok ev
    obtain ⟨e2, rfl⟩ := of_eq_ok e2'
    clear e2'
    obtain ⟨e3, rfl⟩ := of_eq_ok ev
    obtain ⟨v, hv, rv⟩ := En.val i _ hi
    refine ⟨v, hv, ?_⟩
    refine .go M En e1 fun u H1 k1 M1 En1 R1 => ?_
    cases rv with
    | ref ha =>
      rename_i a
      have at1 := M1.at_ n a x ha e2
      unfold idxD at e3
      split at e3
      · exact at1.elim
      · rename_i l j _
        obtain ⟨xs, f1, f2, f3⟩ := at1
        obtain ⟨jj, g1, g2⟩ := Option.bind_eq_some_iff.mp e3
        obtain ⟨w, g3, g4⟩ := f3.get g2
        refine ⟨a, xs, j, w, rfl, (R1.rb M).int, .inl (.inl f1), ?_, q w H1 k1 M1 (by cases r <;> exact g4) trivial⟩
        unfold atI
        rw [← f3.length]
        exact Option.bind_eq_some_iff.mpr ⟨jj, g1, g3⟩
      · exact at1.elim
      · cases e3
  · cases ev
theorem toPys_map : ∀ l : List D, toPys l = l.map toPy
  | [] => rfl
  | x :: r => congrArg (toPy x :: ·) (toPys_map r)
theorem methD_ix (l : List D) (x : D) : methD .index (.lst l) [x] = if okD okDep x && l.all (okD okDep) then (l.findIdx? fun z => eqD z x).map fun (j : Nat) => .int j else none := by
  simp only [methD]
def rIdxE (K : Frag) : V → List V → Hp → VK → Prop := fun x xs H Q => ∃ O C l d j v, xs = [v] ∧ Rb K O C H (.lst l) x ∧ Rb K O C H d v ∧ methD .index (.lst l) [d] = some (.int j) ∧ Q (.int j) H
theorem mt_indexE {X : Cx} (hu : X.A.units + 80 < cLine) : MtR X "list.index" (rIdxE X.K) := by
  intro pins s σ H x xs u us Q I rx rxs h
  obtain ⟨O, C, l, d, j0, v, rfl, b1, b2, e, q⟩ := h
  have e : (if okD okDep d && l.all (okD okDep) then (l.findIdx? fun z => eqD z d).map fun (j : Nat) => D.int j else none) = some (.int j0) := by rw [← methD_ix]; exact e
  split at e
  case isFalse => cases e
  rename_i hz
  rw [Bool.and_eq_true] at hz
  obtain ⟨j, hj, e2⟩ := Option.map_eq_some_iff.mp e
  injection e2 with e2
  subst e2
  obtain ⟨a, ys, rfl, h1, z1, r1⟩ := b1.lst
  obtain ⟨hjl, hp, hno⟩ := List.findIdx?_eq_some_iff_getElem.mp hj
  have hl : okD (okDep + 1) (D.lst l) = true := hz.2
  have ok : ∀ (m : Nat) (h : m < l.length), okD okDep l[m] = true := fun m h => List.all_eq_true.mp hz.2 _ (List.getElem_mem h)
  refine mt_indexD (by omega) pins s σ H _ _ u us Q I rx rxs ⟨a, v, toPy d, toPys l, j, toPy l[j], rfl, rfl, rb_dp hl b1, rb_dp hz.1 b2, okD_shaped (by decide) hl, okD_shaped (by decide) hz.1, ?_, ?_, fun m z' hm hz' => ?_, q⟩
  · rw [toPys_map, List.getElem?_map, List.getElem?_eq_getElem hjl]; rfl
  · rw [eqD_py okDep _ _ (ok j hjl) hz.1]; exact hp
  · have hml : m < l.length := by omega
    rw [toPys_map, List.getElem?_map, List.getElem?_eq_getElem hml] at hz'
    cases hz'
    rw [eqD_py okDep _ _ (ok m hml) hz.1]
    simpa using hno m hm
theorem tE_index {o e : E} : tE K φ (.meth .index o (.cons e .nil)) σ H Q → tBM K "list" (rIdxE K) (tE K φ o) (tCons (tE K φ e) tNil) σ H Q := by
  rintro ⟨O, C, ρ, m, r, m', M, En, ev, q⟩
  obtain ⟨x, m1, e1, ev⟩ := bind_eq_ok (show (evE φ o ρ m).bind (fun x m => (evE φ (.cons e .nil) ρ m).bind fun r m => Out.of m (methD .index x (argsOf r))) = .ok r m' from ev)
  obtain ⟨y, m2, e2, ev⟩ := bind_eq_ok ev
  obtain ⟨z, m3, e3, e2⟩ := bind_eq_ok (show (evE φ e ρ m1).bind (fun x m => (Out.ok (.tup []) m).bind fun r m => Out.of m (consD x r)) = .ok y m2 from e2)
  cases e2
  obtain ⟨e4, rfl⟩ := of_eq_ok ev
  cases x with
  | lst l =>
    refine .go M En e1 fun v H1 k1 M1 En1 R1 => ?_
    obtain ⟨a, xs, rfl, h1, z1, r1⟩ := (R1.rb M).lst
    refine ⟨.inl ⟨rfl, xs, h1⟩, ?_⟩
    refine .go M1 En1 e3 fun u H2 k2 M2 En2 R2 => ?_
    have hr : ∃ j, r = .int j := by
      have e4 : (if okD okDep z && l.all (okD okDep) then (l.findIdx? fun w => eqD w z).map fun (j : Nat) => D.int j else none) = some r := by rw [← methD_ix]; exact e4
      split at e4
      · obtain ⟨j, _, e5⟩ := Option.map_eq_some_iff.mp e4
        exact ⟨_, e5.symm⟩
      · cases e4
    obtain ⟨j, rfl⟩ := hr
    exact ⟨O, C, l, z, j, u, rfl, (R1.rb M).keep M.sub k2, R2.rb M1, e4, q _ _ (k1.trans k2) M2 (Rp.int _) trivial⟩
  | _ => cases e4
end
end Ev

set_option maxHeartbeats 4000000
namespace Ev
open PySem PySem.Spec PyProof.Rows L2
section
variable {K : Frag} {O O' C C' Z : List Addr} {H H' : Hp}
def Alv (H : Hp) (a : Addr) : Prop := ∃ o, H a = some o
theorem sqO_move2 {a : Addr} {xs : List V} (k : Keep Z H H') (hZ : ∀ a ∈ Z, a ∈ O) (hO : ∀ a, Alv H a → a ∉ O → a ∉ O') (h : SqO K O H a xs) : SqO K O' H' a xs := by
  rcases h with ⟨h | ⟨o, h⟩, n⟩ | h
  · exact .inl ⟨.inl (k.ob a _ h fun q => n (hZ _ q)), hO _ ⟨_, h⟩ n⟩
  · exact .inl ⟨.inr ⟨o, k.fz a o _ h⟩, hO _ ⟨_, h⟩ n⟩
  · exact .inr h
mutual
theorem Rp.move2 (hZ : ∀ a ∈ Z, a ∈ O) (k : Keep Z H H') (hO : ∀ a, Alv H a → a ∉ O → a ∉ O') (hC : ∀ (n : Nat) a, C[n]? = some a → C'[n]? = some a) : ∀ {d : D} {v : V}, Rp K O C H d v → Rp K O' C' H' d v
  | _, _, .non => .non
  | _, _, .bl b => .bl b
  | _, _, .int i => .int i
  | _, _, .str s => .str s
  | _, _, .tup h z r => .tup (sqT_keep k h) z (RpAll.move2 hZ k hO hC r)
  | _, _, .lst h z r => .lst (sqO_move2 k hZ hO h) z (RpAll.move2 hZ k hO hC r)
  | _, _, .ref h => .ref (hC _ _ h)
  | _, _, .dic h z e r => .dic (k.fz _ _ _ h) z e (RpAll.move2 hZ k hO hC r)
theorem RpAll.move2 (hZ : ∀ a ∈ Z, a ∈ O) (k : Keep Z H H') (hO : ∀ a, Alv H a → a ∉ O → a ∉ O') (hC : ∀ (n : Nat) a, C[n]? = some a → C'[n]? = some a) : ∀ {ds : List D} {vs : List V}, RpAll K O C H ds vs → RpAll K O' C' H' ds vs
  | _, _, .nil => .nil
  | _, _, .cons h r => .cons (Rp.move2 hZ k hO hC h) (RpAll.move2 hZ k hO hC r)
end
theorem OwnAt.move2 (hZ : ∀ a ∈ Z, a ∈ O) (k : Keep Z H H') (hO : ∀ a, Alv H a → a ∉ O → a ∉ O') (hC : ∀ (n : Nat) a, C[n]? = some a → C'[n]? = some a) {a : Addr} (n : a ∉ Z) : ∀ {d : D}, OwnAt K O C H a d → OwnAt K O' C' H' a d
  | .lst _, ⟨xs, e, z, r⟩ => ⟨xs, k.ob a _ e n, z, r.move2 hZ k hO hC⟩
end
section
variable {K : Frag} {O O' C C' : List Addr} {H H' : Hp} {ρ : Env} {σ : SSt} {m : Mem}
theorem set_get {α : Type} {l : List (Option α)} {i j : Nat} {x : Option α} {y : α} (h : (l.set i x)[j]? = some (some y)) : (i = j ∧ x = some y) ∨ (i ≠ j ∧ l[j]? = some (some y)) := by
  by_cases e : i = j
  · subst e
    by_cases hl : i < l.length
    · rw [List.getElem?_set_self hl] at h
      exact .inl ⟨rfl, Option.some.inj h⟩
    · rw [List.getElem?_eq_none (by simpa using hl)] at h; cases h
  · rw [List.getElem?_set_ne e] at h
    exact .inr ⟨e, h⟩
theorem EnvOk.set {i : Nat} {d : D} {v : V} (h : EnvOk K O C H ρ σ) (r : Rp K O C H d v) : EnvOk K O C H (setE ρ i (some (.val d))) (σ.set i (some v)) := by
  have hl : ∀ {j : Nat} {x : Sl}, (setE ρ i (some (.val d)))[j]? = some (some x) → (i = j ∧ x = .val d ∧ j < σ.length) ∨ (i ≠ j ∧ ρ[j]? = some (some x)) := by
    intro j x e
    have lt : j < ρ.length := by
      have := (List.getElem?_eq_some_iff.mp e).1
      simpa [setE] using this
    rcases set_get e with ⟨e1, e2⟩ | q
    · exact .inl ⟨e1, (Option.some.inj e2).symm, h.len ▸ lt⟩
    · exact .inr q
  refine ⟨by simp [setE, h.len], fun j x e => ?_, fun j x e => ?_, fun j l x y a ne e1 e2 e3 => ?_⟩
  · rcases hl e with ⟨rfl, e2, lt⟩ | ⟨ne, e2⟩
    · cases e2
      exact ⟨v, by rw [List.getElem?_set_self lt], r⟩
    · obtain ⟨w, q1, q2⟩ := h.val j x e2
      exact ⟨w, by rw [List.getElem?_set_ne ne]; exact q1, q2⟩
  · rcases hl e with ⟨rfl, e2, lt⟩ | ⟨ne, e2⟩
    · cases e2
    · obtain ⟨a, q1, q2⟩ := h.own j x e2
      exact ⟨a, by rw [List.getElem?_set_ne ne]; exact q1, q2⟩
  · rcases hl e1 with ⟨_, q, _⟩ | ⟨n1, q1⟩
    · cases q
    rcases hl e2 with ⟨_, q, _⟩ | ⟨n2, q2⟩
    · cases q
    rw [List.getElem?_set_ne n1] at e3
    rw [List.getElem?_set_ne n2]
    exact h.inj j l x y a ne q1 q2 e3
theorem EnvOk.unset (h : EnvOk K O C H ρ σ) (i : Nat) : EnvOk K O C H (setE ρ i none) (σ.set i none) := by
  have hl : ∀ {j : Nat} {x : Sl}, (setE ρ i none)[j]? = some (some x) → i ≠ j ∧ ρ[j]? = some (some x) := by
    intro j x e
    rcases set_get e with ⟨_, e2⟩ | q
    · cases e2
    · exact q
  refine ⟨by simp [setE, h.len], fun j x e => ?_, fun j x e => ?_, fun j l x y a ne e1 e2 e3 => ?_⟩
  · obtain ⟨ne, e2⟩ := hl e
    obtain ⟨w, q1, q2⟩ := h.val j x e2
    exact ⟨w, by rw [List.getElem?_set_ne ne]; exact q1, q2⟩
  · obtain ⟨ne, e2⟩ := hl e
    obtain ⟨a, q1, q2⟩ := h.own j x e2
    exact ⟨a, by rw [List.getElem?_set_ne ne]; exact q1, q2⟩
  · obtain ⟨n1, q1⟩ := hl e1
    obtain ⟨n2, q2⟩ := hl e2
    rw [List.getElem?_set_ne n1] at e3
    rw [List.getElem?_set_ne n2]
    exact h.inj j l x y a ne q1 q2 e3
theorem EnvOk.wipe (h : EnvOk K O C H ρ σ) : ∀ vs : List Nat, EnvOk K O C H (wipeE ρ vs) (L2.wipe σ vs)
  | [] => h
  | v :: vs => (h.wipe vs).unset v
/-- over a change of the heap, of O, of C -/
theorem EnvOk.move2 {Z : List Addr} (h : EnvOk K O C H ρ σ) (hZ : ∀ a ∈ Z, a ∈ O) (k : Keep Z H H') (hO : ∀ a, Alv H a → a ∉ O → a ∉ O') (hO2 : ∀ a ∈ O, a ∈ O') (hC : ∀ (n : Nat) a, C[n]? = some a → C'[n]? = some a) (hC2 : ∀ a ∈ O, a ∉ C → a ∉ C')
    (hn : ∀ (i : Nat) d a, ρ[i]? = some (some (.own d)) → σ[i]? = some (some (V.ref a)) → a ∉ Z) : EnvOk K O' C' H' ρ σ :=
  ⟨h.len, fun i d e => let ⟨v, e1, r⟩ := h.val i d e; ⟨v, e1, r.move2 hZ k hO hC⟩,
    fun i d e => let ⟨a, e1, i1, i2, r⟩ := h.own i d e; ⟨a, e1, hO2 a i1, hC2 a i1 i2, r.move2 hZ k hO hC (hn i d a e e1)⟩, h.inj⟩
end
mutual
def slotsT : T → List Nat
  | .name i => [i]
  | .tup t => slotsT t
  | .nil => []
  | .cons t ts => slotsT t ++ slotsT ts
end
def tG (K : Frag) (t : T) : TG := fun v σ H Q => ∃ O C ρ d ρ', EnvOk K O C H ρ σ ∧ Rp K O C H d v ∧ putT t d ρ = some ρ' ∧ ∀ σ', EnvOk K O C H ρ' σ' → (∀ vs, (∀ i ∈ slotsT t, i ∈ vs) → L2.wipe σ' vs = L2.wipe σ vs) → Q σ' H
def tGs (K : Frag) (t : T) : TGs := fun vs σ H Q => ∃ O C ρ ds ρ', EnvOk K O C H ρ σ ∧ RpAll K O C H ds vs ∧ putT t (.tup ds) ρ = some ρ' ∧ ∀ σ', EnvOk K O C H ρ' σ' → (∀ vs, (∀ i ∈ slotsT t, i ∈ vs) → L2.wipe σ' vs = L2.wipe σ vs) → Q σ' H
theorem wipe_set (i : Nat) (x : Option V) : ∀ (vs : List Nat) (σ : SSt), i ∈ vs → L2.wipe (σ.set i x) vs = L2.wipe σ vs
  | [], _, h => by cases h
  | v :: vs, σ, h => by
    show (L2.wipe (σ.set i x) vs).set v none = (L2.wipe σ vs).set v none
    by_cases hv : i ∈ vs
    · rw [wipe_set i x vs σ hv]
    · have hi : i = v := (List.mem_cons.mp h).resolve_right hv
      subst hi
      have com : ∀ (vs : List Nat) (σ : SSt), i ∉ vs → L2.wipe (σ.set i x) vs = (L2.wipe σ vs).set i x := by
        intro vs
        induction vs with
        | nil => intro σ _; rfl
        | cons w ws ih =>
          intro σ hn
          rw [List.mem_cons, not_or] at hn
          show (L2.wipe (σ.set i x) ws).set w none = ((L2.wipe σ ws).set w none).set i x
          rw [ih σ hn.2, List.set_comm _ _ hn.1]
      rw [com vs σ hv, List.set_set]
theorem pg_imp {X : Cx} {e : Expr} {t t' : TG} (h : PG X e t) (i : ∀ v σ H Q, t' v σ H Q → t v σ H Q) : PG X e t' := ⟨fun pins s σ H v u Q I r q => h.run pins s σ H v u Q I r (i v σ H Q q)⟩
theorem pgs_imp {X : Cx} {e : List Expr} {t t' : TGs} (h : PGs X e t) (i : ∀ v σ H Q, t' v σ H Q → t v σ H Q) : PGs X e t' := ⟨fun pins s σ H v u Q I r q => h.run pins s σ H v u Q I r (i v σ H Q q)⟩
section
variable {K : Frag} {σ : SSt} {H : Hp} {Q : SSt → Hp → Prop} {v : V}
theorem tG_name {i : Nat} : tG K (.name i) v σ H Q → gName i v σ H Q := by
  rintro ⟨O, C, ρ, d, ρ', En, R, e, q⟩
  have e : (if i < ρ.length then some (setE ρ i (some (.val d))) else none) = some ρ' := e
  split at e
  · cases e
    exact q _ (En.set R) fun vs h => wipe_set i _ vs σ (h i (by simp [slotsT]))
  · cases e
/-- how many targets -/
def lenT : T → Option Nat
  | .nil => some 0
  | .cons _ ts => (lenT ts).map (· + 1)
  | _ => none
theorem putT_lenT : ∀ (ts : T) (n : Nat) (ds : List D) (ρ ρ' : Env), lenT ts = some n → putT ts (.tup ds) ρ = some ρ' → ds.length = n
  | .nil, n, ds, ρ, ρ', hn, e => by
    cases hn
    cases ds with
    | nil => rfl
    | cons x r => cases e
  | .cons t ts, n, ds, ρ, ρ', hn, e => by
    obtain ⟨k, hk, rfl⟩ := Option.map_eq_some_iff.mp (show (lenT ts).map (· + 1) = some n from hn)
    cases ds with
    | nil => cases e
    | cons x r =>
      obtain ⟨ρ1, _, e2⟩ := Option.bind_eq_some_iff.mp (show (putT t x ρ).bind (fun ρ1 => putT ts (.tup r) ρ1) = some ρ' from e)
      rw [List.length_cons, putT_lenT ts k r ρ1 ρ' hk e2]
  | .name _, n, ds, ρ, ρ', hn, e => by cases hn
  | .tup _, n, ds, ρ, ρ', hn, e => by cases hn
theorem tG_tup {ts : T} {n : Nat} (hn : lenT ts = some n) : tG K (.tup ts) v σ H Q → gTup K n (tGs K ts) v σ H Q := by
  rintro ⟨O, C, ρ, d, ρ', En, R, e, q⟩
  cases d with
  | tup l =>
    have e : putT ts (.tup l) ρ = some ρ' := e
    cases R with
    | tup h z r =>
      refine ⟨_, _, rfl, h, ?_, O, C, ρ, l, ρ', En, r, e, fun σ' En' w => q σ' En' fun vs hv => w vs hv⟩
      rw [← r.length]
      exact putT_lenT ts n l ρ ρ' hn e
  | _ => cases e
theorem tGs_nil {vs : List V} : tGs K .nil vs σ H Q → gNil vs σ H Q := by
  rintro ⟨O, C, ρ, ds, ρ', En, R, e, q⟩
  cases ds with
  | nil =>
    cases e
    cases R
    exact ⟨rfl, q σ En fun _ _ => rfl⟩
  | cons x r => cases e
theorem tGs_cons {t ts : T} {vs : List V} : tGs K (.cons t ts) vs σ H Q → gCons (tG K t) (tGs K ts) vs σ H Q := by
  rintro ⟨O, C, ρ, ds, ρ', En, R, e, q⟩
  cases ds with
  | nil => cases e
  | cons x r =>
    obtain ⟨ρ1, e1, e2⟩ := Option.bind_eq_some_iff.mp (show (putT t x ρ).bind (fun ρ1 => putT ts (.tup r) ρ1) = some ρ' from e)
    cases R with
    | cons R1 R2 =>
      refine ⟨_, _, rfl, O, C, ρ, x, ρ1, En, R1, e1, fun σ1 En1 w1 => ?_⟩
      refine ⟨O, C, ρ1, r, ρ', En1, R2, e2, fun σ2 En2 w2 => q σ2 En2 fun vs hv => ?_⟩
      rw [w2 vs fun i hi => hv i (by simp [slotsT, hi]), w1 vs fun i hi => hv i (by simp [slotsT, hi])]
end
/-- a walk over xs -/
structure WkD (K : Frag) (br : Bool) (J : It) (xs : List D) (G : List Addr → List Addr → Hp → Prop) : Prop where
  go : ∀ i O C H, i < xs.length → G O C H → J.go i H
  stop : ∀ O C H, G O C H → J.stop xs.length H
  yld : ∀ (i : Nat) O C H x H' d, xs[i]? = some d → G O C H → J.yld i H x H' → (∀ Z, Keep Z H H') ∧ Rp K O C H' d x
  mv : ∀ O C H O' H', (∀ a ∈ C, a ∈ O) → Keep C H H' → (∀ a, Alv H a → a ∉ O → a ∉ O') → G O C H → G O' C H'
  mvs : br = false → ∀ O C H O' C' H', Keep O H H' → (∀ a, Alv H a → a ∉ O → a ∉ O') → (∀ (n : Nat) a, C[n]? = some a → C'[n]? = some a) → G O C H → G O' C' H'
def brA : E → Bool
  | .cons e es => isBr (kd e) || brA es
  | _ => false
/-- the items of a walk -/
def itE (φ : Phi) (k : ItK) (es : E) (ρ : Env) (m : Mem) : Out (List D) := (evE φ es ρ m).bind fun r m => Out.of m (itemsD k (argsOf r))
def tI (K : Frag) (φ : Phi) (k : ItK) (es : E) : TI := fun σ H R => ∃ O C ρ m xs m', MemOk K O C H m ∧ EnvOk K O C H ρ σ ∧ itE φ k es ρ m = .ok xs m' ∧
  ∀ J H' G, Keep C H H' → MemOk K O C H' m' → WkD K (brA es) J xs G → G O C H' → xs.length ≤ sizeLine → R J H'
theorem pi_imp {X : Cx} {tg e : Expr} {t t' : TI} (h : PI X tg e t) (i : ∀ σ H Q, t' σ H Q → t σ H Q) : PI X tg e t' := ⟨fun pins s σ H Q I q => h.run pins s σ H Q I (i σ H Q q)⟩
theorem pi_or {X : Cx} {tg e : Expr} {t t' : TI} (h : PI X tg e t) (h' : PI X tg e t') : PI X tg e (fun σ H R => t σ H R ∨ t' σ H R) := ⟨fun pins s σ H Q I q => q.elim (h.run pins s σ H Q I) (h'.run pins s σ H Q I)⟩
section
variable {K : Frag} {φ : Phi} {σ : SSt} {H : Hp} {a : Addr} {vs : List V} {xs : List D}
/-- a source: a list, a tuple -/
def SrcL (K : Frag) (br : Bool) (a : Addr) (vs : List V) (xs : List D) : List Addr → List Addr → Hp → Prop := fun O C H => SqO K (if br then C else O) H a vs ∧ RpAll K O C H xs vs
def SrcT (K : Frag) (a : Addr) (vs : List V) (xs : List D) : List Addr → List Addr → Hp → Prop := fun O C H => SqT K H a vs ∧ RpAll K O C H xs vs
theorem SrcL.mv {br : Bool} {O C : List Addr} {H : Hp} {O' : List Addr} {H' : Hp} (hC : ∀ a ∈ C, a ∈ O) (k : Keep C H H') (hO : ∀ a, Alv H a → a ∉ O → a ∉ O') (g : SrcL K br a vs xs O C H) : SrcL K br a vs xs O' C H' := by
  refine ⟨?_, g.2.move2 hC k hO fun _ _ e => e⟩
  cases br with
  | true => exact sqO_move2 (O := C) k (fun _ h => h) (fun _ _ h => h) g.1
  | false => exact sqO_move2 k hC hO g.1
theorem SrcL.mvs {br : Bool} (hb : br = false) {O C : List Addr} {H : Hp} {O' C' : List Addr} {H' : Hp} (k : Keep O H H') (hO : ∀ a, Alv H a → a ∉ O → a ∉ O') (hC : ∀ (n : Nat) a, C[n]? = some a → C'[n]? = some a) (g : SrcL K br a vs xs O C H) : SrcL K br a vs xs O' C' H' := by
  subst hb
  exact ⟨sqO_move2 (O := O) k (fun _ h => h) hO g.1, g.2.move2 (fun _ h => h) k hO hC⟩
theorem SrcT.mv {O C : List Addr} {H : Hp} {O' : List Addr} {H' : Hp} (hC : ∀ a ∈ C, a ∈ O) (k : Keep C H H') (hO : ∀ a, Alv H a → a ∉ O → a ∉ O') (g : SrcT K a vs xs O C H) : SrcT K a vs xs O' C H' :=
  ⟨sqT_keep k g.1, g.2.move2 hC k hO fun _ _ e => e⟩
theorem SrcT.mvs {O C : List Addr} {H : Hp} {O' C' : List Addr} {H' : Hp} (k : Keep O H H') (hO : ∀ a, Alv H a → a ∉ O → a ∉ O') (hC : ∀ (n : Nat) a, C[n]? = some a → C'[n]? = some a) (g : SrcT K a vs xs O C H) : SrcT K a vs xs O' C' H' :=
  ⟨sqT_keep k g.1, g.2.move2 (fun _ h => h) k hO hC⟩
theorem wk_list {br : Bool} (hz : xs.length = vs.length) : WkD K br (Itl K a) xs (SrcL K br a vs xs) := by
  refine ⟨fun i O C H hi g => ?_, fun O C H g => ?_, fun i O C H x H' d hd g y => ?_, fun _ _ _ _ _ hC k hO g => g.mv hC k hO, fun hb _ _ _ _ _ _ k hO hC g => SrcL.mvs hb k hO hC g⟩
  · exact (walk_list (K := K) (a := a) (xs := vs)).goes i H (by omega) g.1.sq
  · rw [hz]; exact (walk_list (K := K) (a := a) (xs := vs)).stops H g.1.sq
  · have hi : i < vs.length := by rw [← hz]; exact (List.getElem?_eq_some_iff.mp hd).1
    obtain ⟨rfl, e⟩ := (walk_list (K := K) (a := a) (xs := vs)).yields i H x H' hi g.1.sq y
    obtain ⟨v, e1, r⟩ := g.2.get hd
    rw [e] at e1; cases e1
    exact ⟨fun _ => Keep.refl, r⟩
theorem wk_tup {br : Bool} (hz : xs.length = vs.length) : WkD K br (Itt K a) xs (SrcT K a vs xs) := by
  refine ⟨fun i O C H hi g => ?_, fun O C H g => ?_, fun i O C H x H' d hd g y => ?_, fun _ _ _ _ _ hC k hO g => g.mv hC k hO, fun hb _ _ _ _ _ _ k hO hC g => g.mvs k hO hC⟩
  · exact (walk_tup (K := K) (a := a) (xs := vs)).goes i H (by omega) g.1
  · rw [hz]; exact (walk_tup (K := K) (a := a) (xs := vs)).stops H g.1
  · have hi : i < vs.length := by rw [← hz]; exact (List.getElem?_eq_some_iff.mp hd).1
    obtain ⟨rfl, e⟩ := (walk_tup (K := K) (a := a) (xs := vs)).yields i H x H' hi g.1 y
    obtain ⟨v, e1, r⟩ := g.2.get hd
    rw [e] at e1; cases e1
    exact ⟨fun _ => Keep.refl, r⟩
theorem wk_range {br : Bool} {lo : Int} {n : Nat} : WkD K br (Itr lo n) ((List.range n).map fun (i : Nat) => .int (lo + i)) (fun _ _ _ => True) := by
  refine ⟨fun i O C H hi g => ?_, fun O C H g => ?_, fun i O C H x H' d hd g y => ?_, fun _ _ _ _ _ hC k hO g => trivial, fun hb _ _ _ _ _ _ k hO hC g => trivial⟩
  · exact (walk_range (lo := lo) (n := n)).goes i H (by simpa using hi) trivial
  · rw [List.length_map, List.length_range]; exact (walk_range (lo := lo) (n := n)).stops H trivial
  · have hi : i < n := by have := (List.getElem?_eq_some_iff.mp hd).1; simpa using this
    obtain ⟨rfl, rfl⟩ := (walk_range (lo := lo) (n := n)).yields i H x H' hi trivial y
    simp [hi] at hd
    subst hd
    exact ⟨fun _ => Keep.refl, .int _⟩
theorem wk_rngN {br : Bool} {lo : Int} {n : Nat} : WkD K br (Itc lo (-1) n) ((List.range n).map fun (i : Nat) => .int (lo + i * (-1))) (fun _ _ _ => True) := by
  refine ⟨fun i O C H hi g => by simpa [Itc] using hi, fun O C H g => by simp [Itc], fun i O C H x H' d hd g y => ?_, fun _ _ _ _ _ hC k hO g => trivial, fun hb _ _ _ _ _ _ k hO hC g => trivial⟩
  have hi : i < n := by have := (List.getElem?_eq_some_iff.mp hd).1; simpa using this
  obtain ⟨rfl, rfl⟩ := y
  simp [hi] at hd
  subst hd
  refine ⟨fun _ => Keep.refl, ?_⟩
  rw [Int.mul_neg, Int.mul_one, ← Int.sub_eq_add_neg]
  exact .int _
section
variable {d : Addr} {o : Obj} {kvs : List (Key × V)} {ds : List D}
theorem key_rp {O C : List Addr} {H : Hp} (k : Key) : Rp K O C H (keyD k) (kV k) := by
  cases k with
  | inl i => exact .int i
  | inr s => exact .str s
theorem wk_keys {br : Bool} : WkD K br (Itk d o kvs) (kvs.map fun p => keyD p.1) (fun _ _ H => H d = some (.frz o (.dK kvs))) := by
  refine ⟨fun i O C H hi g => ⟨g, by simpa using hi⟩, fun O C H g => ⟨g, by simp⟩, fun i O C H x H' e hd g y => ?_, fun _ _ _ _ _ hC k hO g => k.fz _ _ _ g, fun hb _ _ _ _ _ _ k hO hC g => k.fz _ _ _ g⟩
  obtain ⟨rfl, k, v, h1, rfl⟩ := y
  rw [List.getElem?_map, h1] at hd
  cases hd
  exact ⟨fun _ => Keep.refl, key_rp k⟩
theorem ents_get : ∀ {kvs : List (Key × V)} {ds : List D} {i : Nat} {k : Key} {v : V} {e : D} {O C : List Addr} {H : Hp}, RpAll K O C H ds (kvs.map (·.2)) → kvs[i]? = some (k, v) → (entsK kvs ds)[i]? = some e → ∃ d, e = .tup [keyD k, d] ∧ Rp K O C H d v
  | [], _, _, _, _, _, _, _, _, _, h, _ => by simp at h
  | p :: r, _, 0, k, v, e, _, _, _, .cons h1 h2, h, he => by
    simp at h
    subst h
    simp [entsK] at he
    exact ⟨_, he.symm, h1⟩
  | p :: r, _, i + 1, k, v, e, _, _, _, .cons h1 h2, h, he => ents_get h2 (by simpa using h) (by simpa [entsK] using he)
theorem ents_len : ∀ (kvs : List (Key × V)) (ds : List D), ds.length = kvs.length → (entsK kvs ds).length = kvs.length
  | [], ds, _ => by cases ds <;> rfl
  | p :: r, [], h => by cases h
  | p :: r, d :: ds, h => congrArg (· + 1) (ents_len r ds (Nat.succ.inj h))
theorem RpAll.lenK {O C : List Addr} {H : Hp} (h : RpAll K O C H ds (kvs.map (·.2))) : ds.length = kvs.length := by rw [h.length, List.length_map]
theorem wk_items {br : Bool} (hl : ds.length = kvs.length) : WkD K br (Iti d o kvs) (entsK kvs ds) (fun O C H => H d = some (.frz o (.dK kvs)) ∧ RpAll K O C H ds (kvs.map (·.2))) := by
  refine ⟨fun i O C H hi g => ⟨g.1, by rw [ents_len kvs ds hl] at hi; exact hi⟩, fun O C H g => ⟨g.1, by rw [ents_len kvs ds hl]; exact Nat.le_refl _⟩, fun i O C H x H' e hd g y => ?_, fun _ _ _ _ _ hC k hO g => ⟨k.fz _ _ _ g.1, g.2.move2 hC k hO fun _ _ e => e⟩, fun hb _ _ _ _ _ _ k hO hC g => ⟨k.fz _ _ _ g.1, g.2.move2 (fun _ h => h) k hO hC⟩⟩
  obtain ⟨T, k, v, h1, rfl, hT, rfl⟩ := y
  obtain ⟨d', rfl, r⟩ := ents_get g.2 h1 hd
  exact ⟨fun _ => Keep.new hT, Rp.tup_new hT (show 2 ≤ sizeLine by rw [sizeLine_eq]; decide) (.cons (key_rp k) (.cons r .nil))⟩
theorem wk_vals {br : Bool} (hl : ds.length = kvs.length) : WkD K br (Itd d o kvs) ds (fun O C H => H d = some (.frz o (.dK kvs)) ∧ RpAll K O C H ds (kvs.map (·.2))) := by
  refine ⟨fun i O C H hi g => ⟨g.1, by omega⟩, fun O C H g => ⟨g.1, by omega⟩, fun i O C H x H' e hd g y => ?_, fun _ _ _ _ _ hC k hO g => ⟨k.fz _ _ _ g.1, g.2.move2 hC k hO fun _ _ e => e⟩, fun hb _ _ _ _ _ _ k hO hC g => ⟨k.fz _ _ _ g.1, g.2.move2 (fun _ h => h) k hO hC⟩⟩
  obtain ⟨rfl, k, h1⟩ := y
  obtain ⟨w, h2, r⟩ := g.2.get hd
  rw [List.getElem?_map, h1] at h2
  cases h2
  exact ⟨fun _ => Keep.refl, r⟩
end
theorem enumFrom_len : ∀ (xs : List D) (n : Nat), (enumFrom n xs).length = xs.length
  | [], _ => rfl
  | x :: r, n => congrArg (· + 1) (enumFrom_len r (n + 1))
theorem enumFrom_get : ∀ (xs : List D) (n i : Nat) (d : D), (enumFrom n xs)[i]? = some d → ∃ x, xs[i]? = some x ∧ d = .tup [.int ((n + i : Nat) : Int), x]
  | [], _, _, _, h => by simp [enumFrom] at h
  | x :: r, n, 0, d, h => by simp [enumFrom] at h; exact ⟨x, rfl, by simp [← h]⟩
  | x :: r, n, i + 1, d, h => by
    obtain ⟨y, h1, h2⟩ := enumFrom_get r (n + 1) i d (by simpa [enumFrom] using h)
    exact ⟨y, by simpa using h1, by rw [h2]; congr 3; omega⟩
theorem two_line : (2 : Nat) ≤ sizeLine := by rw [sizeLine_eq]; decide
theorem wk_enum {br : Bool} (hz : xs.length = vs.length) : WkD K br (Ite K a) (enumFrom 0 xs) (SrcL K br a vs xs) := by
  refine ⟨fun i O C H hi g => ?_, fun O C H g => ?_, fun i O C H x H' d hd g y => ?_, fun _ _ _ _ _ hC k hO g => g.mv hC k hO, fun hb _ _ _ _ _ _ k hO hC g => SrcL.mvs hb k hO hC g⟩
  · rw [enumFrom_len] at hi; exact (walk_enum (K := K) (a := a) (xs := vs)).goes i H (by omega) g.1.sq
  · rw [enumFrom_len, hz]; exact (walk_enum (K := K) (a := a) (xs := vs)).stops H g.1.sq
  · obtain ⟨z, e1, rfl⟩ := enumFrom_get xs 0 i d hd
    have hi : i < vs.length := by rw [← hz]; exact (List.getElem?_eq_some_iff.mp e1).1
    obtain ⟨T, p, q, rfl, hT, rfl, e2, e3⟩ := (walk_enum (K := K) (a := a) (xs := vs)).yields i H x H' hi g.1.sq y
    obtain ⟨v, e4, r⟩ := g.2.get e1
    have e3 : vs[i]? = some q := e3
    rw [e3] at e4; cases e4
    cases e2
    refine ⟨fun _ => Keep.new hT, Rp.tup_new hT two_line ?_⟩
    rw [Nat.zero_add]
    exact .cons (.int _) (.cons r .nil)
variable {b : Addr} {ws : List V} {ys : List D}
theorem zip2_len : ∀ (xs ys : List D), (zip2 xs ys).length = min xs.length ys.length
  | [], _ => by simp [zip2]
  | _ :: _, [] => by simp [zip2]
  | x :: r, y :: s => by simp [zip2, zip2_len r s]
theorem zip2_get : ∀ (xs ys : List D) (i : Nat) (d : D), (zip2 xs ys)[i]? = some d → ∃ x y, xs[i]? = some x ∧ ys[i]? = some y ∧ d = .tup [x, y]
  | [], _, _, _, h => by simp [zip2] at h
  | _ :: _, [], _, _, h => by simp [zip2] at h
  | x :: r, y :: s, 0, d, h => by simp [zip2] at h; exact ⟨x, y, rfl, rfl, h.symm⟩
  | x :: r, y :: s, i + 1, d, h => by
    obtain ⟨p, q, h1, h2, h3⟩ := zip2_get r s i d (by simpa [zip2] using h)
    exact ⟨p, q, by simpa using h1, by simpa using h2, h3⟩
theorem wk_zip {br : Bool} (hx : xs.length = vs.length) (hy : ys.length = ws.length) : WkD K br (Itz K a b) (zip2 xs ys) (fun O C H => SrcL K br a vs xs O C H ∧ SrcL K br b ws ys O C H) := by
  have hn : (zip2 xs ys).length = min vs.length ws.length := by rw [zip2_len, hx, hy]
  have W := walk_zip (K := K) (a := a) (b := b) (xs := vs) (ys := ws) hn
  refine ⟨fun i O C H hi g => ?_, fun O C H g => ?_, fun i O C H x H' d hd g y => ?_, fun _ _ _ _ _ hC k hO g => ⟨g.1.mv hC k hO, g.2.mv hC k hO⟩, fun hb _ _ _ _ _ _ k hO hC g => ⟨SrcL.mvs hb k hO hC g.1, SrcL.mvs hb k hO hC g.2⟩⟩
  · exact W.goes i H hi ⟨g.1.1.sq, g.2.1.sq⟩
  · exact W.stops H ⟨g.1.1.sq, g.2.1.sq⟩
  · obtain ⟨p, q, e1, e2, rfl⟩ := zip2_get xs ys i d hd
    obtain ⟨T, p', q', rfl, hT, rfl, e3, e4⟩ := W.yields i H x H' (List.getElem?_eq_some_iff.mp hd).1 ⟨g.1.1.sq, g.2.1.sq⟩ y
    obtain ⟨v, e5, r⟩ := g.1.2.get e1
    obtain ⟨w, e6, r'⟩ := g.2.2.get e2
    have e3 : vs[i]? = some p' := e3
    have e4 : ws[i]? = some q' := e4
    rw [e3] at e5; cases e5
    rw [e4] at e6; cases e6
    exact ⟨fun _ => Keep.new hT, Rp.tup_new hT two_line (.cons r (.cons r' .nil))⟩
theorem wk_zipT {br : Bool} (hx : xs.length = vs.length) (hy : ys.length = ws.length) : WkD K br (RZ.ItzT K a b) (zip2 xs ys) (fun O C H => SrcT K a vs xs O C H ∧ SrcT K b ws ys O C H) := by
  have hn : (zip2 xs ys).length = min vs.length ws.length := by rw [zip2_len, hx, hy]
  refine ⟨fun i O C H hi g => ?_, fun O C H g => ?_, fun i O C H x H' d hd g y => ?_, fun _ _ _ _ _ hC k hO g => ⟨g.1.mv hC k hO, g.2.mv hC k hO⟩, fun hb _ _ _ _ _ _ k hO hC g => ⟨g.1.mvs k hO hC, g.2.mvs k hO hC⟩⟩
  · have h1 : i < vs.length := by omega
    have h2 : i < ws.length := by omega
    exact ⟨vs, ws, vs[i], ws[i], g.1.1, g.2.1, by simp [h1], by simp [h2]⟩
  · exact ⟨vs, ws, g.1.1, g.2.1, by omega⟩
  · obtain ⟨p, q, e1, e2, rfl⟩ := zip2_get xs ys i d hd
    obtain ⟨T, p', q', rfl, hT, rfl, e3, e4⟩ := y
    obtain ⟨v, e5, r⟩ := g.1.2.get e1
    obtain ⟨w, e6, r'⟩ := g.2.2.get e2
    rw [e3 _ g.1.1] at e5; cases e5
    rw [e4 _ g.2.1] at e6; cases e6
    exact ⟨fun _ => Keep.new hT, Rp.tup_new hT two_line (.cons r (.cons r' .nil))⟩
end
end Ev

set_option maxHeartbeats 4000000
namespace Ev
open PySem PySem.Spec PyProof.Rows L2
open AutoSeq1 (wpAny_loadPart')
/-- enumerate(v) over what begins so -/
theorem enum_new1 {v : Value} {o : Obj} {H : Heap → Prop} (B : Begins v o H) :
    Meets (Builtin.«enumerate.__new__» ⟨[.type "enumerate", v], []⟩) (fun _ R s => H s.heap ∧
      R (.ok (.ret (.ref (s.heap.push o).objs.size))) { s with heap := (s.heap.push o).push { cls := .type "enumerate", data := .fields #[.none, .bool false, .ref s.heap.objs.size, rawInt 0, .none, .none] } }) :=
  .of_wp fun prog w A R s h => by
    obtain ⟨hp, g, d, tk, os⟩ := s
    obtain ⟨h1, h⟩ := h
    have hsub := sub_enumerate
    have q1 : ∀ {A' : Around} {E : Value → Shared → Prop} {Q : Value → Shared → Prop}, Q (.ref hp.objs.size) ⟨hp.push o, g, d, tk, os⟩ → wpAny (model prog w) A' (pyIter v) Q E ⟨hp, g, d, tk, os⟩ := fun q => B.iter prog w _ _ ⟨hp, g, d, tk, os⟩ _ h1 q
    wp_walk using q1
    refine wpAny_stack_any fun st => wpAny_pure ?_
    split
    · rename_i c _ _ _ _ _
      cases (c == Value.type "enumerate") <;> (wp_walk using q1; exact ⟨_, rfl, h⟩)
    · wp_walk using q1
      exact ⟨_, rfl, h⟩
section
variable {prog : Program} {w : World} {A : Around} {E : Value → Shared → Prop} {s : Shared}
theorem enum_call1 {v : Value} {o : Obj} {H : Heap → Prop} {Q : Value → Shared → Prop} (B : Begins v o H) (h1 : H s.heap)
    (h : ∀ h', IsEnum h' (s.heap.objs.size + 1) s.heap.objs.size 0 .none → h'.get? s.heap.objs.size = some o → (∀ b o, s.heap.get? b = some o → h'.get? b = some o) → Q (.ref (s.heap.objs.size + 1)) { s with heap := h' }) :
    wpAny (model prog w) A (call (.type "enumerate") [v]) Q E s := by
  refine callType_new F.called_enumerate (by decide) (F.typeCall_enumerate_1 _) (F.newCall_enumerate_1 _) (fun obj => F.args_object_init_2 obj _) F.entry_enumerate_new (enum_new1 B) ⟨h1, ?_⟩
  have hz : (s.heap.push o).objs.size = s.heap.objs.size + 1 := Heap.size_push ..
  show _ ∧ _
  rw [hz]
  have he : IsEnum ((s.heap.push o).push { cls := .type "enumerate", data := .fields #[.none, .bool false, .ref s.heap.objs.size, rawInt 0, .none, .none] }) (s.heap.objs.size + 1) s.heap.objs.size 0 .none := by
    have := Heap.get?_push_size (s.heap.push o) (o := { cls := .type "enumerate", data := .fields #[.none, .bool false, .ref s.heap.objs.size, rawInt 0, .none, .none] }) rfl
    rw [hz] at this
    exact this
  exact ⟨⟨_, he, rfl⟩, h _ he (Heap.get?_push_of_some _ (Heap.get?_push_size _ B.free)) fun b o x => Heap.get?_push_of_some _ (Heap.get?_push_of_some _ x)⟩
end
/-- the tuple at a at each turn, each item in a new pair -/
def IteT (K : PySem.W.Frag) (a : Addr) : It :=
  ⟨fun i H => ∃ (xs : List V) (x : V), SqT K H a xs ∧ xs[i]? = some x, fun i H v H' => ∃ T x, v = .ref T ∧ H T = none ∧ H' = upd H T (.tup [.int (i : Nat), x]) ∧ ∀ xs, SqT K H a xs → xs[i]? = some x, fun i H => ∃ xs : List V, SqT K H a xs ∧ xs.length ≤ i⟩
theorem turn_enumT {P : Program} {w : World} {K : PySem.W.Frag} {elts : List Expr} {kk : Nat} {tpos : Pos} (a e it : Addr) :
    Turn P w K (.Tuple elts kk tpos) (IteT K a) [e, it] e (fun i h => (∃ old, IsEnum h e it ((i : Nat) : Int) old) ∧ h.IsTupleIter it a i ∧ e ≠ it ∧ a ≠ it ∧ a ≠ e) where
  mem := by simp
  obj := fun i h st b hb => by
    obtain ⟨⟨old, he⟩, ⟨o, ho, hc, hd⟩, _⟩ := st
    have e' : b = e ∨ b = it := by simpa using hb
    rcases e' with z | z
    · rw [z]; exact ⟨_, he, fun v q => nomatch q⟩
    · rw [z]; exact ⟨o, ho, fun v q => by rw [hd] at q; cases q⟩
  keep := fun i h h' st k => let ⟨⟨old, he⟩, hi, hne⟩ := st; ⟨⟨old, k e (by simp) _ he⟩, hi.at fun o q => k it (by simp) o q, hne⟩
  item := by
    intro X hP hw hK hc i pins s σ H E I hf st hg
    subst hP hw hK
    obtain ⟨⟨old, he⟩, hit, hne, ha1, ha2⟩ := st
    obtain ⟨xs, x, hq, hx⟩ := hg
    obtain ⟨its, rv, p, hz⟩ := I.tuple hq
    obtain ⟨u, hu, ru⟩ := rv.get hx
    have hel : e < s.heap.objs.size := Heap.lt_size he
    have hil : it < s.heap.objs.size := by obtain ⟨_, q, _⟩ := hit; exact Heap.lt_size q
    have D : Draws X.prog X.w X.A.in1 it [it, a] its.toArray.size (fun i v => its.toArray[i]? = some v) (fun i h => h.IsTupleIter it a i ∧ h.IsTuple a its.toArray) := Draws.tuple (show X.A.in1.handled = none from I.ok.hd hc) it a ha1 its.toArray
    have hlt : i < its.toArray.size := by
      have := (List.getElem?_eq_some_iff.mp hu).1
      simpa using this
    refine wpAny_pyNext_enum_itemD D he ⟨hit, p⟩ hlt hne (by simp; exact ⟨hne, Ne.symm ha2⟩) fun y h' tk hy ho hst hT hsz hk => ?_
    obtain rfl : y = u := by
      have : its.toArray[i]? = some u := by simpa using hu
      rw [this] at hy
      exact (Option.some.inj hy).symm
    refine ⟨_, rfl, wpAny_letOwnedTupleGo_enum (s := { s with heap := h', toks := tk + 1 }) ho fun h'' he' sb => ?_⟩
    have hT2 : h''.get? s.heap.objs.size = some { cls := .type "tuple", data := .seq #[.int i tk, y] } := (sb.2 _ (Nat.ne_of_gt hel)).trans hT
    have new : ObjOk X.prog X.w (upd H s.heap.objs.size (.tup [.int (i : Nat), x])) h'' s.heap.objs.size (.tup [.int (i : Nat), x]) :=
      ⟨by show 2 ≤ sizeLine; decide, [.int i tk, y], .cons ⟨_, rfl⟩ (.cons ru .nil), ⟨_, hT2, rfl, _, rfl⟩⟩
    have I1 : Inv X pins σ (upd H s.heap.objs.size (.tup [.int (i : Nat), x])) { s with heap := h'', toks := tk + 1 } :=
      I.turnedNew (ch := [e, it]) (fun b ob hb q => (sb.2 b (fun z => hb (by simp [z]))).trans (hk b ob (fun z => hb (by simp [z])) (fun z => hb (by simp [z])) q)) hf (Nat.le_refl _) new
    refine ⟨.ref s.heap.objs.size, _, I1, rfl, ⟨_, x, rfl, I.hok.fresh (Nat.le_refl _), rfl, fun ys hy => by rw [I.tuple_inj hy hq]; exact hx⟩, ⟨⟨y, ?_⟩, hst.1.at fun o q => (sb.2 it (Ne.symm hne)).trans q, hne, ha1, ha2⟩, fun b hb => ?_⟩
    · have e1 : ((i + 1 : Nat) : Int) = (i : Int) + 1 := by omega
      rw [e1]; exact he'
    · have hb' : b < s.heap.objs.size := by
        have e' : b = e ∨ b = it := by simpa using hb
        rcases e' with z | z
        · rw [z]; exact hel
        · rw [z]; exact hil
      rw [upd_ne (Nat.ne_of_lt hb')]
      exact (hf b hb).1
  done := by
    intro X hP hw hK hc i pins s σ H E I hf st hg
    subst hP hw hK
    obtain ⟨⟨old, he⟩, hit, hne, ha1, ha2⟩ := st
    obtain ⟨xs, hq, hx⟩ := hg
    obtain ⟨its, rv, p, hz⟩ := I.tuple hq
    obtain ⟨f0, f1, f2, f3, f4, f5⟩ := hf it (by simp)
    have hl := rv.length
    have hge : its.toArray[i]? = none := by simp; omega
    have D : Draws X.prog X.w X.A.in1 it [it, a] 0 (fun _ _ => False) (fun _ h => h.IsTupleIter it a i ∧ h.IsTuple a its.toArray) :=
      ⟨fun _ _ st => let ⟨o, ho, _⟩ := st.1; ⟨o, ho⟩, fun _ _ _ st hk => ⟨st.1.at fun o e => hk it (by simp) o e, st.2.at fun o e => hk a (by simp) o e⟩,
        fun j s Q E hj => absurd hj (Nat.not_lt_zero _), fun s Q E st hE => wpAny_nextOf_tuple_end (show X.A.in1.handled = none from I.ok.hd hc) st.1 st.2 hge hE⟩
    exact wpAny_pyNext_enum_endD D he ⟨hit, p⟩ fun h' eb => ⟨rfl, I.turned (t' := s.toks) (fun b o hb q => eb b o hb q) f0 f1 f3 f4 f5⟩
  self := fun A i s Q E st h => let ⟨⟨_, he⟩, _⟩ := st; wpAny_pyIter_enum he h
def iEnumT (K : PySem.W.Frag) (ta : TA) : TI := fun σ H R => ta σ H fun vs H1 => ∃ a xs, vs = [.ref a] ∧ SqT K H1 a xs ∧ R (IteT K a) H1
theorem pi_enumT {X : Cx} {e : Expr} {ta : TA} {p pos tpos : Pos} {elts : List Expr} {kk : Nat} (hg : Gl X "enumerate") (hm : X.mg "enumerate" = none) (ha : PA X [e] ta) (hs : starEach [e] X.env = [(false, eval e X.env)] := by rfl) :
    PI X (.Tuple elts kk tpos) (.Call (.Name "enumerate" p) [e] [] pos) (iEnumT X.K ta) := by
  refine ⟨fun pins s σ H R I h => ?_⟩
  refine Call_ (ld_blt I hg hm boot_enumerate (PyProof.Rows.callWith_type1 (thn (ha.run pos pins s σ H _ I h) fun us s1 ⟨vs, H1, I1, r1, q1⟩ => ?_) hs rfl))
  obtain ⟨a, xs, ex, hq, q⟩ := q1
  subst ex
  cases r1 with
  | cons r rr =>
    cases rr
    cases r
    obtain ⟨its, rv, p', hz⟩ := I1.tuple hq
    have hla : a < s1.heap.objs.size := by obtain ⟨o, ho, _⟩ := p'; exact Heap.lt_size ho
    refine enum_call1 (begins_tuple a its.toArray) p' fun h' he hit hk => wpAny_pyIter_enum he ?_
    have I2 : Inv X pins σ H1 { s1 with heap := h' } := I1.kept (t' := s1.toks) hk
    refine ⟨s1.heap.objs.size + 1, [s1.heap.objs.size + 1, s1.heap.objs.size], _, _, H1, rfl, I2, turn_enumT a (s1.heap.objs.size + 1) s1.heap.objs.size, ⟨⟨.none, he⟩, ⟨_, hit, rfl, rfl⟩, Nat.succ_ne_self _, Nat.ne_of_lt hla, Nat.ne_of_lt (Nat.lt_succ_of_lt hla)⟩, fun b hb => ?_, q⟩
    have e' : b = s1.heap.objs.size + 1 ∨ b = s1.heap.objs.size := by simpa using hb
    have hle : s1.heap.objs.size ≤ b := by
      rcases e' with z | z
      · rw [z]; exact Nat.le_add_right _ _
      · rw [z]; exact Nat.le_refl _
    exact I1.fpOk hle (I1.hok.fresh hle)
theorem wk_enumT {K : Frag} {a : Addr} {vs : List V} {xs : List D} {br : Bool} (hz : xs.length = vs.length) : WkD K br (IteT K a) (enumFrom 0 xs) (SrcT K a vs xs) := by
  refine ⟨fun i O C H hi g => ?_, fun O C H g => ?_, fun i O C H x H' d hd g y => ?_, fun _ _ _ _ _ hC k hO g => g.mv hC k hO, fun hb _ _ _ _ _ _ k hO hC g => g.mvs k hO hC⟩
  · rw [enumFrom_len] at hi
    have hi : i < vs.length := by omega
    exact ⟨vs, vs[i], g.1, by simp [hi]⟩
  · rw [enumFrom_len, hz]; exact ⟨vs, g.1, Nat.le_refl _⟩
  · obtain ⟨z, e1, rfl⟩ := enumFrom_get xs 0 i d hd
    obtain ⟨T, q, rfl, hT, rfl, e3⟩ := y
    obtain ⟨v, e4, r⟩ := g.2.get e1
    rw [e3 _ g.1] at e4; cases e4
    refine ⟨fun _ => Keep.new hT, Rp.tup_new hT two_line ?_⟩
    rw [Nat.zero_add]
    exact .cons (.int _) (.cons r .nil)
end Ev

set_option maxHeartbeats 4000000
namespace Ev
open PySem PySem.Spec PyProof.Rows L2
section
variable {K : Frag} {φ : Phi} {X : Cx} {σ : SSt} {H : Hp} {Q : VK}
theorem wipe_get (σ : SSt) (i : Nat) : ∀ (vs : List Nat), i ∈ vs → i < σ.length → (L2.wipe σ vs)[i]? = some none
  | [], h, _ => by cases h
  | v :: vs, h, hl => by
    show ((L2.wipe σ vs).set v none)[i]? = some none
    by_cases e : v = i
    · subst e
      rw [List.getElem?_set_self (by rw [wipe_length]; exact hl)]
    · rw [List.getElem?_set_ne e]
      exact wipe_get σ i vs ((List.mem_cons.mp h).resolve_left fun q => e q.symm) hl
theorem wipe_out (σ : SSt) (i : Nat) : ∀ (vs : List Nat), i ∉ vs → (L2.wipe σ vs)[i]? = σ[i]?
  | [], _ => rfl
  | v :: vs, h => by
    rw [List.mem_cons, not_or] at h
    show ((L2.wipe σ vs).set v none)[i]? = _
    rw [List.getElem?_set_ne fun e => h.1 e.symm]
    exact wipe_out σ i vs h.2
theorem wipe_wipe (σ : SSt) (vs : List Nat) : L2.wipe (L2.wipe σ vs) vs = L2.wipe σ vs := by
  apply List.ext_getElem?
  intro i
  by_cases hi : i ∈ vs
  · by_cases hl : i < σ.length
    · rw [wipe_get σ i vs hi hl, wipe_get (L2.wipe σ vs) i vs hi (by rw [wipe_length]; exact hl)]
    · rw [List.getElem?_eq_none (by rw [wipe_length, wipe_length]; omega), List.getElem?_eq_none (by rw [wipe_length]; omega)]
  · rw [wipe_out _ i vs hi]
theorem Keep.put_new {C : List Addr} {H1 H4 : Hp} {p : Addr} {o : HO} (k : Keep C H1 H4) (h : H1 p = none) : Keep C H1 (upd H4 p o) := by
  refine ⟨fun x u e n => ?_, fun x u e => ?_, fun x u w e => ?_⟩
  · rw [upd_ne (ne_of_none e h)]; exact k.ob x u e n
  · rw [upd_ne (ne_of_none e h)]; exact k.tp x u e
  · rw [upd_ne (ne_of_none e h)]; exact k.fz x u w e
theorem MemOk.cons {O C : List Addr} {H1 : Hp} {m : Mem} {p : Addr} {o : HO} (M : MemOk K O C H1 m) (h : H1 p = none) : MemOk K (p :: O) C (upd H1 p o) m := by
  have kk : Keep [] H1 (upd H1 p o) := Keep.new h
  refine ⟨M.len, fun n a d e1 e2 => (M.at_ n a d e1 e2).move2 (Z := []) (by simp) kk (fun a ha hn => ?_) (fun _ _ e => e) (by simp), fun a ha => List.mem_cons_of_mem _ (M.sub a ha), M.nd, fun a ha => ?_⟩
  · rw [List.mem_cons, not_or]
    exact ⟨fun e => (by subst e; obtain ⟨o, e⟩ := ha; rw [h] at e; cases e), hn⟩
  · rcases List.mem_cons.mp ha with rfl | ha
    · exact ⟨o, upd_same⟩
    · obtain ⟨o', e⟩ := M.al a ha
      exact ⟨o', kk.ob a o' e (by simp)⟩
theorem MemOk.less {O C : List Addr} {H1 : Hp} {m : Mem} {p : Addr} (M : MemOk K (p :: O) C H1 m) (h : ∀ a ∈ C, a ∈ O) : MemOk K O C H1 m :=
  ⟨M.len, fun n a d e1 e2 => (M.at_ n a d e1 e2).move2 (Z := []) (by simp) Keep.refl (fun a _ hn q => hn (List.mem_cons_of_mem _ q)) (fun _ _ e => e) (by simp), h, M.nd, fun a ha => M.al a (List.mem_cons_of_mem _ ha)⟩
theorem MemOk.put {O C : List Addr} {H1 : Hp} {m : Mem} {p : Addr} {xs : List V} {o : HO} (M : MemOk K O C H1 m) (e : H1 p = some (.lst xs)) (hO : p ∈ O) (hC : p ∉ C) : MemOk K O C (upd H1 p o) m := by
  have kk : Keep [p] H1 (upd H1 p o) := Keep.put e (by simp)
  refine ⟨M.len, fun n a d e1 e2 => (M.at_ n a d e1 e2).move2 (Z := [p]) (by simpa using hO) kk (fun a _ hn => hn) (fun _ _ e => e) ?_, M.sub, M.nd, fun a ha => ?_⟩
  · have : a ∈ C := List.mem_of_getElem? e1
    simp only [List.mem_singleton]
    exact fun q => hC (q ▸ this)
  · by_cases q : a = p
    · subst q; exact ⟨o, upd_same⟩
    · obtain ⟨o', e'⟩ := M.al a ha
      exact ⟨o', by rw [upd_ne q]; exact e'⟩
/-- the turn of a comprehension -/
def compG (φ : Phi) (own : List Nat) (t : T) (ifs elt : E) (ρ : Env) (x : D) (m : Mem) : Out (Option D) := match putT t x (wipeE ρ own) with
  | some ρ1 => (evE φ ifs ρ1 m).bind fun c m => match truD c with
    | some true => (evE φ elt ρ1 m).bind fun y m => .ok (some y) m
    | some false => .ok none m
    | none => .no
  | none => .no
theorem tE_comp {own : List Nat} {t : T} {k : ItK} {it ifs elt : E} (ho : ∀ i ∈ slotsT t, i ∈ own) (hb : isBr (kd elt) = false) :
    tE K φ (.comp own t k it ifs elt) σ H Q → tLc (tI K φ k it) (tG K t) (tT K φ ifs) (tE K φ elt) own σ H Q := by
  rintro ⟨O, C, ρ, m, r, m', M, En, ev, q⟩
  have ev : (evE φ it ρ m).bind (fun r m => (Out.of m (itemsD k (argsOf r))).bind fun xs m => compL (compG φ own t ifs elt ρ) xs [] m) = .ok r m' := ev
  obtain ⟨a0, m0, e0, ev⟩ := bind_eq_ok ev
  obtain ⟨xs, m1, e1, ev⟩ := bind_eq_ok ev
  refine ⟨O, C, ρ, m, xs, m1, M, En, by show (evE φ it ρ m).bind _ = _; rw [e0]; exact e1, fun J H1 G k1 M1 wk g z Da hDa => ?_⟩
  have En1 : EnvOk K O C H1 ρ σ := En.keep M.sub k1
  have hDC : Da ∉ C := fun h => by obtain ⟨o, e⟩ := M1.alC Da h; rw [hDa] at e; cases e
  have hDH : H Da = none := by
    cases qq : H Da with
    | none => rfl
    | some o => rw [k1.ob Da o qq hDC] at hDa; cases hDa
  have hOD : ∀ a, Alv H1 a → a ∉ O → a ∉ Da :: O := fun a ⟨o, e⟩ hn => by
    rw [List.mem_cons, not_or]
    exact ⟨ne_of_none e hDa, hn⟩
  -- what holds at a heap that comes of H1
  have envAt : ∀ {Hc}, Keep C H1 Hc → EnvOk K (Da :: O) C Hc (wipeE ρ own) (L2.wipe σ own) := fun {Hc} kk =>
    (En1.move2 M.sub kk hOD (fun a h => List.mem_cons_of_mem _ h) (fun _ _ e => e) (fun _ _ h => h) (fun i d a h1 h2 => by
      obtain ⟨b, q1, _, q2, _⟩ := En1.own i d h1
      rw [h2] at q1; cases q1; exact q2)).wipe own
  have gAt : ∀ {Hc}, Keep C H1 Hc → G (Da :: O) C Hc := fun {Hc} kk => wk.mv O C H1 (Da :: O) Hc M.sub kk hOD g
  refine ⟨fun i j Hc => j = xs.length - i ∧ i ≤ xs.length ∧ ∃ acc vs mi, Hc Da = some (.lst vs) ∧ vs.length ≤ i ∧ RpAll K (Da :: O) C Hc acc vs ∧ MemOk K (Da :: O) C Hc mi ∧ Keep C H1 Hc ∧ compL (compG φ own t ifs elt ρ) (xs.drop i) acc mi = .ok r m',
    ⟨xs.length, by simp, Nat.zero_le _, [], [], m1, upd_same, Nat.le_refl _, .nil, M1.cons hDa, Keep.new hDa, ev⟩, ?_⟩
  rintro i j Hc ⟨rfl, hi, acc, vs, mi, hD, hv, hr, hM, hk, hev⟩
  by_cases hlt : i < xs.length
  · obtain ⟨x0, hx0⟩ : ∃ d, xs[i]? = some d := ⟨xs[i], by simp [hlt]⟩
    have hdrop : xs.drop i = x0 :: xs.drop (i + 1) := by
      rw [List.drop_eq_getElem_cons hlt]
      congr 1
      rw [List.getElem?_eq_getElem hlt] at hx0
      exact Option.some.inj hx0
    rw [hdrop] at hev
    have hev : (compG φ own t ifs elt ρ x0 mi).bind (fun y m => match y with
      | some y => compL (compG φ own t ifs elt ρ) (xs.drop (i + 1)) (acc ++ [y]) m
      | none => compL (compG φ own t ifs elt ρ) (xs.drop (i + 1)) acc m) = .ok r m' := hev
    obtain ⟨y, m2, ey, hev⟩ := bind_eq_ok hev
    refine .inr ⟨wk.go i _ _ Hc hlt (gAt hk), fun H' => (i + 1 ≤ xs.length ∧ ∃ acc vs mi, H' Da = some (.lst vs) ∧ vs.length ≤ i + 1 ∧ RpAll K (Da :: O) C H' acc vs ∧ MemOk K (Da :: O) C H' mi ∧ Keep C H1 H' ∧ compL (compG φ own t ifs elt ρ) (xs.drop (i + 1)) acc mi = .ok r m'),
      fun H' h => ⟨xs.length - (i + 1), by omega, rfl, h.1, h.2⟩, fun x H' hy => ?_⟩
    obtain ⟨ky, rx⟩ := wk.yld i _ _ Hc x H' x0 hx0 (gAt hk) hy
    unfold compG at ey
    split at ey
    · rename_i ρ1 hρ1
      obtain ⟨c, m3, ec, ey⟩ := bind_eq_ok ey
      refine ⟨Da :: O, C, wipeE ρ own, x0, ρ1, envAt (hk.trans (ky C)), rx, hρ1, fun σ2 En2 w2 => ⟨?_, ?_⟩⟩
      · rw [w2 own ho, wipe_wipe]
      have D' : H' Da = some (.lst vs) := (ky []).ob Da _ hD (by simp)
      have M' : MemOk K (Da :: O) C H' mi := hM.grow ky
      split at ey
      · rename_i ht
        obtain ⟨y', m4, ee, ey⟩ := bind_eq_ok ey
        cases ey
        refine ⟨Da :: O, C, ρ1, mi, c, m3, true, M', En2, ec, ht, fun H3 k3 M3 => ?_⟩
        (try dsimp only)
        rw [if_pos rfl]
        refine .go M3 (En2.keep hM.sub k3) ee fun v H4 k4 M4 En4 R4 => ?_
        have D4 : H4 Da = some (.lst vs) := k4.ob Da _ (k3.ob Da _ D' hDC) hDC
        have K4 : Keep C H1 H4 := ((hk.trans (ky C)).trans k3).trans k4
        refine ⟨vs, D4, by omega, hlt, acc ++ [y'], vs ++ [v], m2, upd_same, by simp; omega, ?_, M4.put D4 (by simp) hDC, K4.put_new hDa, hev⟩
        have h1 : RpAll K (Da :: O) C H4 (acc ++ [y']) (vs ++ [v]) := (((hr.keep hM.sub (ky C)).keep hM.sub k3).keep hM.sub k4).append (.cons (R4.pl M3 hb) .nil)
        exact h1.keep (Z := [Da]) (by simp) (Keep.put D4 (by simp))
      · rename_i ht
        cases ey
        refine ⟨Da :: O, C, ρ1, mi, c, _, false, M', En2, ec, ht, fun H3 k3 M3 => ?_⟩
        (try dsimp only)
        rw [if_neg Bool.false_ne_true]
        exact ⟨hlt, acc, vs, _, k3.ob Da _ D' hDC, by omega, (hr.keep hM.sub (ky C)).keep hM.sub k3, M3, (hk.trans (ky C)).trans k3, hev⟩
      · cases ey
    · cases ey
  · have e : i = xs.length := by omega
    subst e
    rw [List.drop_length] at hev
    cases hev
    refine .inl ⟨wk.stop _ _ Hc (gAt hk), ?_⟩
    exact q _ Hc (k1.trans hk) (hM.less M.sub) ⟨Da, vs, rfl, hDH, hD, by omega, hr⟩ (fun _ _ _ e => by cases e; exact hM)
theorem rb_src {O C : List Addr} {br : Bool} {l : List D} {v : V} {k : Kd} {H0 : Hp} {m : Mem} (M : MemOk K O C H0 m) (hb : br = false → isBr k = false) (R : Rv k K O C H0 H (.lst l) v) : ∃ a vs, v = .ref a ∧ SrcL K br a vs l O C H ∧ vs.length ≤ sizeLine ∧ l.length = vs.length := by
  cases br with
  | true =>
    obtain ⟨a, xs, e, h, z, r⟩ := R.rb M
    exact ⟨a, xs, e, ⟨h, r⟩, z, r.length⟩
  | false =>
    cases R.pl M (hb rfl) with
    | lst h z r => exact ⟨_, _, rfl, ⟨h, r⟩, z, r.length⟩
theorem rb_srcT {O C : List Addr} {l : List D} {v : V} (R : Rb K O C H (.tup l) v) : ∃ a vs, v = .ref a ∧ SrcT K a vs l O C H ∧ vs.length ≤ sizeLine ∧ l.length = vs.length := by
  obtain ⟨a, xs, e, h, z, r⟩ := R.tup
  exact ⟨a, xs, e, ⟨h, r⟩, z, r.length⟩
theorem args_one {a : E} {ρ : Env} {m m' : Mem} {r : D} (h : evE φ (.cons a .nil) ρ m = .ok r m') : ∃ x, evE φ a ρ m = .ok x m' ∧ r = .tup [x] := by
  obtain ⟨x, m1, e1, ev⟩ := bind_eq_ok (show (evE φ a ρ m).bind (fun x m => (Out.ok (.tup []) m).bind fun r m => Out.of m (consD x r)) = .ok r m' from h)
  cases ev
  exact ⟨x, e1, rfl⟩
theorem args_two {a b : E} {ρ : Env} {m m' : Mem} {r : D} (h : evE φ (.cons a (.cons b .nil)) ρ m = .ok r m') : ∃ x y m1, evE φ a ρ m = .ok x m1 ∧ evE φ b ρ m1 = .ok y m' ∧ r = .tup [x, y] := by
  obtain ⟨x, m1, e1, ev⟩ := bind_eq_ok (show (evE φ a ρ m).bind (fun x m => (evE φ (.cons b .nil) ρ m).bind fun r m => Out.of m (consD x r)) = .ok r m' from h)
  obtain ⟨s, m2, e2, ev⟩ := bind_eq_ok ev
  obtain ⟨y, e3, rfl⟩ := args_one e2
  cases ev
  exact ⟨x, y, m1, e1, e3, rfl⟩
theorem tI_val {a : E} {R : It → Hp → Prop} : tI K φ .val (.cons a .nil) σ H R → (iList K (tE K φ a) σ H R ∨ iTup K (tE K φ a) σ H R) ∨ iKeys (tE K φ a) σ H R := by
  rintro ⟨O, C, ρ, m, xs, m', M, En, ev, q⟩
  obtain ⟨r, m1, e1, ev⟩ := bind_eq_ok ev
  obtain ⟨x, e2, rfl⟩ := args_one e1
  obtain ⟨e3, rfl⟩ := of_eq_ok ev
  have hbr : brA (.cons a .nil) = isBr (kd a) := by simp [brA]
  rw [hbr] at q
  cases x with
  | lst l =>
    cases e3
    refine .inl (.inl (.go M En e2 fun v H1 k1 M1 En1 R1 => ?_))
    obtain ⟨p, vs, rfl, s, z, hl⟩ := rb_src (br := isBr (kd a)) M (fun h => h) R1
    exact ⟨p, rfl, ⟨vs, s.1.sq⟩, q _ H1 _ k1 M1 (wk_list hl) s (by omega)⟩
  | tup l =>
    cases e3
    refine .inl (.inr (.go M En e2 fun v H1 k1 M1 En1 R1 => ?_))
    obtain ⟨p, vs, rfl, s, z, hl⟩ := rb_srcT (R1.rb M)
    exact ⟨p, rfl, ⟨vs, s.1⟩, q _ H1 _ k1 M1 (wk_tup hl) s (by omega)⟩
  | dic l =>
    refine .inr (.go M En e2 fun v H1 k1 M1 En1 R1 => ?_)
    obtain ⟨p, o, kvs, ds, rfl, hd, z, rfl, rr⟩ := (R1.rb M).dic
    have ek := keys_ents kvs ds xs rr.lenK e3
    subst ek
    exact ⟨p, o, rfl, .inl ⟨kvs, hd, q _ H1 _ k1 M1 wk_keys hd (by rw [List.length_map]; exact z)⟩⟩
  | _ => cases e3
theorem RaAll.one {b : Bool} {O C : List Addr} {d : D} {vs : List V} (h : RaAll b K O C H [d] vs) : ∃ v, vs = [v] ∧ (b = false → Rb K O C H d v) ∧ (b = true → Rp K O C H d v) := by
  cases b with
  | false =>
    obtain ⟨v, e, r⟩ := RbAll.one h
    exact ⟨v, e, fun _ => r, fun q => (by cases q)⟩
  | true =>
    cases h with
    | cons a c => cases c; exact ⟨_, rfl, fun q => (by cases q), fun _ => a⟩
theorem tI_rng1 {a : E} {R : It → Hp → Prop} : tI K φ .rng (.cons a .nil) σ H R → iRng1 (tA false K φ (.cons a .nil)) σ H R := by
  rintro ⟨O, C, ρ, m, xs, m', M, En, ev, q⟩
  obtain ⟨r, m1, e1, ev⟩ := bind_eq_ok ev
  obtain ⟨x, e2, rfl⟩ := args_one e1
  obtain ⟨e3, rfl⟩ := of_eq_ok ev
  refine ⟨O, C, ρ, m, [x], m1, M, En, e1, fun vs H1 k1 M1 RA => ?_⟩
  obtain ⟨v, rfl, hb, _⟩ := RA.one
  cases x with
  | int j =>
    have e3 : rngD 0 j = some xs := e3
    unfold rngD at e3
    split at e3
    · rename_i hc
      simp only [Bool.and_eq_true, decide_eq_true_eq] at hc
      cases e3
      cases (hb rfl).int
      refine ⟨j, rfl, by omega, by omega, ?_⟩
      have hn : (j - 0).toNat = j.toNat := by simp
      rw [hn] at q
      exact q _ H1 _ k1 M1 wk_range trivial (by rw [List.length_map, List.length_range, sizeLine_eq]; omega)
    · cases e3
  | _ => cases e3
theorem tI_items {a : E} {R : It → Hp → Prop} : tI K φ .items (.cons a .nil) σ H R → iItems (tE K φ a) σ H R := by
  rintro ⟨O, C, ρ, m, xs, m', M, En, ev, q⟩
  obtain ⟨r, m1, e1, ev⟩ := bind_eq_ok ev
  obtain ⟨x, e2, rfl⟩ := args_one e1
  obtain ⟨e3, rfl⟩ := of_eq_ok ev
  cases x with
  | dic l =>
    cases e3
    refine .go M En e2 fun v H1 k1 M1 En1 R1 => ?_
    obtain ⟨p, o, kvs, ds, rfl, hd, z, rfl, rr⟩ := (R1.rb M).dic
    exact ⟨p, o, kvs, rfl, hd, q _ H1 _ k1 M1 (wk_items rr.lenK) ⟨hd, rr⟩ (by rw [ents_len kvs ds rr.lenK]; exact z)⟩
  | _ => cases e3
theorem vals_ents : ∀ (kvs : List (Key × V)) (ds vs : List D), ds.length = kvs.length → valsOf (entsK kvs ds) = some vs → vs = ds
  | [], [], vs, _, e => by cases e; rfl
  | [], _ :: _, _, h, _ => by cases h
  | p :: r, [], vs, h, _ => by cases h
  | p :: r, d :: ds, vs, h, e => by
    obtain ⟨ms, e1, rfl⟩ := Option.map_eq_some_iff.mp (show (valsOf (entsK r ds)).map (d :: ·) = some vs from e)
    rw [vals_ents r ds ms (Nat.succ.inj h) e1]
theorem tI_vals {a : E} {R : It → Hp → Prop} : tI K φ .vals (.cons a .nil) σ H R → iVals (tE K φ a) σ H R := by
  rintro ⟨O, C, ρ, m, xs, m', M, En, ev, q⟩
  obtain ⟨r, m1, e1, ev⟩ := bind_eq_ok ev
  obtain ⟨x, e2, rfl⟩ := args_one e1
  obtain ⟨e3, rfl⟩ := of_eq_ok ev
  cases x with
  | dic l =>
    refine .go M En e2 fun v H1 k1 M1 En1 R1 => ?_
    obtain ⟨p, o, kvs, ds, rfl, hd, z, rfl, rr⟩ := (R1.rb M).dic
    obtain rfl := vals_ents kvs ds xs rr.lenK e3
    exact ⟨p, o, kvs, rfl, hd, q _ H1 _ k1 M1 (wk_vals rr.lenK) ⟨hd, rr⟩ (by rw [rr.lenK]; exact z)⟩
  | _ => cases e3
theorem args_three {a b c : E} {ρ : Env} {m m' : Mem} {r : D} (h : evE φ (.cons a (.cons b (.cons c .nil))) ρ m = .ok r m') : ∃ x y z, r = .tup [x, y, z] := by
  obtain ⟨x, m1, e1, ev⟩ := bind_eq_ok (show (evE φ a ρ m).bind (fun x m => (evE φ (.cons b (.cons c .nil)) ρ m).bind fun r m => Out.of m (consD x r)) = .ok r m' from h)
  obtain ⟨s, m2, e2, ev⟩ := bind_eq_ok ev
  obtain ⟨y, z, _, _, _, rfl⟩ := args_two e2
  cases ev
  exact ⟨x, y, z, rfl⟩
theorem RbAll.three {O C : List Addr} {d e f : D} {vs : List V} (h : RbAll K O C H [d, e, f] vs) : ∃ v w u, vs = [v, w, u] ∧ Rb K O C H d v ∧ Rb K O C H e w ∧ Rb K O C H f u := by
  cases h with
  | cons a b =>
    obtain ⟨w, u, rfl, c, c'⟩ := b.two
    exact ⟨_, _, _, rfl, a, c, c'⟩
theorem tI_rng3 {a b c : E} {R : It → Hp → Prop} : tI K φ .rng (.cons a (.cons b (.cons c .nil))) σ H R → iRng3 (tA false K φ (.cons a (.cons b (.cons c .nil)))) σ H R := by
  rintro ⟨O, C, ρ, m, xs, m', M, En, ev, q⟩
  obtain ⟨r, m1, e1, ev⟩ := bind_eq_ok ev
  obtain ⟨x, y, z, rfl⟩ := args_three e1
  obtain ⟨e3, rfl⟩ := of_eq_ok ev
  refine ⟨O, C, ρ, m, [x, y, z], m1, M, En, e1, fun vs H1 k1 M1 RA => ?_⟩
  obtain ⟨v, w, u, rfl, h1, h2, h3⟩ := RbAll.three RA
  cases x with
  | int i =>
    cases y with
    | int j =>
      cases z with
      | int k =>
        have e4 : (if k = -1 then rngN i j else none) = some xs := e3
        clear e3
        split at e4
        case isFalse => cases e4
        rename_i hk
        subst hk
        unfold rngN at e4
        split at e4
        · rename_i hc
          simp only [Bool.and_eq_true, decide_eq_true_eq] at hc
          cases e4
          cases h1.int
          cases h2.int
          cases h3.int
          refine ⟨i, j, -1, (i - j).toNat, rfl, RgC.neg (by omega) (by omega) (by omega) (by omega), ?_⟩
          exact q _ H1 _ k1 M1 wk_rngN trivial (by rw [List.length_map, List.length_range, sizeLine_eq]; omega)
        · cases e4
      | _ => cases e3
    | _ => cases e3
  | _ => cases e3
theorem RaAll.two {b : Bool} {O C : List Addr} {d e : D} {vs : List V} (h : RaAll b K O C H [d, e] vs) : ∃ v w, vs = [v, w] ∧ (b = false → Rb K O C H d v ∧ Rb K O C H e w) ∧ (b = true → Rp K O C H d v ∧ Rp K O C H e w) := by
  cases b with
  | false =>
    obtain ⟨v, w, e, r, r'⟩ := RbAll.two h
    exact ⟨v, w, e, fun _ => ⟨r, r'⟩, fun q => (by cases q)⟩
  | true =>
    cases h with
    | cons a c =>
      cases c with
      | cons c d => cases d; exact ⟨_, _, rfl, fun q => (by cases q), fun _ => ⟨a, c⟩⟩
theorem tI_zip {a b : E} {R : It → Hp → Prop} : tI K φ .zip (.cons a (.cons b .nil)) σ H R → RZ.iZipA K (tA (!brA (.cons a (.cons b .nil))) K φ (.cons a (.cons b .nil))) σ H R := by
  rintro ⟨O, C, ρ, m, xs, m', M, En, ev, q⟩
  obtain ⟨r, m1, e1, ev⟩ := bind_eq_ok ev
  obtain ⟨x, y, m2, e2, e2', rfl⟩ := args_two e1
  obtain ⟨e3, rfl⟩ := of_eq_ok ev
  generalize hbr : brA (.cons a (.cons b .nil)) = br at q ⊢
  cases x with
  | lst l =>
    cases y with
    | lst l2 =>
      cases e3
      refine ⟨O, C, ρ, m, [.lst l, .lst l2], m1, M, En, e1, fun vs H1 k1 M1 RA => ?_⟩
      obtain ⟨v, w, rfl, hb, hp⟩ := RA.two
      have src : ∀ {l : List D} {v : V}, (br = true → Rb K O C H1 (.lst l) v) → (br = false → Rp K O C H1 (.lst l) v) → ∃ p vs, v = .ref p ∧ SrcL K br p vs l O C H1 ∧ vs.length ≤ sizeLine ∧ l.length = vs.length := by
        intro l v h1 h2
        cases br with
        | true =>
          obtain ⟨p, xs, e, h, z, r⟩ := h1 rfl
          exact ⟨p, xs, e, ⟨h, r⟩, z, r.length⟩
        | false =>
          cases h2 rfl with
          | lst h z r => exact ⟨_, _, rfl, ⟨h, r⟩, z, r.length⟩
      obtain ⟨p, vs, rfl, s, z, hl⟩ := src (fun h => (hb (by rw [h]; rfl)).1) (fun h => (hp (by rw [h]; rfl)).1)
      obtain ⟨p2, vs2, rfl, s2, z2, hl2⟩ := src (fun h => (hb (by rw [h]; rfl)).2) (fun h => (hp (by rw [h]; rfl)).2)
      exact ⟨p, p2, vs, vs2, rfl, .inl ⟨s.1.sq, s2.1.sq, q _ H1 _ k1 M1 (wk_zip hl hl2) ⟨s, s2⟩ (by rw [zip2_len]; omega)⟩⟩
    | _ => cases e3
  | tup l =>
    cases y with
    | tup l2 =>
      cases e3
      refine ⟨O, C, ρ, m, [.tup l, .tup l2], m1, M, En, e1, fun vs H1 k1 M1 RA => ?_⟩
      obtain ⟨v, w, rfl, hb, hp⟩ := RA.two
      have src : ∀ {l : List D} {v : V}, (br = true → Rb K O C H1 (.tup l) v) → (br = false → Rp K O C H1 (.tup l) v) → ∃ p vs, v = .ref p ∧ SrcT K p vs l O C H1 ∧ vs.length ≤ sizeLine ∧ l.length = vs.length := by
        intro l v h1 h2
        cases br with
        | true => exact rb_srcT (h1 rfl)
        | false =>
          cases h2 rfl with
          | tup h z r => exact ⟨_, _, rfl, ⟨h, r⟩, z, r.length⟩
      obtain ⟨p, vs, rfl, s, z, hl⟩ := src (fun h => (hb (by rw [h]; rfl)).1) (fun h => (hp (by rw [h]; rfl)).1)
      obtain ⟨p2, vs2, rfl, s2, z2, hl2⟩ := src (fun h => (hb (by rw [h]; rfl)).2) (fun h => (hp (by rw [h]; rfl)).2)
      exact ⟨p, p2, vs, vs2, rfl, .inr ⟨s.1, s2.1, q _ H1 _ k1 M1 (wk_zipT hl hl2) ⟨s, s2⟩ (by rw [zip2_len]; omega)⟩⟩
    | _ => cases e3
  | _ => cases e3
theorem tI_rng2 {a b : E} {R : It → Hp → Prop} : tI K φ .rng (.cons a (.cons b .nil)) σ H R → iRng2 (tA false K φ (.cons a (.cons b .nil))) σ H R := by
  rintro ⟨O, C, ρ, m, xs, m', M, En, ev, q⟩
  obtain ⟨r, m1, e1, ev⟩ := bind_eq_ok ev
  obtain ⟨x, y, m2, e2, e2', rfl⟩ := args_two e1
  obtain ⟨e3, rfl⟩ := of_eq_ok ev
  refine ⟨O, C, ρ, m, [x, y], m1, M, En, e1, fun vs H1 k1 M1 RA => ?_⟩
  obtain ⟨v, w, rfl, h1, h2⟩ := RbAll.two RA
  cases x with
  | int i =>
    cases y with
    | int j =>
      have e3 : rngD i j = some xs := e3
      unfold rngD at e3
      split at e3
      · rename_i hc
        simp only [Bool.and_eq_true, decide_eq_true_eq] at hc
        cases e3
        cases h1.int
        cases h2.int
        refine ⟨i, j, rfl, by omega, ?_⟩
        exact q _ H1 _ k1 M1 wk_range trivial (by rw [List.length_map, List.length_range, sizeLine_eq]; omega)
      · cases e3
    | _ => cases e3
  | _ => cases e3
theorem tI_enum {a : E} {R : It → Hp → Prop} : tI K φ .enum (.cons a .nil) σ H R → iEnum K (tA (!isBr (kd a)) K φ (.cons a .nil)) σ H R ∨ iEnumT K (tA (!isBr (kd a)) K φ (.cons a .nil)) σ H R := by
  rintro ⟨O, C, ρ, m, xs, m', M, En, ev, q⟩
  obtain ⟨r, m1, e1, ev⟩ := bind_eq_ok ev
  obtain ⟨x, e2, rfl⟩ := args_one e1
  obtain ⟨e3, rfl⟩ := of_eq_ok ev
  have hbr : brA (.cons a .nil) = isBr (kd a) := by simp [brA]
  rw [hbr] at q
  cases x with
  | lst l =>
    cases e3
    refine .inl ⟨O, C, ρ, m, [.lst l], m1, M, En, e1, fun vs H1 k1 M1 RA => ?_⟩
    obtain ⟨v, rfl, hb, hp⟩ := RA.one
    have src : ∃ p vs, v = .ref p ∧ SrcL K (isBr (kd a)) p vs l O C H1 ∧ vs.length ≤ sizeLine ∧ l.length = vs.length := by
      cases hk : isBr (kd a) with
      | true =>
        rw [hk] at hb
        obtain ⟨p, xs, e, h, z, r⟩ := hb rfl
        exact ⟨p, xs, e, ⟨h, r⟩, z, r.length⟩
      | false =>
        rw [hk] at hp
        cases hp rfl with
        | lst h z r => exact ⟨_, _, rfl, ⟨h, r⟩, z, r.length⟩
    obtain ⟨p, vs, rfl, s, z, hl⟩ := src
    exact ⟨p, vs, rfl, s.1.sq, q _ H1 _ k1 M1 (wk_enum hl) s (by rw [enumFrom_len]; omega)⟩
  | tup l =>
    cases e3
    refine .inr ⟨O, C, ρ, m, [.tup l], m1, M, En, e1, fun vs H1 k1 M1 RA => ?_⟩
    obtain ⟨v, rfl, hb, hp⟩ := RA.one
    have src : ∃ p vs, v = .ref p ∧ SrcT K p vs l O C H1 ∧ vs.length ≤ sizeLine ∧ l.length = vs.length := by
      cases hk : isBr (kd a) with
      | true =>
        rw [hk] at hb
        exact rb_srcT (hb rfl)
      | false =>
        rw [hk] at hp
        cases hp rfl with
        | tup h z r => exact ⟨_, _, rfl, ⟨h, r⟩, z, r.length⟩
    obtain ⟨p, vs, rfl, s, z, hl⟩ := src
    exact ⟨p, vs, rfl, s.1, q _ H1 _ k1 M1 (wk_enumT hl) s (by rw [enumFrom_len]; omega)⟩
  | _ => cases e3
end
end Ev

set_option maxHeartbeats 4000000
namespace Ev
open PySem PySem.Spec PyProof.Rows L2
theorem hasD_ents (k : Key) : ∀ (kvs : List (Key × V)) (ds : List D), ds.length = kvs.length → hasD (keyD k) (entsK kvs ds) = kvs.any fun kv => decide (kv.1 = k)
  | [], ds, _ => by cases ds <;> rfl
  | p :: r, [], h => by cases h
  | p :: r, d :: ds, h => by
    show (keyIsD (keyD p.1) (keyD k) || hasD (keyD k) (entsK r ds)) = (decide (p.1 = k) || r.any _)
    rw [keyIs_keyD, hasD_ents k r ds (Nat.succ.inj h)]
theorem ents_app (k : Key) (z : V) (d : D) : ∀ (kvs : List (Key × V)) (ds : List D), ds.length = kvs.length → entsK kvs ds ++ [.tup [keyD k, d]] = entsK (kvs ++ [(k, z)]) (ds ++ [d])
  | [], [], _ => rfl
  | [], _ :: _, h => by cases h
  | p :: r, [], h => by cases h
  | p :: r, e :: ds, h => by
    show _ :: (entsK r ds ++ _) = _ :: entsK (r ++ _) (ds ++ _)
    rw [ents_app k z d r ds (Nat.succ.inj h)]
section
variable {K : Frag} {O C : List Addr} {H : Hp}
theorem rep_ents {k : Key} {z : V} {d : D} (hz : Rp K O C H d z) : ∀ (kvs : List (Key × V)) (ds : List D), RpAll K O C H ds (kvs.map (·.2)) →
    ∃ ds', repD (keyD k) d (entsK kvs ds) = entsK (kvs.map fun kv => if kv.1 = k then (kv.1, z) else kv) ds' ∧ RpAll K O C H ds' ((kvs.map fun kv => if kv.1 = k then (kv.1, z) else kv).map (·.2))
  | [], ds, h => by cases h; exact ⟨[], rfl, .nil⟩
  | p :: r, _, h => by
    cases h with
    | cons h1 h2 =>
      rename_i d0 ds
      obtain ⟨ds', e, r'⟩ := rep_ents hz r ds h2
      by_cases hk : p.1 = k
      · refine ⟨d :: ds', ?_, ?_⟩
        · show D.tup [keyD p.1, if keyIsD (keyD p.1) (keyD k) then d else d0] :: repD (keyD k) d (entsK r ds) = entsK ((if p.1 = k then (p.1, z) else p) :: _) (d :: ds')
          rw [keyIs_keyD, decide_eq_true hk, if_pos hk, e]
          rfl
        · show RpAll K O C H (d :: ds') ((if p.1 = k then (p.1, z) else p).2 :: _)
          rw [if_pos hk]
          exact .cons hz r'
      · refine ⟨d0 :: ds', ?_, ?_⟩
        · show D.tup [keyD p.1, if keyIsD (keyD p.1) (keyD k) then d else d0] :: repD (keyD k) d (entsK r ds) = entsK ((if p.1 = k then (p.1, z) else p) :: _) (d0 :: ds')
          rw [keyIs_keyD, decide_eq_false hk, if_neg hk, e]
          rfl
        · show RpAll K O C H (d0 :: ds') ((if p.1 = k then (p.1, z) else p).2 :: _)
          rw [if_neg hk]
          exact .cons h1 r'
theorem put_ents {k : Key} {z : V} {d : D} {kvs : List (Key × V)} {ds : List D} (hz : Rp K O C H d z) (h : RpAll K O C H ds (kvs.map (·.2))) :
    ∃ ds', dputD (keyD k) d (entsK kvs ds) = entsK (putK kvs k z) ds' ∧ RpAll K O C H ds' ((putK kvs k z).map (·.2)) := by
  have hl : ds.length = kvs.length := by rw [h.length, List.length_map]
  unfold dputD putK
  rw [hasD_ents k kvs ds hl]
  split
  · exact rep_ents hz kvs ds h
  · refine ⟨ds ++ [d], ents_app k z d kvs ds hl, ?_⟩
    rw [List.map_append]
    exact h.append (.cons hz .nil)
theorem Keep.putK {Z : List Addr} {p : Addr} {kvs : List (Key × V)} {o : HO} (h : H p = some (.dK kvs)) (z : p ∈ Z) : Keep Z H (upd H p o) := by
  refine ⟨fun x u e n => ?_, fun x u e => ?_, fun x u w e => ?_⟩
  · rw [upd_ne (fun q => n (by rw [q]; exact z))]; exact e
  · rw [upd_ne (fun q => by subst q; rw [h] at e; cases e)]; exact e
  · rw [upd_ne (fun q => by subst q; rw [h] at e; cases e)]; exact e
theorem MemOk.putG {H1 : Hp} {m : Mem} {p : Addr} {o : HO} (M : MemOk K O C H1 m) (kk : Keep [p] H1 (upd H1 p o)) (hO : p ∈ O) (hC : p ∉ C) : MemOk K O C (upd H1 p o) m := by
  refine ⟨M.len, fun n a d e1 e2 => (M.at_ n a d e1 e2).move2 (Z := [p]) (by simpa using hO) kk (fun a _ hn => hn) (fun _ _ e => e) ?_, M.sub, M.nd, fun a ha => ?_⟩
  · have : a ∈ C := List.mem_of_getElem? e1
    simp only [List.mem_singleton]
    exact fun q => hC (q ▸ this)
  · by_cases q : a = p
    · subst q; exact ⟨o, upd_same⟩
    · obtain ⟨o', e'⟩ := M.al a ha
      exact ⟨o', by rw [upd_ne q]; exact e'⟩
end
/-- the turn of a dict comprehension -/
def dcompG (φ : Phi) (own : List Nat) (t : T) (ifs key val : E) (ρ : Env) (x : D) (m : Mem) : Out (Option (D × D)) := match putT t x (wipeE ρ own) with
  | some ρ1 => (evE φ ifs ρ1 m).bind fun c m => match truD c with
    | some true => (evE φ key ρ1 m).bind fun y m => (evE φ val ρ1 m).bind fun z m => .ok (some (y, z)) m
    | some false => .ok none m
    | none => .no
  | none => .no
/-- a new dict is locked -/
theorem pe_lockV {X : Cx} {e : Expr} {t : TE} (h : PE X e t) : PE X e (fun σ H Q => t σ H fun v H' => ∃ (a : Addr) (u : HO), v = .ref a ∧ H' a = some u ∧ Mut (some u) ∧ ∀ od, Q v (upd H' a (.frz od u))) := by
  refine ⟨fun pins s σ H Q I hw => ?_⟩
  refine thn (h.run pins s σ H _ I hw) fun v s1 hh => ?_
  obtain ⟨x, H1, I1, r, a, u, ex, e, mu, q⟩ := hh
  obtain ⟨od, I2⟩ := I1.lock e mu
  exact ⟨_, _, I2, r, q od⟩
section
variable {K : Frag} {φ : Phi} {X : Cx} {σ : SSt} {H : Hp} {Q : VK}
theorem tE_dcomp {own : List Nat} {t : T} {k : ItK} {it ifs key val : E} (ho : ∀ i ∈ slotsT t, i ∈ own) (hbk : isBr (kd key) = false) (hb : isBr (kd val) = false) :
    tE K φ (.dcomp own t k it ifs key val) σ H Q → tDc (tI K φ k it) (tG K t) (tT K φ ifs) (tE K φ key) (tE K φ val) own σ H fun v H' => ∃ (a : Addr) (u : HO), v = .ref a ∧ H' a = some u ∧ Mut (some u) ∧ ∀ od, Q v (upd H' a (.frz od u)) := by
  rintro ⟨O, C, ρ, m, r, m', M, En, ev, q⟩
  have ev : (evE φ it ρ m).bind (fun r m => (Out.of m (itemsD k (argsOf r))).bind fun xs m => dcompL (dcompG φ own t ifs key val ρ) xs [] m) = .ok r m' := ev
  obtain ⟨a0, m0, e0, ev⟩ := bind_eq_ok ev
  obtain ⟨xs, m1, e1, ev⟩ := bind_eq_ok ev
  refine ⟨O, C, ρ, m, xs, m1, M, En, by show (evE φ it ρ m).bind _ = _; rw [e0]; exact e1, fun J H1 G k1 M1 wk g z Da hDa => ?_⟩
  have En1 : EnvOk K O C H1 ρ σ := En.keep M.sub k1
  have hDC : Da ∉ C := fun h => by obtain ⟨o, e⟩ := M1.alC Da h; rw [hDa] at e; cases e
  have hDO : Da ∉ O := fun h => by obtain ⟨o, e⟩ := M1.al Da h; rw [hDa] at e; cases e
  have hOD : ∀ a, Alv H1 a → a ∉ O → a ∉ Da :: O := fun a ⟨o, e⟩ hn => by
    rw [List.mem_cons, not_or]
    exact ⟨ne_of_none e hDa, hn⟩
  have envAt : ∀ {Hc}, Keep C H1 Hc → EnvOk K (Da :: O) C Hc (wipeE ρ own) (L2.wipe σ own) := fun {Hc} kk =>
    (En1.move2 M.sub kk hOD (fun a h => List.mem_cons_of_mem _ h) (fun _ _ e => e) (fun _ _ h => h) (fun i d a h1 h2 => by
      obtain ⟨b, q1, _, q2, _⟩ := En1.own i d h1
      rw [h2] at q1; cases q1; exact q2)).wipe own
  have gAt : ∀ {Hc}, Keep C H1 Hc → G (Da :: O) C Hc := fun {Hc} kk => wk.mv O C H1 (Da :: O) Hc M.sub kk hOD g
  refine ⟨fun i j Hc => j = xs.length - i ∧ i ≤ xs.length ∧ ∃ kvs ds mi, Hc Da = some (.dK kvs) ∧ kvs.length ≤ i ∧ RpAll K (Da :: O) C Hc ds (kvs.map (·.2)) ∧ MemOk K (Da :: O) C Hc mi ∧ Keep C H1 Hc ∧ dcompL (dcompG φ own t ifs key val ρ) (xs.drop i) (entsK kvs ds) mi = .ok r m',
    ⟨xs.length, by simp, Nat.zero_le _, [], [], m1, upd_same, Nat.le_refl _, .nil, M1.cons hDa, Keep.new hDa, ev⟩, ?_⟩
  rintro i j Hc ⟨rfl, hi, kvs, ds, mi, hD, hv, hr, hM, hk, hev⟩
  by_cases hlt : i < xs.length
  · obtain ⟨x0, hx0⟩ : ∃ d, xs[i]? = some d := ⟨xs[i], by simp [hlt]⟩
    have hdrop : xs.drop i = x0 :: xs.drop (i + 1) := by
      rw [List.drop_eq_getElem_cons hlt]
      congr 1
      rw [List.getElem?_eq_getElem hlt] at hx0
      exact Option.some.inj hx0
    rw [hdrop] at hev
    have hev : (dcompG φ own t ifs key val ρ x0 mi).bind (fun y m => match y with
      | some (k, v) => if isKeyD k then dcompL (dcompG φ own t ifs key val ρ) (xs.drop (i + 1)) (dputD k v (entsK kvs ds)) m else .no
      | none => dcompL (dcompG φ own t ifs key val ρ) (xs.drop (i + 1)) (entsK kvs ds) m) = .ok r m' := hev
    obtain ⟨y, m2, ey, hev⟩ := bind_eq_ok hev
    refine .inr ⟨wk.go i _ _ Hc hlt (gAt hk), fun H' => (i + 1 ≤ xs.length ∧ ∃ kvs ds mi, H' Da = some (.dK kvs) ∧ kvs.length ≤ i + 1 ∧ RpAll K (Da :: O) C H' ds (kvs.map (·.2)) ∧ MemOk K (Da :: O) C H' mi ∧ Keep C H1 H' ∧ dcompL (dcompG φ own t ifs key val ρ) (xs.drop (i + 1)) (entsK kvs ds) mi = .ok r m'),
      fun H' h => ⟨xs.length - (i + 1), by omega, rfl, h.1, h.2⟩, fun x H' hy => ?_⟩
    obtain ⟨ky, rx⟩ := wk.yld i _ _ Hc x H' x0 hx0 (gAt hk) hy
    unfold dcompG at ey
    split at ey
    · rename_i ρ1 hρ1
      obtain ⟨c, m3, ec, ey⟩ := bind_eq_ok ey
      refine ⟨Da :: O, C, wipeE ρ own, x0, ρ1, envAt (hk.trans (ky C)), rx, hρ1, fun σ2 En2 w2 => ⟨?_, ?_⟩⟩
      · rw [w2 own ho, wipe_wipe]
      have D' : H' Da = some (.dK kvs) := (ky []).ob Da _ hD (by simp)
      have M' : MemOk K (Da :: O) C H' mi := hM.grow ky
      split at ey
      · rename_i ht
        obtain ⟨y', m4, ee, ey⟩ := bind_eq_ok ey
        obtain ⟨z', m5, ez, ey⟩ := bind_eq_ok ey
        cases ey
        refine ⟨Da :: O, C, ρ1, mi, c, m3, true, M', En2, ec, ht, fun H3 k3 M3 => ?_⟩
        (try dsimp only)
        rw [if_pos rfl]
        refine .go M3 (En2.keep hM.sub k3) ee fun v H4 k4 M4 En4 R4 => ?_
        refine .go M4 En4 ez fun u H5 k5 M5 En5 R5 => ?_
        have D5 : H5 Da = some (.dK kvs) := k5.ob Da _ (k4.ob Da _ (k3.ob Da _ D' hDC) hDC) hDC
        have K5 : Keep C H1 H5 := (((hk.trans (ky C)).trans k3).trans k4).trans k5
        (try dsimp only at hev)
        split at hev
        case isFalse => cases hev
        rename_i hkey
        obtain ⟨kk, rfl, rfl⟩ := key_of hkey (R4.pl M3 hbk)
        have hr5 := (((hr.keep hM.sub (ky C)).keep hM.sub k3).keep hM.sub k4).keep hM.sub k5
        obtain ⟨ds', e6, r6⟩ := put_ents (k := kk) (R5.pl M4 hb) hr5
        rw [e6] at hev
        refine ⟨kvs, kk, rfl, D5, by omega, hlt, putK kvs kk u, ds', _, upd_same, by have := length_putK kvs kk u; omega, r6.keep (Z := [Da]) (by simp) (Keep.putK D5 (by simp)), M5.putG (Keep.putK D5 (by simp)) (by simp) hDC, K5.put_new hDa, hev⟩
      · rename_i ht
        cases ey
        refine ⟨Da :: O, C, ρ1, mi, c, _, false, M', En2, ec, ht, fun H3 k3 M3 => ?_⟩
        (try dsimp only)
        rw [if_neg Bool.false_ne_true]
        exact ⟨hlt, kvs, ds, _, k3.ob Da _ D' hDC, by omega, (hr.keep hM.sub (ky C)).keep hM.sub k3, M3, (hk.trans (ky C)).trans k3, hev⟩
      · cases ey
    · cases ey
  · have e : i = xs.length := by omega
    subst e
    rw [List.drop_length] at hev
    cases hev
    refine .inl ⟨wk.stop _ _ Hc (gAt hk), ?_⟩
    refine ⟨Da, _, rfl, hD, trivial, fun od => ?_⟩
    have kk : ∀ Z, Da ∈ Z → Keep Z Hc (upd Hc Da (.frz od (.dK kvs))) := fun Z hZ => Keep.putK hD hZ
    have K4 : Keep C H1 (upd Hc Da (.frz od (.dK kvs))) := hk.put_new hDa
    exact q _ _ (k1.trans K4) ((hM.putG (kk _ (by simp)) (by simp) hDC).less M.sub) (.dic upd_same (by omega) rfl (hr.keep (Z := [Da]) (by simp) (kk _ (by simp))).less) trivial
theorem tups_laid {pins : List (Addr × Obj)} {s : Shared} {h' : Heap} {tk : Nat} {kvs : List (Key × V)} {vs : List (Key × Value)} {as : List Addr} (I : Inv X pins σ H s) (kv : KV kvs vs) (hk : ∀ b o, s.heap.get? b = some o → h'.get? b = some o) (hl : as.length = vs.length)
    (hG : PySem.W.KdxG (mixKind X.prog X.w) vs s.heap.objs.size h' as) : ∃ H' : Hp, (∀ b o, H b = some o → H' b = some o) ∧ Paired (fun (t : Addr) (p : Key × V) => H' t = some (.tup [kV p.1, p.2])) as kvs ∧ Inv X pins σ H' { s with heap := h', toks := tk } := by
  have lk : kvs.length = vs.length := Paired.length kv
  have new : ∀ t ∈ as, H t = none := fun t ht => I.hok.fresh (Nat.le_of_lt (hG.above t ht))
  have hat := LiI.putT_at as kvs H (by omega) (List.Pairwise.imp (fun {a b} (h : a < b) => Nat.ne_of_lt h) hG.rise)
  have kp : ∀ b u, H b = some u → LiI.putT H as kvs b = some u := fun b u e => by
    rw [LiI.putT_off as kvs _ fun z => by rw [new b z] at e; cases e]
    exact e
  refine ⟨_, kp, hat, I.call' (ch := []) rfl ⟨fun b o q _ _ _ => hk b o q, fun b o q _ _ _ => ⟨o.slots, hk b o q⟩, fun b o q n _ => ?_, fun b o q _ => ⟨o, hk b o q⟩, fun b xs q => kp b _ q, fun b o u q => kp b _ q, fun b ps q => ⟨#[], by rw [kp b _ q]; simp⟩⟩ (fun b u q => ?_) I.bare fun b z => by simp at z⟩
  · rw [LiI.putT_off as kvs _ fun z => absurd (Heap.lt_size q) (Nat.not_lt.mpr (Nat.le_of_lt (hG.above b z)))]
    exact n
  · by_cases hb : b ∈ as
    · obtain ⟨j, pk, e1, e2, e3⟩ := LiI.paired_ix hat hb
      rw [e3] at q
      cases q
      obtain ⟨key, k, x, f1, f2, f3⟩ := hG.pairs j b e1
      obtain ⟨qv, g1, g2, g3⟩ := LiI.paired_get kv e2
      rw [f1] at g1
      cases g1
      have rk : RelV (kV pk.1) key := by
        rw [g2]
        exact relV_key (show keyIs k key = true from f2)
      exact ⟨two_line, [key, x], .cons rk (.cons g3 .nil), ⟨_, f3, rfl, _, rfl⟩⟩
    · rw [LiI.putT_off as kvs _ hb] at q
      exact (I.hok b u q).stay (fun d v _ y => hk d v y) (fun d y => kp d _ y) fun d xs y => kp d _ y
theorem ents_rp {O C : List Addr} {H' : Hp} : ∀ {kvs : List (Key × V)} {ds : List D} {as : List Addr}, RpAll K O C H' ds (kvs.map (·.2)) → Paired (fun (t : Addr) (p : Key × V) => H' t = some (.tup [kV p.1, p.2])) as kvs → RpAll K O C H' (entsK kvs ds) (as.map V.ref)
  | [], _, _, r, p => by cases p; cases r; exact .nil
  | kv :: kvs, _, _, r, p => by
    cases p with
    | cons h t =>
      cases r with
      | cons r1 r2 =>
        refine .cons (.tup (.inl (.inl h)) two_line (.cons ?_ (.cons r1 .nil))) (ents_rp r2 t)
        cases kv.1 with
        | inl i => exact .int i
        | inr s => exact .str s
/-- d.items() put in order: what is asked of d -/
def rSit (K : Frag) : V → Hp → VK → Prop := fun v H Q => ∃ O C l r, (∀ a ∈ C, a ∈ O) ∧ Rp K O C H (.dic l) v ∧ sitD (.dic l) = some r ∧ ∀ v' H', (∀ Z, Keep Z H H') → Rv .fr K O C H H' r v' → Q v' H'
def tSit (K : Frag) (te : TE) : TE := fun σ H Q => te σ H fun v H1 => rSit K v H1 Q
theorem pe_sortedItems {e : Expr} {te : TE} {p apos cpos pos : Pos} (hc : X.calm = true) (hu : X.A.units + 80 < cLine) (he : PE X e te) (hg : Gl X "sorted") (hm : X.mg "sorted" = none) (hbase : attributeBase e "items" X.env (eval e X.env) = eval e X.env) (hline : (apos.endLine == cpos.line) = true)
    (hs : starEach [.Call (.Attribute e "items" apos) [] [] cpos] X.env = (false, eval (.Call (.Attribute e "items" apos) [] [] cpos) X.env) :: starEach [] X.env) :
    PE X (.Call (.Name "sorted" p) [.Call (.Attribute e "items" apos) [] [] cpos] [] pos) (tSit X.K te) := by
  refine ⟨fun pins s σ H Q I hq => ?_⟩
  refine wpAny_Call_Name_kw (ld_blt I hg hm PyProof.Rows.boot_sorted ?_)
  refine PyProof.Rows.callWith_builtin1 ?_ hs rfl
  rw [hs]
  show wpAny _ _ (spliced ((false, eval (.Call (.Attribute e "items" apos) [] [] cpos) X.env) :: backTo pos (starEach [] X.env))) _ _ s
  refine Calls.spliced_cons ?_
  refine wpAny_Call_method (T := "dict") (id := "dict.items") hbase rfl hline F.plainAttrs_dict F.slot_dict_items F.type_dict_items (thn (he.run pins s σ H _ I hq) fun u s1 ⟨x, H1, I1, rx, O, C, l, r, hC, rp, hsit, q⟩ => ?_)
  cases rp with
  | dic hd hz el r1 =>
    rename_i d od kvs ds
    obtain rfl : u = Value.ref d := rx
    obtain ⟨_, hs0, vs, kv, hdo⟩ := dk_rd I1.hok (.inr ⟨od, hd⟩)
    obtain ⟨ep, hat⟩ := hdo.dictAt
    have lk : kvs.length = vs.length := Paired.length kv
    have I2 : Inv X pins σ H1 { s1 with heap := s1.heap.push { cls := .type "dict_items", data := .fields #[.ref d] } } := I1.kept (t' := s1.toks) fun b ob q => Heap.get?_push_of_some _ q
    refine ⟨hdo.typeIs, hdo.mapOf.noDict, ?_⟩
    show wpAny _ _ (callWith cpos (.builtin "dict.items") [.ref d] [] []) _ X.xe s1
    refine method_meetsIn F.slot_dict_items F.entry_dict_items rfl (PySem.evalArgs_none ⟨rfl, hdo.typeIs, F.args_dict_items_1 _, _, meets_dict_items (mixKind X.prog X.w) d hs0, ⟨vs, hdo⟩, ?_⟩)
    refine Calls.spliced_nil ?_
    obtain ⟨m, hm1, rfl⟩ := Option.map_eq_some_iff.mp (show (sortD l).map D.lst = some r from hsit)
    refine sorted_col (P := fun h1 tk us => ∃ as : List Addr, us = as.map Value.ref ∧ (∀ b o, (s1.heap.push { cls := .type "dict_items", data := .fields #[.ref d] }).get? b = some o → h1.get? b = some o) ∧ as.length = vs.length ∧ PySem.W.KdxG (mixKind X.prog X.w) vs (s1.heap.push { cls := .type "dict_items", data := .fields #[.ref d] }).objs.size h1 as)
      (R := fun v (p : V × D) => RelV p.1 v) (enc := fun p => toPy p.2) (fun Rr hR => ?_) fun h1 tk us hP => ?_
    · exact PySem.W.kdx_collect (A := X.A.in1) (knd := mixKind X.prog X.w) (kvs := vs) (ep := ep) (I1.ok.hd hc) ⟨_, Heap.get?_push_size _ rfl, rfl, rfl⟩ (hat.push _) (by omega) fun h' tk as hk hl hG => hR h' tk _ ⟨as, rfl, hk, hl, hG⟩
    · obtain ⟨as, rfl, hk, hl, hG⟩ := hP
      obtain ⟨H2, k2, hp, J⟩ := tups_laid (tk := tk) I2 kv hk hl hG
      have K2 : ∀ Z, Keep Z H1 H2 := fun Z => ⟨fun a o e _ => k2 a o e, fun a xs e => k2 a _ e, fun a o u e => k2 a _ e⟩
      have r2 : RpAll X.K O C H2 ds (kvs.map (·.2)) := r1.keep (Z := []) (by simp) (K2 [])
      have r3 : RpAll X.K O C H2 l (as.map V.ref) := by rw [el]; exact ents_rp r2 hp
      obtain ⟨bs, c1, c2, c3, c4, c5, c6, fin⟩ := sort_data hu J r3 (LiI.vals_refs as) (by rw [List.length_map]; omega) hm1
      refine ⟨bs, c1, c2, c3, c4, c5, c6, fun out p h' c e1 e2 e3 e4 e5 => ?_⟩
      obtain ⟨ys, J2, kk, R⟩ := fin out p h' c tk e1 e2 e3 e4 e5
      refine ⟨.ref p, _, J2, rfl, q _ _ (fun Z => (K2 Z).trans (kk Z)) ?_⟩
      obtain ⟨p', xs, e, hp', e2', z, rr⟩ := R
      refine ⟨p', xs, e, ?_, e2', z, rr⟩
      cases hq' : H1 p' with
      | none => rfl
      | some o => rw [k2 _ _ hq'] at hp'; cases hp'
theorem tE_sit {a : E} (hb : isBr (kd a) = false) : tE K φ (.sitems a) σ H Q → tSit K (tE K φ a) σ H Q := by
  rintro ⟨O, C, ρ, m, r, m', M, En, ev, q⟩
  obtain ⟨x, m1, e1, ev⟩ := bind_eq_ok (show (evE φ a ρ m).bind (fun x m => Out.of m (sitD x)) = .ok _ m' from ev)
  obtain ⟨e2, rfl⟩ := of_eq_ok ev
  refine .go M En e1 fun v H1 k1 M1 En1 R1 => ?_
  cases x with
  | dic l =>
    refine ⟨O, C, l, r, M.sub, R1.pl M hb, e2, fun v' H' k R => ?_⟩
    exact q v' H' (k1.trans (k C)) (M1.grow k) (R.base k1 M1) (Rv.frm M1 k R)
  | _ => cases e2
end
end Ev

set_option maxHeartbeats 4000000
namespace Ev
open PySem PySem.Spec PyProof.Rows L2
def tSumV (td : TE) : TE := fun σ H Q => td σ H fun x H1 => ∃ (a : Addr) (kvs : List (Key × V)) (is : List Int), x = V.ref a ∧ Rd H1 a (.dK kvs) ∧ kvs.map (·.2) = is.map V.int ∧ Q (.int is.sum) H1
theorem preSum_take (is : List Int) : ∀ n, n ≤ is.length → preSum (fun i => is.getD i 0) n = (is.take n).sum
  | 0, _ => rfl
  | n + 1, h => by
    show preSum _ n + is.getD n 0 = _
    rw [preSum_take is n (by omega), List.take_add_one, List.sum_append, List.getD_eq_getElem?_getD, List.getElem?_eq_getElem (by omega)]
    simp
section
variable {X : Cx} {o : Expr} {p pos apos mpos : Pos} {td : TE}
theorem pe_sumVals (calm : X.calm = true) (gl : Gl X "sum") (mg : X.mg "sum" = none) (od : PE X o td) (base : attributeBase o "values" X.env (eval o X.env) = eval o X.env) (ln : (apos.endLine == mpos.line) = true) :
    PE X (.Call (.Name "sum" p) [.Call (.Attribute o "values" apos) [] [] mpos] [] pos) (tSumV td) := by
  refine ⟨fun pins s σ H Q I h => ?_⟩
  refine wpAny_Call_Name_kw (ld_blt I gl mg (u := .builtin "sum") (by first | rfl | decide +kernel) ?_ (by decide +kernel) (by decide +kernel))
  have se : starEach [Expr.Call (.Attribute o "values" apos) [] [] mpos] X.env = [(false, eval (Expr.Call (.Attribute o "values" apos) [] [] mpos) X.env)] := rfl
  rw [se]
  refine PySem.callWith_builtin1 (wpAny_Call_method0_late base ln (thn (od.run pins s σ H _ I h) fun v s1 hh => ?_))
  obtain ⟨x, H1, I1, r1, a, kvs, is, ex, ha, hv, q⟩ := hh
  subst ex
  obtain rfl : v = Value.ref a := r1
  obtain ⟨_, hsys, vs, rel, dof⟩ := dk_rd I1.hok ha
  obtain ⟨ep, dat⟩ := dof.dictAt
  have dat2 := dat
  obtain ⟨ob, es, ho, ex, _⟩ := dat2
  refine ⟨"dict", "dict.values", F.plainAttrs_dict, F.slot_dict_values, F.type_dict_values, ⟨ob, ho, ex.1⟩, fun b e => ?_, Calls.callWith_builtin rfl (PySem.evalArgs_none ?_)⟩
  · cases e
    exact ⟨ob, ho, ex.2.1⟩
  refine call_meetsIn F.slot_dict_values ⟨ob, ho, ex.1⟩ F.entry_dict_values (F.args_dict_values_1 _) (meets_dict_values (mixKind X.prog X.w) a hsys) ⟨⟨vs, dof⟩, ?_⟩
  have lt : a < s1.heap.objs.size := Heap.lt_size ho
  generalize hv2 : s1.heap.push { cls := .type "dict_values", data := .fields #[.ref a] } = h2
  have k2 : ∀ b u, s1.heap.get? b = some u → h2.get? b = some u := fun b u e => by rw [← hv2]; exact Heap.get?_push_of_some _ e
  have view : h2.get? s1.heap.objs.size = some { cls := .type "dict_values", data := .fields #[.ref a] } := by rw [← hv2]; exact Heap.get?_push_size _ rfl
  have sz : h2.objs.size = s1.heap.objs.size + 1 := by rw [← hv2]; exact Heap.size_push _ _
  have dat3 : h2.DictAt (mixKind X.prog X.w) a vs ep := dat.keep k2
  have len : vs.length = is.length := by
    have e1 := congrArg List.length hv
    rw [List.length_map, List.length_map] at e1
    rw [← e1]
    exact (KV.length rel).symm
  have num : ∀ (i : Nat) (v : Value), (∃ k, vs[i]? = some (k, v)) → ∃ t, v = Value.int (is.getD i 0) t := by
    rintro i v ⟨k, hk⟩
    obtain ⟨x, h1, r⟩ := KV.at' rel hk
    have e1 : (kvs.map (·.2))[i]? = some x := by rw [List.getElem?_map, h1]; rfl
    rw [hv, List.getElem?_map] at e1
    obtain ⟨j, hj, rfl⟩ := Option.map_eq_some_iff.mp e1
    obtain ⟨t, rfl⟩ := r
    refine ⟨t, ?_⟩
    rw [List.getD_eq_getElem?_getD, hj]
    rfl
  refine call_sum_walkAnyS (wpAny_pyIter_values (v := s1.heap.objs.size) (d := a) ⟨_, view, rfl, rfl⟩ dat3 ?_)
  refine ⟨_, _, _, _, _, _, _, fun i => is.getD i 0, rfl, (Walks.dictValues (knd := mixKind X.prog X.w) (A := X.A.in1) (I.ok.hd calm) h2.objs.size a (by rw [sz]; exact Nat.ne_of_lt (Nat.lt_succ_of_lt lt)) vs ep).toS, ?_, fun b hb => ?_, num, fun s' t' hm => ?_⟩
  · exact ⟨⟨_, Heap.get?_push_size _ rfl, rfl, rfl⟩, dat3.keep fun b u e => Heap.get?_push_of_some _ e⟩
  · show b < (h2.push _).objs.size
    rw [Heap.size_push]
    rcases List.mem_cons.mp hb with e | hb
    · rw [e]; exact Nat.lt_succ_self _
    · rw [List.mem_singleton.mp hb, sz]; exact Nat.lt_succ_of_lt (Nat.lt_succ_of_lt lt)
  · rw [preSum_take is vs.length (Nat.le_of_eq len), len, List.take_length]
    refine ⟨.int _, H1, ?_, ⟨t', rfl⟩, q⟩
    have hk : ∀ b u, s1.heap.get? b = some u → s'.heap.get? b = some u := fun b u e => hm.heap b u (fun mem => by
      have lt2 := Heap.lt_size e
      rw [List.mem_singleton.mp mem, sz] at lt2
      exact absurd lt2 (Nat.not_lt.mpr (Nat.le_succ _))) (Heap.get?_push_of_some _ (k2 b u e))
    rw [Moved.eq_with hm]
    exact I1.kept (t' := s'.toks) hk
end
section
variable {K : Frag} {φ : Phi} {σ : SSt} {H : Hp} {Q : VK}
theorem valsE : ∀ (kvs : List (Key × V)) (ds : List D), ds.length = kvs.length → valsOf (entsK kvs ds) = some ds
  | [], [], _ => rfl
  | [], _ :: _, h => by cases h
  | p :: r, [], h => by cases h
  | p :: r, d :: ds, h => by
    show (valsOf (entsK r ds)).map (d :: ·) = _
    rw [valsE r ds (Nat.succ.inj h)]
    rfl
theorem ints_vals {O C : List Addr} : ∀ {ds : List D} {vs : List V} {is : List Int}, RpAll K O C H ds vs → intsOf ds = some is → vs = is.map V.int
  | _, _, is, .nil, h => by cases h; rfl
  | _, _, is, .cons (d := d) r rs, h => by
    cases d with
    | int i =>
      obtain ⟨js, h1, rfl⟩ := Option.map_eq_some_iff.mp (show (intsOf _).map (i :: ·) = some is from h)
      cases r
      rw [ints_vals rs h1]
      rfl
    | _ => cases h
theorem tE_sumv {a : E} : tE K φ (.prim .sumv (.cons a .nil)) σ H Q → tSumV (tE K φ a) σ H Q := by
  rintro ⟨O, C, ρ, m, r, m', M, En, ev, q⟩
  obtain ⟨rs, m1, e0, ev⟩ := bind_eq_ok (show (evE φ (.cons a .nil) ρ m).bind (fun r m => Out.of m (primD .sumv (argsOf r))) = .ok r m' from ev)
  obtain ⟨x, m2, e1, e0⟩ := bind_eq_ok (show (evE φ a ρ m).bind (fun x m => (evE φ .nil ρ m).bind fun r m => Out.of m (consD x r)) = .ok rs m1 from e0)
  cases e0
  obtain ⟨e2, rfl⟩ := of_eq_ok ev
  have e2 : sumvD [x] = some r := e2
  unfold sumvD at e2
  split at e2
  case h_2 => cases e2
  rename_i l hx
  cases hx
  obtain ⟨vs, e3, e4⟩ := Option.bind_eq_some_iff.mp e2
  obtain ⟨is, e5, rfl⟩ := Option.map_eq_some_iff.mp e4
  refine .go M En e1 fun v H1 k1 M1 En1 R => ?_
  have R := R.rb M
  obtain ⟨p, o, kvs, ds, rfl, hp, z, rfl, ra⟩ : ∃ p o kvs ds, v = V.ref p ∧ H1 p = some (.frz o (.dK kvs)) ∧ kvs.length ≤ sizeLine ∧ l = entsK kvs ds ∧ RpAll K O C H1 ds (kvs.map (·.2)) := by
    have R : Rp K O C H1 (.dic l) v := R
    cases R with
    | dic h1 h2 h3 h4 => exact ⟨_, _, _, _, rfl, h1, h2, h3, h4⟩
  have hl : ds.length = kvs.length := by rw [ra.length, List.length_map]
  rw [valsE kvs ds hl] at e3
  cases e3
  exact ⟨p, kvs, is, rfl, .inr ⟨o, hp⟩, ints_vals ra e5, q _ H1 k1 M1 (Rp.int _) (fun _ _ e => by cases e)⟩
end
end Ev

set_option maxHeartbeats 4000000
namespace Ev
open PySem PySem.Spec PyProof.Rows L2
/-- where we are: the slots' names, the scope, the names whose cells are the block's own -/
structure Cc where
  N : List Str
  sc : Scope
  cl : List Str
/-- the module: names it does not bind, its functions -/
structure Gc where
  blt : List Str
  fns : List (Str × Nat × Nat)
  cns : List (Str × Int)
  gcds : List Str
def visC (sc : Scope) (x : Str) : Bool := match sc.names.lookup x with
  | some .local => true
  | some .cell => true
  | some .free => true
  | _ => false
def glC (sc : Scope) (x : Str) : Bool := match sc.names.lookup x with
  | some .globalImplicit => true
  | _ => false
def nmC (c : Cc) (i : Nat) (x : Str) : Bool := decide (c.N[i]? = some x) && visC c.sc x && !(x == ("__debug__" : Str)) && !(x == ("__classdict__" : Str))
def stC (c : Cc) (i : Nat) (x : Str) : Bool := decide (c.N[i]? = some x) && (match c.sc.names.lookup x with
  | some .local => true
  | some .cell => c.cl.contains x
  | _ => false)
def relS (sc scope : Scope) : Scope := { scope with names := scope.names.map fun (n, k) => if (k == .free && sc.kind == .function && sc.names.lookup n == some .cell) then (n, .cell) else (n, k) }
def inComp (c : Cc) (scope : Scope) : Cc := { c with sc := relS c.sc scope, cl := (scope.names.filter fun y => y.2 == .cell).map (·.1) }
def plainT : Expr → Bool
  | .UnaryOp .Not _ _ => false
  | .BoolOp .. => false
  | .IfExp .. => false
  | .Compare .. => false
  | _ => true
def plainI : Expr → Bool
  | .Slice .. => false
  | _ => true
def notSet : Expr → Bool
  | .Set .. => false
  | _ => true
def noStar : List Expr → Bool
  | [] => true
  | .Starred .. :: _ => false
  | _ :: r => noStar r
def argN : E → Option Nat
  | .nil => some 0
  | .cons _ es => (argN es).map (· + 1)
  | _ => none
def smallN : Option Nat → Bool
  | some n => decide (n ≤ 1000)
  | none => false
def primN : Prim → Str
  | .len => "len"
  | .sum => "sum"
  | .min => "min"
  | .max => "max"
  | .min2 => "min"
  | .max2 => "max"
  | .sorted => "sorted"
  | .all => "all"
  | .any => "any"
  | .list => "list"
  | .tuple => "tuple"
  | .int => "int"
  | .abs => "abs"
  | _ => ""
def primOk : Prim → Bool
  | .sumv => false
  | .listv => false
  | .isInt => false
  | .isBool => false
  | .isTup => false
  | .isLst => false
  | .isTupLst => false
  | .isStr => false
  | .gcd => false
  | _ => true
def isGcd : Prim → Bool
  | .gcd => true
  | _ => false
def isiS : Prim → Str
  | .isInt => "int"
  | .isBool => "bool"
  | .isStr => "str"
  | .isTup => "tuple"
  | .isLst => "list"
  | _ => ""
def isTL : Prim → Bool
  | .isTupLst => true
  | _ => false
/-- isinstance -/
def isiC (G : Gc) (c : Cc) (p : Prim) (n : Option Nat) (a : Bool → Cc → List Expr → Bool) (x : Str) (y : Expr) (ys : List Expr) : Bool := match ys with
  | [.Name t _] => (isiT p).isSome && t == isiS p && decide (n = some 1) && x == ("isinstance" : Str) && glC c.sc x && G.blt.contains x && glC c.sc t && G.blt.contains t && noStar [y] && a false c [y]
  | [.Tuple [.Name t _, .Name l _] _ _] => isTL p && t == ("tuple" : Str) && l == ("list" : Str) && decide (n = some 1) && x == ("isinstance" : Str) && glC c.sc x && G.blt.contains x && glC c.sc t && G.blt.contains t && glC c.sc l && G.blt.contains l && noStar [y] && a false c [y]
  | _ => false
/-- sum(x.values()) -/
def sumvC (G : Gc) (c : Cc) (p : Prim) (n : Option Nat) (a : Bool → Cc → List Expr → Bool) (x : Str) (y : Expr) (ys : List Expr) : Bool := match p, y, ys with
  | .sumv, .Call (.Attribute o m apos) [] [] cpos, [] => decide (n = some 1) && x == ("sum" : Str) && m == ("values" : Str) && apos.endLine == cpos.line && glC c.sc x && G.blt.contains x && (match o with
    | .Name .. => true
    | .Subscript .. => true
    | _ => false) && a false c [o]
  | _, _, _ => false
def chkG (c : Cc) : T → Expr → Bool
  | .name i, .Name x _ => stC c i x
  | .tup ts, .Tuple es _ _ => chkGs c ts es
  | _, _ => false
where
  chkGs (c : Cc) : T → List Expr → Bool
  | .nil, [] => true
  | .cons (.name i) ts, .Name x _ :: es => stC c i x && chkGs c ts es
  | .cons (.tup t) ts, .Tuple xs _ _ :: es => chkGs c t xs && chkGs c ts es
  | _, _ => false
def slotsOk (own : List Nat) (t : T) : Bool := (slotsT t).all own.contains
structure Ck where
  e : Cc → Expr → Bool
  t : Cc → Expr → Bool
  a : Bool → Cc → List Expr → Bool
def Ck.no : Ck := ⟨fun _ _ => false, fun _ _ => false, fun _ _ _ => false⟩
def Ck.mk' (f : Cc → Expr → Bool) : Ck := ⟨f, fun c x => plainT x && f c x, fun _ _ _ => false⟩
def optC (f : Expr → Bool) (e : E) : Option Expr → Bool
  | none => isSkip e
  | some x => !isSkip e && f x
/-- the names of own slots -/
def ownN (c : Cc) (own : List Nat) : List (Str × Nat) := own.filterMap fun i => (c.N[i]?).map fun x => (x, i)
def itC (G : Gc) (k : ItK) (n : Option Nat) (b : Bool) (a : Bool → Cc → List Expr → Bool) (c : Cc) (tg iter : Expr) : Bool := match k, iter with
  | .val, x => decide (n = some 1) && a false c [x] && notSet x
  | .rng, .Call (.Name f _) [x] [] _ => decide (n = some 1) && f == ("range" : Str) && glC c.sc f && G.blt.contains f && noStar [x] && a false c [x]
  | .rng, .Call (.Name f _) [x, y] [] _ => decide (n = some 2) && f == ("range" : Str) && glC c.sc f && G.blt.contains f && noStar [x, y] && a false c [x, y]
  | .rng, .Call (.Name f _) [x, y, z] [] _ => decide (n = some 3) && f == ("range" : Str) && glC c.sc f && G.blt.contains f && noStar [x, y, z] && a false c [x, y, z]
  | .zip, .Call (.Name f _) [x, y] [] _ => decide (n = some 2) && f == ("zip" : Str) && glC c.sc f && G.blt.contains f && noStar [x, y] && a b c [x, y] && (match tg with | .Tuple .. => true | _ => false)
  | .items, .Call (.Attribute (.Name y p) m apos) [] [] cpos => decide (n = some 1) && m == ("items" : Str) && apos.endLine == cpos.line && a false c [.Name y p] && (match tg with | .Tuple .. => true | _ => false)
  | .enum, .Call (.Name f _) [x] [] _ => decide (n = some 1) && f == ("enumerate" : Str) && glC c.sc f && G.blt.contains f && noStar [x] && a false c [x] && (match tg with | .Tuple .. => true | _ => false)
  | _, _ => false
def chk (G : Gc) : E → Ck
  | .slot i => .mk' fun c x => match x with
    | .Name x _ => nmC c i x
    | _ => false
  | .brw i => .mk' fun c x => match x with
    | .Name x _ => nmC c i x
    | _ => false
  | .cst d => .mk' fun c x => match d, x with
    | .int i, .Constant (.int j) _ _ => decide (i = j)
    | .bl i, .Constant (.bool j) _ _ => decide (i = j)
    | .non, .Constant .none _ _ => true
    | .str i, .Constant (.str j) _ _ => decide (i = j)
    | .int i, .Name x _ => decide (G.cns.lookup x = some i) && glC c.sc x && !(x == ("__debug__" : Str))
    | _, _ => false
  | .nil => ⟨fun _ _ => false, fun _ _ => false, fun _ _ xs => xs.isEmpty⟩
  | .cons e es => ⟨fun _ _ => false, fun _ _ => false, fun b c xs => match xs with
    | x :: r => (!b || !isBr (kd e)) && noStar [x] && (chk G e).e c x && (chk G es).a b c r
    | [] => false⟩
  | .tup es => .mk' fun c x => match x with
    | .Tuple xs _ _ => smallN (argN es) && (chk G es).a true c xs
    | _ => false
  | .lst es => .mk' fun c x => match x with
    | .List xs _ => smallN (argN es) && (chk G es).a true c xs
    | _ => false
  | .bin op a b => .mk' fun c x => match x with
    | .BinOp x o y _ => decide (o = pyB op) && (chk G a).e c x && (chk G b).e c y
    | _ => false
  | .neg a => .mk' fun c x => match x with
    | .UnaryOp .USub x _ => (chk G a).e c x
    | _ => false
  | .cmp op a b =>
    let f : Cc → Expr → Bool := fun c x => match x with
      | .Compare x [o] [y] _ => decide (o = pyC op) && !behindInMarks o y && (chk G a).e c x && (chk G b).e c y
      | _ => false
    ⟨f, f, fun _ _ _ => false⟩
  | .chn o p a b d =>
    let f : Cc → Expr → Bool := fun c x => match x with
      | .Compare x [o1, p1] [y, z] _ => decide (o1 = pyC o) && decide (p1 = pyC p) && !lastMarks [o1, p1] [y, z] && (chk G a).e c x && (chk G b).e c y && (chk G d).e c z
      | _ => false
    ⟨f, f, fun _ _ _ => false⟩
  | .and a b => ⟨fun c x => match x with
    | .BoolOp .And [x, y] _ => !isBr (kd a) && !isBr (kd b) && (chk G a).e c x && (chk G b).e c y
    | .BoolOp .And (x :: y :: z :: r) pos => !isBr (kd a) && !isBr (kd b) && (chk G a).e c x && (chk G b).e c (.BoolOp .And (y :: z :: r) pos)
    | _ => false, fun c x => match x with
    | .BoolOp .And [x, y] _ => (chk G a).t c x && (chk G b).t c y
    | .BoolOp .And (x :: y :: z :: r) pos => (chk G a).t c x && (chk G b).t c (.BoolOp .And (y :: z :: r) pos)
    | _ => false, fun _ _ _ => false⟩
  | .or a b => ⟨fun c x => match x with
    | .BoolOp .Or [x, y] _ => !isBr (kd a) && !isBr (kd b) && (chk G a).e c x && (chk G b).e c y
    | .BoolOp .Or (x :: y :: z :: r) pos => !isBr (kd a) && !isBr (kd b) && (chk G a).e c x && (chk G b).e c (.BoolOp .Or (y :: z :: r) pos)
    | _ => false, fun c x => match x with
    | .BoolOp .Or [x, y] _ => (chk G a).t c x && (chk G b).t c y
    | .BoolOp .Or (x :: y :: z :: r) pos => (chk G a).t c x && (chk G b).t c (.BoolOp .Or (y :: z :: r) pos)
    | _ => false, fun _ _ _ => false⟩
  | .not a => ⟨fun c x => match x with
    | .UnaryOp .Not x _ => (chk G a).e c x
    | _ => false, fun c x => match x with
    | .UnaryOp .Not x _ => (chk G a).t c x
    | _ => false, fun _ _ _ => false⟩
  | .ite t a b => ⟨fun c x => match x with
    | .IfExp t' x y _ => !isBr (kd a) && !isBr (kd b) && (chk G t).t c t' && (chk G a).e c x && (chk G b).e c y
    | _ => false, fun _ _ => false, fun _ _ _ => false⟩
  | .idx a b => .mk' fun c x => match x with
    | .Subscript x y _ => plainI y && (chk G a).e c x && (chk G b).e c y
    | _ => false
  | .idxc i b => .mk' fun c x => match x with
    | .Subscript (.Name x _) y _ => plainI y && nmC c i x && (chk G b).e c y
    | _ => false
  | .slc a lo hi => .mk' fun c x => match x with
    | .Subscript x (.Slice l h none _) _ => (chk G a).e c x && optC ((chk G lo).e c) lo l && optC ((chk G hi).e c) hi h
    | _ => false
  | .rev a => .mk' fun c x => match x with
    | .Subscript x (.Slice none none (some (.UnaryOp .USub (.Constant (.int 1) _ _) _)) _) _ => (chk G a).e c x
    | _ => false
  | .call f es => .mk' fun c x => match x with
    | .Call (.Name x _) xs [] _ => match G.fns.lookup x with
      | some (g, n) => decide (f = g) && decide (argN es = some n) && glC c.sc x && !(x == ("__debug__" : Str)) && noStar xs && (chk G es).a true c xs
      | none => false
    | _ => false
  | .prim p es => .mk' fun c x => match x with
    | .Call (.Name x _) (y :: ys) [] _ => (primOk p && x == primN p && smallN (argN es) && glC c.sc x && G.blt.contains x && noStar (y :: ys) && (chk G es).a false c (y :: ys))
        || ((isGcd p && smallN (argN es) && glC c.sc x && G.gcds.contains x && !(x == ("__debug__" : Str)) && noStar (y :: ys) && (chk G es).a false c (y :: ys)) || (isiC G c p (argN es) (chk G es).a x y ys || sumvC G c p (argN es) (chk G es).a x y ys))
    | _ => false
  | .comp own t k it ifs elt => .mk' fun c x => match x with
    | .ListComp x [⟨tg, iter, ifs', 0⟩] scope _ =>
      decide ((ownN c own).map (·.2) = own) && blkC c.N c.sc scope (ownN c own) && notSet iter && slotsOk own t && !isBr (kd elt) && itC G k (argN it) (!brA it) (chk G it).a c tg iter && chkG (inComp c scope) t tg
        && (match ifs' with
          | [] => (match ifs with | .cst (.bl true) => true | _ => false)
          | [y] => (chk G ifs).t (inComp c scope) y
          | _ => false) && (chk G elt).e (inComp c scope) x
    | _ => false
  | .dcomp own t k it ifs key val => .mk' fun c x => match x with
    | .DictComp kx vx [⟨tg, iter, ifs', 0⟩] scope _ =>
      decide ((ownN c own).map (·.2) = own) && blkC c.N c.sc scope (ownN c own) && notSet iter && slotsOk own t && (!isBr (kd key) && !isBr (kd val)) && itC G k (argN it) (!brA it) (chk G it).a c tg iter && chkG (inComp c scope) t tg
        && (match ifs' with
          | [] => (match ifs with | .cst (.bl true) => true | _ => false)
          | [y] => (chk G ifs).t (inComp c scope) y
          | _ => false) && ((chk G key).e (inComp c scope) kx && (chk G val).e (inComp c scope) vx)
    | _ => false
  | .meth .index o (.cons e .nil) => .mk' fun c x => match x with
    | .Call (.Attribute y m apos) [z] [] cpos => m == ("index" : Str) && apos.endLine == cpos.line && noStar [z] && (match y with | .Name .. => true | _ => false) && (chk G o).e c y && (chk G e).e c z
    | _ => false
  | .sitems a => .mk' fun c x => match x with
    | .Call (.Name f _) [.Call (.Attribute (.Name y p) m apos) [] [] cpos] [] _ => f == ("sorted" : Str) && m == ("items" : Str) && glC c.sc f && G.blt.contains f && apos.endLine == cpos.line && !isBr (kd a) && (chk G a).e c (.Name y p)
    | _ => false
  | _ => .no
end Ev

set_option maxHeartbeats 4000000
namespace Ev
open PySem PySem.Spec PyProof.Rows L2
structure XG (G : Gc) (φ : Phi) (c : Cc) (X : Cx) : Prop where
  calm : X.calm = true
  nd : X.N.Nodup
  eN : X.N = c.N
  sc : X.env.scope = c.sc
  cl : ∀ x, c.cl.contains x = true → X.fn x = true
  blt : ∀ x, G.blt.contains x = true → X.mg x = none
  un : X.A.units + 80 < cLine
  cns : ∀ x i, G.cns.lookup x = some i → ∃ t, X.mg x = some (.int i t)
  gcds : ∀ x, G.gcds.contains x = true → X.mg x = some (.builtin "math.gcd")
  call : ∀ x f n, G.fns.lookup x = some (f, n) → ∃ k addr fd ps, FnOk X.prog X.w X.K X.mg X.base CX0 k addr fd ps (spF X.K φ n f) ∧ Room k X.A ∧ X.mg x = some (.ref addr) ∧ PySem.W.keepIn X.K (.ref addr) = true ∧ Binds X.K fd ps []
section
variable {G : Gc} {φ : Phi} {c : Cc} {X : Cx}
theorem XG.blk {s : Shared} {H : Hp} {scope : Scope} {own : List (Str × Nat)} {cl : List (Str × Addr)} {C : Addr} {fp : List Addr} (g : XG G φ c X) (ok : BlkOk c.N c.sc scope own) : XG G φ (inComp c scope) (X.blk s H scope (compEnvC scope cl C X.env) fp) where
  calm := g.calm
  nd := g.nd
  eN := g.eN
  sc := by
    show relabel scope X.env = relS c.sc scope
    rw [← g.sc]; rfl
  cl := fun x h => by
    show (scope.names.lookup x == some .cell) = true
    have h : ((scope.names.filter fun y => y.2 == .cell).map (·.1)).contains x = true := h
    rw [List.contains_iff_mem] at h
    obtain ⟨y, hy, rfl⟩ := List.mem_map.mp h
    obtain ⟨h1, h2⟩ := List.mem_filter.mp hy
    rw [ok.uniq y h1]
    simpa using h2
  blt := g.blt
  un := g.un
  cns := g.cns
  gcds := g.gcds
  call := g.call
theorem gl_of (g : XG G φ c X) {x : Str} (h : glC c.sc x = true) : Gl X x := by
  unfold glC at h
  show X.env.scope.names.lookup x = _
  rw [g.sc]
  split at h
  · assumption
  · cases h
theorem vis_of (g : XG G φ c X) {x : Str} (h : visC c.sc x = true) : Vis X.env.scope x := by
  unfold visC at h
  rw [g.sc]
  split at h
  · rename_i e; exact .inl e
  · rename_i e; exact .inr (.inl e)
  · rename_i e; exact .inr (.inr e)
  · cases h
theorem nm_of (g : XG G φ c X) {i : Nat} {x : Str} {p : Pos} (h : nmC c i x = true) : PE X (.Name x p) (tVar i) := by
  unfold nmC at h
  simp only [Bool.and_eq_true, decide_eq_true_eq, Bool.not_eq_true'] at h
  obtain ⟨⟨⟨h1, h2⟩, h3⟩, h4⟩ := h
  exact pe_var (by rw [g.eN]; exact h1) (vis_of g h2) h3 h4
theorem st_of (g : XG G φ c X) {i : Nat} {x : Str} (h : stC c i x = true) : X.N[i]? = some x ∧ Loc X.env.scope x ∧ (X.fn x = true ∨ X.env.scope.names.lookup x = some .local) := by
  unfold stC at h
  rw [Bool.and_eq_true, decide_eq_true_eq] at h
  refine ⟨by rw [g.eN]; exact h.1, ?_⟩
  have h2 := h.2
  rw [g.sc]
  split at h2
  · rename_i e; exact ⟨.inl e, .inr e⟩
  · rename_i e; exact ⟨.inr e, .inl (g.cl x h2)⟩
  · cases h2
theorem star_cons {e : Expr} {es : List Expr} {env : PySem.Env} (h : noStar [e] = true) : starEach (e :: es) env = (false, eval e env) :: starEach es env := by
  cases e <;> first | rfl | cases h
theorem noStar_cons {e : Expr} {es : List Expr} (h : noStar (e :: es) = true) : noStar [e] = true ∧ noStar es = true := by
  cases e <;> first | exact ⟨rfl, h⟩ | cases h
theorem star_plain {pos : Pos} {env : PySem.Env} : ∀ {es : List Expr}, noStar es = true → (backTo pos (starEach es env)).any (·.1) = false
  | [], _ => rfl
  | e :: es, h => by
    obtain ⟨h1, h2⟩ := noStar_cons h
    rw [star_cons h1]
    exact star_plain (es := es) h2
theorem ass_cons {e : Expr} {es : List Expr} {env : PySem.Env} (h : noStar [e] = true) : assignEach (e :: es) env = (false, assign e env) :: assignEach es env := by
  cases e <;> first | rfl | cases h
theorem callR_ok {f : Value} {r : List V → Hp → VK → Prop} (h : X.Ok → CallR X f r) : CallR X f r := fun pins s σ H xs us Q I => h I.ok pins s σ H xs us Q I
/-- a built-in function -/
theorem pe_prim {p : Prim} {x : Str} {e : Expr} {es : List Expr} {t : TA} {p1 pos : Pos} (hp : primOk p = true) (hx : x = primN p) (g : XG G φ c X) (hg : Gl X x) (hm : X.mg x = none) (ha : PA X (e :: es) t) (hs : noStar (e :: es) = true) :
    PE X (.Call (.Name x p1) (e :: es) [] pos) (tCB (rPr X.K (kdP p) (primD p)) t) := by
  obtain ⟨s1, s2⟩ := noStar_cons hs
  have he : starEach (e :: es) X.env = (false, eval e X.env) :: starEach es X.env := star_cons s1
  have hpl : (backTo pos (starEach es X.env)).any (·.1) = false := star_plain s2
  subst hx
  cases p with
  | len => exact pe_callB (id := "len") pr_len hg hm boot_len ha (by decide) (by decide) he hpl
  | sum => exact pe_callB (id := "sum") (pr_sum g.calm) hg hm boot_sum ha (by decide) (by decide) he hpl
  | min => exact pe_callB (id := "min") (callR_ok fun ok => pr_min g.calm ok g.un) hg hm boot_min ha (by decide) (by decide) he hpl
  | max => exact pe_callB (id := "max") (callR_ok fun ok => pr_max g.calm ok g.un) hg hm boot_max ha (by decide) (by decide) he hpl
  | min2 => exact pe_callB (id := "min") (pr_min2 g.calm) hg hm boot_min ha (by decide) (by decide) he hpl
  | max2 => exact pe_callB (id := "max") (pr_max2 g.calm) hg hm boot_max ha (by decide) (by decide) he hpl
  | sorted => exact pe_callB (id := "sorted") (pr_sorted g.calm g.un) hg hm boot_sorted ha (by decide) (by decide) he hpl
  | all => exact pe_callB (id := "all") (pr_all g.calm) hg hm boot_all ha (by decide) (by decide) he hpl
  | any => exact pe_callB (id := "any") (pr_any g.calm) hg hm boot_any ha (by decide) (by decide) he hpl
  | list => exact pe_callTy (T := "list") pr_list hg hm boot_list ha (by decide) (by decide) he hpl
  | tuple => exact pe_callTy (T := "tuple") pr_tuple hg hm boot_tuple ha (by decide) (by decide) he hpl
  | int => exact pe_callTy (T := "int") pr_int hg hm boot_int ha (by decide) (by decide) he hpl
  | abs => exact pe_callB (id := "abs") pr_abs hg hm boot_abs ha (by decide) (by decide) he hpl
  | _ => cases hp
theorem plainT_eq {x : Expr} (h : plainT x = true) (env : PySem.Env) (whole : Sem Value) : isTrue x env whole = (do let v ← whole; standAt x.pos; holding [v] (truthy v)) := by
  cases x with
  | UnaryOp op a b => cases op <;> first | rfl | cases h
  | _ => first | rfl | cases h
theorem args_argN : ∀ (es : E) (n : Nat) (ρ : Env) (m m' : Mem) (r : D), argN es = some n → evE φ es ρ m = .ok r m' → ∃ l, r = .tup l ∧ l.length = n
  | .nil, n, ρ, m, m', r, hn, h => by
    cases hn
    cases h
    exact ⟨[], rfl, rfl⟩
  | .cons e es, n, ρ, m, m', r, hn, h => by
    obtain ⟨k, hk, rfl⟩ := Option.map_eq_some_iff.mp (show (argN es).map (· + 1) = some n from hn)
    obtain ⟨x, m1, e1, ev⟩ := bind_eq_ok (show (evE φ e ρ m).bind (fun x m => (evE φ es ρ m).bind fun r m => Out.of m (consD x r)) = .ok r m' from h)
    obtain ⟨y, m2, e2, ev⟩ := bind_eq_ok ev
    obtain ⟨l, rfl, hl⟩ := args_argN es k ρ m1 m2 y hk e2
    cases ev
    exact ⟨x :: l, rfl, by rw [List.length_cons, hl]⟩
  | .slot _, _, _, _, _, _, hn, _ | .brw _, _, _, _, _, _, hn, _ | .idxc _ _, _, _, _, _, _, hn, _ | .cst _, _, _, _, _, _, hn, _
  | .tup _, _, _, _, _, _, hn, _ | .lst _, _, _, _, _, _, hn, _ | .dsp _, _, _, _, _, _, hn, _
  | .bin _ _ _, _, _, _, _, _, hn, _ | .neg _, _, _, _, _, _, hn, _ | .cmp _ _ _, _, _, _, _, _, hn, _ | .chn _ _ _ _ _, _, _, _, _, _, hn, _
  | .and _ _, _, _, _, _, _, hn, _ | .or _ _, _, _, _, _, _, hn, _ | .not _, _, _, _, _, _, hn, _ | .ite _ _ _, _, _, _, _, _, hn, _
  | .idx _ _, _, _, _, _, _, hn, _ | .slc _ _ _, _, _, _, _, _, hn, _ | .skipE, _, _, _, _, _, hn, _ | .rev _, _, _, _, _, _, hn, _
  | .call _ _, _, _, _, _, _, hn, _ | .callv _, _, _, _, _, _, hn, _ | .prim _ _, _, _, _, _, _, hn, _ | .meth _ _ _, _, _, _, _, _, hn, _
  | .comp _ _ _ _ _ _, _, _, _, _, _, hn, _ | .dcomp _ _ _ _ _ _ _, _, _, _, _, _, hn, _ | .fld _ _, _, _, _, _, _, hn, _ | .sitems _, _, _, _, _, _, hn, _ => by cases hn
theorem smallN_line {n : Option Nat} (h : smallN n = true) : ∃ k, n = some k ∧ k ≤ sizeLine := by
  unfold smallN at h
  split at h
  · rename_i k
    exact ⟨k, rfl, by rw [sizeLine_eq]; have := of_decide_eq_true h; omega⟩
  · cases h
theorem chkGs_cons {c : Cc} {t ts : T} {x : Expr} {es : List Expr} (h : chkG.chkGs c (.cons t ts) (x :: es) = true) : noStar [x] = true ∧ chkG c t x = true ∧ chkG.chkGs c ts es = true := by
  cases t with
  | name i =>
    cases x with
    | Name y p =>
      have h : (stC c i y && chkG.chkGs c ts es) = true := h
      rw [Bool.and_eq_true] at h
      exact ⟨rfl, h.1, h.2⟩
    | _ => exact absurd (show false = true from h) (by decide)
  | tup t =>
    cases x with
    | Tuple xs k p =>
      have h : (chkG.chkGs c t xs && chkG.chkGs c ts es) = true := h
      rw [Bool.and_eq_true] at h
      exact ⟨rfl, h.1, h.2⟩
    | _ => exact absurd (show false = true from h) (by decide)
  | nil => exact absurd (show false = true from h) (by decide)
  | cons a b => exact absurd (show false = true from h) (by decide)
theorem chkGs_len (c : Cc) : ∀ (ts : T) (es : List Expr), chkG.chkGs c ts es = true → lenT ts = some es.length ∧ ∀ env : PySem.Env, (assignEach es env).length = es.length ∧ (assignEach es env).findIdx? (·.1) = none
  | .nil, [], _ => ⟨rfl, fun _ => ⟨rfl, rfl⟩⟩
  | .cons t ts, x :: es, h => by
    obtain ⟨h0, _, h⟩ := chkGs_cons h
    obtain ⟨h1, h2⟩ := chkGs_len c ts es h
    refine ⟨by simp [lenT, h1], fun env => ?_⟩
    rw [ass_cons h0]
    exact ⟨by simp [(h2 env).1], by simp [List.findIdx?_cons, (h2 env).2]⟩
  | .name _, _, h => by simp [chkG.chkGs] at h
  | .tup _, _, h => by simp [chkG.chkGs] at h
  | .nil, _ :: _, h => by simp [chkG.chkGs] at h
  | .cons _ _, [], h => by simp [chkG.chkGs] at h
theorem soundG : ∀ (t : T), (∀ (c : Cc) (X : Cx) (x : Expr), XG G φ c X → chkG c t x = true → PG X x (tG X.K t)) ∧ (∀ (c : Cc) (X : Cx) (es : List Expr), XG G φ c X → chkG.chkGs c t es = true → PGs X es (tGs X.K t)) := by
  intro t
  induction t with
  | name i =>
    refine ⟨fun c X x g h => ?_, fun c X es g h => by simp [chkG.chkGs] at h⟩
    cases x with
    | Name y p =>
      obtain ⟨h1, h2, h3⟩ := st_of g (show stC c i y = true from h)
      exact pg_imp (pg_name g.nd h1 h2 h3) fun v σ H Q q => tG_name q
    | _ => exact absurd (show false = true from h) (by decide)
  | tup ts ih =>
    refine ⟨fun c X x g h => ?_, fun c X es g h => by simp [chkG.chkGs] at h⟩
    cases x with
    | Tuple es k p =>
      have h : chkG.chkGs c ts es = true := h
      obtain ⟨h1, h2⟩ := chkGs_len c ts es h
      exact pg_imp (pg_tup g.calm (ih.2 c X es g h) (h2 _).1 (h2 _).2) fun v σ H Q q => tG_tup h1 q
    | _ => exact absurd (show false = true from h) (by decide)
  | nil =>
    refine ⟨fun c X x g h => by cases x <;> exact absurd (show false = true from h) (by decide), fun c X es g h => ?_⟩
    cases es with
    | nil => exact pgs_imp pgs_nil fun v σ H Q q => tGs_nil q
    | cons e es => simp [chkG.chkGs] at h
  | cons t ts ih1 ih2 =>
    refine ⟨fun c X x g h => by cases x <;> exact absurd (show false = true from h) (by decide), fun c X es g h => ?_⟩
    cases es with
    | nil => simp [chkG.chkGs] at h
    | cons e es =>
      obtain ⟨h0, h1, h2⟩ := chkGs_cons h
      exact pgs_imp (pgs_cons (ih1.1 c X e g h1) (ih2.2 c X es g h2) (by rw [ass_cons h0]; rfl)) fun v σ H Q q => tGs_cons q
end
end Ev

set_option maxHeartbeats 4000000
namespace Ev
open PySem PySem.Spec PyProof.Rows L2
section
variable {G : Gc} {φ : Phi}
/-- what the checker promises of e -/
structure OkE (G : Gc) (φ : Phi) (z : E) : Prop where
  e : ∀ (c : Cc) (X : Cx) (x : Expr), XG G φ c X → (chk G z).e c x = true → PE X x (tE X.K φ z)
  t : ∀ (c : Cc) (X : Cx) (x : Expr), XG G φ c X → (chk G z).t c x = true → PT X x (tT X.K φ z)
  a : ∀ (b : Bool) (c : Cc) (X : Cx) (xs : List Expr), XG G φ c X → (chk G z).a b c xs = true → PA X xs (tA b X.K φ z)
  h : ∀ a es, z = .cons a es → ∀ (c : Cc) (X : Cx) (x : Expr), XG G φ c X → (chk G a).e c x = true → PE X x (tE X.K φ a)
def isCons : E → Bool
  | .cons _ _ => true
  | _ => false
theorem OkE.mk' {e : E} {f : Cc → Expr → Bool} (hc : chk G e = Ck.mk' f) (nc : isCons e = false) (h : ∀ (c : Cc) (X : Cx) (x : Expr), XG G φ c X → f c x = true → PE X x (tE X.K φ e)) : OkE G φ e := by
  refine ⟨fun c X x g hh => h c X x g (by rw [hc] at hh; exact hh), fun c X x g hh => ?_, fun b c X xs g hh => by rw [hc] at hh; exact absurd (show false = true from hh) (by decide), fun a es q => by subst q; cases nc⟩
  rw [hc] at hh
  have hh : (plainT x && f c x) = true := hh
  rw [Bool.and_eq_true] at hh
  exact pt_imp (pt_truth (h c X x g hh.2) (plainT_eq hh.1 _)) fun σ H Q q => tT_val q
theorem pw_of {X : Cx} {op : BoolOp} {es : List Expr} {pos : Pos} {t : TT} (h : PT X (.BoolOp op es pos) t) : PW X (.BoolOp op es pos) t := ⟨fun wh pins s σ H Q I q => h.run pins s σ H Q I q⟩
theorem no_of {b : Bool} (h : (!b) = true) : b = false := by cases b <;> first | rfl | cases h
theorem optC_of {X : Cx} {c : Cc} {e : E} {f : Expr → Bool} {o : Option Expr} (hf : ∀ x, f x = true → PE X x (tE X.K φ e)) (h : optC f e o = true) : PO X o (tO X.K φ e) := by
  unfold optC at h
  split at h
  · unfold isSkip at h
    split at h
    · exact po_imp po_none fun σ H Q q => tO_skip q
    · cases h
  · rw [Bool.and_eq_true] at h
    exact po_imp (po_some (hf _ h.2)) fun σ H Q q => tO_some (no_of h.1) q
theorem plainIx_of {y : Expr} (h : plainI y = true) : PlainIx y := by
  intro o i
  cases y <;> first | rfl | cases h
theorem tI_none {X : Cx} {k : ItK} {es : E} {σ : SSt} {H : Hp} {R : It → Hp → Prop} {P : Prop} (h : ∀ ρ m xs m', itE φ k es ρ m ≠ .ok xs m') : tI X.K φ k es σ H R → P := by
  rintro ⟨O, C, ρ, m, xs, m', M, En, ev, q⟩
  exact absurd ev (h _ _ _ _)
theorem fold_of {iter : Expr} (h : notSet iter = true) (env : PySem.Env) (x : Value) : foldedSetIterable iter env x = pure x := by
  cases iter <;> first | rfl | cases h
theorem argN_one {it : E} (h : argN it = some 1) : ∃ a, it = .cons a .nil := by
  cases it with
  | cons a es =>
    obtain ⟨k, hk, e⟩ := Option.map_eq_some_iff.mp (show (argN es).map (· + 1) = some 1 from h)
    have : k = 0 := by omega
    subst this
    cases es with
    | nil => exact ⟨a, rfl⟩
    | cons b c =>
      obtain ⟨_, _, e⟩ := Option.map_eq_some_iff.mp (show (argN c).map (· + 1) = some 0 from hk)
      omega
    | _ => cases hk
  | nil => cases h
  | _ => cases h
theorem argN_two {it : E} (h : argN it = some 2) : ∃ a b, it = .cons a (.cons b .nil) := by
  cases it with
  | cons a es =>
    obtain ⟨k, hk, e⟩ := Option.map_eq_some_iff.mp (show (argN es).map (· + 1) = some 2 from h)
    have : k = 1 := by omega
    subst this
    obtain ⟨b, rfl⟩ := argN_one hk
    exact ⟨a, b, rfl⟩
  | nil => cases h
  | _ => cases h
theorem argN_three {it : E} (h : argN it = some 3) : ∃ a b c, it = .cons a (.cons b (.cons c .nil)) := by
  cases it with
  | cons a r =>
    obtain ⟨n, hn, e⟩ := Option.map_eq_some_iff.mp (show (argN r).map (· + 1) = some 3 from h)
    obtain rfl : n = 2 := by omega
    obtain ⟨b, c, rfl⟩ := argN_two hn
    exact ⟨a, b, c, rfl⟩
  | nil => cases h
  | _ => cases h
theorem itC_ok {k : ItK} {it : E} (ih : ∀ (b : Bool) (c : Cc) (X : Cx) (xs : List Expr), XG G φ c X → (chk G it).a b c xs = true → PA X xs (tA b X.K φ it)) (ihe : ∀ a, it = .cons a .nil → ∀ (c : Cc) (X : Cx) (x : Expr), XG G φ c X → (chk G a).e c x = true → PE X x (tE X.K φ a))
    {c : Cc} {X : Cx} {tg iter : Expr} (g : XG G φ c X) (h : itC G k (argN it) (!brA it) (chk G it).a c tg iter = true) : PI X tg iter (tI X.K φ k it) ∧ ∀ env x, foldedSetIterable iter env x = pure x := by
  unfold itC at h
  split at h
  · simp only [Bool.and_eq_true, decide_eq_true_eq] at h
    obtain ⟨⟨h1, h2⟩, h3⟩ := h
    obtain ⟨a, rfl⟩ := argN_one h1
    have h2 : ((!false || !isBr (kd a)) && noStar [iter] && (chk G a).e c iter && true) = true := h2
    simp only [Bool.and_eq_true] at h2
    have he := ihe a rfl c X iter g h2.1.2
    exact ⟨pi_imp (pi_or (pi_or (pi_list he) (pi_tup he)) (pi_keys he)) fun σ H R q => tI_val q, fold_of h3⟩
  · simp only [Bool.and_eq_true, decide_eq_true_eq] at h
    obtain ⟨⟨⟨⟨⟨h1, h2⟩, h3⟩, h4⟩, h5⟩, h6⟩ := h
    obtain ⟨a, rfl⟩ := argN_one h1
    cases eq_of_beq h2
    exact ⟨pi_imp (pi_range1 (gl_of g h3) (g.blt _ h4) (ih false c X _ g h6) (by rw [star_cons h5]; rfl)) fun σ H R q => tI_rng1 q, fun _ _ => rfl⟩
  · simp only [Bool.and_eq_true, decide_eq_true_eq] at h
    obtain ⟨⟨⟨⟨⟨h1, h2⟩, h3⟩, h4⟩, h5⟩, h6⟩ := h
    obtain ⟨a, b, rfl⟩ := argN_two h1
    cases eq_of_beq h2
    obtain ⟨s1, s2⟩ := noStar_cons h5
    exact ⟨pi_imp (pi_range2 (gl_of g h3) (g.blt _ h4) (ih false c X _ g h6) (by rw [star_cons s1, star_cons s2]; rfl) (by rw [star_cons s2]; rfl)) fun σ H R q => tI_rng2 q, fun _ _ => rfl⟩
  · simp only [Bool.and_eq_true, decide_eq_true_eq] at h
    obtain ⟨⟨⟨⟨⟨h1, h2⟩, h3⟩, h4⟩, h5⟩, h6⟩ := h
    obtain ⟨a, b, d, rfl⟩ := argN_three h1
    cases eq_of_beq h2
    obtain ⟨s1, s2⟩ := noStar_cons h5
    exact ⟨pi_imp (pi_range3 (gl_of g h3) (g.blt _ h4) (ih false c X _ g h6) (star_cons s1) (star_plain s2)) fun σ H R q => tI_rng3 q, fun _ _ => rfl⟩
  · simp only [Bool.and_eq_true, decide_eq_true_eq] at h
    obtain ⟨⟨⟨⟨⟨⟨h1, h2⟩, h3⟩, h4⟩, h5⟩, h6⟩, h7⟩ := h
    obtain ⟨a, b, rfl⟩ := argN_two h1
    cases eq_of_beq h2
    obtain ⟨s1, s2⟩ := noStar_cons h5
    split at h7
    · exact ⟨pi_imp (RZ.pi_zipA (gl_of g h3) (g.blt _ h4) (ih _ c X _ g h6) (star_cons s1) (star_plain s2)) fun σ H R q => tI_zip q, fun _ _ => rfl⟩
    · cases h7
  · simp only [Bool.and_eq_true, decide_eq_true_eq] at h
    obtain ⟨⟨⟨⟨h1, h2⟩, h3⟩, h4⟩, h5⟩ := h
    obtain ⟨a, rfl⟩ := argN_one h1
    cases eq_of_beq h2
    rename_i y p apos cpos
    have h4 : ((!false || !isBr (kd a)) && noStar [Expr.Name y p] && (chk G a).e c (.Name y p) && true) = true := h4
    simp only [Bool.and_eq_true] at h4
    split at h5
    · exact ⟨pi_imp (pi_items (ihe a rfl c X _ g h4.1.2) rfl h3) fun σ H R q => tI_items q, fun _ _ => rfl⟩
    · cases h5
  · simp only [Bool.and_eq_true, decide_eq_true_eq] at h
    obtain ⟨⟨⟨⟨⟨⟨h1, h2⟩, h3⟩, h4⟩, h5⟩, h6⟩, h7⟩ := h
    obtain ⟨a, rfl⟩ := argN_one h1
    cases eq_of_beq h2
    split at h7
    · have hpa : ∀ x, (chk G (.cons a .nil)).a false c [x] = true → PA X [x] (tA (!isBr (kd a)) X.K φ (.cons a .nil)) := fun x h6 => ih (!isBr (kd a)) c X _ g (by
        have h6 : ((!false || !isBr (kd a)) && noStar [x] && (chk G a).e c x && true) = true := h6
        show ((!(!isBr (kd a)) || !isBr (kd a)) && noStar [x] && (chk G a).e c x && true) = true
        simp only [Bool.and_eq_true] at h6 ⊢
        exact ⟨⟨⟨by cases isBr (kd a) <;> rfl, h6.1.1.2⟩, h6.1.2⟩, trivial⟩)
      have hpa := hpa _ h6
      exact ⟨pi_imp (pi_or (pi_enum (gl_of g h3) (g.blt _ h4) hpa (by rw [star_cons h5]; rfl)) (pi_enumT (gl_of g h3) (g.blt _ h4) hpa (by rw [star_cons h5]; rfl))) fun σ H R q => tI_enum q, fun _ _ => rfl⟩
    · cases h7
  · cases h
theorem boot_isi {p : Prim} {T : String} (h : isiT p = some T) : bootBuiltins (isiS p) = some (.type T) ∧ isiS p ≠ "__name__" ∧ (isiS p == ("__debug__" : Str)) = false := by
  cases p <;> first
    | (cases h; done)
    | (cases h; exact ⟨by first | exact PyProof.Rows.boot_int | exact PyProof.Rows.boot_bool | exact PyProof.Rows.boot_str | exact PyProof.Rows.boot_tuple | exact PyProof.Rows.boot_list, by decide, by decide⟩)
theorem pe_sumvC {p : Prim} {es : E} {x : Str} {y : Expr} {ys : List Expr} {p1 pos : Pos} {c : Cc} {X : Cx} (ihe : ∀ a, es = .cons a .nil → ∀ x : Expr, (chk G a).e c x = true → PE X x (tE X.K φ a)) (g : XG G φ c X) (h : sumvC G c p (argN es) (chk G es).a x y ys = true) :
    PE X (.Call (.Name x p1) (y :: ys) [] pos) (tE X.K φ (.prim p es)) := by
  unfold sumvC at h
  split at h
  · rename_i o m apos cpos
    simp only [Bool.and_eq_true, decide_eq_true_eq] at h
    obtain ⟨⟨⟨⟨⟨⟨⟨h0, h1⟩, h2⟩, h3⟩, h4⟩, h5⟩, h6⟩, h7⟩ := h
    obtain ⟨a, rfl⟩ := argN_one h0
    cases eq_of_beq h1
    cases eq_of_beq h2
    have h7 : ((!false || !isBr (kd a)) && noStar [o] && (chk G a).e c o && true) = true := h7
    simp only [Bool.and_eq_true] at h7
    have he := ihe a rfl o h7.1.2
    refine pe_imp (pe_sumVals g.calm (gl_of g h4) (g.blt _ h5) he ?_ h3) fun σ H Q q => tE_sumv q
    split at h6
    · rfl
    · rfl
    · cases h6
  · cases h
theorem pe_isi {p : Prim} {es : E} {x : Str} {y : Expr} {ys : List Expr} {p1 pos : Pos} {c : Cc} {X : Cx} (ihe : ∀ a, es = .cons a .nil → ∀ x : Expr, (chk G a).e c x = true → PE X x (tE X.K φ a)) (g : XG G φ c X) (h : isiC G c p (argN es) (chk G es).a x y ys = true) :
    PE X (.Call (.Name x p1) (y :: ys) [] pos) (tE X.K φ (.prim p es)) := by
  unfold isiC at h
  split at h
  · rename_i t pt
    simp only [Bool.and_eq_true, decide_eq_true_eq] at h
    obtain ⟨⟨⟨⟨⟨⟨⟨⟨⟨h0, h1⟩, h2⟩, h3⟩, h4⟩, h5⟩, h6⟩, h7⟩, h8⟩, h9⟩ := h
    obtain ⟨T, hT⟩ := Option.isSome_iff_exists.mp h0
    obtain ⟨a, rfl⟩ := argN_one h2
    cases eq_of_beq h3
    have e1 := eq_of_beq h1
    subst e1
    obtain ⟨b1, b2, b3⟩ := boot_isi hT
    have h9 : ((!false || !isBr (kd a)) && noStar [y] && (chk G a).e c y && true) = true := h9
    simp only [Bool.and_eq_true] at h9
    have he := ihe a rfl y h9.1.2
    have hn : PE X (.Name (isiS p) pt) (tC (.ty T)) := pe_bltn (gl_of g h6) (g.blt _ h7) b1 rfl b2 b3
    refine pe_imp (pe_callB (id := "isinstance") (pr_isi hT) (gl_of g h4) (g.blt _ h5) PyProof.Rows.boot_isinstance (pa_cons he (pa_cons hn pa_nil rfl) (star_cons h8)) (by decide) (by decide) (star_cons h8) rfl) fun σ H Q q => ?_
    obtain ⟨O, C, ρ, m, r, m', M, En, ev, q⟩ := q
    obtain ⟨r1, m1, e1, ev⟩ := bind_eq_ok (show (evE φ (.cons a .nil) ρ m).bind (fun r m => Out.of m (primD p (argsOf r))) = .ok r m' from ev)
    obtain ⟨x1, e2, rfl⟩ := args_one e1
    obtain ⟨e3, rfl⟩ := of_eq_ok ev
    refine .go M En e2 fun v H1 k1 M1 En1 R => ⟨v, rfl, O, C, [x1], r, M.sub, .cons (R.rb M) .nil, ?_, fun v' H2 k2 R2 => ?_⟩
    · have : primD p = isP p := by cases p <;> first | (cases hT; done) | rfl
      rw [← this]; exact e3
    · have hk : kd (.prim p (.cons a .nil)) = .fr := by cases p <;> first | (cases hT; done) | rfl
      rw [hk] at q
      exact q v' H2 (k1.trans (k2 C)) (M1.grow k2) (R2.base k1 M1) (Rv.frm M1 k2 R2)
  · rename_i t pt l pl kk pp
    simp only [Bool.and_eq_true, decide_eq_true_eq] at h
    obtain ⟨⟨⟨⟨⟨⟨⟨⟨⟨⟨⟨⟨h0, h1⟩, h1'⟩, h2⟩, h3⟩, h4⟩, h5⟩, h6⟩, h7⟩, h6'⟩, h7'⟩, h8⟩, h9⟩ := h
    obtain ⟨a, rfl⟩ := argN_one h2
    cases eq_of_beq h3
    cases eq_of_beq h1
    cases eq_of_beq h1'
    have h9 : ((!false || !isBr (kd a)) && noStar [y] && (chk G a).e c y && true) = true := h9
    simp only [Bool.and_eq_true] at h9
    have he := ihe a rfl y h9.1.2
    have hp : p = .isTupLst := by cases p <;> first | rfl | (cases h0; done)
    subst hp
    have hn1 : PE X (.Name "tuple" pt) (tC (.ty "tuple")) := pe_bltn (gl_of g h6) (g.blt _ h7) PyProof.Rows.boot_tuple rfl
    have hn2 : PE X (.Name "list" pl) (tC (.ty "list")) := pe_bltn (gl_of g h6') (g.blt _ h7') PyProof.Rows.boot_list rfl
    have ht := pe_tup (X := X) (x1 := kk) (pos := pp) (pa_cons hn1 (pa_cons hn2 pa_nil rfl) rfl)
    refine pe_imp (pe_callB (id := "isinstance") pr_isiT (gl_of g h4) (g.blt _ h5) PyProof.Rows.boot_isinstance (pa_cons he (pa_cons ht pa_nil rfl) (star_cons h8)) (by decide) (by decide) (star_cons h8) rfl) fun σ H Q q => ?_
    obtain ⟨O, C, ρ, m, r, m', M, En, ev, q⟩ := q
    obtain ⟨r1, m1, e1, ev⟩ := bind_eq_ok (show (evE φ (.cons a .nil) ρ m).bind (fun r m => Out.of m (primD .isTupLst (argsOf r))) = .ok r m' from ev)
    obtain ⟨x1, e2, rfl⟩ := args_one e1
    obtain ⟨e3, rfl⟩ := of_eq_ok ev
    refine .go M En e2 fun v H1 k1 M1 En1 R => ?_
    refine ⟨by rw [sizeLine_eq]; decide, fun p' hp' => ⟨v, p', rfl, upd_same, O, C, [x1], r, M.sub, .cons ((R.rb M).keep M.sub (Keep.new hp')) .nil, e3, fun v' H2 k2 R2 => ?_⟩⟩
    have k3 : Keep C H1 H2 := (Keep.new hp').trans (k2 C)
    exact q v' H2 (k1.trans k3) ((M1.grow fun _ => Keep.new hp').grow k2) (R2.base (k1.trans (Keep.new hp')) (M1.grow fun _ => Keep.new hp')) (Rv.frm (M1.grow fun _ => Keep.new hp') k2 R2)
  · cases h
theorem soundE (e : E) : OkE G φ e := by
  induction e with
  | slot i =>
    refine .mk' rfl rfl fun c X x g h => ?_
    split at h
    · exact pe_imp (nm_of g h) fun σ H Q q => tE_slot q
    · cases h
  | brw i =>
    refine .mk' rfl rfl fun c X x g h => ?_
    split at h
    · exact pe_imp (nm_of g h) fun σ H Q q => tE_brw q
    · cases h
  | idxc i b ih =>
    refine .mk' rfl rfl fun c X x g h => ?_
    split at h
    · simp only [Bool.and_eq_true] at h
      refine pe_imp (pe_ix ix_list (nm_of g h.1.2) (ih.e c X _ g h.2) (plainIx_of h.1.1)) fun σ H Q q => tE_idxc q
    · cases h
  | cst d =>
    refine .mk' rfl rfl fun c X x g h => ?_
    split at h
    · cases of_decide_eq_true h
      exact pe_imp pe_int fun σ H Q q => tE_cst (fun _ _ _ => .int _) q
    · cases of_decide_eq_true h
      exact pe_imp pe_bl fun σ H Q q => tE_cst (fun _ _ _ => .bl _) q
    · exact pe_imp pe_non fun σ H Q q => tE_cst (fun _ _ _ => .non) q
    · cases of_decide_eq_true h
      exact pe_imp pe_str fun σ H Q q => tE_cst (fun _ _ _ => .str _) q
    · simp only [Bool.and_eq_true, decide_eq_true_eq] at h
      obtain ⟨t, ht⟩ := g.cns _ _ h.1.1
      have hr : ∀ n, RelV (V.int n) (Value.int n t) := fun n => ⟨t, rfl⟩
      exact pe_imp (pe_glob (gl_of g h.1.2) ht (hr _) (no_of h.2)) fun σ H Q q => tE_cst (fun _ _ _ => .int _) q
    · cases h
  | nil =>
    refine ⟨fun c X x g h => absurd (show false = true from h) (by decide), fun c X x g h => absurd (show false = true from h) (by decide), fun b c X xs g h => ?_, fun _ _ q => by cases q⟩
    cases xs with
    | nil => exact pa_imp pa_nil fun σ H Q q => tA_nil q
    | cons => exact absurd (show false = true from h) (by decide)
  | cons e es ih1 ih2 =>
    refine ⟨fun c X x g h => absurd (show false = true from h) (by decide), fun c X x g h => absurd (show false = true from h) (by decide), fun b c X xs g h => ?_, fun a es' q => by cases q; exact ih1.e⟩
    cases xs with
    | nil => exact absurd (show false = true from h) (by decide)
    | cons x r =>
      have h : ((!b || !isBr (kd e)) && noStar [x] && (chk G e).e c x && (chk G es).a b c r) = true := h
      simp only [Bool.and_eq_true] at h
      obtain ⟨⟨⟨h1, h2⟩, h3⟩, h4⟩ := h
      exact pa_imp (pa_cons (ih1.e c X x g h3) (ih2.a b c X r g h4) (star_cons h2)) fun σ H Q q => tA_cons (fun hb => by subst hb; simpa using h1) q
  | tup es ih =>
    refine .mk' rfl rfl fun c X x g h => ?_
    split at h
    · simp only [Bool.and_eq_true] at h
      obtain ⟨n, hn, hz⟩ := smallN_line h.1
      refine pe_imp (pe_tup (ih.a true c X _ g h.2)) fun σ H Q q => tE_tup q (fun ds m m' ρ ev => ?_) fun l ρ m m' ev => ?_
      · obtain ⟨l, e, _⟩ := args_argN es n ρ m m' ds hn ev
        exact ⟨l, e⟩
      · obtain ⟨l', e, hl⟩ := args_argN es n ρ m m' _ hn ev
        cases e
        omega
    · cases h
  | lst es ih =>
    refine .mk' rfl rfl fun c X x g h => ?_
    split at h
    · simp only [Bool.and_eq_true] at h
      obtain ⟨n, hn, hz⟩ := smallN_line h.1
      refine pe_imp (pe_lst (ih.a true c X _ g h.2)) fun σ H Q q => tE_lst q (fun ds m m' ρ ev => ?_) fun l ρ m m' ev => ?_
      · obtain ⟨l, e, _⟩ := args_argN es n ρ m m' ds hn ev
        exact ⟨l, e⟩
      · obtain ⟨l', e, hl⟩ := args_argN es n ρ m m' _ hn ev
        cases e
        omega
    · cases h
  | bin op a b ih1 ih2 =>
    refine .mk' rfl rfl fun c X x g h => ?_
    split at h
    · simp only [Bool.and_eq_true, decide_eq_true_eq] at h
      obtain ⟨⟨rfl, h1⟩, h2⟩ := h
      exact pe_imp (pe_op (op_binE op) (ih1.e c X _ g h1) (ih2.e c X _ g h2)) fun σ H Q q => tE_op rfl (fun _ _ => rfl) q
    · cases h
  | neg a ih =>
    refine .mk' rfl rfl fun c X x g h => ?_
    split at h
    · exact pe_imp (pe_un un_neg (ih.e c X _ g h)) fun σ H Q q => tE_neg q
    · cases h
  | cmp op a b ih1 ih2 =>
    refine ⟨fun c X x g h => ?_, fun c X x g h => ?_, fun b c X xs g h => absurd (show false = true from h) (by decide), fun _ _ q => by cases q⟩
    · dsimp only [chk] at h
      split at h
      · simp only [Bool.and_eq_true, decide_eq_true_eq] at h
        obtain ⟨⟨⟨rfl, h0⟩, h1⟩, h2⟩ := h
        exact pe_imp (pe_cmpR (op_cmpE op g.un) (ih1.e c X _ g h1) (ih2.e c X _ g h2) (no_of h0)) fun σ H Q q => tE_op rfl (fun _ _ => rfl) q
      · cases h
    · dsimp only [chk] at h
      split at h
      · simp only [Bool.and_eq_true, decide_eq_true_eq] at h
        obtain ⟨⟨⟨rfl, h0⟩, h1⟩, h2⟩ := h
        refine pt_imp (pt_cmpR (op_cmpE op g.un) (ih1.e c X _ g h1) (ih2.e c X _ g h2) (no_of h0)) fun σ H Q q => ?_
        refine tE_op rfl (fun _ _ => rfl) (tT_bl (fun ρ m r m' ev => ?_) q)
        obtain ⟨_, _, _, ev⟩ := bind_eq_ok (show (evE φ a ρ m).bind (fun x m => (evE φ b ρ m).bind fun y m => Out.of m (cmpD op x y)) = .ok r m' from ev)
        obtain ⟨_, _, _, ev⟩ := bind_eq_ok ev
        exact cmpD_bl (of_eq_ok ev).1
      · cases h
  | chn o p a b d ih1 ih2 ih3 =>
    have hb : ∀ ρ m r m', evE φ (.chn o p a b d) ρ m = .ok r m' → ∃ b, r = .bl b := by
      intro ρ m r m' ev
      obtain ⟨_, _, _, ev⟩ := bind_eq_ok (show (evE φ a ρ m).bind (fun x m => (evE φ b ρ m).bind fun y m => (Out.of m (cmpD o x y)).bind fun r m => match r with
        | .bl true => (evE φ d ρ m).bind fun z m => Out.of m (cmpD p y z)
        | .bl false => .ok (.bl false) m
        | _ => .no) = .ok r m' from ev)
      obtain ⟨_, _, _, ev⟩ := bind_eq_ok ev
      obtain ⟨_, _, _, ev⟩ := bind_eq_ok ev
      split at ev
      · obtain ⟨_, _, _, ev⟩ := bind_eq_ok ev
        exact cmpD_bl (of_eq_ok ev).1
      · cases ev; exact ⟨_, rfl⟩
      · cases ev
    refine ⟨fun c X x g h => ?_, fun c X x g h => ?_, fun b c X xs g h => absurd (show false = true from h) (by decide), fun _ _ q => by cases q⟩
    · dsimp only [chk] at h
      split at h
      · simp only [Bool.and_eq_true, decide_eq_true_eq] at h
        obtain ⟨⟨⟨⟨⟨rfl, rfl⟩, h0⟩, h1⟩, h2⟩, h3⟩ := h
        exact pe_imp (pe_chain (op_cmpE o g.un) (op_cmpE p g.un) (ih1.e c X _ g h1) (ih2.e c X _ g h2) (ih3.e c X _ g h3) (no_of h0)) fun σ H Q q => tE_chn q
      · cases h
    · dsimp only [chk] at h
      split at h
      · simp only [Bool.and_eq_true, decide_eq_true_eq] at h
        obtain ⟨⟨⟨⟨⟨rfl, rfl⟩, h0⟩, h1⟩, h2⟩, h3⟩ := h
        exact pt_imp (pt_chain (op_cmpE o g.un) (op_cmpE p g.un) (ih1.e c X _ g h1) (ih2.e c X _ g h2) (ih3.e c X _ g h3) (no_of h0)) fun σ H Q q => tE_chn (tT_bl hb q)
      · cases h
  | and a b ih1 ih2 =>
    refine ⟨fun c X x g h => ?_, fun c X x g h => ?_, fun b c X xs g h => absurd (show false = true from h) (by decide), fun _ _ q => by cases q⟩
    · dsimp only [chk] at h
      split at h
      · simp only [Bool.and_eq_true] at h
        obtain ⟨⟨⟨k1, k2⟩, h1⟩, h2⟩ := h
        exact pe_imp (pe_andT (ih1.e c X _ g h1) (pe_one (ih2.e c X _ g h2))) fun σ H Q q => tE_and (no_of k1) (no_of k2) q
      · simp only [Bool.and_eq_true] at h
        obtain ⟨⟨⟨k1, k2⟩, h1⟩, h2⟩ := h
        exact pe_imp (pe_andT (ih1.e c X _ g h1) (ih2.e c X _ g h2)) fun σ H Q q => tE_and (no_of k1) (no_of k2) q
      · cases h
    · dsimp only [chk] at h
      split at h
      · simp only [Bool.and_eq_true] at h
        exact pt_imp (pw_and (ih1.t c X _ g h.1) (pw_and1 (ih2.t c X _ g h.2))).pt fun σ H Q q => tT_and q
      · simp only [Bool.and_eq_true] at h
        exact pt_imp (pw_and (ih1.t c X _ g h.1) (pw_of (ih2.t c X _ g h.2))).pt fun σ H Q q => tT_and q
      · cases h
  | or a b ih1 ih2 =>
    refine ⟨fun c X x g h => ?_, fun c X x g h => ?_, fun b c X xs g h => absurd (show false = true from h) (by decide), fun _ _ q => by cases q⟩
    · dsimp only [chk] at h
      split at h
      · simp only [Bool.and_eq_true] at h
        obtain ⟨⟨⟨k1, k2⟩, h1⟩, h2⟩ := h
        exact pe_imp (pe_orT (ih1.e c X _ g h1) (pe_one (ih2.e c X _ g h2))) fun σ H Q q => tE_or (no_of k1) (no_of k2) q
      · simp only [Bool.and_eq_true] at h
        obtain ⟨⟨⟨k1, k2⟩, h1⟩, h2⟩ := h
        exact pe_imp (pe_orT (ih1.e c X _ g h1) (ih2.e c X _ g h2)) fun σ H Q q => tE_or (no_of k1) (no_of k2) q
      · cases h
    · dsimp only [chk] at h
      split at h
      · simp only [Bool.and_eq_true] at h
        exact pt_imp (pw_or (ih1.t c X _ g h.1) (pw_or1 (ih2.t c X _ g h.2))).pt fun σ H Q q => tT_or q
      · simp only [Bool.and_eq_true] at h
        exact pt_imp (pw_or (ih1.t c X _ g h.1) (pw_of (ih2.t c X _ g h.2))).pt fun σ H Q q => tT_or q
      · cases h
  | not a ih =>
    refine ⟨fun c X x g h => ?_, fun c X x g h => ?_, fun b c X xs g h => absurd (show false = true from h) (by decide), fun _ _ q => by cases q⟩
    · dsimp only [chk] at h
      split at h
      · exact pe_imp (pe_notT (ih.e c X _ g h)) fun σ H Q q => tE_not q
      · cases h
    · dsimp only [chk] at h
      split at h
      · exact pt_imp (pt_not (ih.t c X _ g h)) fun σ H Q q => tT_not q
      · cases h
  | ite t a b ih0 ih1 ih2 =>
    refine ⟨fun c X x g h => ?_, fun c X x g h => absurd (show false = true from h) (by decide), fun b c X xs g h => absurd (show false = true from h) (by decide), fun _ _ q => by cases q⟩
    dsimp only [chk] at h
    split at h
    · simp only [Bool.and_eq_true] at h
      obtain ⟨⟨⟨⟨k1, k2⟩, h0⟩, h1⟩, h2⟩ := h
      exact pe_imp (pe_ifExp (ih0.t c X _ g h0) (ih1.e c X _ g h1) (ih2.e c X _ g h2)) fun σ H Q q => tE_ite (no_of k1) (no_of k2) q
    · cases h
  | idx a b ih1 ih2 =>
    refine .mk' rfl rfl fun c X x g h => ?_
    split at h
    · simp only [Bool.and_eq_true] at h
      refine pe_imp (pe_ix (ix_E (by have := g.un; omega)) (ih1.e c X _ g h.1.2) (ih2.e c X _ g h.2) (plainIx_of h.1.1)) fun σ H Q q => tE_op rfl (fun _ _ => rfl) q
    · cases h
  | slc a lo hi ih0 ih1 ih2 =>
    refine .mk' rfl rfl fun c X x g h => ?_
    split at h
    · simp only [Bool.and_eq_true] at h
      obtain ⟨⟨h0, h1⟩, h2⟩ := h
      exact pe_imp (pe_slice sl_E (ih0.e c X _ g h0) (optC_of (c := c) (fun x hx => ih1.e c X x g hx) h1) (optC_of (c := c) (fun x hx => ih2.e c X x g hx) h2)) fun σ H Q q => tE_slc q
    · cases h
  | rev a ih =>
    refine .mk' rfl rfl fun c X x g h => ?_
    split at h
    · exact pe_imp (pe_revL (ih.e c X _ g h)) fun σ H Q q => tE_rev q
    · cases h
  | call f es ih =>
    refine .mk' rfl rfl fun c X x g h => ?_
    split at h
    · rename_i x p xs pos
      split at h
      · rename_i gg n hl
        simp only [Bool.and_eq_true, decide_eq_true_eq] at h
        obtain ⟨⟨⟨⟨⟨rfl, h1⟩, h2⟩, h3⟩, h4⟩, h5⟩ := h
        obtain ⟨k, addr, fd, ps, F, hr, hm, hk, hb⟩ := g.call x f n hl
        have ha := ih.a true c X xs g h5
        have imp : ∀ σ H Q, tE X.K φ (.call f es) σ H Q → tCall (spF X.K φ n f) [] E0 (tA true X.K φ es) σ H Q := fun σ H Q q =>
          tE_call (fun ρ m l m' ev => by obtain ⟨l', e, hl⟩ := args_argN es n ρ m m' _ h1 ev; cases e; exact hl) (fun ρ m r m' ev => by obtain ⟨l', e, _⟩ := args_argN es n ρ m m' _ h1 ev; exact ⟨l', e⟩) q
        cases xs with
        | nil =>
          refine pe_imp (pe_call0 F hr (gl_of g h2) hm hk hb .nil pass0 (no_of h3)) fun σ H Q q => ?_
          have q := imp σ H Q q
          cases es with
          | nil => exact tA_nil q
          | _ => first | (cases h1; done) | exact absurd (show false = true from h5) (by decide)
        | cons y ys =>
          obtain ⟨s1, s2⟩ := noStar_cons h4
          exact pe_imp (pe_call F hr (gl_of g h2) hm hk hb .nil pass0 ha (no_of h3) (star_cons s1) (star_plain s2)) imp
      · cases h
    · cases h
  | prim p es ih =>
    refine .mk' rfl rfl fun c X x g h => ?_
    split at h
    · rw [Bool.or_eq_true, Bool.or_eq_true, Bool.or_eq_true] at h
      rcases h with h | h | h
      rotate_left
      · simp only [Bool.and_eq_true] at h
        obtain ⟨⟨⟨⟨⟨⟨h0, h1⟩, h2⟩, h3⟩, h4⟩, h5⟩, h6⟩ := h
        obtain ⟨n, hn, _⟩ := smallN_line h1
        cases p with
        | gcd =>
          obtain ⟨s1, s2⟩ := noStar_cons h5
          exact pe_imp (pe_callBfun (id := "math.gcd") pr_gcd (gl_of g h2) (g.gcds _ h3) (ih.a false c X _ g h6) (no_of h4) (star_cons s1) (star_plain s2)) fun σ H Q q => tE_prim (fun ρ m r m' ev => by obtain ⟨l', e, _⟩ := args_argN es n ρ m m' _ hn ev; exact ⟨l', e⟩) q
        | _ => cases h0
      · rcases h with h | h
        · exact pe_isi (fun a ha x hx => ih.h a _ ha c X x g hx) g h
        · exact pe_sumvC (fun a ha x hx => ih.h a _ ha c X x g hx) g h
      simp only [Bool.and_eq_true] at h
      obtain ⟨⟨⟨⟨⟨⟨h0, h1⟩, h2⟩, h3⟩, h4⟩, h5⟩, h6⟩ := h
      obtain ⟨n, hn, _⟩ := smallN_line h2
      exact pe_imp (pe_prim h0 (eq_of_beq h1) g (gl_of g h3) (g.blt _ h4) (ih.a false c X _ g h6) h5) fun σ H Q q => tE_prim (fun ρ m r m' ev => by obtain ⟨l', e, _⟩ := args_argN es n ρ m m' _ hn ev; exact ⟨l', e⟩) q
    · cases h
  | comp own t k it ifs elt ih0 ih1 ih2 =>
    refine .mk' rfl rfl fun c X x g h => ?_
    split at h
    · rename_i x tg iter ifs' scope pos
      simp only [Bool.and_eq_true, decide_eq_true_eq] at h
      obtain ⟨⟨⟨⟨⟨⟨⟨⟨k0, k1⟩, k2⟩, k3⟩, k4⟩, k5⟩, k6⟩, k7⟩, k8⟩ := h
      have ok : BlkOk c.N c.sc scope (ownN c own) := blkOk_by k1
      have ok' : BlkOk X.N X.env.scope scope (ownN c own) := by rw [g.eN, g.sc]; exact ok
      obtain ⟨hi, hs⟩ := itC_ok ih0.a (fun a ha => ih0.h a _ ha) g k5
      have ht : ∀ (s : Shared) (H : Hp) (C : Addr) (cl : List (Str × Addr)) (fp : List Addr), PTs (X.blk s H scope (compEnvC scope cl C X.env) fp) ifs' (tT X.K φ ifs) := by
        intro s H C cl fp
        have gb := g.blk (s := s) (H := H) (cl := cl) (C := C) (fp := fp) ok
        split at k7
        · split at k7
          · exact ⟨fun pins s σ H Q I q => pts_nil.run pins s σ H Q I (by
              obtain ⟨O, C, ρ, m, r, m', t, M, En, ev, hh, q⟩ := q
              cases ev
              cases hh
              exact q H Keep.refl M)⟩
          · cases k7
        · exact pts_one (ih1.t (inComp c scope) _ _ gb k7)
        · cases k7
      have hw := pe_lc (elt := x) (te := tE X.K φ elt) (g := tG X.K t) (tt := tT X.K φ ifs) (pos := pos) g.calm g.nd hi ok' (fun s H C cl fp => (soundG t).1 (inComp c scope) _ tg (g.blk (s := s) (H := H) (cl := cl) (C := C) (fp := fp) ok) k6) ht
        (fun s H C cl fp => ih2.e (inComp c scope) _ x (g.blk (s := s) (H := H) (cl := cl) (C := C) (fp := fp) ok) k8) (fun x => hs _ x)
      rw [k0] at hw
      exact pe_imp hw fun σ H Q q => tE_comp (fun i hi => by
        have := List.all_eq_true.mp k3 i hi
        rwa [List.contains_iff_mem] at this) (no_of k4) q
    · cases h
  | dcomp own t k it ifs key val ih0 ih1 ih2 ih3 =>
    refine .mk' rfl rfl fun c X x g h => ?_
    split at h
    · rename_i kx vx tg iter ifs' scope pos
      simp only [Bool.and_eq_true, decide_eq_true_eq] at h
      obtain ⟨⟨⟨⟨⟨⟨⟨⟨k0, k1⟩, k2⟩, k3⟩, k4, k4'⟩, k5⟩, k6⟩, k7⟩, k8, k8'⟩ := h
      have ok : BlkOk c.N c.sc scope (ownN c own) := blkOk_by k1
      have ok' : BlkOk X.N X.env.scope scope (ownN c own) := by rw [g.eN, g.sc]; exact ok
      obtain ⟨hi, hs⟩ := itC_ok ih0.a (fun a ha => ih0.h a _ ha) g k5
      have ht : ∀ (s : Shared) (H : Hp) (C : Addr) (cl : List (Str × Addr)) (fp : List Addr), PTs (X.blk s H scope (compEnvC scope cl C X.env) fp) ifs' (tT X.K φ ifs) := by
        intro s H C cl fp
        have gb := g.blk (s := s) (H := H) (cl := cl) (C := C) (fp := fp) ok
        split at k7
        · split at k7
          · exact ⟨fun pins s σ H Q I q => pts_nil.run pins s σ H Q I (by
              obtain ⟨O, C, ρ, m, r, m', t, M, En, ev, hh, q⟩ := q
              cases ev
              cases hh
              exact q H Keep.refl M)⟩
          · cases k7
        · exact pts_one (ih1.t (inComp c scope) _ _ gb k7)
        · cases k7
      have hw := pe_lockV (pe_dc (kx := kx) (vx := vx) (tk := tE X.K φ key) (tv := tE X.K φ val) (g := tG X.K t) (tt := tT X.K φ ifs) (pos := pos) g.calm g.nd hi ok' (fun s H C cl fp => (soundG t).1 (inComp c scope) _ tg (g.blk (s := s) (H := H) (cl := cl) (C := C) (fp := fp) ok) k6) ht
        (fun s H C cl fp => ih2.e (inComp c scope) _ kx (g.blk (s := s) (H := H) (cl := cl) (C := C) (fp := fp) ok) k8)
        (fun s H C cl fp => ih3.e (inComp c scope) _ vx (g.blk (s := s) (H := H) (cl := cl) (C := C) (fp := fp) ok) k8') (fun x => hs _ x))
      rw [k0] at hw
      exact pe_imp hw fun σ H Q q => tE_dcomp (fun i hi => by
        have := List.all_eq_true.mp k3 i hi
        rwa [List.contains_iff_mem] at this) (no_of k4) (no_of k4') q
    · cases h
  | meth q o es iho ih =>
    have hno : chk G (.meth q o es) = .no → OkE G φ (.meth q o es) := fun hn => ⟨fun c X x g h => by rw [hn] at h; exact absurd (show false = true from h) (by decide), fun c X x g h => by rw [hn] at h; exact absurd (show false = true from h) (by decide), fun b c X xs g h => by rw [hn] at h; exact absurd (show false = true from h) (by decide), fun _ _ q => by cases q⟩
    cases q with
    | index =>
      cases es with
      | cons e es2 =>
        cases es2 with
        | nil =>
          refine .mk' rfl rfl fun c X x g h => ?_
          split at h
          · rename_i y m apos z cpos
            simp only [Bool.and_eq_true] at h
            obtain ⟨⟨⟨⟨⟨h1, h2⟩, h3⟩, h4⟩, h5⟩, h6⟩ := h
            cases eq_of_beq h1
            have he := ih.h e _ rfl c X z g h6
            have key : attributeBase y "index" X.env (eval y X.env) = eval y X.env → PE X (.Call (.Attribute y "index" apos) [z] [] cpos) (tE X.K φ (.meth .index o (.cons e .nil))) := fun hb =>
              pe_imp (pe_bm PySem.F.plainAttrs_list PySem.F.slot_list_index PySem.F.type_list_index (mt_indexE g.un) (iho.e c X y g h5) (pa_cons he pa_nil (star_cons h3)) hb (by rw [star_cons h3]; rfl) h2 (star_cons h3) rfl) fun σ H Q q => tE_index q
            split at h4
            · exact key rfl
            · cases h4
          · cases h
        | _ => exact hno rfl
      | _ => exact hno rfl
    | _ => exact hno rfl
  | sitems a ih =>
    refine .mk' rfl rfl fun c X x g h => ?_
    split at h
    · simp only [Bool.and_eq_true] at h
      obtain ⟨⟨⟨⟨⟨⟨h0, h1⟩, h2⟩, h3⟩, h4⟩, h5⟩, h6⟩ := h
      cases eq_of_beq h0
      cases eq_of_beq h1
      exact pe_imp (pe_sortedItems g.calm g.un (ih.e c X _ g h6) (gl_of g h2) (g.blt _ h3) rfl h4 rfl) fun σ H Q q => tE_sit (no_of h5) q
    · cases h
  | _ => exact ⟨fun c X x g h => absurd (show false = true from h) (by decide), fun c X x g h => absurd (show false = true from h) (by decide), fun b c X xs g h => absurd (show false = true from h) (by decide), fun _ _ q => by cases q⟩
end
end Ev

set_option maxHeartbeats 4000000
namespace Ev
open PySem PySem.Spec PyProof.Rows L2
/-- from one point of a body to a later one -/
structure Tr (O : List Addr) (H : Hp) (O' : List Addr) (H' : Hp) : Prop where
  kp : Keep O H H'
  oo : ∀ a, Alv H a → a ∉ O → a ∉ O'
/-- a body's begin -/
structure Bs (O0 C : List Addr) (H0 : Hp) : Prop where
  c : ∀ a ∈ C, a ∈ O0
  al : ∀ a ∈ O0, Alv H0 a
structure StOk (K : Frag) (O0 C : List Addr) (H0 : Hp) (O : List Addr) (H : Hp) (m : Mem) (ρ : Env) (σ : SSt) : Prop where
  M : MemOk K O C H m
  en : EnvOk K O C H ρ σ
  kp : Keep C H0 H
  sub : ∀ a ∈ O0, a ∈ O
  nw : ∀ (i : Nat) d a, ρ[i]? = some (some (.own d)) → σ[i]? = some (some (V.ref a)) → H0 a = none
section
variable {K : Frag} {O O1 O2 O0 C : List Addr} {H H1 H2 H0 : Hp} {m m1 : Mem} {ρ ρ1 : Env} {σ σ1 : SSt}
theorem Tr.refl : Tr O H O H := ⟨Keep.refl, fun _ _ h => h⟩
theorem Tr.trans (a : Tr O H O1 H1) (b : Tr O1 H1 O2 H2) : Tr O H O2 H2 := by
  have al : ∀ x, Alv H x → x ∉ O → Alv H1 x := fun x ⟨o, e⟩ n => ⟨o, a.kp.ob x o e n⟩
  exact ⟨⟨fun x o e n => b.kp.ob x o (a.kp.ob x o e n) (a.oo x ⟨o, e⟩ n), fun x xs e => b.kp.tp x xs (a.kp.tp x xs e), fun x o u e => b.kp.fz x o u (a.kp.fz x o u e)⟩,
    fun x h n => b.oo x (al x h n) (a.oo x h n)⟩
theorem Tr.keep (hC : ∀ a ∈ C, a ∈ O) (k : Keep C H H1) : Tr O H O H1 := ⟨k.mono hC, fun _ _ n => n⟩
theorem Keep.none {p : Addr} {C : List Addr} (k : Keep C H H1) (h : H1 p = none) (n : p ∉ C) : H p = none := by
  cases q : H p with
  | none => rfl
  | some o => rw [k.ob p o q n] at h; cases h
theorem MemOk.out {p : Addr} (M : MemOk K O C H m) (h : H p = none) : p ∉ C := fun q => by
  obtain ⟨o, e⟩ := M.alC p q
  rw [h] at e; cases e
/-- forget a slot -/
theorem EnvOk.drop (h : EnvOk K O C H ρ σ) (i : Nat) : EnvOk K O C H (setE ρ i none) σ := by
  have hl : ∀ {j : Nat} {x : Sl}, (setE ρ i none)[j]? = some (some x) → ρ[j]? = some (some x) := by
    intro j x e
    rcases set_get e with ⟨_, e2⟩ | q
    · cases e2
    · exact q.2
  exact ⟨by simp [setE, h.len], fun j x e => h.val j x (hl e), fun j x e => h.own j x (hl e), fun j l x y a ne e1 e2 => h.inj j l x y a ne (hl e1) (hl e2)⟩
theorem set_none_get {ρ : Env} {i j : Nat} {x : Sl} (e : (setE ρ i none)[j]? = some (some x)) : ρ[j]? = some (some x) := by
  rcases set_get e with ⟨_, e2⟩ | q
  · cases e2
  · exact q.2
theorem StOk.drop (h : StOk K O0 C H0 O H m ρ σ) (i : Nat) : StOk K O0 C H0 O H m (setE ρ i none) σ :=
  ⟨h.M, h.en.drop i, h.kp, h.sub, fun j d a e1 e2 => h.nw j d a (set_none_get e1) e2⟩
theorem StOk.forget (h : StOk K O0 C H0 O H m ρ σ) : ∀ vs : List Nat, StOk K O0 C H0 O H m (wipeE ρ vs) σ
  | [] => h
  | v :: vs => (h.forget vs).drop v
/-- after an expression -/
theorem StOk.next (h : StOk K O0 C H0 O H m ρ σ) (k : Keep C H H1) (M1 : MemOk K O C H1 m1) : StOk K O0 C H0 O H1 m1 ρ σ :=
  ⟨M1, h.en.keep h.M.sub k, h.kp.trans k, h.sub, h.nw⟩
/-- a slot is set to a value -/
theorem StOk.set {d : D} {v : V} (h : StOk K O0 C H0 O H m ρ σ) (i : Nat) (r : Rp K O C H d v) : StOk K O0 C H0 O H m (setE ρ i (some (.val d))) (σ.set i (some v)) := by
  refine ⟨h.M, h.en.set r, h.kp, h.sub, fun j d' a e1 e2 => ?_⟩
  rcases set_get e1 with ⟨_, q⟩ | ⟨ne, q⟩
  · cases q
  · rw [List.getElem?_set_ne ne] at e2
    exact h.nw j d' a q e2
/-- a slot is set to an own list, at p -/
theorem EnvOk.setOwn {p : Addr} {d : D} (h : EnvOk K O C H ρ σ) (i : Nat) (hp : p ∈ O) (hc : p ∉ C) (r : OwnAt K O C H p d) (un : ∀ (j : Nat) e, j ≠ i → ρ[j]? = some (some (.own e)) → σ[j]? ≠ some (some (V.ref p))) :
    EnvOk K O C H (setE ρ i (some (.own d))) (σ.set i (some (.ref p))) := by
  have hl : ∀ {j : Nat} {x : Sl}, (setE ρ i (some (.own d)))[j]? = some (some x) → (i = j ∧ x = .own d ∧ j < σ.length) ∨ (i ≠ j ∧ ρ[j]? = some (some x)) := by
    intro j x e
    have lt : j < ρ.length := by
      have := (List.getElem?_eq_some_iff.mp e).1
      simpa [setE] using this
    rcases set_get e with ⟨e1, e2⟩ | q
    · exact .inl ⟨e1, (Option.some.inj e2).symm, h.len ▸ lt⟩
    · exact .inr q
  refine ⟨by simp [setE, h.len], fun j x e => ?_, fun j x e => ?_, fun j l x y a ne e1 e2 e3 => ?_⟩
  · rcases hl e with ⟨rfl, e2, lt⟩ | ⟨ne, e2⟩
    · cases e2
    · obtain ⟨w, q1, q2⟩ := h.val j x e2
      exact ⟨w, by rw [List.getElem?_set_ne ne]; exact q1, q2⟩
  · rcases hl e with ⟨rfl, e2, lt⟩ | ⟨ne, e2⟩
    · cases e2
      exact ⟨p, by rw [List.getElem?_set_self lt], hp, hc, r⟩
    · obtain ⟨a, q1, q2⟩ := h.own j x e2
      exact ⟨a, by rw [List.getElem?_set_ne ne]; exact q1, q2⟩
  · rcases hl e1 with ⟨rfl, q, lt⟩ | ⟨n1, q1⟩
    · rcases hl e2 with ⟨q', _⟩ | ⟨n2, q2⟩
      · exact absurd q' ne
      · rw [List.getElem?_set_self lt] at e3
        cases e3
        rw [List.getElem?_set_ne n2]
        exact un l y (Ne.symm n2) q2
    · rw [List.getElem?_set_ne n1] at e3
      rcases hl e2 with ⟨rfl, q, lt⟩ | ⟨n2, q2⟩
      · rw [List.getElem?_set_self lt]
        intro e
        cases e
        exact un j x (Ne.symm n1) q1 e3
      · rw [List.getElem?_set_ne n2]
        exact h.inj j l x y a ne q1 q2 e3
/-- a new list, p, of the expression just read: O grows -/
theorem StOk.grow {p : Addr} (h : StOk K O0 C H0 O H m ρ σ) (k : Keep C H H1) (hp : H p = none) (M1 : MemOk K (p :: O) C H1 m1) : StOk K O0 C H0 (p :: O) H1 m1 ρ σ ∧ Tr O H (p :: O) H1 ∧ p ∉ C ∧ H0 p = none := by
  have hO : ∀ a, Alv H a → a ∉ O → a ∉ p :: O := fun a ⟨o, e⟩ n => by
    rw [List.mem_cons, not_or]
    exact ⟨ne_of_none e hp, n⟩
  have hc := h.M.out hp
  refine ⟨⟨M1, h.en.move2 h.M.sub k hO (fun a q => List.mem_cons_of_mem _ q) (fun _ _ e => e) (fun _ _ q => q) (fun i d a e1 e2 => ?_), h.kp.trans k, fun a q => List.mem_cons_of_mem _ (h.sub a q), h.nw⟩, ⟨k.mono h.M.sub, hO⟩, hc, h.kp.none hp hc⟩
  obtain ⟨b, q1, _, q2, _⟩ := h.en.own i d e1
  rw [e2] at q1; cases q1; exact q2
theorem StOk.setOwn {p : Addr} {d : D} (h : StOk K O0 C H0 O H m ρ σ) (i : Nat) (hp : p ∈ O) (hc : p ∉ C) (h0 : H0 p = none) (r : OwnAt K O C H p d) (un : ∀ (j : Nat) e, j ≠ i → ρ[j]? = some (some (.own e)) → σ[j]? ≠ some (some (V.ref p))) :
    StOk K O0 C H0 O H m (setE ρ i (some (.own d))) (σ.set i (some (.ref p))) := by
  refine ⟨h.M, h.en.setOwn i hp hc r un, h.kp, h.sub, fun j d' a e1 e2 => ?_⟩
  by_cases e : i = j
  · subst e
    by_cases lt : i < σ.length
    · rw [List.getElem?_set_self lt] at e2
      cases e2
      exact h0
    · rw [List.getElem?_eq_none (by simp; omega)] at e2; cases e2
  · rcases set_get e1 with ⟨q, _⟩ | ⟨ne, q⟩
    · exact absurd q e
    · rw [List.getElem?_set_ne ne] at e2
      exact h.nw j d' a q e2
theorem set_self {α : Type} : ∀ {l : List α} {i : Nat} {x : α}, l[i]? = some x → l.set i x = l
  | [], _, _, h => by simp at h
  | y :: r, 0, x, h => by simp at h; rw [h]; rfl
  | y :: r, i + 1, x, h => by
    show y :: r.set i x = y :: r
    rw [set_self (by simpa using h)]
/-- an own list is written -/
theorem StOk.write {p : Addr} {i : Nat} {d d' : D} {xs ys : List V} (h : StOk K O0 C H0 O H m ρ σ) (e : ρ[i]? = some (some (.own d))) (s : σ[i]? = some (some (V.ref p))) (hx : H p = some (.lst xs)) (hO : p ∈ O) (hc : p ∉ C)
    (r : OwnAt K O C (upd H p (.lst ys)) p d') : StOk K O0 C H0 O (upd H p (.lst ys)) m (setE ρ i (some (.own d'))) σ ∧ Tr O H O (upd H p (.lst ys)) := by
  have h0 := h.nw i d p e s
  have kp : Keep [p] H (upd H p (.lst ys)) := Keep.put hx (by simp)
  have En : EnvOk K O C (upd H p (.lst ys)) (setE ρ i none) σ := (h.en.drop i).move2 (Z := [p]) (by simpa using hO) kp (fun _ _ n => n) (fun _ q => q) (fun _ _ e => e) (fun _ _ q => q) fun j d'' a e1 e2 => by
    rcases set_get e1 with ⟨_, q⟩ | ⟨ne, q⟩
    · cases q
    · simp only [List.mem_singleton]
      intro q'
      subst q'
      exact h.en.inj i j d d'' a ne e q s e2
  have h1 : StOk K O0 C H0 O (upd H p (.lst ys)) m (setE ρ i none) σ := ⟨h.M.put hx hO hc, En, h.kp.put_new h0, h.sub, fun j d'' a e1 e2 => h.nw j d'' a (set_none_get e1) e2⟩
  have h2 := h1.setOwn i hO hc h0 r fun j e' ne e1 e2 => by
    rcases set_get e1 with ⟨_, q⟩ | ⟨_, q⟩
    · cases q
    · exact h.en.inj i j d e' p (Ne.symm ne) e q s e2
  refine ⟨?_, (Keep.put hx hO), fun _ _ n => n⟩
  have e3 : setE (setE ρ i none) i (some (.own d')) = setE ρ i (some (.own d')) := by simp [setE]
  rw [e3, set_self s] at h2
  exact h2
/-- an own list is locked: a value from now on -/
theorem StOk.frz {i : Nat} {d : D} (h : StOk K O0 C H0 O H m ρ σ) (b : Bs O0 C H0) (e : ρ[i]? = some (some (.own d))) : ∃ O', StOk K O0 C H0 O' H m (setE ρ i (some (.val d))) σ ∧ Tr O H O' H := by
  obtain ⟨p, s, hO, hc, r⟩ := h.en.own i d e
  have h0 := h.nw i d p e s
  have mem : ∀ a, a ∈ O.filter (fun x => x != p) ↔ a ∈ O ∧ a ≠ p := fun a => by simp [List.mem_filter]
  have hO' : ∀ a, Alv H a → a ∉ O → a ∉ O.filter (fun x => x != p) := fun a _ n q => n ((mem a).mp q).1
  have cs : ∀ a ∈ C, a ∈ O.filter (fun x => x != p) := fun a q => (mem a).mpr ⟨h.M.sub a q, fun z => hc (z ▸ q)⟩
  refine ⟨O.filter (fun x => x != p), ?_, ⟨Keep.refl, hO'⟩⟩
  have M' : MemOk K (O.filter (fun x => x != p)) C H m := ⟨h.M.len, fun n a d e1 e2 => (h.M.at_ n a d e1 e2).move2 (Z := []) (by simp) Keep.refl hO' (fun _ _ e => e) (by simp), cs, h.M.nd, fun a q => h.M.al a ((mem a).mp q).1⟩
  have En : EnvOk K (O.filter (fun x => x != p)) C H (setE ρ i none) σ := by
    have hd := h.en.drop i
    refine ⟨hd.len, fun j d e => let ⟨v, e1, r⟩ := hd.val j d e; ⟨v, e1, r.move2 (Z := []) (by simp) Keep.refl hO' fun _ _ e => e⟩, fun j d' e' => ?_, hd.inj⟩
    obtain ⟨a, e1, i1, i2, r⟩ := hd.own j d' e'
    refine ⟨a, e1, (mem a).mpr ⟨i1, fun q => ?_⟩, i2, r.move2 (Z := []) (by simp) Keep.refl hO' (fun _ _ e => e) (by simp)⟩
    subst q
    rcases set_get e' with ⟨_, q⟩ | ⟨ne, q⟩
    · cases q
    · exact h.en.inj i j d d' a ne e q s e1
  have rp : Rp K (O.filter (fun x => x != p)) C H d (.ref p) := by
    cases d with
    | lst ds =>
      obtain ⟨xs, e2, z, r2⟩ := r
      exact .lst (.inl ⟨.inl e2, fun q => ((mem p).mp q).2 rfl⟩) z (r2.move2 (Z := []) (by simp) Keep.refl hO' fun _ _ e => e)
    | _ => exact r.elim
  have h1 : StOk K O0 C H0 (O.filter (fun x => x != p)) H m (setE ρ i none) σ := ⟨M', En, h.kp, fun a q => (mem a).mpr ⟨h.sub a q, fun z => by subst z; obtain ⟨o, e⟩ := b.al a q; rw [h0] at e; cases e⟩, fun j d'' a e1 e2 => h.nw j d'' a (set_none_get e1) e2⟩
  have h2 := h1.set i rp
  have e3 : setE (setE ρ i none) i (some (.val d)) = setE ρ i (some (.val d)) := by simp [setE]
  rw [e3, set_self s] at h2
  exact h2
theorem putT_own : ∀ (t : T) (d : D) (ρ ρ' : Env), putT t d ρ = some ρ' → ∀ (i : Nat) (e : D), ρ'[i]? = some (some (.own e)) → i ∉ slotsT t ∧ ρ[i]? = some (some (.own e))
  | .name j, d, ρ, ρ', h, i, e, g => by
    have h : (if j < ρ.length then some (setE ρ j (some (.val d))) else none) = some ρ' := h
    split at h
    · cases h
      rcases set_get g with ⟨_, q⟩ | ⟨ne, q⟩
      · cases q
      · exact ⟨by simp [slotsT]; exact fun z => ne z.symm, q⟩
    · cases h
  | .tup ts, .tup l, ρ, ρ', h, i, e, g => putT_own ts (.tup l) ρ ρ' h i e g
  | .nil, .tup [], ρ, ρ', h, i, e, g => by cases h; exact ⟨by simp [slotsT], g⟩
  | .cons t ts, .tup (x :: r), ρ, ρ', h, i, e, g => by
    obtain ⟨ρ1, e1, e2⟩ := Option.bind_eq_some_iff.mp (show (putT t x ρ).bind (fun ρ1 => putT ts (.tup r) ρ1) = some ρ' from h)
    obtain ⟨n1, g1⟩ := putT_own ts (.tup r) ρ1 ρ' e2 i e g
    obtain ⟨n2, g2⟩ := putT_own t x ρ ρ1 e1 i e g1
    exact ⟨by simp [slotsT, n1, n2], g2⟩
  | .tup _, .non, _, _, h, _, _, _ | .tup _, .bl _, _, _, h, _, _, _ | .tup _, .int _, _, _, h, _, _, _ | .tup _, .str _, _, _, h, _, _, _ | .tup _, .lst _, _, _, h, _, _, _ | .tup _, .dic _, _, _, h, _, _, _ | .tup _, .ref _, _, _, h, _, _, _ | .tup _, .clo _ _, _, _, h, _, _, _ | .tup _, .exc _ _, _, _, h, _, _, _ => by cases h
  | .nil, .tup (_ :: _), _, _, h, _, _, _ | .nil, .non, _, _, h, _, _, _ | .nil, .bl _, _, _, h, _, _, _ | .nil, .int _, _, _, h, _, _, _ | .nil, .str _, _, _, h, _, _, _ | .nil, .lst _, _, _, h, _, _, _ | .nil, .dic _, _, _, h, _, _, _ | .nil, .ref _, _, _, h, _, _, _ | .nil, .clo _ _, _, _, h, _, _, _ | .nil, .exc _ _, _, _, h, _, _, _ => by cases h
  | .cons _ _, .tup [], _, _, h, _, _, _ | .cons _ _, .non, _, _, h, _, _, _ | .cons _ _, .bl _, _, _, h, _, _, _ | .cons _ _, .int _, _, _, h, _, _, _ | .cons _ _, .str _, _, _, h, _, _, _ | .cons _ _, .lst _, _, _, h, _, _, _ | .cons _ _, .dic _, _, _, h, _, _, _ | .cons _ _, .ref _, _, _, h, _, _, _ | .cons _ _, .clo _ _, _, _, h, _, _, _ | .cons _ _, .exc _ _, _, _, h, _, _, _ => by cases h
theorem wipe_mem_get (σ : SSt) (i : Nat) (vs : List Nat) (h : i ∉ vs) : (L2.wipe σ vs)[i]? = σ[i]? := wipe_out σ i vs h
/-- after a target -/
theorem StOk.tgt {t : T} {d : D} (h : StOk K O0 C H0 O H m ρ σ) (p : putT t d ρ = some ρ1) (E1 : EnvOk K O C H ρ1 σ1) (w : ∀ vs, (∀ i ∈ slotsT t, i ∈ vs) → L2.wipe σ1 vs = L2.wipe σ vs) : StOk K O0 C H0 O H m ρ1 σ1 := by
  refine ⟨h.M, E1, h.kp, h.sub, fun i d' a e1 e2 => ?_⟩
  obtain ⟨n, g⟩ := putT_own t d ρ ρ1 p i d' e1
  have e := congrArg (fun l => l[i]?) (w (slotsT t) fun _ q => q)
  rw [wipe_out _ _ _ n, wipe_out _ _ _ n] at e
  rw [e] at e2
  exact h.nw i d' a g e2
end
section
variable {K : Frag}
def FlowOk (K : Frag) (O0 C : List Addr) (H0 : Hp) (O : List Addr) (H : Hp) (D : Ends) (m : Mem) : Flow → Prop
  | .nx ρ => ∀ O' σ' H', StOk K O0 C H0 O' H' m ρ σ' → Tr O H O' H' → D.nx σ' H'
  | .bk ρ => ∀ O' σ' H', StOk K O0 C H0 O' H' m ρ σ' → Tr O H O' H' → D.bk σ' H'
  | .ct ρ => ∀ O' σ' H', StOk K O0 C H0 O' H' m ρ σ' → Tr O H O' H' → D.ct σ' H'
  | .rt d => ∀ v H', Keep C H0 H' → MemOk K O0 C H' m → Rp K O0 C H' d v → D.rt v H'
theorem FlowOk.from {O0 C : List Addr} {H0 : Hp} {O O1 : List Addr} {H H1 : Hp} {D : Ends} {m : Mem} (t : Tr O H O1 H1) : ∀ {f : Flow}, FlowOk K O0 C H0 O H D m f → FlowOk K O0 C H0 O1 H1 D m f
  | .nx _, h => fun O' σ' H' s t' => h O' σ' H' s (t.trans t')
  | .bk _, h => fun O' σ' H' s t' => h O' σ' H' s (t.trans t')
  | .ct _, h => fun O' σ' H' s t' => h O' σ' H' s (t.trans t')
  | .rt _, h => h
def tS (K : Frag) (φ : Phi) (s : S) : TS := fun D σ H => ∃ O0 C H0 O ρ m f m', Bs O0 C H0 ∧ StOk K O0 C H0 O H m ρ σ ∧ evS φ s ρ m = .ok f m' ∧ FlowOk K O0 C H0 O H D m' f
theorem ps_imp {X : Cx} {e : Stmt} {t t' : TS} (h : PS X e t) (i : ∀ D σ H, t' D σ H → t D σ H) : PS X e t' := ⟨fun pins s σ H D I q => h.run pins s σ H D I (i D σ H q)⟩
theorem pss_imp {X : Cx} {e : List Stmt} {t t' : TS} (h : PSs X e t) (i : ∀ D σ H, t' D σ H → t D σ H) : PSs X e t' := ⟨fun pins s σ H D I q => h.run pins s σ H D I (i D σ H q)⟩
variable {φ : Phi} {D : Ends} {σ : SSt} {H : Hp} {O0 C O : List Addr} {H0 : Hp} {ρ : Env} {m : Mem}
/-- read an expression in a statement -/
theorem StOk.go {e : E} {m1 : Mem} {r : Ev.D} {Q : VK} (h : StOk K O0 C H0 O H m ρ σ) (ev : evE φ e ρ m = .ok r m1)
    (q : ∀ v H1, Keep C H H1 → StOk K O0 C H0 O H1 m1 ρ σ → Tr O H O H1 → Rv (kd e) K O C H H1 r v → FrM (kd e) K O C H1 m1 r v → Q v H1) : tE K φ e σ H Q :=
  ⟨O, C, ρ, m, r, m1, h.M, h.en, ev, fun v H1 k M1 R F => q v H1 k (h.next k M1) (.keep h.M.sub k) R F⟩
theorem tS_skip : tS K φ .skip D σ H → tNext D σ H := by
  rintro ⟨O0, C, H0, O, ρ, m, f, m', b, s, ev, q⟩
  cases ev
  exact q O σ H s .refl
theorem tS_seq {a r : S} : tS K φ (.seq a r) D σ H → tSeq (tS K φ a) (tS K φ r) D σ H := by
  rintro ⟨O0, C, H0, O, ρ, m, f, m', b, s, ev, q⟩
  obtain ⟨f1, m1, e1, ev⟩ := bind_eq_ok (show (evS φ a ρ m).bind (fun f m => match f with | .nx ρ1 => evS φ r ρ1 m | f => .ok f m) = .ok f m' from ev)
  refine ⟨O0, C, H0, O, ρ, m, f1, m1, b, s, e1, ?_⟩
  cases f1 with
  | nx ρ1 => exact fun O' σ' H' s' t' => ⟨O0, C, H0, O', ρ1, m1, f, m', b, s', ev, q.from t'⟩
  | bk ρ1 => cases ev; exact q
  | ct ρ1 => cases ev; exact q
  | rt d => cases ev; exact q
/-- a ghost step -/
theorem tS_frz {i : Nat} {r : S} : tS K φ (.seq (.frz i) r) D σ H → tS K φ r D σ H := by
  rintro ⟨O0, C, H0, O, ρ, m, f, m', b, s, ev, q⟩
  obtain ⟨f1, m1, e1, ev⟩ := bind_eq_ok (show (evS φ (.frz i) ρ m).bind (fun f m => match f with | .nx ρ1 => evS φ r ρ1 m | f => .ok f m) = .ok f m' from ev)
  have e1 : (match ρ[i]? with
    | some (some (.own d)) => Out.ok (Flow.nx (setE ρ i (some (.val d)))) m
    | _ => .no) = .ok f1 m1 := e1
  split at e1
  · rename_i d hd
    cases e1
    obtain ⟨O', s', t'⟩ := s.frz b hd
    exact ⟨O0, C, H0, O', _, m, f, m', b, s', ev, q.from t'⟩
  · cases e1
theorem tS_expr {e : E} : tS K φ (.expr e) D σ H → tDrop (tE K φ e) D σ H := by
  rintro ⟨O0, C, H0, O, ρ, m, f, m', b, s, ev, q⟩
  obtain ⟨x, m1, e1, ev⟩ := bind_eq_ok (show (evE φ e ρ m).bind (fun _ m => Out.ok (Flow.nx ρ) m) = .ok f m' from ev)
  cases ev
  exact s.go e1 fun v H1 k s1 t1 R F => q O σ H1 s1 t1
theorem tS_asg {t : T} {e : E} (hb : isBr (kd e) = false) : tS K φ (.asg t e) D σ H → tAsg (tE K φ e) (tG K t) D σ H := by
  rintro ⟨O0, C, H0, O, ρ, m, f, m', b, s, ev, q⟩
  obtain ⟨x, m1, e1, ev⟩ := bind_eq_ok (show (evE φ e ρ m).bind (fun x m => (Out.of m (putT t x ρ)).bind fun ρ1 m => .ok (.nx ρ1) m) = .ok f m' from ev)
  obtain ⟨ρ1, m2, e2', ev⟩ := bind_eq_ok ev
  obtain ⟨e2, rfl⟩ := of_eq_ok e2'
  cases ev
  refine s.go e1 fun v H1 k s1 t1 R F => ?_
  exact ⟨O, C, ρ, x, ρ1, s1.en, R.pl s.M hb, e2, fun σ1 E1 w => q O σ1 H1 (s1.tgt e2 E1 w) t1⟩
theorem tS_asgN {i : Nat} {e : E} (hb : isBr (kd e) = false) : tS K φ (.asg (.name i) e) D σ H → tAsg (tE K φ e) (gName i) D σ H := fun q => by
  obtain ⟨O, C, ρ, m, r, m', M, En, ev, q⟩ := tS_asg hb q
  exact ⟨O, C, ρ, m, r, m', M, En, ev, fun v H1 k M1 R F => tG_name (q v H1 k M1 R F)⟩
/-- a new list for a slot -/
theorem tS_own {i : Nat} {e : E} (hf : isFr (kd e) = true) : tS K φ (.own i e) D σ H → tAsg (tE K φ e) (gName i) D σ H := by
  rintro ⟨O0, C, H0, O, ρ, m, f, m', b, s, ev, q⟩
  obtain ⟨x, m1, e1, ev⟩ := bind_eq_ok (show (evE φ e ρ m).bind (fun x m => if isOwnable x && decide (i < ρ.length) then Out.ok (Flow.nx (setE ρ i (some (.own x)))) m else .no) = .ok f m' from ev)
  split at ev
  case isFalse => cases ev
  rename_i hx
  cases ev
  rw [Bool.and_eq_true, decide_eq_true_eq] at hx
  refine s.go e1 fun v H1 k s1 t1 R F => ?_
  cases hk : kd e with
  | pl => rw [hk] at hf; cases hf
  | br => rw [hk] at hf; cases hf
  | fr =>
    rw [hk] at R F
    cases x with
    | lst ds =>
      obtain ⟨p, xs, rfl, hp, e2, z, r⟩ := R
      have M1 := F ds p rfl rfl
      obtain ⟨s2, t2, hc, h0⟩ := s.grow k hp M1
      have un : ∀ (j : Nat) e, j ≠ i → ρ[j]? = some (some (.own e)) → σ[j]? ≠ some (some (V.ref p)) := fun j e' ne g q' => by
        obtain ⟨a, g1, g2, _⟩ := s.en.own j e' g
        rw [g1] at q'; cases q'
        obtain ⟨o, g3⟩ := s.M.al p g2
        rw [hp] at g3; cases g3
      exact q (p :: O) _ H1 (s2.setOwn i (by simp) hc h0 ⟨xs, e2, z, r⟩ un) t2
    | _ => exact absurd hx.1 (by simp [isOwnable])
theorem tS_app {i : Nat} {e : E} (hb : isBr (kd e) = false) : tS K φ (.app i e) D σ H → tDrop (tBM K "list" rAppend (tVar i) (tCons (tE K φ e) tNil)) D σ H := by
  rintro ⟨O0, C, H0, O, ρ, m, f, m', b, s, ev, q⟩
  obtain ⟨x, m1, e1, ev⟩ := bind_eq_ok (show (evE φ e ρ m).bind (fun x m => match ρ[i]? with
    | some (some (.own (.lst l))) => if l.length < LIM then Out.ok (Flow.nx (setE ρ i (some (.own (.lst (l ++ [x])))))) m else .no
    | _ => .no) = .ok f m' from ev)
  split at ev
  case h_2 => cases ev
  rename_i l hi
  split at ev
  case isFalse => cases ev
  rename_i hz
  cases ev
  obtain ⟨p, g1, g2, g3, xs0, g4, g5, g6⟩ := s.en.own i _ hi
  refine ⟨.ref p, g1, .inl ⟨rfl, xs0, SqL.of g4⟩, ?_⟩
  refine s.go e1 fun v H1 k s1 t1 R F => ?_
  obtain ⟨p', g1', g2, g3, xs, g4, g5, g6⟩ := s1.en.own i _ hi
  rw [g1] at g1'; cases g1'
  refine ⟨p, xs, v, rfl, rfl, g4, by rw [← g6.length, ← lim_line]; exact hz, ?_⟩
  have rp := R.pl s.M hb
  have r1 : RpAll K O C H1 (l ++ [x]) (xs ++ [v]) := g6.append (.cons rp .nil)
  have rl : (xs ++ [v]).length ≤ sizeLine := by
    have := g6.length
    rw [List.length_append, ← this, ← lim_line]
    exact hz
  obtain ⟨s2, t2⟩ := s1.write (ys := xs ++ [v]) (d' := .lst (l ++ [x])) hi g1 g4 g2 g3 ⟨_, upd_same, rl, r1.keep (Z := [p]) (by simpa using g2) (Keep.put g4 (by simp))⟩
  exact q O σ _ s2 (t1.trans t2)
theorem tS_ret {e : E} (hb : isBr (kd e) = false) : tS K φ (.ret e) D σ H → tRet (tE K φ e) D σ H := by
  rintro ⟨O0, C, H0, O, ρ, m, f, m', b, s, ev, q⟩
  obtain ⟨x, m1, e1, ev⟩ := bind_eq_ok (show (evE φ e ρ m).bind (fun x m => Out.ok (Flow.rt x) m) = .ok f m' from ev)
  cases ev
  refine s.go e1 fun v H1 k s1 t1 R F => ?_
  have hO : ∀ a, Alv H1 a → a ∉ O → a ∉ O0 := fun a _ n q => n (s.sub a q)
  refine q v H1 s1.kp ⟨s1.M.len, fun n a d e1 e2 => (s1.M.at_ n a d e1 e2).move2 (Z := []) (by simp) Keep.refl hO (fun _ _ e => e) (by simp), b.c, s1.M.nd, fun a q => s1.M.al a (s.sub a q)⟩ ?_
  exact (R.pl s.M hb).move2 (Z := []) (by simp) Keep.refl hO fun _ _ e => e
theorem tS_retN : tS K φ (.ret (.cst .non)) D σ H → tRetN D σ H := fun q => by
  obtain ⟨O, C, ρ, m, r, m', M, En, ev, q⟩ := tS_ret rfl q
  cases ev
  exact q _ H Keep.refl M Rp.non trivial
theorem tS_brk : tS K φ .brk D σ H → tBreak D σ H := by
  rintro ⟨O0, C, H0, O, ρ, m, f, m', b, s, ev, q⟩
  cases ev
  exact q O σ H s .refl
theorem tS_cnt : tS K φ .cnt D σ H → tCont D σ H := by
  rintro ⟨O0, C, H0, O, ρ, m, f, m', b, s, ev, q⟩
  cases ev
  exact q O σ H s .refl
theorem tS_ite {c : E} {x y : S} : tS K φ (.ite c x y) D σ H → tIfS (tT K φ c) (tS K φ x) (tS K φ y) D σ H := by
  rintro ⟨O0, C, H0, O, ρ, m, f, m', b, s, ev, q⟩
  obtain ⟨r, m1, e1, ev⟩ := bind_eq_ok (show (evE φ c ρ m).bind (fun z m => match truD z with
    | some true => evS φ x ρ m
    | some false => evS φ y ρ m
    | none => .no) = .ok f m' from ev)
  split at ev
  · rename_i ht
    refine ⟨O, C, ρ, m, r, m1, true, s.M, s.en, e1, ht, fun H1 k1 M1 => ?_⟩
    (try dsimp only)
    rw [if_pos rfl]
    exact ⟨O0, C, H0, O, ρ, m1, f, m', b, s.next k1 M1, ev, q.from (.keep s.M.sub k1)⟩
  · rename_i ht
    refine ⟨O, C, ρ, m, r, m1, false, s.M, s.en, e1, ht, fun H1 k1 M1 => ?_⟩
    (try dsimp only)
    rw [if_neg Bool.false_ne_true]
    exact ⟨O0, C, H0, O, ρ, m1, f, m', b, s.next k1 M1, ev, q.from (.keep s.M.sub k1)⟩
  · cases ev
end
end Ev

set_option maxHeartbeats 4000000
namespace Ev
open PySem PySem.Spec PyProof.Rows L2
section
variable {K : Frag} {φ : Phi} {X : Cx} {D : Ends} {σ : SSt} {H : Hp}
theorem tS_sub {i : Nat} {k e : E} (hb : isBr (kd e) = false) : tS K φ (.sub i k e) D σ H → tAsg (tE K φ e) (gSub (tVar i) (tE K φ k) rSetL) D σ H := by
  rintro ⟨O0, C, H0, O, ρ, m, f, m', b, s, ev, q⟩
  obtain ⟨x, m1, e1, ev⟩ := bind_eq_ok (show (evE φ e ρ m).bind (fun x m => (evE φ k ρ m).bind fun y m => match ρ[i]? with
    | some (some (.own (.lst l))) => (Out.of m (putL l y x)).bind fun d m => Out.ok (Flow.nx (setE ρ i (some (.own d)))) m
    | _ => .no) = .ok f m' from ev)
  obtain ⟨y, m2, e2, ev⟩ := bind_eq_ok ev
  split at ev
  case h_2 => cases ev
  rename_i l hi
  obtain ⟨d, m3, e3', ev⟩ := bind_eq_ok ev
  obtain ⟨e3, rfl⟩ := of_eq_ok e3'
  cases ev
  refine s.go e1 fun v H1 k1 s1 t1 R F => ?_
  obtain ⟨p, g1, _⟩ := s1.en.own i _ hi
  refine ⟨.ref p, g1, ?_⟩
  refine s1.go e2 fun u H2 k2 s2 t2 R2 F2 => ?_
  obtain ⟨p', g1', g2, g3, xs, g4, g5, g6⟩ := s2.en.own i _ hi
  rw [g1] at g1'; cases g1'
  have rp : Rp K O C H2 x v := (R.pl s.M hb).keep s.M.sub k2
  unfold putL at e3
  split at e3
  · rename_i j
    obtain ⟨jj, h1, rfl⟩ := Option.map_eq_some_iff.mp e3
    refine ⟨p, xs, j, jj, rfl, (R2.rb s1.M).int, g4, ?_, ?_⟩
    · rw [← g6.length]; exact h1
    have rr : RpAll K O C H2 (l.set jj x) (xs.set jj v) := g6.set rp jj
    obtain ⟨s3, t3⟩ := s2.write (ys := xs.set jj v) (d' := .lst (l.set jj x)) hi g1 g4 g2 g3 ⟨_, upd_same, by rw [List.length_set]; exact g5, rr.keep (Z := [p]) (by simpa using g2) (Keep.put g4 (by simp))⟩
    exact q O σ _ s3 ((t1.trans t2).trans t3)
  · cases e3
theorem StOk.writeC {O0 C O : List Addr} {H0 : Hp} {m : Mem} {ρ : Env} {n : Nat} {a : Addr} {l l' : List Ev.D} {xs ys : List V} (h : StOk K O0 C H0 O H m ρ σ) (hC : C[n]? = some a) (hm : m[n]? = some (.lst l)) (hx : H a = some (.lst xs)) (hz : ys.length ≤ sizeLine) (hr : RpAll K O C H l' ys) :
    StOk K O0 C H0 O (upd H a (.lst ys)) (m.set n (.lst l')) ρ σ ∧ Tr O H O (upd H a (.lst ys)) := by
  have ha : a ∈ C := List.mem_of_getElem? hC
  have kp : Keep C H (upd H a (.lst ys)) := Keep.put hx ha
  have hn : n < m.length := (List.getElem?_eq_some_iff.mp hm).1
  refine ⟨⟨⟨by rw [List.length_set]; exact h.M.len, fun n' a' d e1 e2 => ?_, h.M.sub, h.M.nd, fun b hb => ?_⟩, h.en.keep h.M.sub kp, h.kp.trans kp, h.sub, h.nw⟩, .keep h.M.sub kp⟩
  · by_cases e : n = n'
    · subst e
      rw [List.getElem?_set_self hn] at e2
      cases e2
      rw [hC] at e1; cases e1
      exact ⟨ys, upd_same, hz, hr.keep h.M.sub kp⟩
    · rw [List.getElem?_set_ne e] at e2
      have ne : a' ≠ a := fun q => by
        subst q
        obtain ⟨l1, e3⟩ := List.getElem?_eq_some_iff.mp hC
        obtain ⟨l2, e4⟩ := List.getElem?_eq_some_iff.mp e1
        exact e ((List.getElem_inj h.M.nd).mp (e3.trans e4.symm))
      exact (h.M.at_ n' a' d e1 e2).move2 (Z := [a]) (by simpa using h.M.sub a ha) (Keep.put hx (by simp)) (fun _ _ q => q) (fun _ _ e => e) (by simpa using ne)
  · by_cases e : b = a
    · subst e; exact ⟨_, upd_same⟩
    · obtain ⟨o, q⟩ := h.M.al b hb
      exact ⟨o, by rw [upd_ne e]; exact q⟩
theorem tS_subc {i : Nat} {k e : E} (hb : isBr (kd e) = false) : tS K φ (.subc i k e) D σ H → tAsg (tE K φ e) (gSub (tVar i) (tE K φ k) rSetL) D σ H := by
  rintro ⟨O0, C, H0, O, ρ, m, f, m', b, s, ev, q⟩
  obtain ⟨x, m1, e1, ev⟩ := bind_eq_ok (show (evE φ e ρ m).bind (fun x m => (evE φ k ρ m).bind fun y m => match ρ[i]? with
    | some (some (.val (.ref n))) => match m[n]? with
      | some (.lst l) => (Out.of m (putL l y x)).bind fun d m => Out.ok (Flow.nx ρ) (m.set n d)
      | _ => .no
    | _ => .no) = .ok f m' from ev)
  obtain ⟨y, m2, e2, ev⟩ := bind_eq_ok ev
  split at ev
  case h_2 => cases ev
  rename_i n hi
  split at ev
  case h_2 => cases ev
  rename_i l hm
  obtain ⟨d, m3, e3', ev⟩ := bind_eq_ok ev
  obtain ⟨e3, rfl⟩ := of_eq_ok e3'
  cases ev
  refine s.go e1 fun v H1 k1 s1 t1 R F => ?_
  obtain ⟨w, g1, g2⟩ := s1.en.val i _ hi
  refine ⟨w, g1, ?_⟩
  refine s1.go e2 fun u H2 k2 s2 t2 R2 F2 => ?_
  cases g2 with
  | ref hC =>
    rename_i a
    obtain ⟨xs, g4, g5, g6⟩ := s2.M.at_ n a _ hC hm
    have rp : Rp K O C H2 x v := (R.pl s.M hb).keep s.M.sub k2
    unfold putL at e3
    split at e3
    · rename_i j
      obtain ⟨jj, h1, rfl⟩ := Option.map_eq_some_iff.mp e3
      refine ⟨a, xs, j, jj, rfl, (R2.rb s1.M).int, g4, ?_, ?_⟩
      · rw [← g6.length]; exact h1
      obtain ⟨s3, t3⟩ := s2.writeC (ys := xs.set jj v) (l' := l.set jj x) hC hm g4 (by rw [List.length_set]; exact g5) (g6.set rp jj)
      exact q O σ _ s3 ((t1.trans t2).trans t3)
    · cases e3
def rIp (op : BOp) : TIp := fun x y H Q => ∃ i j z, x = .int i ∧ y = .int j ∧ binD op (.int i) (.int j) = some (.int z) ∧ Q (.int z) H
def augOk : BOp → Bool
  | .add => true
  | .sub => true
  | .mul => true
  | _ => false
theorem ip_E (op : BOp) (h : augOk op = true) : PIp X (pyB op) (rIp op) := by
  intro pins s σ H x y v u Q I r1 r2 q
  obtain ⟨i, j, z, rfl, rfl, e, q⟩ := q
  cases op with
  | add => cases e; exact iop_add pins s σ H _ _ v u Q I r1 r2 ⟨i, j, rfl, rfl, q⟩
  | sub => cases e; exact iop_sub pins s σ H _ _ v u Q I r1 r2 ⟨i, j, rfl, rfl, q⟩
  | mul =>
    have e : (if mulOk i j then some (D.int (i * j)) else none) = some (.int z) := e
    split at e
    · rename_i hm
      cases e
      refine iop_mul pins s σ H _ _ v u Q I r1 r2 ⟨i, j, rfl, rfl, ?_, q⟩
      unfold mulOk at hm
      simp only [Bool.or_eq_true, Bool.and_eq_true, decide_eq_true_eq] at hm
      exact hm
    · cases e
  | _ => cases h
theorem tS_aug {i : Nat} {op : BOp} {e : E} : tS K φ (.aug i op e) D σ H → tAug i (tE K φ e) (rIp op) D σ H := by
  rintro ⟨O0, C, H0, O, ρ, m, f, m', b, s, ev, q⟩
  have ev : (match ρ[i]? with
    | some (some (.val x)) => (evE φ e ρ m).bind fun y m => (match x, y with
      | .int a, .int b => Out.of m (binD op (.int a) (.int b))
      | _, _ => .no).bind fun z m => Out.ok (Flow.nx (setE ρ i (some (.val z)))) m
    | _ => .no) = .ok f m' := ev
  split at ev
  case h_2 => cases ev
  rename_i x hi
  obtain ⟨y, m1, e1, ev⟩ := bind_eq_ok ev
  obtain ⟨z, m2, e2, ev⟩ := bind_eq_ok ev
  cases ev
  split at e2
  case h_2 => cases e2
  rename_i a b' _
  obtain ⟨e3, rfl⟩ := of_eq_ok e2
  obtain ⟨w, g1, g2⟩ := s.en.val i _ hi
  cases g2
  refine ⟨_, g1, ?_⟩
  refine s.go e1 fun v H1 k1 s1 t1 R F => ?_
  have hz : ∃ n, z = .int n := by
    cases op <;> simp only [binD, addD, subD, mulD, fdivD, modD, powD, shlD] at e3 <;> first
      | (cases e3; exact ⟨_, rfl⟩)
      | (split at e3 <;> cases e3; exact ⟨_, rfl⟩)
      | cases e3
  obtain ⟨n, rfl⟩ := hz
  refine ⟨a, b', n, rfl, (R.rb s.M).int, e3, ?_⟩
  exact q O _ H1 (s1.set i (.int n)) t1
theorem tS_par2 {i j : Nat} {es : E} (hn : ∀ ρ m r m', evE φ es ρ m = .ok r m' → ∃ l, r = .tup l) : tS K φ (.par [(i, false), (j, false)] es) D σ H → tPar i j (tA true K φ es) D σ H := by
  rintro ⟨O0, C, H0, O, ρ, m, f, m', b, s, ev, q⟩
  obtain ⟨x, m1, e1, ev⟩ := bind_eq_ok (show (evE φ es ρ m).bind (fun r m => (Out.of m (parE [(i, false), (j, false)] (argsOf r) ρ)).bind fun ρ1 m => Out.ok (Flow.nx ρ1) m) = .ok f m' from ev)
  obtain ⟨l, rfl⟩ := hn _ _ _ _ e1
  obtain ⟨ρ1, m2, e2', ev⟩ := bind_eq_ok ev
  obtain ⟨e2, rfl⟩ := of_eq_ok e2'
  cases ev
  refine ⟨O, C, ρ, m, l, _, s.M, s.en, e1, fun vs H1 k1 M1 R => ?_⟩
  have s1 := s.next k1 M1
  have t1 : Tr O H O H1 := .keep s.M.sub k1
  have R : RpAll K O C H1 l vs := R
  match l, R, e2 with
  | [d1, d2], .cons r1 (.cons r2 .nil), e2 =>
    have e2 : (if i < ρ.length then (if j < (setE ρ i (some (.val d1))).length then some (setE (setE ρ i (some (.val d1))) j (some (.val d2))) else none) else none) = some ρ1 := e2
    split at e2
    case isFalse => cases e2
    split at e2
    case isFalse => cases e2
    cases e2
    exact ⟨_, _, rfl, q O _ H1 ((s1.set i r1).set j r2) t1⟩
  | [], _, e2 => simp [argsOf, parE] at e2
  | [_], _, e2 => simp [argsOf, parE] at e2
  | _ :: _ :: _ :: _, _, e2 => simp [argsOf, parE] at e2
theorem tS_par3 {i j k : Nat} {es : E} (hn : ∀ ρ m r m', evE φ es ρ m = .ok r m' → ∃ l, r = .tup l) : tS K φ (.par [(i, false), (j, false), (k, false)] es) D σ H → tPar3 i j k (tA true K φ es) D σ H := by
  rintro ⟨O0, C, H0, O, ρ, m, f, m', b, s, ev, q⟩
  obtain ⟨x, m1, e1, ev⟩ := bind_eq_ok (show (evE φ es ρ m).bind (fun r m => (Out.of m (parE [(i, false), (j, false), (k, false)] (argsOf r) ρ)).bind fun ρ1 m => Out.ok (Flow.nx ρ1) m) = .ok f m' from ev)
  obtain ⟨l, rfl⟩ := hn _ _ _ _ e1
  obtain ⟨ρ1, m2, e2', ev⟩ := bind_eq_ok ev
  obtain ⟨e2, rfl⟩ := of_eq_ok e2'
  cases ev
  refine ⟨O, C, ρ, m, l, _, s.M, s.en, e1, fun vs H1 k1 M1 R => ?_⟩
  have s1 := s.next k1 M1
  have t1 : Tr O H O H1 := .keep s.M.sub k1
  have R : RpAll K O C H1 l vs := R
  match l, R, e2 with
  | [d1, d2, d3], .cons r1 (.cons r2 (.cons r3 .nil)), e2 =>
    have e2 : (if i < ρ.length then (if j < (setE ρ i (some (.val d1))).length then (if k < (setE (setE ρ i (some (.val d1))) j (some (.val d2))).length then some (setE (setE (setE ρ i (some (.val d1))) j (some (.val d2))) k (some (.val d3))) else none) else none) else none) = some ρ1 := e2
    split at e2
    case isFalse => cases e2
    split at e2
    case isFalse => cases e2
    split at e2
    case isFalse => cases e2
    cases e2
    exact ⟨_, _, _, rfl, q O _ H1 (((s1.set i r1).set j r2).set k r3) t1⟩
  | [], _, e2 => simp [argsOf, parE] at e2
  | [_], _, e2 => simp [argsOf, parE] at e2
  | [_, _], _, e2 => simp [argsOf, parE] at e2
  | _ :: _ :: _ :: _ :: _, _, e2 => simp [argsOf, parE] at e2
theorem FlowOk.forget {O0 C O : List Addr} {H0 : Hp} {m : Mem} {ρ : Env} (w : List Nat) (h : FlowOk K O0 C H0 O H D m (.nx (wipeE ρ w))) : ∀ O' σ' H', StOk K O0 C H0 O' H' m ρ σ' → Tr O H O' H' → D.nx σ' H' := fun O' σ' H' s t => h O' σ' H' (s.forget w) t
theorem tS_while {n : Nat} {w : List Nat} {c : E} {b : S} : tS K φ (.whl n w c b) D σ H → tWhile (tT K φ c) (tS K φ b) D σ H := by
  rintro ⟨O0, C, H0, O, ρ, m, f, m', bs, s, ev, q⟩
  have ev : whlL (evE φ c) (evS φ b) w n (wipeE ρ w) m = .ok f m' := ev
  refine ⟨fun j σ1 H1 => ∃ O1 ρ1 m1, StOk K O0 C H0 O1 H1 m1 ρ1 σ1 ∧ Tr O H O1 H1 ∧ whlL (evE φ c) (evS φ b) w j ρ1 m1 = .ok f m', ⟨n, O, wipeE ρ w, m, s.forget w, .refl, ev⟩, ?_⟩
  rintro j σ1 H1 ⟨O1, ρ1, m1, s1, t1, ev1⟩
  cases j with
  | zero => cases ev1
  | succ j =>
    obtain ⟨x, m2, e2, ev2⟩ := bind_eq_ok (show (evE φ c ρ1 m1).bind (fun x m => match truD x with
      | some true => (evS φ b ρ1 m).bind fun f m => match f with
        | .nx ρ1 => whlL (evE φ c) (evS φ b) w j (wipeE ρ1 w) m
        | .ct ρ1 => whlL (evE φ c) (evS φ b) w j (wipeE ρ1 w) m
        | .bk ρ1 => .ok (.nx (wipeE ρ1 w)) m
        | .rt d => .ok (.rt d) m
      | some false => .ok (.nx ρ1) m
      | none => .no) = .ok f m' from ev1)
    split at ev2
    · rename_i ht
      refine ⟨O1, C, ρ1, m1, x, m2, true, s1.M, s1.en, e2, ht, fun H2 k2 M2 => ?_⟩
      (try dsimp only)
      rw [if_pos rfl]
      have s2 := s1.next k2 M2
      have t2 : Tr O H O1 H2 := t1.trans (.keep s1.M.sub k2)
      obtain ⟨fb, m3, e3, ev3⟩ := bind_eq_ok ev2
      refine ⟨fun σ' H' => ∃ O1 ρ1 m1, StOk K O0 C H0 O1 H' m1 ρ1 σ' ∧ Tr O H O1 H' ∧ whlL (evE φ c) (evS φ b) w j ρ1 m1 = .ok f m', fun σ' H' h => ⟨j, Nat.lt_succ_self _, h⟩, O0, C, H0, O1, ρ1, m2, fb, m3, bs, s2, e3, ?_⟩
      cases fb with
      | nx ρ3 => exact fun O' σ' H' s' t' => ⟨O', wipeE ρ3 w, m3, s'.forget w, t2.trans t', ev3⟩
      | ct ρ3 => exact fun O' σ' H' s' t' => ⟨O', wipeE ρ3 w, m3, s'.forget w, t2.trans t', ev3⟩
      | bk ρ3 => cases ev3; exact fun O' σ' H' s' t' => q.forget w O' σ' H' s' (t2.trans t')
      | rt d => cases ev3; exact q
    · rename_i ht
      cases ev2
      refine ⟨O1, C, ρ1, m1, x, _, false, s1.M, s1.en, e2, ht, fun H2 k2 M2 => ?_⟩
      (try dsimp only)
      rw [if_neg Bool.false_ne_true]
      exact q O1 σ1 H2 (s1.next k2 M2) (t1.trans (.keep s1.M.sub k2))
    · cases ev2
theorem tS_for {w : List Nat} {t : T} {k : ItK} {it : E} {b : S} (hb : brA it = false) : tS K φ (.for w t k it b) D σ H → tFor (tI K φ k it) (tG K t) (tS K φ b) D σ H := by
  rintro ⟨O0, C, H0, O, ρ, m, f, m', bs, s, ev, q⟩
  obtain ⟨r, m1, e1, ev⟩ := bind_eq_ok (show (evE φ it ρ m).bind (fun r m => (Out.of m (itemsD k (argsOf r))).bind fun xs m =>
      forL (fun x ρ m => (Out.of m (putT t x ρ)).bind fun ρ1 m => evS φ b ρ1 m) w xs (wipeE ρ w) m) = .ok f m' from ev)
  obtain ⟨xs, m2, e2, ev⟩ := bind_eq_ok ev
  refine ⟨O, C, ρ, m, xs, m2, s.M, s.en, by show (evE φ it ρ m).bind _ = _; rw [e1]; exact e2, fun J H1 G k1 M1 wk g z => ?_⟩
  have s1 := s.next k1 M1
  have t1 : Tr O H O H1 := .keep s.M.sub k1
  have gAt : ∀ {O' H'}, Tr O H1 O' H' → G O' C H' := fun {O' H'} t => wk.mvs hb O C H1 O' C H' t.kp t.oo (fun _ _ e => e) g
  refine ⟨fun i j σ' H' => j = xs.length - i ∧ i ≤ xs.length ∧ ∃ O' ρ' m0, StOk K O0 C H0 O' H' m0 ρ' σ' ∧ Tr O H1 O' H' ∧ forL (fun x ρ m => (Out.of m (putT t x ρ)).bind fun ρ1 m => evS φ b ρ1 m) w (xs.drop i) ρ' m0 = .ok f m',
    ⟨xs.length, by simp, Nat.zero_le _, O, wipeE ρ w, m2, s1.forget w, .refl, ev⟩, ?_⟩
  rintro i j σ2 H2 ⟨rfl, hi, O2, ρ2, m0, s2, t2, ev2⟩
  by_cases hlt : i < xs.length
  · obtain ⟨x0, hx0⟩ : ∃ d, xs[i]? = some d := ⟨xs[i], by simp [hlt]⟩
    have hdrop : xs.drop i = x0 :: xs.drop (i + 1) := by
      rw [List.drop_eq_getElem_cons hlt]
      congr 1
      rw [List.getElem?_eq_getElem hlt] at hx0
      exact Option.some.inj hx0
    rw [hdrop] at ev2
    obtain ⟨fb, m3, e3, ev3⟩ := bind_eq_ok (show ((Out.of m0 (putT t x0 ρ2)).bind fun ρ1 m => evS φ b ρ1 m).bind (fun f m => match f with
      | .nx ρ1 => forL (fun x ρ m => (Out.of m (putT t x ρ)).bind fun ρ1 m => evS φ b ρ1 m) w (xs.drop (i + 1)) (wipeE ρ1 w) m
      | .ct ρ1 => forL (fun x ρ m => (Out.of m (putT t x ρ)).bind fun ρ1 m => evS φ b ρ1 m) w (xs.drop (i + 1)) (wipeE ρ1 w) m
      | .bk ρ1 => .ok (.nx (wipeE ρ1 w)) m
      | .rt d => .ok (.rt d) m) = .ok f m' from ev2)
    obtain ⟨ρ3, m4, e4', e5⟩ := bind_eq_ok e3
    obtain ⟨e4, rfl⟩ := of_eq_ok e4'
    refine .inr ⟨wk.go i _ _ H2 hlt (gAt t2), fun σ' H' => (i + 1 ≤ xs.length ∧ ∃ O' ρ' m0, StOk K O0 C H0 O' H' m0 ρ' σ' ∧ Tr O H1 O' H' ∧ forL (fun x ρ m => (Out.of m (putT t x ρ)).bind fun ρ1 m => evS φ b ρ1 m) w (xs.drop (i + 1)) ρ' m0 = .ok f m'),
      fun σ' H' h => ⟨xs.length - (i + 1), by omega, rfl, h.1, h.2⟩, fun x H' hy => ?_⟩
    obtain ⟨ky, rx⟩ := wk.yld i _ _ H2 x H' x0 hx0 (gAt t2) hy
    have s3 := s2.next (ky C) (s2.M.grow ky)
    have t3 : Tr O H1 O2 H' := t2.trans (.keep s2.M.sub (ky C))
    refine ⟨O2, C, ρ2, x0, ρ3, s3.en, rx, e4, fun σ4 En4 w4 => ?_⟩
    have s4 := s3.tgt e4 En4 w4
    refine ⟨O0, C, H0, O2, ρ3, m0, fb, m3, bs, s4, e5, ?_⟩
    cases fb with
    | nx ρ5 => exact fun O' σ' H' s' t' => ⟨hlt, O', wipeE ρ5 w, m3, s'.forget w, t3.trans t', ev3⟩
    | ct ρ5 => exact fun O' σ' H' s' t' => ⟨hlt, O', wipeE ρ5 w, m3, s'.forget w, t3.trans t', ev3⟩
    | bk ρ5 => cases ev3; exact fun O' σ' H' s' t' => q.forget w O' σ' H' s' (t1.trans (t3.trans t'))
    | rt d => cases ev3; exact q
  · have e : i = xs.length := by omega
    subst e
    rw [List.drop_length] at ev2
    cases ev2
    exact .inl ⟨wk.stop _ _ H2 (gAt t2), q O2 σ2 H2 s2 (t1.trans t2)⟩
end
end Ev

set_option maxHeartbeats 4000000
namespace Ev
open PySem PySem.Spec PyProof.Rows L2
/-- a display, a list made anew: always a list -/
def isLstE : E → Bool
  | .lst _ => true
  | .comp .. => true
  | .prim .list _ => true
  | .prim .sorted _ => true
  | _ => false
theorem lstE_fr {e : E} (h : isLstE e = true) : kd e = .fr := by
  unfold isLstE at h
  split at h <;> first | rfl | cases h
theorem lstE_lst {φ : Phi} {e : E} (h : isLstE e = true) : ∀ {ρ m r m'}, evE φ e ρ m = .ok r m' → ∃ l, r = .lst l := by
  intro ρ m r m' ev
  have cl : ∀ (g : D → Mem → Out (Option D)) (l acc : List D) (m : Mem), compL g l acc m = .ok r m' → ∃ l, r = .lst l := by
    intro g l
    induction l with
    | nil => intro acc m e; cases e; exact ⟨_, rfl⟩
    | cons x l ih =>
      intro acc m e
      obtain ⟨y, m1, _, e⟩ := bind_eq_ok (show (g x m).bind _ = _ from e)
      cases y with
      | some y => exact ih _ _ e
      | none => exact ih _ _ e
  unfold isLstE at h
  split at h
  · obtain ⟨ds, m1, _, e⟩ := bind_eq_ok (show (evE φ _ ρ m).bind _ = _ from ev)
    cases e; exact ⟨_, rfl⟩
  · obtain ⟨ds, m1, _, e⟩ := bind_eq_ok (show (evE φ _ ρ m).bind _ = _ from ev)
    obtain ⟨xs, m2, _, e⟩ := bind_eq_ok e
    exact cl _ _ _ _ e
  · obtain ⟨ds, m1, _, e⟩ := bind_eq_ok (show (evE φ _ ρ m).bind (fun r m => Out.of m (primD .list (argsOf r))) = _ from ev)
    have e := (of_eq_ok e).1
    simp only [primD] at e
    unfold listP at e
    split at e <;> first | (cases e; exact ⟨_, rfl⟩) | cases e
  · obtain ⟨ds, m1, _, e⟩ := bind_eq_ok (show (evE φ _ ρ m).bind (fun r m => Out.of m (primD .sorted (argsOf r))) = _ from ev)
    have e := (of_eq_ok e).1
    simp only [primD] at e
    unfold sortP at e
    split at e
    · obtain ⟨_, _, e⟩ := Option.map_eq_some_iff.mp e; exact ⟨_, e.symm⟩
    · obtain ⟨_, _, e⟩ := Option.map_eq_some_iff.mp e; exact ⟨_, e.symm⟩
    · obtain ⟨ks, _, e⟩ := Option.bind_eq_some_iff.mp e
      split at e
      · cases e; exact ⟨_, rfl⟩
      · cases e
    · cases e
  · cases h
def argK (b : Bool) (e : E) : Bool := if b then isLstE e else !isBr (kd e)
section
variable {K : Frag} {φ : Phi} {D : Ends} {O O1 O2 O0 C : List Addr} {H H1 H2 H0 : Hp} {m m1 : Mem} {ρ ρ1 : Env} {σ σ1 : SSt}
/-- what an argument gave -/
def Got (b : Bool) (K : Frag) (O C : List Addr) (H0 H : Hp) (ρ : Env) (σ : SSt) (d : Ev.D) (v : V) : Prop := match b with
  | false => Rp K O C H d v
  | true => ∃ p, v = .ref p ∧ p ∈ O ∧ p ∉ C ∧ H0 p = none ∧ Alv H p ∧ OwnAt K O C H p d ∧ ∀ (j : Nat) e, ρ[j]? = some (some (.own e)) → σ[j]? ≠ some (some (V.ref p))
/-- a step on -/
structure Nx (O C : List Addr) (H : Hp) (O' : List Addr) (H' : Hp) : Prop where
  kp : Keep C H H'
  out : ∀ a, Alv H a → a ∉ O → a ∉ O'
  inn : ∀ a ∈ O, a ∈ O'
theorem Nx.tr (hC : ∀ a ∈ C, a ∈ O) (n : Nx O C H O1 H1) : Tr O H O1 H1 := ⟨n.kp.mono hC, n.out⟩
theorem Got.next {b : Bool} {d : Ev.D} {v : V} (hC : ∀ a ∈ C, a ∈ O) (g : Got b K O C H0 H ρ σ d v) (n : Nx O C H O1 H1) : Got b K O1 C H0 H1 ρ σ d v := by
  cases b with
  | false => exact Rp.move2 hC n.kp n.out (fun _ _ e => e) g
  | true =>
    obtain ⟨p, e, h1, h2, h3, ⟨o, h4⟩, h5, h6⟩ := g
    exact ⟨p, e, n.inn p h1, h2, h3, ⟨o, n.kp.ob p o h4 h2⟩, h5.move2 hC n.kp n.out (fun _ _ e => e) h2, h6⟩
/-- one argument -/
theorem StOk.arg {b : Bool} {e : E} {d : Ev.D} {Q : VK} (s : StOk K O0 C H0 O H m ρ σ) (hk : argK b e = true) (ev : evE φ e ρ m = .ok d m1)
    (q : ∀ v O1 H1, StOk K O0 C H0 O1 H1 m1 ρ σ → Nx O C H O1 H1 → Got b K O1 C H0 H1 ρ σ d v → (b = true → ∀ p, v = .ref p → H p = none) → Q v H1) : tE K φ e σ H Q := by
  cases b with
  | false =>
    have nb : isBr (kd e) = false := by
      have : (!isBr (kd e)) = true := hk
      simpa using this
    refine s.go ev fun v H1 k s1 t1 R F => ?_
    exact q v O H1 s1 ⟨k, fun _ _ n => n, fun _ i => i⟩ (R.pl s.M nb) (fun z => by cases z)
  | true =>
    have hl : isLstE e = true := hk
    have hf := lstE_fr hl
    refine s.go ev fun v H1 k s1 t1 R F => ?_
    rw [hf] at R F
    obtain ⟨l, rfl⟩ := lstE_lst hl ev
    obtain ⟨p, xs, rfl, hp, e2, z, r⟩ := R
    have M1 := F l p rfl rfl
    obtain ⟨s2, t2, hc, h0⟩ := s.grow k hp M1
    have un : ∀ (j : Nat) e, ρ[j]? = some (some (.own e)) → σ[j]? ≠ some (some (V.ref p)) := fun j e' g q' => by
      obtain ⟨a, g1, g2, _⟩ := s.en.own j e' g
      rw [g1] at q'; cases q'
      obtain ⟨o, g3⟩ := s.M.al p g2
      rw [hp] at g3; cases g3
    exact q _ (p :: O) H1 s2 ⟨k, t2.oo, fun a i => List.mem_cons_of_mem _ i⟩ ⟨p, rfl, by simp, hc, h0, ⟨_, e2⟩, ⟨xs, e2, z, r⟩, un⟩ (fun _ p' e => by cases e; exact hp)
def slB (b : Bool) (d : Ev.D) : Sl := if b then .own d else .val d
/-- the slot takes it -/
theorem StOk.take {b : Bool} {d : Ev.D} {v : V} (s : StOk K O0 C H0 O H m ρ σ) (i : Nat) {ρ0 : Env} {σ0 : SSt} (g : Got b K O C H0 H ρ0 σ0 d v)
    (un : b = true → ∀ p, v = .ref p → ∀ (j : Nat) e, j ≠ i → ρ[j]? = some (some (.own e)) → σ[j]? ≠ some (some (V.ref p))) :
    StOk K O0 C H0 O H m (setE ρ i (some (slB b d))) (σ.set i (some v)) := by
  cases b with
  | false => exact s.set i g
  | true =>
    obtain ⟨p, rfl, h1, h2, h3, _, h5, _⟩ := g
    exact s.setOwn i h1 h2 h3 h5 fun j e ne e1 => un rfl p rfl j e ne e1
theorem slB_own {b : Bool} {d e : Ev.D} (h : slB b d = .own e) : b = true ∧ d = e := by
  cases b with
  | false => cases h
  | true => cases h; exact ⟨rfl, rfl⟩
theorem parE_cons {i : Nat} {b : Bool} {r : List (Nat × Bool)} {x : Ev.D} {xs : List Ev.D} {ρ ρ1 : Env} (h : parE ((i, b) :: r) (x :: xs) ρ = some ρ1) : i < ρ.length ∧ parE r xs (setE ρ i (some (slB b x))) = some ρ1 := by
  unfold parE at h
  split at h
  · rename_i hl
    exact ⟨hl, by cases b <;> exact h⟩
  · cases h
theorem consD_tup {x r d : Ev.D} (h : consD x r = some d) : ∃ l, r = .tup l ∧ d = .tup (x :: l) := by
  unfold consD at h
  split at h
  · cases h; exact ⟨_, rfl, rfl⟩
  · cases h
theorem tS_parO2 {i j : Nat} {b c : Bool} {x y : E} (hij : i ≠ j) (hb : argK b x = true) (hc : argK c y = true) : tS K φ (.par [(i, b), (j, c)] (.cons x (.cons y .nil))) D σ H → tPar i j (tCons (tE K φ x) (tCons (tE K φ y) tNil)) D σ H := by
  rintro ⟨O0, C, H0, O, ρ, m, f, m', bs, s, ev, q⟩
  obtain ⟨r, m3, e0, ev⟩ := bind_eq_ok (show (evE φ (.cons x (.cons y .nil)) ρ m).bind (fun r m => (Out.of m (parE [(i, b), (j, c)] (argsOf r) ρ)).bind fun ρ1 m => Out.ok (Flow.nx ρ1) m) = .ok f m' from ev)
  obtain ⟨ρ3, m4, e8, ev⟩ := bind_eq_ok ev
  obtain ⟨e9, rfl⟩ := of_eq_ok e8
  cases ev
  obtain ⟨d1, m1, e1, e0⟩ := bind_eq_ok (show (evE φ x ρ m).bind (fun x m => (evE φ (.cons y .nil) ρ m).bind fun r m => Out.of m (consD x r)) = .ok r _ from e0)
  obtain ⟨r2, m2, e2, e0⟩ := bind_eq_ok e0
  obtain ⟨e0, rfl⟩ := of_eq_ok e0
  obtain ⟨d2, m5, e3, e2⟩ := bind_eq_ok (show (evE φ y ρ m1).bind (fun x m => (evE φ .nil ρ m).bind fun r m => Out.of m (consD x r)) = .ok r2 _ from e2)
  obtain ⟨r3, m6, e4, e2⟩ := bind_eq_ok e2
  obtain ⟨e2, rfl⟩ := of_eq_ok e2
  cases e4
  cases e2
  cases e0
  refine s.arg hb e1 fun v O1 H1 s1 n1 g1 f1 => ?_
  refine s1.arg hc e3 fun w O2 H2 s2 n2 g2 f2 => ?_
  refine ⟨v, w, rfl, ?_⟩
  obtain ⟨l1, p1⟩ := parE_cons (show parE [(i, b), (j, c)] [d1, d2] ρ = some ρ3 from e9)
  obtain ⟨l2, p2⟩ := parE_cons p1
  cases p2
  have g1' := g1.next s1.M.sub n2
  have t1 := s2.take i g1' fun hb' p e jj e' ne h1 => by
    subst hb'
    obtain ⟨p', e2, _, _, _, _, _, h6⟩ := g1'
    rw [e] at e2; cases e2
    exact h6 jj e' h1
  have t2 := t1.take j g2 fun hc' p e jj e' ne h1 h2 => by
    subst hc'
    by_cases q : i = jj
    · subst q
      have hl : i < ρ.length := l1
      rw [show (setE ρ i (some (slB b d1)))[i]? = some (some (slB b d1)) from by unfold setE; rw [List.getElem?_set_self hl]] at h1
      obtain ⟨hb', _⟩ := slB_own (Option.some.inj (Option.some.inj h1))
      subst hb'
      rw [List.getElem?_set_self (by rw [← s.en.len]; exact hl)] at h2
      obtain ⟨p', rfl, _, _, _, ⟨o, al⟩, _⟩ := g1
      cases h2
      have := f2 rfl p e
      rw [al] at this
      cases this
    · unfold setE at h1
      rw [List.getElem?_set_ne q] at h1 h2
      obtain ⟨p', e2, _, _, _, _, _, h6⟩ := g2
      rw [e] at e2; cases e2
      exact h6 jj e' h1 h2
  exact q O2 _ H2 t2 ((n1.tr s.M.sub).trans (n2.tr s1.M.sub))
theorem tS_parO3 {i j l : Nat} {b c a : Bool} {x y z : E} (hij : i ≠ j) (hil : i ≠ l) (hjl : j ≠ l) (hb : argK b x = true) (hc : argK c y = true) (ha : argK a z = true) :
    tS K φ (.par [(i, b), (j, c), (l, a)] (.cons x (.cons y (.cons z .nil)))) D σ H → tPar3 i j l (tCons (tE K φ x) (tCons (tE K φ y) (tCons (tE K φ z) tNil))) D σ H := by
  rintro ⟨O0, C, H0, O, ρ, m, f, m', bs, s, ev, q⟩
  obtain ⟨r, m3, e0, ev⟩ := bind_eq_ok (show (evE φ (.cons x (.cons y (.cons z .nil))) ρ m).bind (fun r m => (Out.of m (parE [(i, b), (j, c), (l, a)] (argsOf r) ρ)).bind fun ρ1 m => Out.ok (Flow.nx ρ1) m) = .ok f m' from ev)
  obtain ⟨ρ3, m4, e8, ev⟩ := bind_eq_ok ev
  obtain ⟨e9, rfl⟩ := of_eq_ok e8
  cases ev
  obtain ⟨d1, m1, e1, e0⟩ := bind_eq_ok (show (evE φ x ρ m).bind (fun x m => (evE φ (.cons y (.cons z .nil)) ρ m).bind fun r m => Out.of m (consD x r)) = .ok r _ from e0)
  obtain ⟨r2, m2, e2, e0⟩ := bind_eq_ok e0
  obtain ⟨e0, rfl⟩ := of_eq_ok e0
  obtain ⟨d2, m5, e3, e2⟩ := bind_eq_ok (show (evE φ y ρ m1).bind (fun x m => (evE φ (.cons z .nil) ρ m).bind fun r m => Out.of m (consD x r)) = .ok r2 _ from e2)
  obtain ⟨r3, m6, e4, e2⟩ := bind_eq_ok e2
  obtain ⟨e2, rfl⟩ := of_eq_ok e2
  obtain ⟨d3, m7, e5, e4⟩ := bind_eq_ok (show (evE φ z ρ m5).bind (fun x m => (evE φ .nil ρ m).bind fun r m => Out.of m (consD x r)) = .ok r3 _ from e4)
  obtain ⟨r4, m8, e6, e4⟩ := bind_eq_ok e4
  obtain ⟨e4, rfl⟩ := of_eq_ok e4
  cases e6
  cases e4
  cases e2
  cases e0
  refine s.arg hb e1 fun v O1 H1 s1 n1 g1 f1 => ?_
  refine s1.arg hc e3 fun w O2 H2 s2 n2 g2 f2 => ?_
  refine s2.arg ha e5 fun u O3 H3 s3 n3 g3 f3 => ?_
  refine ⟨v, w, u, rfl, ?_⟩
  obtain ⟨l1, p1⟩ := parE_cons (show parE [(i, b), (j, c), (l, a)] [d1, d2, d3] ρ = some ρ3 from e9)
  obtain ⟨l2, p2⟩ := parE_cons p1
  obtain ⟨l3, p3⟩ := parE_cons p2
  cases p3
  have g1' := (g1.next s1.M.sub n2).next s2.M.sub n3
  have g2' := g2.next s2.M.sub n3
  have getS : ∀ {ρ : Env} {σ : SSt} {k jj : Nat} {b : Bool} {d e' : Ev.D} {v : V} {p : Addr}, ρ.length = σ.length → k < ρ.length → (setE ρ k (some (slB b d)))[jj]? = some (some (.own e')) → (σ.set k (some v))[jj]? = some (some (V.ref p)) →
      (k = jj ∧ b = true ∧ v = .ref p) ∨ (k ≠ jj ∧ ρ[jj]? = some (some (.own e')) ∧ σ[jj]? = some (some (V.ref p))) := by
    intro ρ σ k jj b d e' v p hL hl h1 h2
    by_cases q : k = jj
    · subst q
      unfold setE at h1
      rw [List.getElem?_set_self hl] at h1
      rw [List.getElem?_set_self (by rw [← hL]; exact hl)] at h2
      obtain ⟨hb', _⟩ := slB_own (Option.some.inj (Option.some.inj h1))
      cases h2
      exact .inl ⟨rfl, hb', rfl⟩
    · unfold setE at h1
      rw [List.getElem?_set_ne q] at h1 h2
      exact .inr ⟨q, h1, h2⟩
  have t1 := s3.take i g1' fun hb' p e jj e' ne h1 => by
    subst hb'
    obtain ⟨p', e2, _, _, _, _, _, h6⟩ := g1'
    rw [e] at e2; cases e2
    exact h6 jj e' h1
  have t2 := t1.take j g2' fun hc' p e jj e' ne h1 h2 => by
    subst hc'
    rcases getS s.en.len l1 h1 h2 with ⟨_, hb', rfl⟩ | ⟨_, h1, h2⟩
    · subst hb'
      obtain ⟨p', e2, _, _, _, ⟨o, al⟩, _⟩ := g1
      cases e2
      have := f2 rfl p e
      rw [al] at this
      cases this
    · obtain ⟨p', e2, _, _, _, _, _, h6⟩ := g2'
      rw [e] at e2; cases e2
      exact h6 jj e' h1 h2
  have t3 := t2.take l g3 fun ha' p e jj e' ne h1 h2 => by
    subst ha'
    have fr := f3 rfl p e
    rcases getS (by simp [setE]; exact s.en.len) l2 h1 h2 with ⟨_, hc', rfl⟩ | ⟨_, h1, h2⟩
    · subst hc'
      obtain ⟨p', e2, _, _, _, ⟨o, al⟩, _⟩ := g2
      cases e2
      rw [al] at fr
      cases fr
    · rcases getS s.en.len l1 h1 h2 with ⟨_, hb', rfl⟩ | ⟨_, h1, h2⟩
      · subst hb'
        obtain ⟨p', e2, _, _, _, ⟨o, al⟩, _⟩ := g1.next s1.M.sub n2
        cases e2
        rw [al] at fr
        cases fr
      · obtain ⟨p', e2, _, _, _, _, _, h6⟩ := g3
        rw [e] at e2; cases e2
        exact h6 jj e' h1 h2
  exact q O3 _ H3 t3 (((n1.tr s.M.sub).trans (n2.tr s1.M.sub)).trans (n3.tr s2.M.sub))
end
end Ev

set_option maxHeartbeats 4000000
namespace Ev
open PySem PySem.Spec PyProof.Rows L2
/-- what is wished of the dict: it is locked -/
def wLock (Q : VK) : VK := fun v H' => ∃ (a : Addr) (u : HO), v = .ref a ∧ H' a = some u ∧ Mut (some u) ∧ ∀ od, Q v (upd H' a (.frz od u))
abbrev BlkH (X : Cx) (scope : Scope) (F : Cx → Prop) : Prop := ∀ (s : Shared) (H : Hp) (C : Addr) (cl : List (Str × Addr)) (fp : List Addr), F (X.blk s H scope (compEnvC scope cl C X.env) fp)
theorem ps_setDcL {X : Cx} {i : Nat} {y : Str} {py : Pos} {kx vx tg iter : Expr} {ifs : List Expr} {scope : Scope} {own : List (Str × Nat)} {pos spos : Pos} {wi : TI} {g : TG} {tt : TT} {tk tv : TE}
    (calm : X.calm = true) (nd : X.N.Nodup) (yi : X.N[i]? = some y) (loc : X.env.scope.names.lookup y = some .local)
    (sw : swapsWith (.DictComp kx vx [⟨tg, iter, ifs, 0⟩] scope pos) (some (.Name y py)) spos.line X.env = pure true)
    (hi : PI X tg iter wi) (ok : BlkOk X.N X.env.scope scope own) (hg : BlkH X scope fun Z => PG Z tg g) (ht : BlkH X scope fun Z => PTs Z ifs tt)
    (hk : BlkH X scope fun Z => PE Z kx tk) (hv : BlkH X scope fun Z => PE Z vx tv) (hs : ∀ x, foldedSetIterable iter X.env x = pure x) :
    PS X (.Assign [.Name y py] (.DictComp kx vx [⟨tg, iter, ifs, 0⟩] scope pos) spos) (fun D σ H => tDc wi g tt tk tv (own.map (·.2)) σ H (wLock fun v H' => gName i v σ H' D.nx)) := by
  refine ⟨fun pins s σ H D I h => ?_⟩
  rw [exec_Assign_Name_used _ _ _ _ sw]
  refine wpAny_bind (wpAny_standAt (wpAny_bind ?_))
  show wpAny _ X.A (do
    let _ ← comprehension (.DictComp kx vx [⟨tg, iter, ifs, 0⟩] scope pos) scope X.env (firstIterPos [⟨tg, iter, ifs, 0⟩] pos) newDict false (eval iter X.env) (some (assign (.Name y py) X.env))) _ _ s
  have step : wpAny (model X.prog X.w) X.A (comprehension (.DictComp kx vx [⟨tg, iter, ifs, 0⟩] scope pos) scope X.env (firstIterPos [⟨tg, iter, ifs, 0⟩] pos) newDict false (eval iter X.env) (some (assign (.Name y py) X.env))) (fun _ s' => SP X pins D .next s') X.xe s := by
    refine dc_core (Qf := fun _ s' => SP X pins D .next s') calm nd I hi ok hg ht hk hv hs h fun L C s' m H' I' q hn f => ?_
    obtain ⟨L', u, eL, hu, mu, q⟩ := q
    cases eL
    show wpAny _ _ (assign (.Name y py) X.env (.ref L)) _ _ _
    refine wpAny_assign_Name (store_ok2 (v := V.ref L) I' nd yi (.inl loc) rfl (fun s2 I2 sa => ?_) (.inr loc))
    obtain ⟨a, sb, ha⟩ := sa
    obtain ⟨f0, f1, f2, f3, f4, f5⟩ := f
    have ne : C ≠ a := by
      rcases ha with z | z
      · rw [z]; exact f1
      · exact fun e => f4 y a z e.symm
    refine ⟨m, hn.sameBut sb ne, fun h3 sb3 => ?_⟩
    obtain ⟨od, I3⟩ := I2.lock hu mu
    have CL : C ≠ L := fun e => by rw [e, hu] at f0; cases f0
    have f0' : (upd H' L (.frz od u)) C = none := by rw [upd_ne CL]; exact f0
    exact ⟨_, _, I3.turned (t' := s2.toks) (fun b o hb e => (sb3.2 b hb).trans e) f0' f1 f3 f4 f5, q od⟩
  exact wpAny_bind (thn step fun _ s' hq => wpAny_pure (wpAny_pure hq))
end Ev

set_option maxHeartbeats 4000000
namespace Ev
open PySem PySem.Spec PyProof.Rows L2
def blkHit (scope : Scope) (x : Str) : Bool := scope.names.any fun (n, k) => n == x && (k == .local || k == .cell)
/-- the store of a comprehension's value ahead of its variables' end -/
def swC (sc : Scope) (x : Str) (p : Pos) (v : Expr) : Bool := match v with
  | .ListComp _ _ s _ => (sc.names.lookup x == some .local) && p.line == v.pos.line && !blkHit s x
  | .SetComp _ _ s _ => (sc.names.lookup x == some .local) && p.line == v.pos.line && !blkHit s x
  | .DictComp _ _ _ s _ => (sc.names.lookup x == some .local) && p.line == v.pos.line && !blkHit s x
  | _ => false
def notComp : Expr → Bool
  | .ListComp .. => false
  | .SetComp .. => false
  | .DictComp .. => false
  | _ => true
def isDc : Expr → Bool
  | .DictComp .. => true
  | _ => false
def isLc : Expr → Bool
  | .ListComp .. => true
  | _ => false
def starred : Expr → Bool
  | .Starred .. => true
  | _ => false
def locNames (sc : Scope) (line : Nat) (ts : List Expr) : List Str := ts.filterMap fun
  | .Name id pos => if sc.names.lookup id == some .local && pos.line == line then some id else none
  | _ => none
/-- the stores from the right: none not so, some names; not modelled -/
def swS (sc : Scope) (ts vs : List Expr) : Option (Option (List Str)) :=
  if !(ts.length == 2 || ts.length == 3) || vs.length != ts.length then some none
  else if vs.any starred then some none
  else
    let names := locNames sc ((ts.head?.map (·.pos.line)).getD 0) ts
    if names.length != ts.length || names.eraseDups.length != names.length then some none
    else if vs.all (foldedForSure 8) then some none
    else if vs.all (constantsAlone 8) then none
    else some (some names)
section
variable {env : PySem.Env} {sc : Scope}
theorem swC_eq (hs : env.scope = sc) (hk : sc.kind = .function) {x : Str} {p : Pos} {v : Expr} {line : Nat} : swapsWith v (some (.Name x p)) line env = pure (swC sc x p v) := by
  have hb : (env.blockKind == .function) = true := by
    unfold Env.blockKind
    rw [hs, hk]; rfl
  subst hs
  cases v <;> first
    | rfl
    | (show pure (env.blockKind == .function && _ && _ && _) = _; rw [hb]; rfl)
theorem notComp_eq {v : Expr} (h : notComp v = true) {t : Option Expr} {line : Nat} : swapsWith v t line env = pure false := by
  cases v <;> first | rfl | cases h
theorem swapsT {v : Expr} {es : List Expr} {k : Nat} {p : Pos} {line : Nat} : swapsWithSole [.Tuple es k p] v line env = pure false := by cases v <;> rfl
theorem swapsSub {v o i : Expr} {p : Pos} {line : Nat} : swapsWithSole [.Subscript o i p] v line env = pure false := by cases v <;> rfl
theorem swapsS {v : Expr} {es : List Expr} {k : Nat} {p : Pos} (h : ∀ vs k2 p2, v = .Tuple vs k2 p2 → False) : swappedStores [.Tuple es k p] v env = pure none := by
  cases v with
  | Tuple a b c => exact (h a b c rfl).elim
  | _ => rfl
theorem swapsN {v : Expr} {x : Str} {p : Pos} : swappedStores [.Name x p] v env = pure none := by cases v <;> rfl
theorem swapsB {v o i : Expr} {p : Pos} : swappedStores [.Subscript o i p] v env = pure none := by cases v <;> rfl
theorem swS_eq (hs : env.scope = sc) (hk : sc.kind = .function) {ts vs : List Expr} {k k2 : Nat} {p p2 : Pos} {o : Option (List Str)} (h : swS sc ts vs = some o) : swappedStores [.Tuple ts k p] (.Tuple vs k2 p2) env = pure o := by
  have hb : (env.blockKind != .function) = false := by
    unfold Env.blockKind
    rw [hs, hk]; rfl
  subst hs
  unfold swS at h
  unfold swappedStores
  show (if (!(ts.length == 2 || ts.length == 3) || vs.length != ts.length || env.blockKind != .function) = true then pure none else if (vs.any fun | .Starred .. => true | _ => false) = true then pure none else
    if ((locNames env.scope ((ts.head?.map (·.pos.line)).getD 0) ts).length != ts.length || (locNames env.scope ((ts.head?.map (·.pos.line)).getD 0) ts).eraseDups.length != (locNames env.scope ((ts.head?.map (·.pos.line)).getD 0) ts).length) = true then pure none else
    if vs.all (foldedForSure 8) = true then pure none else if vs.all (constantsAlone 8) = true then _ else pure (some (locNames env.scope ((ts.head?.map (·.pos.line)).getD 0) ts))) = pure o
  rw [hb, Bool.or_false]
  have hst : (vs.any fun | .Starred .. => true | _ => false) = vs.any starred := rfl
  rw [hst]
  split at h
  · rename_i h1
    cases h
    rw [if_pos h1]
  · rename_i h1
    rw [if_neg h1]
    split at h
    · rename_i h2
      cases h
      rw [if_pos h2]
    · rename_i h2
      rw [if_neg h2]
      dsimp only at h
      split at h
      · rename_i h3
        cases h
        rw [if_pos h3]
      · rename_i h3
        rw [if_neg h3]
        split at h
        · rename_i h4
          cases h
          rw [if_pos h4]
        · rename_i h4
          rw [if_neg h4]
          split at h
          · cases h
          · rename_i h5
            cases h
            rw [if_neg h5]
end
structure CkS where
  one : Cc → Stmt → Bool
  blk : Cc → List Stmt → Bool
def CkS.o (f : Cc → Stmt → Bool) : CkS := ⟨f, fun _ _ => false⟩
def locC (c : Cc) (x : Str) : Bool := c.sc.names.lookup x == some .local
def isFrz : S → Bool
  | .frz _ => true
  | _ => false
def isCmp : E → Bool
  | .comp .. => true
  | _ => false
def isDcm : E → Bool
  | .dcomp .. => true
  | _ => false
def nameOk (G : Gc) (c : Cc) (i : Nat) (x : Str) (p : Pos) (e : E) (v : Expr) : Bool := stC c i x && (chk G e).e c v && (!swC c.sc x p v || ((isLc v && locC c x && isCmp e) || (isDc v && locC c x && isDcm e)))
/-- a, b = x, y; a, b, c = x, y, z -/
def chkPar (G : Gc) (fl : List (Nat × Bool)) (es : E) : Cc → Stmt → Bool := match fl, es with
  | [(i, b), (j, d)], .cons e1 (.cons e2 .nil) => fun c st => match st with
    | .Assign [.Tuple [.Name x px, .Name y py] k p] (.Tuple [a1, a2] _ _) _ => stC c i x && stC c j y && locC c x && locC c y && decide (i ≠ j) && argK b e1 && argK d e2 && noStar [a1] && noStar [a2]
        && (chk G e1).e c a1 && (chk G e2).e c a2 && decide (swS c.sc [.Name x px, .Name y py] [a1, a2] = some (some [x, y]))
    | _ => false
  | [(i, b), (j, d), (l, f)], .cons e1 (.cons e2 (.cons e3 .nil)) => fun c st => match st with
    | .Assign [.Tuple [.Name x px, .Name y py, .Name z pz] k p] (.Tuple [a1, a2, a3] _ _) _ => stC c i x && stC c j y && stC c l z && locC c x && locC c y && locC c z && decide (i ≠ j) && decide (i ≠ l) && decide (j ≠ l)
        && argK b e1 && argK d e2 && argK f e3 && noStar [a1] && noStar [a2] && noStar [a3] && (chk G e1).e c a1 && (chk G e2).e c a2 && (chk G e3).e c a3
        && decide (swS c.sc [.Name x px, .Name y py, .Name z pz] [a1, a2, a3] = some (some [x, y, z]))
    | _ => false
  | _, _ => fun _ _ => false
def chkS (G : Gc) : S → CkS
  | .skip => ⟨fun _ st => match st with
    | .Pass _ => true
    | .Expr (.Constant (.str _) _ _) _ => true
    | _ => false, fun _ l => l.isEmpty⟩
  | .seq a r => ⟨fun _ _ => false, fun c l => if isFrz a then (chkS G r).blk c l else match l with
    | st :: rest => (chkS G a).one c st && (chkS G r).blk c rest
    | [] => false⟩
  | .expr e => .o fun c st => match st with
    | .Expr x _ => notComp x && (chk G e).e c x
    | _ => false
  | .asg (.name i) e => .o fun c st => match st with
    | .Assign [.Name x p] v _ => !isBr (kd e) && nameOk G c i x p e v
    | _ => false
  | .asg (.tup ts) e => .o fun c st => match st with
    | .Assign [.Tuple es k p] v _ => !isBr (kd e) && chkG c (.tup ts) (.Tuple es k p) && (chk G e).e c v && (match v with
      | .Tuple vs _ _ => decide (swS c.sc es vs = some none)
      | _ => true)
    | _ => false
  | .own i e => .o fun c st => match st with
    | .Assign [.Name x p] v _ => isFr (kd e) && nameOk G c i x p e v
    | _ => false
  | .par fl es => .o (chkPar G fl es)
  | .app i e => .o fun c st => match st with
    | .Expr (.Call (.Attribute (.Name x _) a apos) [y] [] cpos) _ => a == ("append" : Str) && nmC c i x && apos.endLine == cpos.line && noStar [y] && !isBr (kd e) && (chk G e).e c y
    | _ => false
  | .sub i k e => .o fun c st => match st with
    | .Assign [.Subscript (.Name x _) y _] v _ => nmC c i x && plainI y && !isBr (kd e) && (chk G k).e c y && (chk G e).e c v
    | _ => false
  | .subc i k e => .o fun c st => match st with
    | .Assign [.Subscript (.Name x _) y _] v _ => nmC c i x && plainI y && !isBr (kd e) && (chk G k).e c y && (chk G e).e c v
    | _ => false
  | .aug i op e => .o fun c st => match st with
    | .AugAssign (.Name x _) o y _ => stC c i x && decide (o = pyB op) && augOk op && (chk G e).e c y
    | _ => false
  | .ite t a b => .o fun c st => match st with
    | .If x xs ys _ => (chk G t).t c x && (chkS G a).blk c xs && (chkS G b).blk c ys
    | _ => false
  | .for w t k it b => .o fun c st => match st with
    | .For tg iter body [] _ => !brA it && itC G k (argN it) (!brA it) (chk G it).a c tg iter && chkG c t tg && (chkS G b).blk c body
    | _ => false
  | .whl n w t b => .o fun c st => match st with
    | .While x body [] _ => (chk G t).t c x && (chkS G b).blk c body
    | _ => false
  | .ret e => .o fun c st => match st with
    | .Return (some x) _ => !isBr (kd e) && (chk G e).e c x
    | .Return none _ => (match e with | .cst .non => true | _ => false)
    | _ => false
  | .brk => .o fun _ st => match st with
    | .Break _ => true
    | _ => false
  | .cnt => .o fun _ st => match st with
    | .Continue _ => true
    | _ => false
  | .rais _ _ => .o fun _ st => match st with
    | .Raise _ _ _ => true
    | _ => false
  | _ => .o fun _ _ => false
structure XS (G : Gc) (φ : Phi) (c : Cc) (X : Cx) : Prop where
  g : XG G φ c X
  kind : c.sc.kind = .function
  pas : PassesOwn (model X.prog X.w) X.A X.env X.xe
structure OkS (G : Gc) (φ : Phi) (s : S) : Prop where
  one : ∀ (c : Cc) (X : Cx) (st : Stmt), XS G φ c X → (chkS G s).one c st = true → PS X st (tS X.K φ s)
  blk : ∀ (c : Cc) (X : Cx) (l : List Stmt), XS G φ c X → (chkS G s).blk c l = true → PSs X l (tS X.K φ s)
section
variable {G : Gc} {φ : Phi}
theorem OkS.o {s : S} {f : Cc → Stmt → Bool} (hc : chkS G s = .o f) (h : ∀ (c : Cc) (X : Cx) (st : Stmt), XS G φ c X → f c st = true → PS X st (tS X.K φ s)) : OkS G φ s := by
  refine ⟨fun c X st g hh => h c X st g (by rw [hc] at hh; exact hh), fun c X l g hh => ?_⟩
  rw [hc] at hh
  exact absurd (show false = true from hh) (by decide)
theorem tAsg_imp {X : Cx} {D : Ends} {σ : SSt} {H : Hp} {t t' : TE} {g : TG} (i : ∀ σ H Q, t σ H Q → t' σ H Q) (h : tAsg t g D σ H) : tAsg t' g D σ H := i _ _ _ h
/-- name = a list comprehension, whatever the order of its end -/
theorem ps_name {c : Cc} {X : Cx} {i : Nat} {x : Str} {p : Pos} {e : E} {v : Expr} {pos : Pos} (g : XS G φ c X) (h : nameOk G c i x p e v = true) : PS X (.Assign [.Name x p] v pos) (tAsg (tE X.K φ e) (gName i)) := by
  unfold nameOk at h
  simp only [Bool.and_eq_true, Bool.or_eq_true, Bool.not_eq_true'] at h
  obtain ⟨⟨h1, h2⟩, h3⟩ := h
  obtain ⟨hi, hl, hf⟩ := st_of g.g h1
  cases hsw : swC c.sc x p v with
  | false =>
    exact ps_set g.g.nd hi hl ((soundE e).e c X v g.g h2) (by rw [swC_eq g.g.sc g.kind, hsw]) hf
  | true =>
    rw [hsw] at h3
    rcases h3.resolve_left (by decide) with ⟨⟨h4, h5⟩, h6⟩ | ⟨⟨h4, h5⟩, h6⟩
    · have hloc : X.env.scope.names.lookup x = some .local := by
        rw [g.g.sc]
        exact eq_of_beq h5
      cases v with
      | ListComp x' gs scope vp =>
        cases e with
        | comp own t k it ifs elt =>
          dsimp only [chk, Ck.mk'] at h2
          split at h2
          case h_2 => cases h2
          rename_i hv
          cases hv
          simp only [Bool.and_eq_true, decide_eq_true_eq] at h2
          obtain ⟨⟨⟨⟨⟨⟨⟨⟨k0, k1⟩, k2⟩, k3⟩, k4⟩, k5⟩, k6⟩, k7⟩, k8⟩ := h2
          have ok : BlkOk c.N c.sc scope (ownN c own) := blkOk_by k1
          have ok' : BlkOk X.N X.env.scope scope (ownN c own) := by rw [g.g.eN, g.g.sc]; exact ok
          obtain ⟨hi', hs⟩ := itC_ok (soundE it).a (fun a ha => (soundE it).h a _ ha) g.g k5
          have hw := ps_setLc (i := i) (y := x) (py := p) (te := tE X.K φ elt) (g := tG X.K t) (tt := tT X.K φ ifs) (pos := vp) (spos := pos) g.g.calm g.g.nd hi hloc (by rw [swC_eq g.g.sc g.kind, hsw]) hi' ok'
            (fun s H C cl fp => (soundG t).1 (inComp c scope) _ _ (g.g.blk (s := s) (H := H) (cl := cl) (C := C) (fp := fp) ok) k6)
            (fun s H C cl fp => by
              have gb := g.g.blk (s := s) (H := H) (cl := cl) (C := C) (fp := fp) ok
              split at k7
              · split at k7
                · exact ⟨fun pins s σ H Q I q => pts_nil.run pins s σ H Q I (by
                    obtain ⟨O, C, ρ, m, r, m', t, M, En, ev, hh, q⟩ := q
                    cases ev
                    cases hh
                    exact q H Keep.refl M)⟩
                · cases k7
              · exact pts_one ((soundE ifs).t (inComp c scope) _ _ gb k7)
              · cases k7)
            (fun s H C cl fp => (soundE elt).e (inComp c scope) _ _ (g.g.blk (s := s) (H := H) (cl := cl) (C := C) (fp := fp) ok) k8) (fun x => hs _ x)
          rw [k0] at hw
          exact ps_imp hw fun D σ H q => tE_comp (fun i hi => by
            have := List.all_eq_true.mp k3 i hi
            rwa [List.contains_iff_mem] at this) (no_of k4) q
        | _ => cases h6
      | _ => cases h4
    · have hloc : X.env.scope.names.lookup x = some .local := by
        rw [g.g.sc]
        exact eq_of_beq h5
      cases v with
      | DictComp kx vx gs scope vp =>
        cases e with
        | dcomp own t k it ifs key val =>
          dsimp only [chk, Ck.mk'] at h2
          split at h2
          case h_2 => cases h2
          rename_i hv
          cases hv
          simp only [Bool.and_eq_true, decide_eq_true_eq] at h2
          obtain ⟨⟨⟨⟨⟨⟨⟨⟨k0, k1⟩, k2⟩, k3⟩, k4, k4'⟩, k5⟩, k6⟩, k7⟩, k8, k8'⟩ := h2
          have ok : BlkOk c.N c.sc scope (ownN c own) := blkOk_by k1
          have ok' : BlkOk X.N X.env.scope scope (ownN c own) := by rw [g.g.eN, g.g.sc]; exact ok
          obtain ⟨hi', hs⟩ := itC_ok (soundE it).a (fun a ha => (soundE it).h a _ ha) g.g k5
          have gb : ∀ (s : Shared) (H : Hp) (C : Addr) (cl : List (Str × Addr)) (fp : List Addr), XG G φ (inComp c scope) (X.blk s H scope (compEnvC scope cl C X.env) fp) := fun s H C cl fp => g.g.blk ok
          have hw := ps_setDcL (i := i) (y := x) (py := p) (tk := tE X.K φ key) (tv := tE X.K φ val) (g := tG X.K t) (tt := tT X.K φ ifs) (pos := vp) (spos := pos) g.g.calm g.g.nd hi hloc (by rw [swC_eq g.g.sc g.kind, hsw]) hi' ok'
            (fun s H C cl fp => (soundG t).1 (inComp c scope) _ _ (gb s H C cl fp) k6)
            (fun s H C cl fp => by
              split at k7
              · split at k7
                · exact ⟨fun pins s σ H Q I q => pts_nil.run pins s σ H Q I (by
                    obtain ⟨O, C, ρ, m, r, m', t, M, En, ev, hh, q⟩ := q
                    cases ev
                    cases hh
                    exact q H Keep.refl M)⟩
                · cases k7
              · exact pts_one ((soundE ifs).t (inComp c scope) _ _ (gb s H C cl fp) k7)
              · cases k7)
            (fun s H C cl fp => (soundE key).e (inComp c scope) _ _ (gb s H C cl fp) k8) (fun s H C cl fp => (soundE val).e (inComp c scope) _ _ (gb s H C cl fp) k8') (fun x => hs _ x)
          rw [k0] at hw
          exact ps_imp hw fun D σ H q => tE_dcomp (fun i hi => by
            have := List.all_eq_true.mp k3 i hi
            rwa [List.contains_iff_mem] at this) (no_of k4) (no_of k4') q
        | _ => cases h6
      | _ => cases h4
theorem sub_arm {X : Cx} {o i : Expr} {pos : Pos} (h : plainI i = true) : ∀ v, assign (.Subscript o i pos) X.env v = (do
      let ov ← holding [v] (eval o X.env)
      let iv ← holding [v, ov] (eval i X.env)
      standAt pos
      holding [v, ov, iv] (setItem ov iv v)
      release [v, ov, iv] []) := by
  intro v
  cases i <;> first | rfl | cases h
theorem ps_subE {c : Cc} {X : Cx} {i : Nat} {x : Str} {px p pos : Pos} {k e : E} {y v : Expr} (g : XS G φ c X) (h1 : nmC c i x = true) (h2 : plainI y = true) (h3 : (chk G k).e c y = true) (h4 : (chk G e).e c v = true) :
    PS X (.Assign [.Subscript (.Name x px) y p] v pos) (tAsg (tE X.K φ e) (gSub (tVar i) (tE X.K φ k) rSetL)) :=
  ps_asg ((soundE e).e c X v g.g h4) (pg_sub (nm_of g.g h1) ((soundE k).e c X y g.g h3) set_list (sub_arm h2)) swapsSub swapsB
theorem lt_argN {es : E} (h : smallN (argN es) = true) : ∀ ρ m r m', evE φ es ρ m = .ok r m' → ∃ l, r = .tup l := fun ρ m r m' ev => by
  obtain ⟨n, hn, _⟩ := smallN_line h
  obtain ⟨l, e, _⟩ := args_argN es n ρ m m' r hn ev
  exact ⟨l, e⟩
theorem soundS (s : S) : OkS G φ s := by
  induction s with
  | skip =>
    refine ⟨fun c X st g h => ?_, fun c X l g h => ?_⟩
    · dsimp only [chkS] at h
      split at h
      · exact ps_imp ps_pass fun D σ H q => tS_skip q
      · exact ps_imp ps_doc fun D σ H q => tS_skip q
      · cases h
    · cases l with
      | nil => exact pss_imp pss_nil fun D σ H q => tS_skip q
      | cons a r => cases h
  | seq a r ih1 ih2 =>
    refine ⟨fun c X st g h => absurd (show false = true from h) (by decide), fun c X l g h => ?_⟩
    dsimp only [chkS] at h
    split at h
    · rename_i hf
      cases a with
      | frz i => exact pss_imp (ih2.blk c X l g h) fun D σ H q => tS_frz q
      | _ => cases hf
    · split at h
      · rw [Bool.and_eq_true] at h
        exact pss_imp (pss_cons (ih1.one c X _ g h.1) (ih2.blk c X _ g h.2)) fun D σ H q => tS_seq q
      · cases h
  | expr e =>
    refine .o rfl fun c X st g h => ?_
    split at h
    · rw [Bool.and_eq_true] at h
      exact ps_imp (ps_expr ((soundE e).e c X _ g.g h.2) (notComp_eq h.1)) fun D σ H q => tS_expr q
    · cases h
  | asg t e =>
    cases t with
    | name i =>
      refine .o rfl fun c X st g h => ?_
      split at h
      · rw [Bool.and_eq_true] at h
        exact ps_imp (ps_name g h.2) fun D σ H q => tS_asgN (no_of h.1) q
      · cases h
    | tup ts =>
      refine .o rfl fun c X st g h => ?_
      split at h
      · rename_i es k p v pos
        simp only [Bool.and_eq_true] at h
        obtain ⟨⟨⟨h1, h2⟩, h3⟩, h4⟩ := h
        have hw : swappedStores [.Tuple es k p] v X.env = pure none := by
          split at h4
          · exact swS_eq g.g.sc g.kind (of_decide_eq_true h4)
          · rename_i hv
            exact swapsS fun vs k2 p2 e => hv vs k2 p2 e
        exact ps_imp (ps_asg ((soundE e).e c X _ g.g h3) ((soundG (.tup ts)).1 c X _ g.g h2) swapsT hw) fun D σ H q => tS_asg (no_of h1) q
      · cases h
    | _ => exact .o rfl fun c X st g h => absurd (show false = true from h) (by decide)
  | own i e =>
    refine .o rfl fun c X st g h => ?_
    split at h
    · rw [Bool.and_eq_true] at h
      exact ps_imp (ps_name g h.2) fun D σ H q => tS_own h.1 q
    · cases h
  | par fl es =>
    refine .o rfl fun c X st g h => ?_
    unfold chkPar at h
    split at h
    · split at h
      · simp only [Bool.and_eq_true, decide_eq_true_eq] at h
        obtain ⟨⟨⟨⟨⟨⟨⟨⟨⟨⟨⟨h1, h2⟩, h3⟩, h4⟩, h5⟩, h6⟩, h7⟩, h8⟩, h9⟩, ha⟩, hb⟩, hc⟩ := h
        exact ps_imp (ps_par g.g.calm g.g.nd (st_of g.g h1).1 (st_of g.g h2).1 h5 (by rw [g.g.sc]; exact eq_of_beq h3) (by rw [g.g.sc]; exact eq_of_beq h4)
          (pa_cons ((soundE _).e c X _ g.g ha) (pa_cons ((soundE _).e c X _ g.g hb) pa_nil (star_cons h9)) (star_cons h8)) (swS_eq g.g.sc g.kind hc) swapsT) fun D σ H q => tS_parO2 h5 h6 h7 q
      · cases h
    · split at h
      · simp only [Bool.and_eq_true, decide_eq_true_eq] at h
        obtain ⟨⟨⟨⟨⟨⟨⟨⟨⟨⟨⟨⟨⟨⟨⟨⟨⟨⟨h1, h2⟩, h3⟩, h4⟩, h5⟩, h6⟩, h7⟩, h8⟩, h9⟩, ka⟩, kb⟩, kc⟩, n1⟩, n2⟩, n3⟩, c1⟩, c2⟩, c3⟩, hd⟩ := h
        exact ps_imp (ps_par3 g.g.calm g.g.nd (st_of g.g h1).1 (st_of g.g h2).1 (st_of g.g h3).1 h7 h8 h9 (by rw [g.g.sc]; exact eq_of_beq h4) (by rw [g.g.sc]; exact eq_of_beq h5) (by rw [g.g.sc]; exact eq_of_beq h6)
          (pa_cons ((soundE _).e c X _ g.g c1) (pa_cons ((soundE _).e c X _ g.g c2) (pa_cons ((soundE _).e c X _ g.g c3) pa_nil (star_cons n3)) (star_cons n2)) (star_cons n1)) (swS_eq g.g.sc g.kind hd) swapsT) fun D σ H q => tS_parO3 h7 h8 h9 ka kb kc q
      · cases h
    · cases h
  | app i e =>
    refine .o rfl fun c X st g h => ?_
    split at h
    · rename_i x px a apos y cpos pos
      simp only [Bool.and_eq_true] at h
      obtain ⟨⟨⟨⟨⟨h1, h2⟩, h3⟩, h4⟩, h5⟩, h6⟩ := h
      cases eq_of_beq h1
      have hp : PE X (.Call (.Attribute (.Name x px) "append" apos) [y] [] cpos) (tBM X.K "list" rAppend (tVar i) (tCons (tE X.K φ e) tNil)) :=
        pe_bm PySem.F.plainAttrs_list PySem.F.slot_list_append PySem.F.type_list_append mt_append (nm_of g.g h2) (pa_cons ((soundE e).e c X y g.g h6) pa_nil (star_cons h4)) rfl
          (by rw [star_cons h4]; rfl) h3 (star_cons h4) rfl
      exact ps_imp (ps_expr hp rfl) fun D σ H q => tS_app (no_of h5) q
    · cases h
  | sub i k e =>
    refine .o rfl fun c X st g h => ?_
    split at h
    · simp only [Bool.and_eq_true] at h
      obtain ⟨⟨⟨⟨h1, h2⟩, h3⟩, h4⟩, h5⟩ := h
      exact ps_imp (ps_subE g h1 h2 h4 h5) fun D σ H q => tS_sub (no_of h3) q
    · cases h
  | subc i k e =>
    refine .o rfl fun c X st g h => ?_
    split at h
    · simp only [Bool.and_eq_true] at h
      obtain ⟨⟨⟨⟨h1, h2⟩, h3⟩, h4⟩, h5⟩ := h
      exact ps_imp (ps_subE g h1 h2 h4 h5) fun D σ H q => tS_subc (no_of h3) q
    · cases h
  | aug i op e =>
    refine .o rfl fun c X st g h => ?_
    split at h
    · simp only [Bool.and_eq_true, decide_eq_true_eq] at h
      obtain ⟨⟨⟨h1, rfl⟩, h3⟩, h4⟩ := h
      obtain ⟨hi, hl, hf⟩ := st_of g.g h1
      exact ps_imp (ps_aug g.g.nd hi hl ((soundE e).e c X _ g.g h4) (ip_E op h3) hf) fun D σ H q => tS_aug q
    · cases h
  | ite t a b ih1 ih2 =>
    refine .o rfl fun c X st g h => ?_
    split at h
    · simp only [Bool.and_eq_true] at h
      exact ps_imp (ps_if ((soundE t).t c X _ g.g h.1.1) (ih1.blk c X _ g h.1.2) (ih2.blk c X _ g h.2)) fun D σ H q => tS_ite q
    · cases h
  | «for» w t k it b ih =>
    refine .o rfl fun c X st g h => ?_
    split at h
    · simp only [Bool.and_eq_true] at h
      obtain ⟨⟨⟨h1, h2⟩, h3⟩, h4⟩ := h
      obtain ⟨hi, hs⟩ := itC_ok (soundE it).a (fun a ha => (soundE it).h a _ ha) g.g h2
      exact ps_imp (ps_for g.pas g.g.calm hi ((soundG t).1 c X _ g.g h3) (ih.blk c X _ g h4) (fun x => hs _ x)) fun D σ H q => tS_for (no_of h1) q
    · cases h
  | whl n w t b ih =>
    refine .o rfl fun c X st g h => ?_
    split at h
    · simp only [Bool.and_eq_true] at h
      exact ps_imp (ps_while g.pas ((soundE t).t c X _ g.g h.1) (ih.blk c X _ g h.2)) fun D σ H q => tS_while q
    · cases h
  | ret e =>
    refine .o rfl fun c X st g h => ?_
    split at h
    · rw [Bool.and_eq_true] at h
      exact ps_imp (ps_ret ((soundE e).e c X _ g.g h.2)) fun D σ H q => tS_ret (no_of h.1) q
    · split at h
      · exact ps_imp ps_retN fun D σ H q => tS_retN q
      · cases h
    · cases h
  | brk =>
    refine .o rfl fun c X st g h => ?_
    split at h
    · exact ps_imp ps_break fun D σ H q => tS_brk q
    · cases h
  | cnt =>
    refine .o rfl fun c X st g h => ?_
    split at h
    · exact ps_imp ps_continue fun D σ H q => tS_cnt q
    · cases h
  | rais k es =>
    refine .o rfl fun c X st g h => ?_
    split at h
    · refine ps_imp ps_never fun D σ H q => ?_
      obtain ⟨O0, C, H0, O, ρ, m, f, m', b, s, ev, q⟩ := q
      obtain ⟨_, _, _, e⟩ := bind_eq_ok (show (evE φ es ρ m).bind (fun r m => Out.exc k (argsOf r) m) = .ok f m' from ev)
      cases e
    · cases h
  | _ => exact .o rfl fun c X st g h => absurd (show false = true from h) (by decide)
end
end Ev

set_option maxHeartbeats 4000000
namespace Ev
open PySem PySem.Spec PyProof.Rows L2
structure Ent where
  id : Nat
  d : He.DefD
  ps : List Str
  N : List Str
  body : S
def cellsC (sc : Scope) : List Str := (sc.names.filter fun y => y.2 == .cell).map (·.1)
def fnScB (N P : List Str) (sc : Scope) : Bool := decide (sc.kind = .function) && !sc.isCoroutine && !sc.isGenerator && decide N.Nodup && decide (N.take P.length = P) && P.all (fun x => decide (sc.names.lookup x = some .local) || decide (sc.names.lookup x = some .cell)) && sc.names.all fun y => decide (y.2 ≠ .free)
theorem fnScB_ok {N P : List Str} {sc : Scope} (h : fnScB N P sc = true) : FnScope N P sc := by
  unfold fnScB at h
  simp only [Bool.and_eq_true, decide_eq_true_eq, Bool.not_eq_true'] at h
  obtain ⟨⟨⟨⟨⟨⟨h1, h2⟩, h3⟩, h4⟩, h5⟩, h6⟩, h7⟩ := h
  refine ⟨h1, h2, h3, h4, h5, fun x hx => ?_, fun y hy => ?_⟩
  · have := List.all_eq_true.mp h6 x hx
    simp only [Bool.or_eq_true, decide_eq_true_eq] at this
    exact this
  · exact of_decide_eq_true (List.all_eq_true.mp h7 y hy)
def fnsOf (es : List Ent) : List (Str × Nat × Nat) := es.map fun e => (e.d.at_.1, e.id, e.ps.length)
theorem fnsOf_get : ∀ (es : List Ent) (x : Str) (f n : Nat), (fnsOf es).lookup x = some (f, n) → ∃ e ∈ es, f = e.id ∧ e.d.at_.1 = x ∧ e.ps.length = n
  | [], _, _, _, h => by cases h
  | e :: r, x, f, n, h => by
    have h : ((e.d.at_.1, e.id, e.ps.length) :: fnsOf r).lookup x = some (f, n) := h
    rw [List.lookup_cons] at h
    cases q : x == e.d.at_.1 with
    | true =>
      rw [q] at h
      cases h
      exact ⟨e, List.mem_cons_self, rfl, (eq_of_beq q).symm, rfl⟩
    | false =>
      rw [q] at h
      obtain ⟨e', h1, h2, h3, h4⟩ := fnsOf_get r x f n h
      exact ⟨e', List.mem_cons_of_mem _ h1, h2, h3, h4⟩
def tabOf (es : List Ent) : Tab := fun i => (es.find? fun e => e.id == i).map fun e => ⟨e.d.name, e.ps, e.N, e.body⟩
theorem tab_get : ∀ {es : List Ent} {e : Ent}, (es.map (·.id)).Nodup → e ∈ es → tabOf es e.id = some ⟨e.d.name, e.ps, e.N, e.body⟩
  | [], e, _, h => by cases h
  | a :: r, e, nd, h => by
    rw [List.map_cons, List.nodup_cons] at nd
    rcases List.mem_cons.mp h with rfl | h
    · unfold tabOf
      rw [List.find?_cons_of_pos (p := fun x : Ent => x.id == e.id) (by simp)]
      rfl
    · have ne : ¬ (a.id == e.id) = true := fun q => nd.1 (by rw [eq_of_beq q]; exact List.mem_map_of_mem h)
      unfold tabOf
      rw [List.find?_cons_of_neg (p := fun x : Ent => x.id == e.id) ne]
      exact tab_get nd.2 h
/-- names: not bound by the module; ints; gcd -/
structure Nms where
  blt : List Str
  cns : List (Str × Int)
  gcds : List Str
def gcOf (n : Nms) (es : List Ent) : Gc := ⟨n.blt, fnsOf es, n.cns, n.gcds⟩
def entB (G : Gc) (e : Ent) : Bool := fnScB e.N e.ps e.d.scope && (chkS G e.body).blk ⟨e.N, e.d.scope, cellsC e.d.scope⟩ e.d.body
section
variable {K : Frag} {O C O0 : List Addr} {H H0 : Hp} {m : Mem} {ρ : Env} {σ : SSt}
theorem StOk.back (s : StOk K O0 C H0 O H m ρ σ) (b : Bs O0 C H0) : MemOk K O0 C H m :=
  have hO : ∀ a, Alv H a → a ∉ O → a ∉ O0 := fun a _ n q => n (s.sub a q)
  ⟨s.M.len, fun n a d e1 e2 => (s.M.at_ n a d e1 e2).move2 (Z := []) (by simp) Keep.refl hO (fun _ _ e => e) (by simp), b.c, s.M.nd, fun a q => s.M.al a (s.sub a q)⟩
theorem startE_get {n i : Nat} {ds : List D} {x : Sl} (h : (startE n ds)[i]? = some (some x)) : ∃ d, ds[i]? = some d ∧ x = .val d := by
  unfold startE at h
  by_cases hi : i < ds.length
  · rw [List.getElem?_append_left (by simpa using hi)] at h
    rw [List.getElem?_map] at h
    cases q : ds[i]? with
    | none => rw [q] at h; cases h
    | some d => rw [q] at h; cases h; exact ⟨d, rfl, rfl⟩
  · rw [List.getElem?_append_right (by simpa using hi)] at h
    have := List.mem_of_getElem? h
    rw [List.mem_replicate] at this
    cases this.2
theorem EnvOk.start {N : List Str} {ds : List D} {vs : List V} (r : RpAll K O C H ds vs) (hn : ds.length ≤ N.length) : EnvOk K O C H (startE N.length ds) (L2.start N vs) := by
  have hl := r.length
  refine ⟨by unfold startE L2.start; simp; omega, fun i d e => ?_, fun i d e => ?_, fun i j d e a ne e1 => ?_⟩
  · obtain ⟨d', h1, h2⟩ := startE_get e
    cases h2
    obtain ⟨v, h3, h4⟩ := r.get h1
    refine ⟨v, ?_, h4⟩
    have : i < vs.length := (List.getElem?_eq_some_iff.mp h3).1
    unfold L2.start
    rw [List.getElem?_append_left (by simpa using this), List.getElem?_map, h3]
    rfl
  · obtain ⟨d', h1, h2⟩ := startE_get e
    cases h2
  · obtain ⟨d', h1, h2⟩ := startE_get e1
    cases h2
end
section
variable {P : Program} {w : World} {K : Frag} {mg : Str → Option Value} {base : Heap} {es : List Ent} {blt : Nms}
/-- what the head tells of the functions -/
structure Says (K : Frag) (mg : Str → Option Value) (es : List Ent) (blt : Nms) : Prop where
  nd : (es.map (·.id)).Nodup
  fn : ∀ e ∈ es, (∃ fd, FunD K e.d.name e.d.qual e.d.params e.d.body e.d.scope [] [] (He.fAd K e.d.at_) fd ∧ Binds K fd e.ps []) ∧ mg e.d.at_.1 = some (.ref (He.fAd K e.d.at_))
  ok : ∀ e ∈ es, entB (gcOf blt es) e = true
  free : ∀ x, blt.blt.contains x = true → mg x = none
  cns : ∀ x i, blt.cns.lookup x = some i → ∃ t, mg x = some (.int i t)
  gcds : ∀ x, blt.gcds.contains x = true → mg x = some (.builtin "math.gcd")
theorem cx_xs (Y : Says K mg es blt) {k : Nat} (ih : ∀ e fd, e ∈ es → FunD K e.d.name e.d.qual e.d.params e.d.body e.d.scope [] [] (He.fAd K e.d.at_) fd → FnOk P w K mg base CX0 k (He.fAd K e.d.at_) fd e.ps (spF K (callK (tabOf es) k) e.ps.length e.id))
    {N ps : List Str} {sc : Scope} (S : FnScope N ps sc) {qual : Str} {f : Addr} {cd : Value} {A : Around} {outer : List PySem.Env} {s : Shared} {H : Hp} {E : XK} (hr : Room k (A.deeper (envOfC qual sc s.heap.objs.size f cd))) :
    XS (gcOf blt es) (callK (tabOf es) k) ⟨N, sc, cellsC sc⟩ (cxOf CX0 P w K mg base N qual sc f cd A outer s H E) := by
  refine ⟨⟨rfl, S.nd, rfl, rfl, fun _ _ => rfl, Y.free, ?_, Y.cns, Y.gcds, fun x f n hl => ?_⟩, S.kind, passes_of rfl⟩
  · have := hr.un
    show (A.deeper (envOfC qual sc s.heap.objs.size f cd)).units + 80 < cLine
    omega
  · obtain ⟨e, h1, h2, h3, h4⟩ := fnsOf_get es x f n hl
    obtain ⟨⟨fd, F, B⟩, hm⟩ := Y.fn e h1
    refine ⟨k, _, fd, e.ps, ?_, hr, ?_, F.kp, B⟩
    · have := ih e fd h1 F
      rw [h2, ← h4]
      exact this
    · rw [← h3]; exact hm
theorem all_ok (Y : Says K mg es blt) : ∀ (k : Nat) e fd, e ∈ es → FunD K e.d.name e.d.qual e.d.params e.d.body e.d.scope [] [] (He.fAd K e.d.at_) fd → FnOk P w K mg base CX0 k (He.fAd K e.d.at_) fd e.ps (spF K (callK (tabOf es) k) e.ps.length e.id)
  | 0, e, fd, he, F => ⟨fun vs H Q E h => h.1, fun A outer s H args us vs Q E _ _ _ _ h => by
      obtain ⟨_, O, C, m, ds, r, m', _, _, hh, _⟩ := h
      cases hh⟩
  | k + 1, e, fd, he, F => by
    have hB := Y.ok e he
    unfold entB at hB
    rw [Bool.and_eq_true] at hB
    have S := fnScB_ok hB.1
    refine F.ok S (fun vs H Q E h => h.1) fun cdv A outer s H vs Q E hr h => ?_
    have X := cx_xs (P := P) (w := w) (base := base) Y (all_ok Y k) S (qual := e.d.qual) (f := He.fAd K e.d.at_) (cd := cdv) (A := A) (outer := outer) (s := s) (H := H) (E := E) hr
    refine ⟨_, (soundS e.body).blk _ _ _ X hB.2, ?_⟩
    obtain ⟨hl, O, C, m, ds, r, m', M, R, hf, q⟩ := h
    have hlen := R.length
    have hf : (match tabOf es e.id with
      | some fn => if ds.length = fn.ps.length then fin m (evS (callK (tabOf es) k) fn.body (startE fn.N.length ds) m) else .no
      | none => .no) = .ok r m' := hf
    have ht : tabOf es e.id = some ⟨e.d.name, e.ps, e.N, e.body⟩ := tab_get Y.nd he
    rw [ht] at hf
    dsimp only at hf
    split at hf
    case isFalse => cases hf
    rename_i hdl
    have hN : ds.length ≤ e.N.length := by
      have := congrArg List.length S.pre
      rw [List.length_take] at this
      omega
    have En := EnvOk.start (N := e.N) R hN
    have b : Bs O C H := ⟨M.sub, M.al⟩
    have st : StOk K O C H O H m (startE e.N.length ds) (L2.start e.N vs) := ⟨M, En, Keep.refl, fun _ q => q, fun j d a e1 _ => by
      obtain ⟨_, _, z⟩ := startE_get e1
      cases z⟩
    cases ho : evS (callK (tabOf es) k) e.body (startE e.N.length ds) m with
    | no => rw [ho] at hf; cases hf
    | exc c l m1 => rw [ho] at hf; cases hf
    | ok f m1 =>
      rw [ho] at hf
      have fit : ∀ {d r m'}, finD m m1 d = .ok r m' → ∀ H', MemOk K O C H' m1 → r = d ∧ m' = m1 := by
        intro d r m' hd H' M1
        have hm : m1.length = m.length := by rw [M1.len, M.len]
        unfold finD at hd
        rw [if_pos hm] at hd
        cases hd
        exact ⟨rfl, rfl⟩
      refine ⟨O, C, H, O, _, m, f, m1, b, st, ho, ?_⟩
      cases f with
      | rt d =>
        intro v H' k' M1 rp
        obtain ⟨rfl, rfl⟩ := fit hf H' M1
        exact q v H' k' M1 rp
      | nx ρ' =>
        intro O' σ' H' s' t'
        have M1 := s'.back b
        obtain ⟨rfl, rfl⟩ := fit hf H' M1
        exact q .non H' s'.kp M1 .non
      | bk ρ' => cases hf
      | ct ρ' => cases hf
def intsD (ns : List Int) : D := .lst (ns.map .int)
def rowE (seed : Int) : E := .lst (.cons (.slot 0) (.cons (.cst (.int 0)) (.cons (.cst (.int seed)) (.cons (.cst (.int 0)) .nil))))
def rowD (ns : List Int) (seed : Int) : D := .lst [intsD ns, .int 0, .int seed, .int 0]
def envL (n : Nat) (ns : List Int) : Env := some (.val (intsD ns)) :: some (.val (.ref 0)) :: List.replicate n none
structure LawEnt where
  d : He.DefD
  N : List Str
  seed : Int
  body : S
def lawB (G : Gc) (l : LawEnt) : Bool := fnScB l.N (l.N.take 1) l.d.scope && decide (2 ≤ l.N.length) && (match l.d.body with
  | .Assign [.Name x p] v _ :: rest => nameOk G ⟨l.N, l.d.scope, cellsC l.d.scope⟩ 1 x p (rowE l.seed) v && (chkS G l.body).blk ⟨l.N, l.d.scope, cellsC l.d.scope⟩ rest
  | _ => false)
def spLaw (K : Frag) : Sp := fun vs H Q _ => ∃ (a : Addr) (ns : List Int), vs = [.ref a] ∧ ns.length ≤ 63 ∧ SqL K H a (ns.map V.int) ∧ ∀ H', Q (.bl true) H'
theorem RpAll.ofInts {O C : List Addr} {H : Hp} : ∀ ns : List Int, RpAll K O C H (ns.map D.int) (ns.map V.int)
  | [] => .nil
  | n :: r => .cons (.int n) (RpAll.ofInts r)
theorem law_ok (Y : Says K mg es blt) {l : LawEnt} {fd : FuncData} {f : Addr} (F : FunD K l.d.name l.d.qual l.d.params l.d.body l.d.scope [] [] f fd) (hB : lawB (gcOf blt es) l = true) (k : Nat)
    (law : ∀ ns : List Int, ns.length ≤ 63 → ∃ m', evS (callK (tabOf es) k) l.body (envL (l.N.length - 2) ns) [rowD ns l.seed] = .ok (.rt (.bl true)) m') :
    FnOk P w K mg base CX0 (k + 1) f fd (l.N.take 1) (spLaw K) := by
  unfold lawB at hB
  simp only [Bool.and_eq_true, decide_eq_true_eq] at hB
  obtain ⟨⟨h1, h2⟩, h3⟩ := hB
  have S := fnScB_ok h1
  have l1 : (l.N.take 1).length = 1 := by rw [List.length_take]; omega
  refine F.ok S (fun vs H Q E h => by obtain ⟨a, ns, rfl, _⟩ := h; rw [l1]; rfl) fun cdv A outer s H vs Q E hr h => ?_
  have X := cx_xs (P := P) (w := w) (base := base) Y (all_ok Y k) S (qual := l.d.qual) (f := f) (cd := cdv) (A := A) (outer := outer) (s := s) (H := H) (E := E) hr
  split at h3
  case h_2 => cases h3
  rename_i x p v pos rest hb
  rw [Bool.and_eq_true] at h3
  rw [hb]
  refine ⟨_, pss_cons (ps_name X h3.1) ((soundS l.body).blk _ _ _ X h3.2), ?_⟩
  obtain ⟨a, ns, rfl, hz, hS, hq⟩ := h
  have lim : (ns.map V.int).length ≤ sizeLine := by rw [List.length_map, sizeLine_eq]; omega
  have rp : Rp K [] [] H (intsD ns) (.ref a) := by
    refine .lst ?_ lim (RpAll.ofInts ns)
    rcases hS with h | h
    · exact .inl ⟨h, by simp⟩
    · exact .inr (.inr h)
  have M0 : MemOk K [] [] H [] := ⟨rfl, fun n a d e => by simp at e, by simp, List.nodup_nil, by simp⟩
  have En0 : EnvOk K [] [] H (startE l.N.length [intsD ns]) (L2.start l.N [.ref a]) := EnvOk.start (.cons rp .nil) (by show 1 ≤ _; omega)
  have hst : startE l.N.length [intsD ns] = some (.val (intsD ns)) :: List.replicate (l.N.length - 1) none := rfl
  obtain ⟨m', ev⟩ := law ns hz
  refine ⟨[], [], _, [], rowD ns l.seed, [], M0, En0, ?_, fun v H1 k1 M1 R1 F1 => ?_⟩
  · rw [hst]; rfl
  obtain ⟨p', xs, rfl, hp, e2, z, r⟩ := R1
  have ne : ∀ b, Alv H b → b ∉ ([] : List Addr) → b ∉ [p'] := fun b ⟨o, e⟩ _ => by
    simp only [List.mem_singleton]
    exact ne_of_none e hp
  have r2 : RpAll K [p'] [p'] H1 [intsD ns, .int 0, .int l.seed, .int 0] xs := r.move (Z := []) (by simp) Keep.refl (fun _ q => q) (by simp)
  have rp2 : Rp K [p'] [p'] H1 (intsD ns) (.ref a) := rp.move2 (Z := []) (by simp) k1 ne (by simp)
  have M2 : MemOk K [p'] [p'] H1 [rowD ns l.seed] := by
    refine ⟨rfl, fun n b d e1 e2' => ?_, fun _ q => q, by simp, fun b q => ?_⟩
    · cases n with
      | zero => cases e1; cases e2'; exact ⟨xs, e2, z, r2⟩
      | succ n => simp at e1
    · simp only [List.mem_singleton] at q
      subst q
      exact ⟨_, e2⟩
  have rp1 : Rp K [p'] [p'] H1 (.ref 0) (.ref p') := .ref rfl
  have hN : l.N.length = 2 + (l.N.length - 2) := by omega
  have En2 : EnvOk K [p'] [p'] H1 (envL (l.N.length - 2) ns) ((L2.start l.N [.ref a]).set 1 (some (.ref p'))) := by
    have e1 : (L2.start l.N [.ref a]).set 1 (some (V.ref p')) = some (V.ref a) :: some (V.ref p') :: List.replicate (l.N.length - 2) none := by
      unfold L2.start
      show some (V.ref a) :: (List.replicate (l.N.length - 1) none).set 0 (some (V.ref p')) = _
      have : l.N.length - 1 = (l.N.length - 2) + 1 := by omega
      rw [this, List.replicate_succ]
      rfl
    rw [e1]
    have gt : ∀ (i : Nat) (x : Sl), (envL (l.N.length - 2) ns)[i]? = some (some x) → (i = 0 ∧ x = .val (intsD ns)) ∨ (i = 1 ∧ x = .val (.ref 0)) := by
      intro i x h
      match i, h with
      | 0, h => cases h; exact .inl ⟨rfl, rfl⟩
      | 1, h => cases h; exact .inr ⟨rfl, rfl⟩
      | i + 2, h =>
        have h : (List.replicate (l.N.length - 2) (none : Option Sl))[i]? = some (some x) := h
        have := List.mem_of_getElem? h
        rw [List.mem_replicate] at this
        cases this.2
    refine ⟨by simp [envL], fun i d e => ?_, fun i d e => ?_, fun i j d e b ne e1 => ?_⟩
    · rcases gt i _ e with ⟨rfl, q⟩ | ⟨rfl, q⟩
      · cases q; exact ⟨_, rfl, rp2⟩
      · cases q; exact ⟨_, rfl, rp1⟩
    · rcases gt i _ e with ⟨rfl, q⟩ | ⟨rfl, q⟩ <;> cases q
    · rcases gt i _ e1 with ⟨rfl, q⟩ | ⟨rfl, q⟩ <;> cases q
  have b2 : Bs [p'] [p'] H1 := ⟨fun _ q => q, M2.al⟩
  refine ⟨[p'], [p'], H1, [p'], _, _, _, m', b2, ⟨M2, En2, Keep.refl, fun _ q => q, fun j d b e1 _ => ?_⟩, ev, fun v H2 k2 M3 rv => ?_⟩
  · obtain ⟨b', q1, _⟩ := En2.own j d e1
    match j, e1 with
    | 0, e1 => cases e1
    | 1, e1 => cases e1
    | j + 2, e1 =>
      have e1 : (List.replicate (l.N.length - 2) (none : Option Sl))[j]? = some (some (.own d)) := e1
      have := List.mem_of_getElem? e1
      rw [List.mem_replicate] at this
      cases this.2
  · cases rv
    exact hq H2
end
end Ev

set_option maxHeartbeats 4000000
namespace Ev
open PySem PySem.Spec PyProof.Rows L2
def gcdB (K : Frag) (gs : List Str) : Bool := gs.all fun x => He.eqO (PySem.W.nsIn K mainGlobals x) (some (some (.builtin "math.gcd")))
def obsH (gs : List Str) (fa : List He.Fa) (fn : List He.DefD) (K : Frag) : He.AlD := (gcdB K gs && (He.obsD fa fn K).1, (He.obsD fa fn K).2)
def obsHG (n : Nat) (gs : List Str) (fa : List He.Fa) (fn : List He.DefD) (g : Addr → Option Obj) : He.AlD := obsH gs fa fn (He.frG g (He.asD g n))
def SaysH (gs : List Str) (fa : List He.Fa) (fn : List He.DefD) (K : Frag) : Prop := obsH gs fa fn K = He.valD fn
def hookH (n : Nat) (gs : List Str) (fa : List He.Fa) (fn : List He.DefD) : PySem.W.Hook where
  α := He.AlD
  obs := fun s => obsHG n gs fa fn s.heap.get?
  val := fun _ => He.valD fn
  says := fun _ h => ∃ K : Frag, K.In h ∧ SaysH gs fa fn K
  of := fun _ _ e => ⟨_, He.frG_in, e⟩
  keeps := fun _ _ _ x k => let ⟨K, hK, c⟩ := x; ⟨K, PySem.W.Frag.In.keeps hK k, c⟩
theorem obsHG_eq {n : Nat} {gs : List Str} {fa : List He.Fa} {fn : List He.DefD} {g : Addr → Option Obj} {s : Shared} (h : ∀ a, g a = s.heap.get? a) : obsHG n gs fa fn g = (hookH n gs fa fn).obs s := by
  obtain rfl : g = s.heap.get? := funext h
  rfl
theorem SaysH.parts {gs : List Str} {fa : List He.Fa} {fn : List He.DefD} {K : Frag} (c : SaysH gs fa fn K) : gcdB K gs = true ∧ He.SaysD fa fn K := by
  have c1 : (obsH gs fa fn K).1 = true := congrArg (fun z : He.AlD => z.1) c
  have c1 : (gcdB K gs && (He.obsD fa fn K).1) = true := c1
  have c2 : (obsH gs fa fn K).2 = (He.valD fn).2 := congrArg (fun z : He.AlD => z.2) c
  rw [Bool.and_eq_true] at c1
  exact ⟨c1.1, Prod.ext c1.2 c2⟩
/-- the values go to the parameters -/
def BindB (d : He.DefD) (ps : List Str) : Prop := ∀ (kV doc pm : Value) (an : Option Addr) (cdv ct : Value) (us : List Value), us.length = ps.length → bindArgs (PySem.W.fnOf d.name d.qual d.params d.body d.scope .none kV doc pm an cdv ct) ⟨us, []⟩ = pure (ps.zip us)
def plainD (d : He.DefD) : Bool := d.dfl.isEmpty && d.kwd.isEmpty && d.at_.2.isNone
def faOf (n : Nms) (es : List Ent) (l : LawEnt) : List He.Fa := .glo l.d.at_.1 :: es.map (fun e => He.Fa.glo e.d.at_.1) ++ (n.blt.map He.Fa.free ++ n.cns.map fun p => He.Fa.int p.1 p.2)
def fnOfE (es : List Ent) (l : LawEnt) : List He.DefD := es.map (·.d) ++ [l.d]
section
variable {K : Frag} {h : Heap} {mg : Str → Option Value} {n : Nms} {es : List Ent} {l : LawEnt}
theorem fact_mem {fa : List He.Fa} {fn : List He.DefD} (c : He.SaysD fa fn K) {f : He.Fa} (hf : f ∈ fa) : f.ok K = true := by
  obtain ⟨i, hi⟩ := List.mem_iff_getElem?.mp hf
  exact c.fact i hi
theorem def_plain {fa : List He.Fa} {fn : List He.DefD} (c : He.SaysD fa fn K) {d : He.DefD} (hd : d ∈ fn) (hp : plainD d = true) : ∃ fd, FunD K d.name d.qual d.params d.body d.scope [] [] (He.fAd K d.at_) fd := by
  obtain ⟨i, hi⟩ := List.mem_iff_getElem?.mp hd
  obtain ⟨fd, F⟩ := c.def_ i hi
  unfold plainD at hp
  simp only [Bool.and_eq_true, List.isEmpty_iff] at hp
  have e1 : d.dvs K = [] := by unfold He.DefD.dvs; rw [hp.1.1]; rfl
  have e2 : d.kws K = [] := by unfold He.DefD.kws; rw [hp.1.2]; rfl
  rw [e1, e2] at F
  exact ⟨fd, F⟩
theorem at_ga {d : He.DefD} (hp : plainD d = true) : He.fAd K d.at_ = He.ga K d.at_.1 := by
  unfold plainD at hp
  simp only [Bool.and_eq_true, Option.isNone_iff_eq_none] at hp
  unfold He.fAd
  rw [hp.2]
theorem lookup_mem {α : Type} {x : Str} {v : α} : ∀ {l : List (Str × α)}, l.lookup x = some v → (x, v) ∈ l
  | [], h => by cases h
  | (y, w) :: r, h => by
    rw [List.lookup_cons] at h
    cases q : x == y with
    | true =>
      rw [q] at h
      cases h
      rw [eq_of_beq q]
      exact List.mem_cons_self
    | false =>
      rw [q] at h
      exact List.mem_cons_of_mem _ (lookup_mem h)
theorem says_of (X : K.In h) (G : h.Ns mainGlobals mg) (c : SaysH n.gcds (faOf n es l) (fnOfE es l) K) (hb : ∀ e ∈ es, BindB e.d e.ps) (hd : es.all (fun e => plainD e.d) = true) (hok : es.all (entB (gcOf n es)) = true) (hnd : (es.map (·.id)).Nodup) : Says K mg es n := by
  obtain ⟨cg, cd⟩ := c.parts
  refine ⟨hnd, fun e he => ?_, fun e he => List.all_eq_true.mp hok e he, fun x hx => ?_, fun x i hx => ?_, fun x hx => ?_⟩
  · have hm := he
    have hp := List.all_eq_true.mp hd e hm
    obtain ⟨fd, F⟩ := def_plain cd (d := e.d) (by unfold fnOfE; exact List.mem_append_left _ (List.mem_map_of_mem hm)) hp
    refine ⟨⟨fd, F, F.bindsN (hb e hm)⟩, ?_⟩
    rw [at_ga hp]
    exact He.glo_ok X G (fact_mem cd (by unfold faOf; exact List.mem_append_left _ (List.mem_cons_of_mem _ (List.mem_map_of_mem hm))))
  · rw [List.contains_iff_mem] at hx
    exact He.free_ok X G (fact_mem cd (by unfold faOf; exact List.mem_append_right _ (List.mem_append_left _ (List.mem_map_of_mem hx))))
  · have hm := lookup_mem hx
    exact He.int_ok X G (fact_mem cd (f := .int x i) (by unfold faOf; exact List.mem_append_right _ (List.mem_append_right _ (List.mem_map.mpr ⟨(x, i), hm, rfl⟩))))
  · rw [List.contains_iff_mem] at hx
    exact PySem.W.mg_of X G (He.eqO_ok (List.all_eq_true.mp cg x hx))
theorem law_facts {P : Program} {w : World} {fL : Addr} (X : K.In h) (G : h.Ns mainGlobals mg) (hfa : mg l.d.at_.1 = some (.ref fL)) (c : SaysH n.gcds (faOf n es l) (fnOfE es l) K) (hb : ∀ e ∈ es, BindB e.d e.ps) (hd : es.all (fun e => plainD e.d) = true) (hok : es.all (entB (gcOf n es)) = true) (hnd : (es.map (·.id)).Nodup)
    (hl : plainD l.d = true) (hlb : lawB (gcOf n es) l = true) (hbl : BindB l.d (l.N.take 1)) {x : Str} (hx : l.N.take 1 = [x]) (k : Nat)
    (law : ∀ ns : List Int, ns.length ≤ 63 → ∃ m', evS (callK (tabOf es) k) l.body (envL (l.N.length - 2) ns) [rowD ns l.seed] = .ok (.rt (.bl true)) m') :
    ∃ fd : FuncData, (∀ (s : Shared) (v : Value), BindsTo s fd ⟨[v], []⟩ [(x, v)]) ∧ ∀ base : Heap, FnOk P w K mg base CX0 (k + 1) fL fd [x] (spLaw K) := by
  obtain ⟨cg, cd⟩ := c.parts
  obtain ⟨fd, F⟩ := def_plain cd (d := l.d) (by unfold fnOfE; simp) hl
  have e := hfa.symm.trans (He.glo_ok X G (fact_mem cd (f := .glo l.d.at_.1) (by unfold faOf; exact List.mem_append_left _ List.mem_cons_self)))
  cases e
  rw [at_ga hl] at F
  rw [hx] at hbl
  have b := FunD.bindsA (ps := [x]) F hbl
  have S := says_of (l := l) X G c hb hd hok hnd
  refine ⟨fd, fun s v => b s [v] rfl, fun base => ?_⟩
  have r := law_ok (P := P) (w := w) (base := base) S F hlb k law
  rw [hx] at r
  exact r
end
end Ev

set_option maxHeartbeats 4000000
namespace Ev
/-- what the first gives without cells, the second gives with any -/
def Up {α β : Type} (R : α → β → Prop) (o : Out α) (o' : Mem → Out β) : Prop := ∀ a m1, o = .ok a m1 → m1 = [] ∧ ∀ m, ∃ a', o' m = .ok a' m ∧ R a a'
section
variable {α β γ δ : Type} {R : α → β → Prop} {Q : γ → δ → Prop}
theorem Up.bind {o : Out α} {o' : Mem → Out β} {f : α → Mem → Out γ} {f' : β → Mem → Out δ} (h : Up R o o') (g : ∀ a a', R a a' → Up Q (f a []) (f' a')) : Up Q (o.bind f) (fun m => (o' m).bind f') := by
  intro c m1 e
  obtain ⟨a, m2, e1, e2⟩ := bind_eq_ok e
  obtain ⟨rfl, h1⟩ := h a m2 e1
  obtain ⟨a0, _, r0⟩ := h1 []
  have m0 := (g a a0 r0 c m1 e2).1
  refine ⟨m0, fun m => ?_⟩
  obtain ⟨a', e3, r⟩ := h1 m
  obtain ⟨c', e4, q⟩ := (g a a' r c m1 e2).2 m
  refine ⟨c', ?_, q⟩
  show (o' m).bind f' = _
  rw [e3]; exact e4
theorem Up.ok {a : α} {b : β} (h : R a b) : Up R (.ok a []) (fun m => .ok b m) := fun c m1 e => by cases e; exact ⟨rfl, fun m => ⟨b, rfl, h⟩⟩
theorem Up.no {o' : Mem → Out β} : Up R (.no : Out α) o' := fun c m1 e => by cases e
theorem Up.exc {c : Nat} {l : List D} {m : Mem} {o' : Mem → Out β} : Up R (.exc c l m : Out α) o' := fun c m1 e => by cases e
theorem Up.of {x : Option α} : Up Eq (Out.of [] x) (fun m => Out.of m x) := by
  cases x with
  | none => exact .no
  | some a => exact .ok rfl
end
def Pure (φ φ' : Phi) : Prop := ∀ f ds, Up Eq (φ f ds []) (φ' f ds)
structure Le (ρ ρ' : Env) : Prop where
  len : ρ.length = ρ'.length
  at_ : ∀ (i : Nat) x, ρ[i]? = some (some x) → ρ'[i]? = some (some x)
theorem Le.refl {ρ : Env} : Le ρ ρ := ⟨rfl, fun _ _ h => h⟩
theorem Le.trans {ρ ρ1 ρ2 : Env} (a : Le ρ ρ1) (b : Le ρ1 ρ2) : Le ρ ρ2 := ⟨a.len.trans b.len, fun i x h => b.at_ i x (a.at_ i x h)⟩
theorem Le.set {ρ ρ' : Env} (h : Le ρ ρ') (i : Nat) (x : Option Sl) : Le (setE ρ i x) (setE ρ' i x) := by
  refine ⟨by simp [setE, h.len], fun j y e => ?_⟩
  unfold setE at e ⊢
  by_cases hj : i = j
  · subst hj
    by_cases hl : i < ρ.length
    · rw [List.getElem?_set_self hl] at e
      rw [List.getElem?_set_self (by rw [← h.len]; exact hl)]
      exact e
    · rw [List.getElem?_eq_none (by simpa using hl)] at e; cases e
  · rw [List.getElem?_set_ne hj] at e ⊢
    exact h.at_ j y e
theorem Le.wipe {ρ ρ' : Env} (h : Le ρ ρ') : ∀ vs : List Nat, Le (wipeE ρ vs) (wipeE ρ' vs)
  | [] => h
  | v :: vs => (h.wipe vs).set v none
theorem Le.put : ∀ (t : T) (d : D) {ρ ρ' ρ1 : Env}, Le ρ ρ' → putT t d ρ = some ρ1 → ∃ ρ1', putT t d ρ' = some ρ1' ∧ Le ρ1 ρ1'
  | .name i, d, ρ, ρ', ρ1, h, e => by
    have e : (if i < ρ.length then some (setE ρ i (some (.val d))) else none) = some ρ1 := e
    split at e
    · rename_i hl
      cases e
      refine ⟨_, ?_, h.set i _⟩
      show (if i < ρ'.length then _ else _) = _
      rw [if_pos (by rw [← h.len]; exact hl)]
    · cases e
  | .tup ts, d, ρ, ρ', ρ1, h, e => by
    cases d with
    | tup l => exact Le.put ts (.tup l) h e
    | _ => cases e
  | .nil, d, ρ, ρ', ρ1, h, e => by
    cases d with
    | tup l =>
      cases l with
      | nil => cases e; exact ⟨ρ', rfl, h⟩
      | cons => cases e
    | _ => cases e
  | .cons t ts, d, ρ, ρ', ρ1, h, e => by
    cases d with
    | tup l =>
      cases l with
      | nil => cases e
      | cons x r =>
        obtain ⟨ρ2, e1, e2⟩ := Option.bind_eq_some_iff.mp (show (putT t x ρ).bind (fun ρ1 => putT ts (.tup r) ρ1) = some ρ1 from e)
        obtain ⟨ρ2', f1, h2⟩ := Le.put t x h e1
        obtain ⟨ρ3', f2, h3⟩ := Le.put ts (.tup r) h2 e2
        refine ⟨ρ3', ?_, h3⟩
        show (putT t x ρ').bind (fun ρ1 => putT ts (.tup r) ρ1) = _
        rw [f1]; exact f2
    | _ => cases e
theorem Le.putU {t : T} {d : D} {ρ ρ' : Env} (h : Le ρ ρ') : Up Le (Out.of [] (putT t d ρ)) (fun m => Out.of m (putT t d ρ')) := by
  intro a m1 e
  obtain ⟨e1, rfl⟩ := of_eq_ok e
  obtain ⟨ρ1', f, h1⟩ := h.put t d e1
  exact ⟨rfl, fun m => ⟨ρ1', by rw [f]; rfl, h1⟩⟩
theorem compL_up {g : D → Mem → Out (Option D)} {g' : D → Mem → Out (Option D)} (h : ∀ x, Up Eq (g x []) (g' x)) : ∀ (l acc : List D), Up Eq (compL g l acc []) (compL g' l acc)
  | [], acc => .ok rfl
  | x :: r, acc => Up.bind (h x) fun a a' e => by
    subst e
    cases a with
    | some y => exact compL_up h r (acc ++ [y])
    | none => exact compL_up h r acc
theorem dcompL_up {g : D → Mem → Out (Option (D × D))} {g' : D → Mem → Out (Option (D × D))} (h : ∀ x, Up Eq (g x []) (g' x)) : ∀ (l acc : List D), Up Eq (dcompL g l acc []) (dcompL g' l acc)
  | [], acc => .ok rfl
  | x :: r, acc => Up.bind (h x) fun a a' e => by
    subst e
    cases a with
    | some y =>
      obtain ⟨k, v⟩ := y
      show Up Eq (if isKeyD k = true then _ else _) fun m => if isKeyD k = true then _ else _
      split
      · exact dcompL_up h r _
      · exact .no
    | none => exact dcompL_up h r acc
theorem up_tru {α β : Type} {R : α → β → Prop} {x : D} {a b : Out α} {a' b' : Mem → Out β} (ha : Up R a a') (hb : Up R b b') :
    Up R (match truD x with | some true => a | some false => b | none => .no) (fun m => match truD x with | some true => a' m | some false => b' m | none => .no) := by
  cases truD x with
  | none => exact .no
  | some t => cases t; exact hb; exact ha
theorem evE_up {φ φ' : Phi} (P : Pure φ φ') (e : E) : ∀ {ρ ρ' : Env}, Le ρ ρ' → Up Eq (evE φ e ρ []) (evE φ' e ρ') := by
  induction e with
  | slot i =>
    intro ρ ρ' h
    show Up Eq (match ρ[i]? with | some (some (.val d)) => .ok d [] | _ => .no) fun m => match ρ'[i]? with | some (some (.val d)) => .ok d m | _ => .no
    split
    · rename_i d hd
      rw [h.at_ i _ hd]
      exact .ok rfl
    · exact .no
  | brw i =>
    intro ρ ρ' h
    show Up Eq (match ρ[i]? with | some (some (.own d)) => .ok d [] | _ => .no) fun m => match ρ'[i]? with | some (some (.own d)) => .ok d m | _ => .no
    split
    · rename_i d hd
      rw [h.at_ i _ hd]
      exact .ok rfl
    · exact .no
  | idxc i e ih =>
    intro ρ ρ' h a m1 e1
    have e1 : (match ρ[i]? with | some (some (.val (.ref n))) => (evE φ e ρ []).bind fun y m => (Out.of m m[n]?).bind fun x m => Out.of m (idxD x y) | _ => .no) = .ok a m1 := e1
    split at e1
    · obtain ⟨y, m2, h1, h2⟩ := bind_eq_ok e1
      obtain ⟨rfl, _⟩ := ih h _ _ h1
      simp [Out.bind] at h2
    · cases e1
  | cst d => exact fun h => .ok rfl
  | nil => exact fun h => .ok rfl
  | cons a b iha ihb => exact fun h => (iha h).bind fun x x' e => by subst e; exact (ihb h).bind fun y y' e => by subst e; exact .of
  | tup a ih => exact fun h => ih h
  | lst a ih => exact fun h => (ih h).bind fun x x' e => by subst e; exact .ok rfl
  | dsp a ih => exact fun h => .no
  | bin o a b iha ihb => exact fun h => (iha h).bind fun x x' e => by subst e; exact (ihb h).bind fun y y' e => by subst e; exact .of
  | neg a ih =>
    exact fun h => (ih h).bind fun x x' e => by
      subst e
      cases x with
      | int i => exact .ok rfl
      | _ => exact .no
  | cmp o a b iha ihb => exact fun h => (iha h).bind fun x x' e => by subst e; exact (ihb h).bind fun y y' e => by subst e; exact .of
  | chn o p a b c iha ihb ihc =>
    exact fun h => (iha h).bind fun x x' e => by
      subst e
      exact (ihb h).bind fun y y' e => by
        subst e
        exact Up.of.bind fun r r' e => by
          subst e
          cases r with
          | bl t =>
            cases t
            · exact .ok rfl
            · exact (ihc h).bind fun z z' e => by subst e; exact .of
          | _ => exact .no
  | and a b iha ihb => exact fun h => (iha h).bind fun x x' e => by subst e; exact up_tru (ihb h) (.ok rfl)
  | or a b iha ihb => exact fun h => (iha h).bind fun x x' e => by subst e; exact up_tru (.ok rfl) (ihb h)
  | not a ih =>
    exact fun h => (ih h).bind fun x x' e => by
      subst e
      show Up Eq (match truD x with | some t => Out.ok (D.bl (!t)) [] | none => .no) fun m => match truD x with | some t => Out.ok (D.bl (!t)) m | none => .no
      cases truD x with
      | none => exact .no
      | some t => exact .ok rfl
  | ite c a b ihc iha ihb => exact fun h => (ihc h).bind fun x x' e => by subst e; exact up_tru (iha h) (ihb h)
  | idx a b iha ihb => exact fun h => (iha h).bind fun x x' e => by subst e; exact (ihb h).bind fun y y' e => by subst e; exact .of
  | slc a b c iha ihb ihc => exact fun h => (iha h).bind fun x x' e => by subst e; exact (ihb h).bind fun y y' e => by subst e; exact (ihc h).bind fun z z' e => by subst e; exact .of
  | skipE => exact fun h => .ok rfl
  | rev a ih => exact fun h => (ih h).bind fun x x' e => by subst e; exact .of
  | call f es ih => exact fun h => (ih h).bind fun x x' e => by subst e; exact P f _
  | callv i =>
    intro ρ ρ' h
    show Up Eq (match ρ[i]? with | some (some (.val (.clo f l))) => φ f l [] | _ => .no) fun m => match ρ'[i]? with | some (some (.val (.clo f l))) => φ' f l m | _ => .no
    split
    · rename_i f l hd
      rw [h.at_ i _ hd]
      exact P f l
    · exact .no
  | prim p es ih => exact fun h => (ih h).bind fun x x' e => by subst e; exact .of
  | meth q o es iho ih => exact fun h => (iho h).bind fun x x' e => by subst e; exact (ih h).bind fun y y' e => by subst e; exact .of
  | comp own t k it ifs elt ih0 ih1 ih2 =>
    exact fun h => (ih0 h).bind fun x x' e => by
      subst e
      exact Up.of.bind fun xs xs' e => by
        subst e
        refine compL_up (fun y => ?_) xs []
        intro a m1 e1
        split at e1
        · rename_i ρ1 hρ
          obtain ⟨ρ1', hρ', h1⟩ := (h.wipe own).put t y hρ
          have U : Up Eq ((evE φ ifs ρ1 []).bind fun c m => match truD c with | some true => (evE φ elt ρ1 m).bind fun y m => .ok (some y) m | some false => .ok none m | none => .no)
            (fun m => (evE φ' ifs ρ1' m).bind fun c m => match truD c with | some true => (evE φ' elt ρ1' m).bind fun y m => .ok (some y) m | some false => .ok none m | none => .no) :=
            (ih1 h1).bind fun c c' e => by
              subst e
              exact up_tru ((ih2 h1).bind fun y y' e => by subst e; exact .ok rfl) (.ok rfl)
          obtain ⟨m0, U⟩ := U a m1 e1
          exact ⟨m0, fun m => by rw [hρ']; exact U m⟩
        · cases e1
  | dcomp own t k it ifs key val ih0 ih1 ih2 ih3 =>
    exact fun h => (ih0 h).bind fun x x' e => by
      subst e
      exact Up.of.bind fun xs xs' e => by
        subst e
        refine dcompL_up (fun y => ?_) xs []
        intro a m1 e1
        split at e1
        · rename_i ρ1 hρ
          obtain ⟨ρ1', hρ', h1⟩ := (h.wipe own).put t y hρ
          have U : Up Eq ((evE φ ifs ρ1 []).bind fun c m => match truD c with | some true => (evE φ key ρ1 m).bind fun y m => (evE φ val ρ1 m).bind fun z m => .ok (some (y, z)) m | some false => .ok none m | none => .no)
            (fun m => (evE φ' ifs ρ1' m).bind fun c m => match truD c with | some true => (evE φ' key ρ1' m).bind fun y m => (evE φ' val ρ1' m).bind fun z m => .ok (some (y, z)) m | some false => .ok none m | none => .no) :=
            (ih1 h1).bind fun c c' e => by
              subst e
              exact up_tru ((ih2 h1).bind fun y y' e => by subst e; exact (ih3 h1).bind fun y y' e => by subst e; exact .ok rfl) (.ok rfl)
          obtain ⟨m0, U⟩ := U a m1 e1
          exact ⟨m0, fun m => by rw [hρ']; exact U m⟩
        · cases e1
  | sitems a ih => exact fun h => (ih h).bind fun x x' e => by subst e; exact .of
  | fld i n =>
    intro ρ ρ' h
    show Up Eq (match ρ[i]? with | some (some (.val (.exc _ l))) => Out.of [] l[n]? | _ => .no) fun m => match ρ'[i]? with | some (some (.val (.exc _ l))) => Out.of m l[n]? | _ => .no
    split
    · rename_i f l hd
      rw [h.at_ i _ hd]
      exact .of
    · exact .no
def FlLe : Flow → Flow → Prop
  | .nx ρ, .nx ρ' => Le ρ ρ'
  | .bk ρ, .bk ρ' => Le ρ ρ'
  | .ct ρ, .ct ρ' => Le ρ ρ'
  | .rt d, .rt d' => d = d'
  | _, _ => False
theorem up_flow {f f' : Flow} (h : FlLe f f') {a c b : Env → Out Flow} {d : D → Out Flow} {a' c' b' : Env → Mem → Out Flow} {d' : D → Mem → Out Flow} (ha : ∀ ρ ρ', Le ρ ρ' → Up FlLe (a ρ) (a' ρ')) (hc : ∀ ρ ρ', Le ρ ρ' → Up FlLe (c ρ) (c' ρ')) (hb : ∀ ρ ρ', Le ρ ρ' → Up FlLe (b ρ) (b' ρ')) (hd : ∀ x, Up FlLe (d x) (d' x)) :
    Up FlLe (match (generalizing := false) f with | .nx ρ => a ρ | .ct ρ => c ρ | .bk ρ => b ρ | .rt x => d x) (fun m => match (generalizing := false) f' with | .nx ρ => a' ρ m | .ct ρ => c' ρ m | .bk ρ => b' ρ m | .rt x => d' x m) := by
  cases f <;> cases f' <;> first | exact h.elim | exact ha _ _ h | exact hc _ _ h | exact hb _ _ h | (cases h; exact hd _)
theorem forL_up {g g' : D → Env → Mem → Out Flow} {w : List Nat} (h : ∀ x ρ ρ', Le ρ ρ' → Up FlLe (g x ρ []) (g' x ρ')) : ∀ (l : List D) {ρ ρ' : Env}, Le ρ ρ' → Up FlLe (forL g w l ρ []) (forL g' w l ρ')
  | [], ρ, ρ', hl => .ok hl
  | x :: r, ρ, ρ', hl => (h x ρ ρ' hl).bind fun f f' e => up_flow e (a := fun ρ => forL g w r (wipeE ρ w) []) (a' := fun ρ => forL g' w r (wipeE ρ w)) (fun _ _ h1 => forL_up h r (h1.wipe w)) (c := fun ρ => forL g w r (wipeE ρ w) []) (c' := fun ρ => forL g' w r (wipeE ρ w)) (fun _ _ h1 => forL_up h r (h1.wipe w))
      (b := fun ρ => .ok (.nx (wipeE ρ w)) []) (b' := fun ρ m => .ok (.nx (wipeE ρ w)) m) (fun _ _ h1 => .ok (h1.wipe w)) (d := fun d => .ok (.rt d) []) (d' := fun d m => .ok (.rt d) m) fun x => .ok rfl
theorem whlL_up {c c' : Env → Mem → Out D} {g g' : Env → Mem → Out Flow} {w : List Nat} (hc : ∀ ρ ρ', Le ρ ρ' → Up Eq (c ρ []) (c' ρ')) (h : ∀ ρ ρ', Le ρ ρ' → Up FlLe (g ρ []) (g' ρ')) : ∀ (n : Nat) {ρ ρ' : Env}, Le ρ ρ' → Up FlLe (whlL c g w n ρ []) (whlL c' g' w n ρ')
  | 0, ρ, ρ', hl => .no
  | n + 1, ρ, ρ', hl => (hc ρ ρ' hl).bind fun x x' e => by
    subst e
    exact up_tru ((h ρ ρ' hl).bind fun f f' e => up_flow e (a := fun ρ => whlL c g w n (wipeE ρ w) []) (a' := fun ρ => whlL c' g' w n (wipeE ρ w)) (fun _ _ h1 => whlL_up hc h n (h1.wipe w)) (c := fun ρ => whlL c g w n (wipeE ρ w) []) (c' := fun ρ => whlL c' g' w n (wipeE ρ w)) (fun _ _ h1 => whlL_up hc h n (h1.wipe w))
      (b := fun ρ => .ok (.nx (wipeE ρ w)) []) (b' := fun ρ m => .ok (.nx (wipeE ρ w)) m) (fun _ _ h1 => .ok (h1.wipe w)) (d := fun d => .ok (.rt d) []) (d' := fun d m => .ok (.rt d) m) fun x => .ok rfl) (.ok hl)
theorem Le.par : ∀ (fl : List (Nat × Bool)) (l : List D) {ρ ρ' ρ1 : Env}, Le ρ ρ' → parE fl l ρ = some ρ1 → ∃ ρ1', parE fl l ρ' = some ρ1' ∧ Le ρ1 ρ1'
  | [], [], ρ, ρ', ρ1, h, e => by cases e; exact ⟨_, rfl, h⟩
  | [], _ :: _, ρ, ρ', ρ1, h, e => by cases e
  | _ :: _, [], ρ, ρ', ρ1, h, e => by cases e
  | (i, b) :: r, x :: xs, ρ, ρ', ρ1, h, e => by
    have e : (if i < ρ.length then parE r xs (setE ρ i (some (if b then .own x else .val x))) else none) = some ρ1 := e
    split at e
    · rename_i hl
      obtain ⟨ρ1', f, h1⟩ := Le.par r xs (h.set i _) e
      refine ⟨ρ1', ?_, h1⟩
      show (if i < ρ'.length then _ else _) = _
      rw [if_pos (by rw [← h.len]; exact hl)]
      exact f
    · cases e
theorem evS_up {φ φ' : Phi} (P : Pure φ φ') (s : S) : ∀ {ρ ρ' : Env}, Le ρ ρ' → Up FlLe (evS φ s ρ []) (evS φ' s ρ') := by
  induction s with
  | skip => exact fun h => .ok h
  | seq a b iha ihb =>
    exact fun h => (iha h).bind fun f f' e => by
      cases f <;> cases f' <;> first | exact e.elim | exact ihb e | exact .ok e
  | expr e => exact fun h => (evE_up P e h).bind fun x x' q => .ok h
  | asg t e => exact fun h => (evE_up P e h).bind fun x x' q => by subst q; exact h.putU.bind fun ρ1 ρ1' h1 => .ok h1
  | own i e =>
    intro ρ ρ' h
    refine (evE_up P e h).bind fun x x' q => ?_
    subst q
    show Up FlLe (if (isOwnable x && decide (i < ρ.length)) = true then _ else _) fun m => if (isOwnable x && decide (i < ρ'.length)) = true then _ else _
    rw [h.len]
    split
    · exact .ok (h.set i _)
    · exact .no
  | par fl es =>
    intro ρ ρ' h
    refine (evE_up P es h).bind fun x x' q => ?_
    subst q
    intro a m1 e1
    obtain ⟨ρ1, m2, e2', e3⟩ := bind_eq_ok e1
    obtain ⟨e2, rfl⟩ := of_eq_ok e2'
    cases e3
    obtain ⟨ρ1', f, h1⟩ := Le.par fl _ h e2
    exact ⟨rfl, fun m => ⟨.nx ρ1', by rw [f]; rfl, h1⟩⟩
  | app i e =>
    intro ρ ρ' h
    refine (evE_up P e h).bind fun x x' q => ?_
    subst q
    show Up FlLe (match ρ[i]? with | some (some (.own (.lst l))) => if l.length < LIM then .ok (.nx (setE ρ i (some (.own (.lst (l ++ [x])))))) [] else .no | _ => .no) fun m => match ρ'[i]? with | some (some (.own (.lst l))) => if l.length < LIM then .ok (.nx (setE ρ' i (some (.own (.lst (l ++ [x])))))) m else .no | _ => .no
    split
    · rename_i l hd
      rw [h.at_ i _ hd]
      dsimp only
      split
      · exact .ok (h.set i _)
      · exact .no
    · exact .no
  | sub i k v =>
    intro ρ ρ' h
    refine (evE_up P v h).bind fun x x' q => ?_
    subst q
    refine (evE_up P k h).bind fun y y' q => ?_
    subst q
    show Up FlLe (match ρ[i]? with | some (some (.own (.lst l))) => (Out.of [] (putL l y x)).bind fun d m => .ok (.nx (setE ρ i (some (.own d)))) m | _ => .no) fun m => match ρ'[i]? with | some (some (.own (.lst l))) => (Out.of m (putL l y x)).bind fun d m => .ok (.nx (setE ρ' i (some (.own d)))) m | _ => .no
    split
    · rename_i l hd
      rw [h.at_ i _ hd]
      exact Up.of.bind fun d d' e => by subst e; exact .ok (h.set i _)
    · exact .no
  | subc i k v =>
    intro ρ ρ' h
    refine (evE_up P v h).bind fun x x' q => ?_
    subst q
    refine (evE_up P k h).bind fun y y' q => ?_
    subst q
    intro a m1 e1
    split at e1
    · simp at e1
    · cases e1
  | pop i j => exact fun h => .no
  | aug i op e =>
    intro ρ ρ' h
    show Up FlLe (match ρ[i]? with | some (some (.val x)) => (evE φ e ρ []).bind fun y m => (match x, y with | .int a, .int b => Out.of m (binD op (.int a) (.int b)) | _, _ => .no).bind fun z m => .ok (.nx (setE ρ i (some (.val z)))) m | _ => .no)
      fun m => match ρ'[i]? with | some (some (.val x)) => (evE φ' e ρ' m).bind fun y m => (match x, y with | .int a, .int b => Out.of m (binD op (.int a) (.int b)) | _, _ => .no).bind fun z m => .ok (.nx (setE ρ' i (some (.val z)))) m | _ => .no
    split
    · rename_i x hd
      rw [h.at_ i _ hd]
      refine (evE_up P e h).bind fun y y' q => ?_
      subst q
      cases x with
      | int a =>
        cases y with
        | int b => exact Up.of.bind fun z z' e => by subst e; exact .ok (h.set i _)
        | _ => exact Up.no (α := Flow)
      | _ => exact Up.no (α := Flow)
    · exact .no
  | frz i =>
    intro ρ ρ' h
    show Up FlLe (match ρ[i]? with | some (some (.own d)) => .ok (.nx (setE ρ i (some (.val d)))) [] | _ => .no) fun m => match ρ'[i]? with | some (some (.own d)) => .ok (.nx (setE ρ' i (some (.val d)))) m | _ => .no
    split
    · rename_i d hd
      rw [h.at_ i _ hd]
      exact .ok (h.set i _)
    · exact .no
  | ite c a b iha ihb => exact fun h => (evE_up P c h).bind fun x x' q => by subst q; exact up_tru (iha h) (ihb h)
  | «for» w t k it b ih =>
    exact fun h => (evE_up P it h).bind fun x x' q => by
      subst q
      exact Up.of.bind fun xs xs' q => by
        subst q
        exact forL_up (fun x ρ ρ' h1 => h1.putU.bind fun ρ2 ρ2' h2 => ih h2) xs (h.wipe w)
  | whl n w c b ih => exact fun h => whlL_up (fun ρ ρ' h1 => evE_up P c h1) (fun ρ ρ' h1 => ih h1) n (h.wipe w)
  | ret e => exact fun h => (evE_up P e h).bind fun x x' q => .ok q
  | brk => exact fun h => .ok h
  | cnt => exact fun h => .ok h
  | rais c es =>
    intro ρ ρ' h a m1 e
    obtain ⟨_, _, _, e⟩ := bind_eq_ok e
    cases e
def callO (nat : Nat → List D → Option D) (Φ : Tab) : Nat → Phi
  | 0, _, _, _ => .no
  | k + 1, f, ds, m => match (if 3 ≤ k then nat f ds else none) with
    | some d => .ok d m
    | none => match Φ f with
      | some fn => if ds.length = fn.ps.length then fin m (evS (callO nat Φ k) fn.body (startE fn.N.length ds) m) else .no
      | none => .no
/-- what is told is so -/
def Tells (nat : Nat → List D → Option D) (Φ : Tab) : Prop := ∀ f ds d, nat f ds = some d → ∀ k m, callK Φ (k + 4) f ds m = .ok d m
theorem fin_up {o : Out Flow} {o' : Mem → Out Flow} (h : Up FlLe o o') : Up Eq (fin [] o) (fun m => fin m (o' m)) := by
  intro a m1 e
  cases o with
  | no => cases e
  | exc c l m => cases e
  | ok f m2 =>
    obtain ⟨rfl, h1⟩ := h f m2 rfl
    cases f with
    | nx ρ =>
      cases e
      refine ⟨rfl, fun m => ?_⟩
      obtain ⟨f', e1, r⟩ := h1 m
      cases f' <;> first | exact r.elim | skip
      refine ⟨_, ?_, rfl⟩
      show fin m (o' m) = _
      rw [e1]
      show finD m m .non = _
      unfold finD
      rw [if_pos rfl]
    | rt d =>
      cases e
      refine ⟨rfl, fun m => ?_⟩
      obtain ⟨f', e1, r⟩ := h1 m
      cases f' <;> first | exact r.elim | skip
      cases r
      refine ⟨_, ?_, rfl⟩
      show fin m (o' m) = _
      rw [e1]
      show finD m m _ = _
      unfold finD
      rw [if_pos rfl]
    | bk ρ => cases e
    | ct ρ => cases e
theorem callO_up {nat : Nat → List D → Option D} {Φ : Tab} (T : Tells nat Φ) : ∀ k, Pure (callO nat Φ k) (callK Φ k)
  | 0 => fun f ds => .no
  | k + 1 => fun f ds => by
    intro a m1 e
    have e : (match (if 3 ≤ k then nat f ds else none) with
      | some d => Out.ok d []
      | none => match Φ f with
        | some fn => if ds.length = fn.ps.length then fin [] (evS (callO nat Φ k) fn.body (startE fn.N.length ds) []) else .no
        | none => .no) = .ok a m1 := e
    split at e
    · rename_i d hd
      cases e
      split at hd
      · rename_i hk
        obtain ⟨j, rfl⟩ : ∃ j, k = j + 3 := ⟨k - 3, by omega⟩
        exact ⟨rfl, fun m => ⟨a, T f ds a hd j m, rfl⟩⟩
      · cases hd
    · split at e
      · rename_i fn hf
        split at e
        · rename_i hl
          obtain ⟨m0, h1⟩ := fin_up (evS_up (callO_up T k) fn.body (Le.refl (ρ := startE fn.N.length ds))) a m1 e
          refine ⟨m0, fun m => ?_⟩
          obtain ⟨a', e1, r⟩ := h1 m
          refine ⟨a', ?_, r⟩
          show (match Φ f with
            | some fn => if ds.length = fn.ps.length then fin m (evS (callK Φ k) fn.body (startE fn.N.length ds) m) else .no
            | none => .no) = _
          rw [hf]
          dsimp only
          rw [if_pos hl]
          exact e1
        · cases e
      · cases e
theorem callO_upj {nat : Nat → List D → Option D} {Φ : Tab} (T : Tells nat Φ) (n : Nat) : ∀ k, Pure (callO nat Φ k) (callK Φ (k + n))
  | 0 => fun f ds => .no
  | k + 1 => fun f ds => by
    rw [show k + 1 + n = (k + n) + 1 by omega]
    intro a m1 e
    have e : (match (if 3 ≤ k then nat f ds else none) with
      | some d => Out.ok d []
      | none => match Φ f with
        | some fn => if ds.length = fn.ps.length then fin [] (evS (callO nat Φ k) fn.body (startE fn.N.length ds) []) else .no
        | none => .no) = .ok a m1 := e
    split at e
    · rename_i d hd
      cases e
      split at hd
      · rename_i hk
        obtain ⟨j, rfl⟩ : ∃ j, k = j + 3 := ⟨k - 3, by omega⟩
        exact ⟨rfl, fun m => ⟨a, by rw [show j + 3 + n + 1 = (j + n) + 4 by omega]; exact T f ds a hd (j + n) m, rfl⟩⟩
      · cases hd
    · split at e
      · rename_i fn hf
        split at e
        · rename_i hl
          obtain ⟨m0, h1⟩ := fin_up (evS_up (callO_upj T n k) fn.body (Le.refl (ρ := startE fn.N.length ds))) a m1 e
          refine ⟨m0, fun m => ?_⟩
          obtain ⟨a', e1, r⟩ := h1 m
          refine ⟨a', ?_, r⟩
          show (match Φ f with
            | some fn => if ds.length = fn.ps.length then fin m (evS (callK Φ (k + n)) fn.body (startE fn.N.length ds) m) else .no
            | none => .no) = _
          rw [hf]
          dsimp only
          rw [if_pos hl]
          exact e1
        · cases e
      · cases e
theorem seq_nx {φ : Phi} {s r : S} {ρ ρ1 : Env} {m m1 : Mem} (h : evS φ s ρ m = .ok (.nx ρ1) m1) : evS φ (.seq s r) ρ m = evS φ r ρ1 m1 := by
  show (evS φ s ρ m).bind _ = _
  rw [h]
  rfl
theorem seq_rt {φ : Phi} {s r : S} {ρ : Env} {d : D} {m m1 : Mem} (h : evS φ s ρ m = .ok (.rt d) m1) : evS φ (.seq s r) ρ m = .ok (.rt d) m1 := by
  show (evS φ s ρ m).bind _ = _
  rw [h]
  rfl
theorem call_at {Φ : Tab} {f k : Nat} {fn : Fn} {ds : List D} {m : Mem} (h : Φ f = some fn) (hl : ds.length = fn.ps.length) : callK Φ (k + 1) f ds m = fin m (evS (callK Φ k) fn.body (startE fn.N.length ds) m) := by
  show (match Φ f with
    | some fn => if ds.length = fn.ps.length then fin m (evS (callK Φ k) fn.body (startE fn.N.length ds) m) else .no
    | none => .no) = _
  rw [h]
  dsimp only
  rw [if_pos hl]
theorem loop_range {g : D → Env → Mem → Out Flow} {m : Mem} {k : Nat} (I : Nat → Env → Prop) (step : ∀ i, i < k → ∀ ρ, I i ρ → ∃ ρ', g (.int (i : Int)) ρ m = .ok (.nx ρ') m ∧ I (i + 1) ρ') :
    ∀ (n s : Nat) (ρ : Env), s + n = k → I s ρ → ∃ ρ', forL g [] ((List.range' s n).map fun (i : Nat) => D.int (i : Int)) ρ m = .ok (.nx ρ') m ∧ I k ρ'
  | 0, s, ρ, h, i => ⟨ρ, rfl, by have e : s = k := by omega
                                 rw [← e]; exact i⟩
  | n + 1, s, ρ, h, i => by
    obtain ⟨ρ1, e1, i1⟩ := step s (by omega) ρ i
    obtain ⟨ρ2, e2, i2⟩ := loop_range I step n (s + 1) ρ1 (by omega) i1
    refine ⟨ρ2, ?_, i2⟩
    show (g (.int (s : Int)) ρ m).bind _ = _
    rw [e1]
    exact e2
/-- for i in range(k) -/
theorem for_range {φ : Phi} {t : T} {b : S} {it : E} {ρ : Env} {m : Mem} {k : Nat} (I : Nat → Env → Prop) (hit : evE φ it ρ m = .ok (.tup [.int (k : Int)]) m) (hk : k ≤ 1000000) (h0 : I 0 ρ)
    (step : ∀ i, i < k → ∀ ρ, I i ρ → ∃ ρ1 ρ', putT t (.int (i : Int)) ρ = some ρ1 ∧ evS φ b ρ1 m = .ok (.nx ρ') m ∧ I (i + 1) ρ') : ∃ ρ', evS φ (.for [] t .rng it b) ρ m = .ok (.nx ρ') m ∧ I k ρ' := by
  obtain ⟨ρ', e, i⟩ := loop_range (g := fun x ρ m => (Out.of m (putT t x ρ)).bind fun ρ1 m => evS φ b ρ1 m) (m := m) I (fun i hi ρ h => by
    obtain ⟨ρ1, ρ2, e1, e2, h2⟩ := step i hi ρ h
    exact ⟨ρ2, by rw [e1]; exact e2, h2⟩) k 0 ρ (by omega) h0
  refine ⟨ρ', ?_, i⟩
  show (evE φ it ρ m).bind _ = _
  rw [hit]
  have hr : itemsD .rng (argsOf (.tup [.int (k : Int)])) = some ((List.range' 0 k).map fun (i : Nat) => D.int (i : Int)) := by
    show rngD 0 k = _
    unfold rngD
    rw [if_pos (by simp; omega), ← List.range_eq_range']
    simp
  show (Out.of m (itemsD .rng (argsOf (.tup [.int (k : Int)])))).bind _ = _
  rw [hr]
  exact e
mutual
def sameD : D → D → Bool
  | .non, .non => true
  | .bl a, .bl b => a == b
  | .int a, .int b => decide (a = b)
  | .str a, .str b => decide (a = b)
  | .tup a, .tup b => sameDs a b
  | .lst a, .lst b => sameDs a b
  | _, _ => false
def sameDs : List D → List D → Bool
  | [], [] => true
  | x :: xs, y :: ys => sameD x y && sameDs xs ys
  | _, _ => false
end
mutual
theorem sameD_eq : ∀ (x y : D), sameD x y = true → x = y
  | .non, y, h => by cases y <;> first | rfl | cases h
  | .bl a, y, h => by
    cases y <;> first | (cases h; done) | skip
    rw [eq_of_beq (show (a == _) = true from h)]
  | .int a, y, h => by
    cases y <;> first | (cases h; done) | skip
    rw [of_decide_eq_true (show decide (a = _) = true from h)]
  | .str a, y, h => by
    cases y <;> first | (cases h; done) | skip
    rw [of_decide_eq_true (show decide (a = _) = true from h)]
  | .tup a, y, h => by
    cases y <;> first | (cases h; done) | skip
    rw [sameDs_eq a _ h]
  | .lst a, y, h => by
    cases y <;> first | (cases h; done) | skip
    rw [sameDs_eq a _ h]
  | .dic _, y, h => by cases y <;> cases h
  | .ref _, y, h => by cases y <;> cases h
  | .clo _ _, y, h => by cases y <;> cases h
  | .exc _ _, y, h => by cases y <;> cases h
theorem sameDs_eq : ∀ (x y : List D), sameDs x y = true → x = y
  | [], [], _ => rfl
  | [], _ :: _, h => by cases h
  | _ :: _, [], h => by cases h
  | x :: xs, y :: ys, h => by
    have h : (sameD x y && sameDs xs ys) = true := h
    rw [Bool.and_eq_true] at h
    rw [sameD_eq x y h.1, sameDs_eq xs ys h.2]
end
/-- the slots ks alone -/
def keepE (ks : List Nat) (ρ : Env) : Env := ρ.mapIdx fun i x => if ks.contains i then x else none
def sameAt (ρ ρ' : Env) (i : Nat) : Bool := match ρ[i]?, ρ'[i]? with
  | some (some (.val x)), some (some (.val y)) => sameD x y
  | _, _ => false
theorem keep_le {ks : List Nat} {ρ ρ' : Env} (hl : ρ.length = ρ'.length) (h : ks.all (sameAt ρ ρ') = true) : Le (keepE ks ρ) ρ' := by
  refine ⟨by simp [keepE, hl], fun i x e => ?_⟩
  unfold keepE at e
  rw [List.getElem?_mapIdx] at e
  obtain ⟨y, e1, e2⟩ := Option.map_eq_some_iff.mp e
  split at e2
  · rename_i hk
    subst e2
    have hs := List.all_eq_true.mp h i (List.contains_iff_mem.mp hk)
    unfold sameAt at hs
    rw [e1] at hs
    split at hs
    · rename_i a b q1 q2
      cases q1
      rw [q2, sameD_eq _ _ hs]
    · cases hs
  · cases e2
def takeS : Nat → S → S
  | n + 1, .seq s r => .seq s (takeS n r)
  | _, _ => .skip
def dropS : Nat → S → S
  | n + 1, .seq s r => dropS n r
  | _, s => s
theorem evS_split {φ : Phi} : ∀ (n : Nat) (s : S) (ρ : Env) (m : Mem), evS φ s ρ m = (evS φ (takeS n s) ρ m).bind fun f m => match f with
    | .nx ρ1 => evS φ (dropS n s) ρ1 m
    | f => .ok f m
  | 0, s, ρ, m => rfl
  | n + 1, .seq s r, ρ, m => by
    show (evS φ s ρ m).bind _ = ((evS φ s ρ m).bind _).bind _
    cases evS φ s ρ m with
    | no => rfl
    | exc c l m1 => rfl
    | ok f m1 =>
      cases f with
      | nx ρ1 => exact evS_split n r ρ1 m1
      | _ => rfl
  | n + 1, .skip, ρ, m | n + 1, .expr _, ρ, m | n + 1, .asg _ _, ρ, m | n + 1, .own _ _, ρ, m | n + 1, .par _ _, ρ, m | n + 1, .app _ _, ρ, m | n + 1, .sub _ _ _, ρ, m
  | n + 1, .subc _ _ _, ρ, m | n + 1, .pop _ _, ρ, m | n + 1, .aug _ _ _, ρ, m | n + 1, .frz _, ρ, m | n + 1, .ite _ _ _, ρ, m | n + 1, .for _ _ _ _ _, ρ, m | n + 1, .whl _ _ _ _, ρ, m
  | n + 1, .ret _, ρ, m | n + 1, .brk, ρ, m | n + 1, .cnt, ρ, m | n + 1, .rais _ _, ρ, m => rfl
end Ev

set_option maxHeartbeats 4000000
namespace Ev
def asgn : S → List Nat
  | .seq a b => asgn a ++ asgn b
  | .asg t _ => slotsT t
  | .own i _ => [i]
  | .par fl _ => fl.map (·.1)
  | .app i _ => [i]
  | .sub i _ _ => [i]
  | .aug i _ _ => [i]
  | .frz i => [i]
  | .ite _ a b => asgn a ++ asgn b
  | .for w t _ _ b => w ++ (slotsT t ++ asgn b)
  | .whl _ w _ b => w ++ asgn b
  | _ => []
def FlAt (ρ : Env) (i : Nat) : Flow → Prop
  | .nx ρ' => ρ'[i]? = ρ[i]?
  | .bk ρ' => ρ'[i]? = ρ[i]?
  | .ct ρ' => ρ'[i]? = ρ[i]?
  | .rt _ => True
theorem FlAt.from {ρ ρ1 : Env} {i : Nat} (h : ρ1[i]? = ρ[i]?) : ∀ {f : Flow}, FlAt ρ1 i f → FlAt ρ i f
  | .nx _, e => e.trans h
  | .bk _, e => e.trans h
  | .ct _, e => e.trans h
  | .rt _, _ => trivial
theorem set_off {ρ : Env} {i j : Nat} {x : Option Sl} (h : i ≠ j) : (setE ρ j x)[i]? = ρ[i]? := by
  unfold setE
  rw [List.getElem?_set_ne (Ne.symm h)]
theorem wipe_off {ρ : Env} {i : Nat} : ∀ {w : List Nat}, i ∉ w → (wipeE ρ w)[i]? = ρ[i]?
  | [], _ => rfl
  | v :: w, h => by
    rw [List.mem_cons, not_or] at h
    show (setE (wipeE ρ w) v none)[i]? = _
    rw [set_off h.1, wipe_off h.2]
theorem put_off {i : Nat} : ∀ (t : T) (d : D) {ρ ρ1 : Env}, putT t d ρ = some ρ1 → i ∉ slotsT t → ρ1[i]? = ρ[i]?
  | .name j, d, ρ, ρ1, e, h => by
    have e : (if j < ρ.length then some (setE ρ j (some (.val d))) else none) = some ρ1 := e
    split at e
    · cases e
      exact set_off (by simpa [slotsT] using h)
    · cases e
  | .tup ts, d, ρ, ρ1, e, h => by
    cases d with
    | tup l => exact put_off ts (.tup l) e h
    | _ => cases e
  | .nil, d, ρ, ρ1, e, h => by
    cases d with
    | tup l =>
      cases l with
      | nil => cases e; rfl
      | cons => cases e
    | _ => cases e
  | .cons t ts, d, ρ, ρ1, e, h => by
    cases d with
    | tup l =>
      cases l with
      | nil => cases e
      | cons x r =>
        obtain ⟨ρ2, e1, e2⟩ := Option.bind_eq_some_iff.mp (show (putT t x ρ).bind (fun ρ1 => putT ts (.tup r) ρ1) = some ρ1 from e)
        have h : i ∉ slotsT t ++ slotsT ts := h
        rw [List.mem_append, not_or] at h
        exact (put_off ts _ e2 h.2).trans (put_off t x e1 h.1)
    | _ => cases e
theorem par_off {i : Nat} : ∀ (fl : List (Nat × Bool)) (l : List D) {ρ ρ1 : Env}, parE fl l ρ = some ρ1 → i ∉ fl.map (·.1) → ρ1[i]? = ρ[i]?
  | [], [], ρ, ρ1, e, h => by cases e; rfl
  | [], _ :: _, ρ, ρ1, e, h => by cases e
  | _ :: _, [], ρ, ρ1, e, h => by cases e
  | (j, b) :: r, x :: xs, ρ, ρ1, e, h => by
    have e : (if j < ρ.length then parE r xs (setE ρ j (some (if b then .own x else .val x))) else none) = some ρ1 := e
    rw [List.map_cons, List.mem_cons, not_or] at h
    split at e
    · exact (par_off r xs e h.2).trans (set_off h.1)
    · cases e
theorem forL_off {i : Nat} {g : D → Env → Mem → Out Flow} {w : List Nat} (hw : i ∉ w) (hg : ∀ x ρ m f m', g x ρ m = .ok f m' → FlAt ρ i f) : ∀ (l : List D) {ρ : Env} {m m' : Mem} {f : Flow}, forL g w l ρ m = .ok f m' → FlAt ρ i f
  | [], ρ, m, m', f, e => by cases e; rfl
  | x :: r, ρ, m, m', f, e => by
    obtain ⟨f1, m1, e1, e2⟩ := bind_eq_ok (show (g x ρ m).bind _ = _ from e)
    have h1 := hg _ _ _ _ _ e1
    cases f1 with
    | nx ρ1 => exact (forL_off hw hg r e2).from ((wipe_off hw).trans h1)
    | ct ρ1 => exact (forL_off hw hg r e2).from ((wipe_off hw).trans h1)
    | bk ρ1 => cases e2; exact (wipe_off hw).trans h1
    | rt d => cases e2; trivial
theorem whlL_off {i : Nat} {c : Env → Mem → Out D} {g : Env → Mem → Out Flow} {w : List Nat} (hw : i ∉ w) (hg : ∀ ρ m f m', g ρ m = .ok f m' → FlAt ρ i f) : ∀ (n : Nat) {ρ : Env} {m m' : Mem} {f : Flow}, whlL c g w n ρ m = .ok f m' → FlAt ρ i f
  | 0, ρ, m, m', f, e => by cases e
  | n + 1, ρ, m, m', f, e => by
    obtain ⟨x, m0, e0, e⟩ := bind_eq_ok (show (c ρ m).bind _ = _ from e)
    split at e
    · obtain ⟨f1, m1, e1, e2⟩ := bind_eq_ok e
      have h1 := hg _ _ _ _ e1
      cases f1 with
      | nx ρ1 => exact (whlL_off hw hg n e2).from ((wipe_off hw).trans h1)
      | ct ρ1 => exact (whlL_off hw hg n e2).from ((wipe_off hw).trans h1)
      | bk ρ1 => cases e2; exact (wipe_off hw).trans h1
      | rt d => cases e2; trivial
    · cases e; rfl
    · cases e
theorem evS_off {φ : Phi} {i : Nat} (s : S) : ∀ {ρ : Env} {m m' : Mem} {f : Flow}, evS φ s ρ m = .ok f m' → i ∉ asgn s → FlAt ρ i f := by
  induction s with
  | skip => intro ρ m m' f e h; cases e; rfl
  | seq a b iha ihb =>
    intro ρ m m' f e h
    have h : i ∉ asgn a ++ asgn b := h
    rw [List.mem_append, not_or] at h
    obtain ⟨f1, m1, e1, e2⟩ := bind_eq_ok (show (evS φ a ρ m).bind _ = _ from e)
    have h1 := iha e1 h.1
    cases f1 with
    | nx ρ1 => exact (ihb e2 h.2).from h1
    | bk ρ1 => cases e2; exact h1
    | ct ρ1 => cases e2; exact h1
    | rt d => cases e2; trivial
  | expr e => intro ρ m m' f e h; obtain ⟨_, _, _, e2⟩ := bind_eq_ok e; cases e2; rfl
  | asg t x =>
    intro ρ m m' f e h
    obtain ⟨_, _, _, e⟩ := bind_eq_ok e
    obtain ⟨ρ1, _, e1, e⟩ := bind_eq_ok e
    cases e
    exact put_off t _ (of_eq_ok e1).1 h
  | own j x =>
    intro ρ m m' f e h
    obtain ⟨y, m1, _, e⟩ := bind_eq_ok e
    have e : (if (isOwnable y && decide (j < ρ.length)) = true then Out.ok (Flow.nx (setE ρ j (some (.own y)))) m1 else .no) = .ok f m' := e
    split at e
    · cases e; exact set_off (by simpa [asgn] using h)
    · cases e
  | par fl es =>
    intro ρ m m' f e h
    obtain ⟨_, _, _, e⟩ := bind_eq_ok e
    obtain ⟨ρ1, _, e1, e⟩ := bind_eq_ok e
    cases e
    exact par_off fl _ (of_eq_ok e1).1 h
  | app j x =>
    intro ρ m m' f e h
    obtain ⟨y, m1, _, e⟩ := bind_eq_ok e
    split at e
    · split at e
      · cases e; exact set_off (by simpa [asgn] using h)
      · cases e
    · cases e
  | sub j k v =>
    intro ρ m m' f e h
    obtain ⟨y, m1, _, e⟩ := bind_eq_ok e
    obtain ⟨z, m2, _, e⟩ := bind_eq_ok e
    split at e
    · obtain ⟨d, _, _, e⟩ := bind_eq_ok e
      cases e; exact set_off (by simpa [asgn] using h)
    · cases e
  | subc j k v =>
    intro ρ m m' f e h
    obtain ⟨y, m1, _, e⟩ := bind_eq_ok e
    obtain ⟨z, m2, _, e⟩ := bind_eq_ok e
    split at e
    · split at e
      · obtain ⟨d, _, _, e⟩ := bind_eq_ok e
        cases e; rfl
      · cases e
    · cases e
  | pop i j => intro ρ m m' f e h; cases e
  | aug j op x =>
    intro ρ m m' f e h
    have e : (match ρ[j]? with
      | some (some (.val x')) => (evE φ x ρ m).bind fun y m => (match x', y with
        | .int a, .int b => Out.of m (binD op (.int a) (.int b))
        | _, _ => .no).bind fun z m => Out.ok (Flow.nx (setE ρ j (some (.val z)))) m
      | _ => .no) = .ok f m' := e
    split at e
    · obtain ⟨_, _, _, e⟩ := bind_eq_ok e
      obtain ⟨_, _, _, e⟩ := bind_eq_ok e
      cases e; exact set_off (by simpa [asgn] using h)
    · cases e
  | frz j =>
    intro ρ m m' f e h
    have e : (match ρ[j]? with
      | some (some (.own d)) => Out.ok (Flow.nx (setE ρ j (some (.val d)))) m
      | _ => .no) = .ok f m' := e
    split at e
    · cases e; exact set_off (by simpa [asgn] using h)
    · cases e
  | ite c a b iha ihb =>
    intro ρ m m' f e h
    have h : i ∉ asgn a ++ asgn b := h
    rw [List.mem_append, not_or] at h
    obtain ⟨x, m1, _, e⟩ := bind_eq_ok e
    split at e
    · exact iha e h.1
    · exact ihb e h.2
    · cases e
  | «for» w t k it b ih =>
    intro ρ m m' f e h
    have h : i ∉ w ++ (slotsT t ++ asgn b) := h
    rw [List.mem_append, not_or, List.mem_append, not_or] at h
    obtain ⟨_, _, _, e⟩ := bind_eq_ok e
    obtain ⟨xs, _, _, e⟩ := bind_eq_ok e
    refine (forL_off h.1 (fun x ρ m f m' e => ?_) xs e).from (wipe_off h.1)
    obtain ⟨ρ1, _, e1, e⟩ := bind_eq_ok e
    exact (ih e h.2.2).from (put_off t _ (of_eq_ok e1).1 h.2.1)
  | whl n w c b ih =>
    intro ρ m m' f e h
    have h : i ∉ w ++ asgn b := h
    rw [List.mem_append, not_or] at h
    exact (whlL_off h.1 (fun ρ m f m' e => ih e h.2) n e).from (wipe_off h.1)
  | ret e => intro ρ m m' f e h; obtain ⟨_, _, _, e2⟩ := bind_eq_ok e; cases e2; trivial
  | brk => intro ρ m m' f e h; cases e; rfl
  | cnt => intro ρ m m' f e h; cases e; rfl
  | rais c es => intro ρ m m' f e h; obtain ⟨_, _, _, e2⟩ := bind_eq_ok e; cases e2
/-- a told part, in a greater environment -/
theorem part_nx {φ φ' : Phi} (P : Pure φ φ') {s : S} {ρ ρ1 ρ' : Env} {m0 : Mem} (e : evS φ s ρ [] = .ok (.nx ρ1) m0) (h : Le ρ ρ') (m : Mem) : ∃ ρ1', evS φ' s ρ' m = .ok (.nx ρ1') m ∧ Le ρ1 ρ1' ∧ ∀ i, i ∉ asgn s → ρ1'[i]? = ρ'[i]? := by
  obtain ⟨f, e1, h1⟩ := ((evS_up P s h) _ _ e).2 m
  cases f <;> first | exact h1.elim | skip
  exact ⟨_, e1, h1, fun i hi => evS_off s e1 hi⟩
theorem part_rt {φ φ' : Phi} (P : Pure φ φ') {s : S} {ρ ρ' : Env} {d : D} {m0 : Mem} (e : evS φ s ρ [] = .ok (.rt d) m0) (h : Le ρ ρ') (m : Mem) : evS φ' s ρ' m = .ok (.rt d) m := by
  obtain ⟨f, e1, h1⟩ := ((evS_up P s h) _ _ e).2 m
  cases f <;> first | exact h1.elim | skip
  cases h1
  exact e1
theorem split_nx {φ : Phi} {n : Nat} {s : S} {ρ ρ1 : Env} {m m1 : Mem} (h : evS φ (takeS n s) ρ m = .ok (.nx ρ1) m1) : evS φ s ρ m = evS φ (dropS n s) ρ1 m1 := by
  rw [evS_split n s ρ m, h]
  rfl
theorem Le.setR {ρ ρ' : Env} {i : Nat} {x : Sl} (h : Le ρ ρ') (e : ρ'[i]? = some (some x)) : Le (setE ρ i (some x)) ρ' := by
  refine ⟨by simp [setE, h.len], fun j y q => ?_⟩
  unfold setE at q
  by_cases hj : i = j
  · subst hj
    have hl : i < ρ.length := by rw [h.len]; exact (List.getElem?_eq_some_iff.mp e).1
    rw [List.getElem?_set_self hl] at q
    cases q
    exact e
  · rw [List.getElem?_set_ne hj] at q
    exact h.at_ j y q
end Ev

set_option maxHeartbeats 2000000
namespace Ev
open PySem
abbrev Sq := Nat × Nat
def eN (n : Nat) : D := .int (n : Int)
def eQ (q : Sq) : D := .tup [eN q.1, eN q.2]
def eS (s : List Nat) : D := .tup (s.map eN)
def eQT (l : List Sq) : D := .tup (l.map eQ)
def eQL (l : List Sq) : D := .lst (l.map eQ)
def eSL (l : List (List Nat)) : D := .lst (l.map eS)
structure Fld where
  h : Nat
  w : Nat
  r : List Sq
def eF (f : Fld) : D := .tup [eN f.h, eN f.w, eQT f.r]
/-- a function answers, no cell is touched -/
def To (φ : Phi) (i : Nat) (ds : List D) (d : D) : Prop := ∀ m, φ i ds m = .ok d m
def V (φ : Phi) (ρ : Env) (e : E) (d : D) : Prop := ∀ m, evE φ e ρ m = .ok d m
def Vs (φ : Phi) (ρ : Env) (e : E) (ds : List D) : Prop := V φ ρ e (.tup ds)
def St (φ : Phi) (ρ : Env) (s : S) (f : Flow) : Prop := ∀ m, evS φ s ρ m = .ok f m
def Runs (φ : Phi) (b : S) (n : Nat) (ds : List D) (d : D) : Prop := ∀ m, fin m (evS φ b (startE n ds) m) = .ok d m
section
variable {φ : Phi} {ρ ρ1 ρ2 : Env} {s r : S} {f : Flow} {e a b c es : E} {x y z d : D} {ds : List D}
theorem Runs.of {n : Nat} (h : St φ (startE n ds) b' (.rt d)) : Runs φ b' n ds d := fun m => by
  rw [h m]
  show finD m m d = _
  unfold finD
  rw [if_pos rfl]
theorem Runs.ofN {n : Nat} {b' : S} (h : ∃ ρ, St φ (startE n ds) b' (.nx ρ)) : Runs φ b' n ds .non := fun m => by
  obtain ⟨ρ, h⟩ := h
  rw [h m]
  show finD m m .non = _
  unfold finD
  rw [if_pos rfl]
theorem To.of {Φ : Tab} {i k : Nat} {fn : Fn} (h : Φ i = some fn) (hl : ds.length = fn.ps.length) (hr : Runs (callK Φ k) fn.body fn.N.length ds d) : To (callK Φ (k + 1)) i ds d := fun m => by
  rw [call_at h hl]
  exact hr m
theorem V.slot {i : Nat} (h : ρ[i]? = some (some (.val d))) : V φ ρ (.slot i) d := fun m => by simp only [evE, h]
theorem V.brw {i : Nat} (h : ρ[i]? = some (some (.own d))) : V φ ρ (.brw i) d := fun m => by simp only [evE, h]
theorem V.cst : V φ ρ (.cst d) d := fun m => rfl
theorem Vs.nil : Vs φ ρ .nil [] := fun m => rfl
theorem Vs.cons (h : V φ ρ e x) (hs : Vs φ ρ es ds) : Vs φ ρ (.cons e es) (x :: ds) := fun m => by
  show (evE φ e ρ m).bind _ = _
  rw [h m]
  show (evE φ es ρ m).bind _ = _
  rw [hs m]
  rfl
theorem V.tup (h : Vs φ ρ es ds) : V φ ρ (.tup es) (.tup ds) := fun m => h m
theorem V.lst (h : Vs φ ρ es ds) : V φ ρ (.lst es) (.lst ds) := fun m => by
  show (evE φ es ρ m).bind _ = _
  rw [h m]
  rfl
theorem V.bin {op : BOp} (ha : V φ ρ a x) (hb : V φ ρ b y) (h : binD op x y = some d) : V φ ρ (.bin op a b) d := fun m => by
  show (evE φ a ρ m).bind _ = _
  rw [ha m]
  show (evE φ b ρ m).bind _ = _
  rw [hb m]
  show Out.of m (binD op x y) = _
  rw [h]; rfl
theorem V.cmp {op : COp} (ha : V φ ρ a x) (hb : V φ ρ b y) (h : cmpD op x y = some d) : V φ ρ (.cmp op a b) d := fun m => by
  show (evE φ a ρ m).bind _ = _
  rw [ha m]
  show (evE φ b ρ m).bind _ = _
  rw [hb m]
  show Out.of m (cmpD op x y) = _
  rw [h]; rfl
theorem V.neg {i : Int} (ha : V φ ρ a (.int i)) : V φ ρ (.neg a) (.int (-i)) := fun m => by
  show (evE φ a ρ m).bind _ = _
  rw [ha m]; rfl
theorem V.chnT {o p : COp} (ha : V φ ρ a x) (hb : V φ ρ b y) (h : cmpD o x y = some (.bl true)) (hc : V φ ρ c z) (h2 : cmpD p y z = some d) : V φ ρ (.chn o p a b c) d := fun m => by
  show (evE φ a ρ m).bind _ = _
  rw [ha m]
  show (evE φ b ρ m).bind _ = _
  rw [hb m]
  show (Out.of m (cmpD o x y)).bind _ = _
  rw [h]
  show (evE φ c ρ m).bind _ = _
  rw [hc m]
  show Out.of m (cmpD p y z) = _
  rw [h2]; rfl
theorem V.chnF {o p : COp} (ha : V φ ρ a x) (hb : V φ ρ b y) (h : cmpD o x y = some (.bl false)) : V φ ρ (.chn o p a b c) (.bl false) := fun m => by
  show (evE φ a ρ m).bind _ = _
  rw [ha m]
  show (evE φ b ρ m).bind _ = _
  rw [hb m]
  show (Out.of m (cmpD o x y)).bind _ = _
  rw [h]; rfl
theorem V.chn {o p : COp} {t u : Bool} (ha : V φ ρ a x) (hb : V φ ρ b y) (h : cmpD o x y = some (.bl t)) (hc : V φ ρ c z) (h2 : cmpD p y z = some (.bl u)) : V φ ρ (.chn o p a b c) (.bl (t && u)) := by
  cases t with
  | true => exact V.chnT ha hb h hc h2
  | false => exact V.chnF ha hb h
theorem V.and {t u : Bool} (ha : V φ ρ a (.bl t)) (hb : t = true → V φ ρ b (.bl u)) : V φ ρ (.and a b) (.bl (t && u)) := fun m => by
  show (evE φ a ρ m).bind _ = _
  rw [ha m]
  cases t with
  | true => exact hb rfl m
  | false => rfl
theorem V.or {t u : Bool} (ha : V φ ρ a (.bl t)) (hb : t = false → V φ ρ b (.bl u)) : V φ ρ (.or a b) (.bl (t || u)) := fun m => by
  show (evE φ a ρ m).bind _ = _
  rw [ha m]
  cases t with
  | false => exact hb rfl m
  | true => rfl
theorem V.not {t : Bool} (ha : V φ ρ a (.bl t)) : V φ ρ (.not a) (.bl (!t)) := fun m => by
  show (evE φ a ρ m).bind _ = _
  rw [ha m]; rfl
theorem V.ite {t : Bool} (hc : V φ ρ c (.bl t)) (ha : t = true → V φ ρ a x) (hb : t = false → V φ ρ b y) : V φ ρ (.ite c a b) (if t then x else y) := fun m => by
  show (evE φ c ρ m).bind _ = _
  rw [hc m]
  cases t with
  | false => exact hb rfl m
  | true => exact ha rfl m
theorem V.idx (ha : V φ ρ a x) (hb : V φ ρ b y) (h : idxD x y = some d) : V φ ρ (.idx a b) d := fun m => by
  show (evE φ a ρ m).bind _ = _
  rw [ha m]
  show (evE φ b ρ m).bind _ = _
  rw [hb m]
  show Out.of m (idxD x y) = _
  rw [h]; rfl
theorem V.skip : V φ ρ .skipE .non := fun m => rfl
theorem V.slc {lo hi : E} (ha : V φ ρ a x) (hb : V φ ρ lo y) (hc : V φ ρ hi z) (h : slcG (isSkip lo) (isSkip hi) x y z = some d) : V φ ρ (.slc a lo hi) d := fun m => by
  show (evE φ a ρ m).bind _ = _
  rw [ha m]
  show (evE φ lo ρ m).bind _ = _
  rw [hb m]
  show (evE φ hi ρ m).bind _ = _
  rw [hc m]
  show Out.of m (slcG _ _ x y z) = _
  rw [h]; rfl
theorem V.rev (ha : V φ ρ a x) (h : revD x = some d) : V φ ρ (.rev a) d := fun m => by
  show (evE φ a ρ m).bind _ = _
  rw [ha m]
  show Out.of m (revD x) = _
  rw [h]; rfl
theorem V.call {i : Nat} (hs : Vs φ ρ es ds) (h : To φ i ds d) : V φ ρ (.call i es) d := fun m => by
  show (evE φ es ρ m).bind _ = _
  rw [hs m]
  exact h m
theorem V.prim {p : Prim} (hs : Vs φ ρ es ds) (h : primD p ds = some d) : V φ ρ (.prim p es) d := fun m => by
  show (evE φ es ρ m).bind _ = _
  rw [hs m]
  show Out.of m (primD p ds) = _
  rw [h]; rfl
theorem V.meth {q : Meth} (ho : V φ ρ a x) (hs : Vs φ ρ es ds) (h : methD q x ds = some d) : V φ ρ (.meth q a es) d := fun m => by
  show (evE φ a ρ m).bind _ = _
  rw [ho m]
  show (evE φ es ρ m).bind _ = _
  rw [hs m]
  show Out.of m (methD q x ds) = _
  rw [h]; rfl
theorem compL_to {α : Type} {g : D → Mem → Out (Option D)} {enc : α → D} {p : α → Bool} {f : α → D} {m : Mem} : ∀ (l : List α) (acc : List D), (∀ x ∈ l, g (enc x) m = .ok (if p x then some (f x) else none) m) →
    compL g (l.map enc) acc m = .ok (.lst (acc ++ (l.filter p).map f)) m
  | [], acc, _ => by simp [compL]
  | x :: l, acc, h => by
    have hx := h x (by simp)
    have hl := fun acc => compL_to (enc := enc) (p := p) (f := f) l acc fun y hy => h y (by simp [hy])
    show (g (enc x) m).bind _ = _
    rw [hx]
    cases hp : p x with
    | true =>
      show compL g (l.map enc) (acc ++ [f x]) m = _
      rw [hl, List.filter_cons_of_pos hp]
      simp
    | false =>
      show compL g (l.map enc) acc m = _
      rw [hl, List.filter_cons_of_neg (by simp [hp])]
/-- [f x for x in l if p x] -/
theorem V.comp {α : Type} {enc : α → D} {p : α → Bool} {g : α → D} {ρ' : α → Env} {own : List Nat} {t : T} {k : ItK} {it ifs elt : E} (l : List α) (hi : Vs φ ρ it ds) (hk : itemsD k ds = some (l.map enc))
    (ht : ∀ x ∈ l, putT t (enc x) (wipeE ρ own) = some (ρ' x)) (hp : ∀ x ∈ l, V φ (ρ' x) ifs (.bl (p x))) (he : ∀ x ∈ l, p x = true → V φ (ρ' x) elt (g x)) :
    V φ ρ (.comp own t k it ifs elt) (.lst ((l.filter p).map g)) := fun m => by
  show (evE φ it ρ m).bind _ = _
  rw [hi m]
  show (Out.of m (itemsD k ds)).bind _ = _
  rw [hk]
  show compL _ (l.map enc) [] m = _
  rw [compL_to (p := p) (f := g) l [] fun x hx => ?_]
  · rfl
  · rw [ht x hx]
    show (evE φ ifs (ρ' x) m).bind _ = _
    rw [hp x hx m]
    cases hpx : p x with
    | true =>
      show (evE φ elt (ρ' x) m).bind _ = _
      rw [he x hx hpx m]
      rfl
    | false => rfl
/-- [f x for x in l] -/
theorem V.compA {α : Type} {enc : α → D} {g : α → D} {ρ' : α → Env} {own : List Nat} {t : T} {k : ItK} {it elt : E} (l : List α) (hi : Vs φ ρ it ds) (hk : itemsD k ds = some (l.map enc))
    (ht : ∀ x ∈ l, putT t (enc x) (wipeE ρ own) = some (ρ' x)) (he : ∀ x ∈ l, V φ (ρ' x) elt (g x)) :
    V φ ρ (.comp own t k it (.cst (.bl true)) elt) (.lst (l.map g)) := by
  have := V.comp (p := fun _ => true) (g := g) l hi hk ht (fun x hx => V.cst) fun x hx _ => he x hx
  rwa [List.filter_eq_self.mpr (by simp)] at this
theorem St.skip : St φ ρ .skip (.nx ρ) := fun m => rfl
theorem St.seq (h : St φ ρ s (.nx ρ1)) (h2 : St φ ρ1 r f) : St φ ρ (.seq s r) f := fun m => by rw [seq_nx (h m)]; exact h2 m
theorem St.rt (h : St φ ρ s (.rt d)) : St φ ρ (.seq s r) (.rt d) := fun m => seq_rt (h m)
theorem St.bk (h : St φ ρ s (.bk ρ1)) : St φ ρ (.seq s r) (.bk ρ1) := fun m => by
  show (evS φ s ρ m).bind _ = _
  rw [h m]; rfl
theorem St.asg {t : T} (h : V φ ρ e x) (hp : putT t x ρ = some ρ1) : St φ ρ (.asg t e) (.nx ρ1) := fun m => by
  show (evE φ e ρ m).bind _ = _
  rw [h m]
  show (Out.of m (putT t x ρ)).bind _ = _
  rw [hp]; rfl
theorem St.expr (h : V φ ρ e x) : St φ ρ (.expr e) (.nx ρ) := fun m => by
  show (evE φ e ρ m).bind _ = _
  rw [h m]; rfl
theorem St.ret (h : V φ ρ e x) : St φ ρ (.ret e) (.rt x) := fun m => by
  show (evE φ e ρ m).bind _ = _
  rw [h m]; rfl
theorem St.own {i : Nat} {l : List D} (h : V φ ρ e (.lst l)) (hi : i < ρ.length) : St φ ρ (.own i e) (.nx (setE ρ i (some (.own (.lst l))))) := fun m => by
  show (evE φ e ρ m).bind _ = _
  rw [h m]
  show (if (isOwnable (.lst l) && decide (i < ρ.length)) = true then _ else _) = _
  rw [if_pos (by simp [isOwnable, hi])]
theorem St.app {i : Nat} {l : List D} (h : V φ ρ e x) (hi : ρ[i]? = some (some (.own (.lst l)))) (hl : l.length < LIM) : St φ ρ (.app i e) (.nx (setE ρ i (some (.own (.lst (l ++ [x])))))) := fun m => by
  show (evE φ e ρ m).bind _ = _
  rw [h m]
  simp only [bind_ok, hi, if_pos hl]
theorem St.aug {i : Nat} {op : BOp} {p q : Int} {v : D} (hi : ρ[i]? = some (some (.val (.int p)))) (h : V φ ρ e (.int q)) (hb : binD op (.int p) (.int q) = some v) : St φ ρ (.aug i op e) (.nx (setE ρ i (some (.val v)))) := fun m => by
  simp only [evS, hi, h m, bind_ok, hb, of_some]
theorem St.par {fl : List (Nat × Bool)} (h : Vs φ ρ es ds) (hp : parE fl ds ρ = some ρ1) : St φ ρ (.par fl es) (.nx ρ1) := fun m => by
  show (evE φ es ρ m).bind _ = _
  rw [h m]
  show (Out.of m (parE fl ds ρ)).bind _ = _
  rw [hp]; rfl
theorem St.iteT (h : V φ ρ c x) (ht : truD x = some true) (hs : St φ ρ s f) : St φ ρ (.ite c s r) f := fun m => by
  show (evE φ c ρ m).bind _ = _
  rw [h m]
  simp only [bind_ok, ht]
  exact hs m
theorem St.iteF (h : V φ ρ c x) (ht : truD x = some false) (hs : St φ ρ r f) : St φ ρ (.ite c s r) f := fun m => by
  show (evE φ c ρ m).bind _ = _
  rw [h m]
  simp only [bind_ok, ht]
  exact hs m
end
/-- one turn that goes on -/
def Goes (φ : Phi) (t : T) (b : S) (x : D) (ρ ρ' : Env) : Prop := ∃ ρ1, putT t x ρ = some ρ1 ∧ (St φ ρ1 b (.nx ρ') ∨ St φ ρ1 b (.ct ρ'))
abbrev turnG (φ : Phi) (t : T) (b : S) : D → Env → Mem → Out Flow := fun x ρ m => (Out.of m (putT t x ρ)).bind fun ρ1 m => evS φ b ρ1 m
theorem turn_go {φ : Phi} {t : T} {b : S} {x : D} {ρ ρ' : Env} (h : Goes φ t b x ρ ρ') (r : List D) (m : Mem) : forL (turnG φ t b) [] (x :: r) ρ m = forL (turnG φ t b) [] r ρ' m := by
  obtain ⟨ρ1, e1, e2⟩ := h
  show ((Out.of m (putT t x ρ)).bind fun ρ1 m => evS φ b ρ1 m).bind _ = _
  rw [e1]
  show (evS φ b ρ1 m).bind _ = _
  rcases e2 with e2 | e2 <;> (rw [e2 m]; rfl)
theorem turn_bk {φ : Phi} {t : T} {b : S} {x : D} {ρ ρ1 ρ' : Env} (e1 : putT t x ρ = some ρ1) (e2 : St φ ρ1 b (.bk ρ')) (r : List D) (m : Mem) : forL (turnG φ t b) [] (x :: r) ρ m = .ok (.nx ρ') m := by
  show ((Out.of m (putT t x ρ)).bind fun ρ1 m => evS φ b ρ1 m).bind _ = _
  rw [e1]
  show (evS φ b ρ1 m).bind _ = _
  rw [e2 m]; rfl
theorem forL_to {α : Type} {φ : Phi} {t : T} {b : S} {enc : α → D} (I : List α → Env → Prop) : ∀ (l done : List α) (ρ : Env), I done ρ →
    (∀ (d1 : List α) x d2 ρ, done ++ l = d1 ++ x :: d2 → I d1 ρ → ∃ ρ', Goes φ t b (enc x) ρ ρ' ∧ I (d1 ++ [x]) ρ') → ∃ ρ', (∀ m, forL (turnG φ t b) [] (l.map enc) ρ m = .ok (.nx ρ') m) ∧ I (done ++ l) ρ'
  | [], done, ρ, h, _ => ⟨ρ, fun m => rfl, by rw [List.append_nil]; exact h⟩
  | x :: l, done, ρ, h, st => by
    obtain ⟨ρ1, e1, h1⟩ := st done x l ρ rfl h
    obtain ⟨ρ2, e2, h2⟩ := forL_to I l (done ++ [x]) ρ1 h1 fun d1 y d2 ρ e => st d1 y d2 ρ (by rw [← e]; simp)
    refine ⟨ρ2, fun m => ?_, by rw [List.append_assoc] at h2; exact h2⟩
    rw [List.map_cons, turn_go e1]
    exact e2 m
/-- a for over encoded items, by an invariant of the items gone -/
theorem St.for {φ : Phi} {ρ : Env} {ds : List D} {α : Type} {enc : α → D} {t : T} {k : ItK} {it : E} {b : S} (l : List α) (I : List α → Env → Prop) (hi : Vs φ ρ it ds) (hk : itemsD k ds = some (l.map enc)) (h0 : I [] ρ)
    (st : ∀ (d1 : List α) x d2 ρ, l = d1 ++ x :: d2 → I d1 ρ → ∃ ρ', Goes φ t b (enc x) ρ ρ' ∧ I (d1 ++ [x]) ρ') : ∃ ρ', St φ ρ (.for [] t k it b) (.nx ρ') ∧ I l ρ' := by
  obtain ⟨ρ', e, h⟩ := forL_to (φ := φ) (t := t) (b := b) (enc := enc) I l [] ρ h0 st
  refine ⟨ρ', fun m => ?_, h⟩
  show (evE φ it ρ m).bind _ = _
  rw [hi m]
  show (Out.of m (itemsD k ds)).bind _ = _
  rw [hk]
  exact e m
/-- a range written as i, i + 1, .. -/
theorem range_split {n : Nat} {d1 d2 : List Nat} {x : Nat} (h : List.range n = d1 ++ x :: d2) : x = d1.length ∧ d1.length < n := by
  have hl : d1.length < n := by
    have := congrArg List.length h
    simp at this
    omega
  have e := congrArg (fun l => l[d1.length]?) h
  simp only [List.getElem?_append_right (Nat.le_refl _), Nat.sub_self, List.getElem?_cons_zero] at e
  rw [List.getElem?_range hl] at e
  exact ⟨(Option.some.inj e).symm, hl⟩
end Ev

namespace Ev
open PySem
/-- 0 -/
def b_law_taken : S :=
 (.seq (.ite (.cmp .gt (.idxc 0 (.cst (.int 3))) (.cst (.int 0))) (.seq (.asg (.name 2) (.bin .mod (.prim .int (.cons (.idxc 0 (.cst (.int 3))) .nil)) (.slot 1)))
 (.seq (.subc 0 (.cst (.int 3)) (.bin .fdiv (.idxc 0 (.cst (.int 3))) (.slot 1)))
 (.seq (.ret (.slot 2))
 .skip))) .skip)
 (.seq (.subc 0 (.cst (.int 1)) (.bin .add (.idxc 0 (.cst (.int 1))) (.cst (.int 1))))
 (.seq (.ite (.cmp .gt (.idxc 0 (.cst (.int 1))) (.prim .len (.cons (.idxc 0 (.cst (.int 0))) .nil))) (.seq (.subc 0 (.cst (.int 2)) (.bin .mod (.prim .int (.cons (.bin .add (.bin .mul (.idxc 0 (.cst (.int 2))) (.cst (.int 48271))) (.cst (.int 11))) .nil)) (.cst (.int 2147483647))))
 (.seq (.ret (.bin .mod (.prim .int (.cons (.bin .fdiv (.idxc 0 (.cst (.int 2))) (.cst (.int 7))) .nil)) (.slot 1)))
 .skip)) .skip)
 (.seq (.asg (.name 3) (.idx (.idxc 0 (.cst (.int 0))) (.bin .sub (.idxc 0 (.cst (.int 1))) (.cst (.int 1)))))
 (.seq (.subc 0 (.cst (.int 2)) (.bin .mod (.prim .int (.cons (.bin .add (.bin .add (.bin .mul (.idxc 0 (.cst (.int 2))) (.cst (.int 48271))) (.slot 3)) (.cst (.int 11))) .nil)) (.cst (.int 2147483647))))
 (.seq (.ite (.cmp .ge (.slot 3) (.bin .pow (.cst (.int 10)) (.cst (.int 18)))) (.seq (.subc 0 (.cst (.int 3)) (.bin .fdiv (.slot 3) (.slot 1)))
 .skip) .skip)
 (.seq (.ret (.bin .mod (.prim .int (.cons (.slot 3) .nil)) (.slot 1)))
 .skip)))))))
/-- 1 -/
def b_law_squares : S :=
 (.seq (.asg (.name 2) (.lst .nil))
 (.seq (.for [] (.name 3) .rng (.cons (.slot 0) .nil) (.seq (.asg (.name 2) (.bin .add (.slot 2) (.comp [4] (.name 4) .rng (.cons (.slot 1) .nil) (.cst (.bl true)) (.tup (.cons (.slot 3) (.cons (.slot 4) .nil))))))
 .skip))
 (.seq (.ret (.slot 2))
 .skip)))
/-- 29 -/
def b_law_field_2 : S :=
 (.seq (.asg (.tup (.cons (.name 3) (.cons (.name 4) (.cons (.name 5) .nil)))) (.tup (.cons (.bin .add (.cst (.int 1)) (.call 0 (.cons (.slot 0) (.cons (.slot 1) .nil)))) (.cons (.bin .add (.cst (.int 1)) (.call 0 (.cons (.slot 0) (.cons (.slot 2) .nil)))) (.cons (.call 0 (.cons (.slot 0) (.cons (.cst (.int 7)) .nil))) .nil)))))
 (.seq (.ret (.tup (.cons (.slot 3) (.cons (.slot 4) (.cons (.prim .tuple (.cons (.comp [6] (.name 6) .val (.cons (.call 1 (.cons (.slot 3) (.cons (.slot 4) .nil))) .nil) (.cmp .lt (.call 0 (.cons (.slot 0) (.cons (.cst (.int 8)) .nil))) (.slot 5)) (.slot 6)) .nil)) .nil)))))
 .skip))
/-- 46 -/
def b_law_all : S :=
 (.seq (.asg (.name 1) (.lst (.cons (.tup .nil) .nil)))
 (.seq (.for [] (.name 2) .rng (.cons (.idx (.slot 0) (.cst (.int 0))) .nil) (.seq (.asg (.name 3) (.lst .nil))
 (.seq (.for [] (.name 4) .val (.cons (.slot 1) .nil) (.seq (.asg (.name 3) (.bin .add (.slot 3) (.comp [5] (.name 5) .rng (.cons (.bin .add (.ite (.cmp .ne (.slot 4) (.tup .nil)) (.idx (.slot 4) (.neg (.cst (.int 1)))) (.idx (.slot 0) (.cst (.int 1)))) (.cst (.int 1))) .nil) (.cst (.bl true)) (.bin .add (.slot 4) (.tup (.cons (.slot 5) .nil))))))
 .skip))
 (.seq (.asg (.name 1) (.slot 3))
 .skip))))
 (.seq (.ret (.slot 1))
 .skip)))
/-- 3 -/
def b_law_alike : S :=
 (.seq (.ite (.prim .isTupLst (.cons (.slot 1) .nil)) (.seq (.ite (.or (.not (.prim .isTupLst (.cons (.slot 0) .nil))) (.cmp .ne (.prim .isLst (.cons (.slot 0) .nil)) (.prim .isLst (.cons (.slot 1) .nil)))) (.seq (.ret (.cst (.bl false)))
 .skip) .skip)
 (.seq (.ite (.cmp .ne (.prim .len (.cons (.slot 0) .nil)) (.prim .len (.cons (.slot 1) .nil))) (.seq (.ret (.cst (.bl false)))
 .skip) .skip)
 (.seq (.ret (.cmp .eq (.comp [2] (.name 2) .rng (.cons (.prim .len (.cons (.slot 1) .nil)) .nil) (.not (.call 3 (.cons (.idx (.slot 0) (.slot 2)) (.cons (.idx (.slot 1) (.slot 2)) .nil)))) (.slot 2)) (.lst .nil)))
 .skip))) .skip)
 (.seq (.ite (.or (.cmp .is (.slot 1) (.cst .non)) (.prim .isStr (.cons (.slot 1) .nil))) (.seq (.ret (.and (.cmp .eq (.slot 0) (.slot 1)) (.cmp .eq (.prim .isStr (.cons (.slot 0) .nil)) (.prim .isStr (.cons (.slot 1) .nil)))))
 .skip) .skip)
 (.seq (.ret (.and (.prim .isInt (.cons (.slot 0) .nil)) (.and (.cmp .eq (.prim .isBool (.cons (.slot 0) .nil)) (.prim .isBool (.cons (.slot 1) .nil))) (.cmp .eq (.slot 0) (.slot 1)))))
 .skip)))
/-- 4 -/
def b_whole : S :=
 (.seq (.ret (.and (.prim .isInt (.cons (.slot 0) .nil)) (.not (.prim .isBool (.cons (.slot 0) .nil)))))
 .skip)
/-- 5 -/
def b_within : S :=
 (.seq (.ret (.and (.call 4 (.cons (.slot 0) .nil)) (.chn .le .le (.slot 1) (.slot 0) (.slot 2))))
 .skip)
/-- 6 -/
def b_tuple_of : S :=
 (.seq (.ret (.and (.prim .isTup (.cons (.slot 0) .nil)) (.chn .le .le (.slot 1) (.prim .len (.cons (.slot 0) .nil)) (.slot 2))))
 .skip)
/-- 7 -/
def b_is_square_of : S :=
 (.seq (.ret (.and (.call 6 (.cons (.slot 0) (.cons (.cst (.int 2)) (.cons (.cst (.int 2)) .nil)))) (.and (.call 5 (.cons (.idx (.slot 0) (.cst (.int 0))) (.cons (.cst (.int 0)) (.cons (.bin .sub (.slot 1) (.cst (.int 1))) .nil)))) (.call 5 (.cons (.idx (.slot 0) (.cst (.int 1))) (.cons (.cst (.int 0)) (.cons (.bin .sub (.slot 2) (.cst (.int 1))) .nil)))))))
 .skip)
/-- 8 -/
def b_need_field : S :=
 (.seq (.ite (.or (.not (.call 6 (.cons (.slot 0) (.cons (.cst (.int 3)) (.cons (.cst (.int 3)) .nil))))) (.not (.prim .all (.cons (.comp [1] (.name 1) .val (.cons (.slc (.slot 0) .skipE (.cst (.int 2))) .nil) (.cst (.bl true)) (.call 5 (.cons (.slot 1) (.cons (.cst (.int 1)) (.cons (.cst (.int 6)) .nil))))) .nil)))) (.seq (.rais 0 .nil)
 .skip) .skip)
 (.seq (.ite (.not (.call 6 (.cons (.idx (.slot 0) (.cst (.int 2))) (.cons (.cst (.int 0)) (.cons (.bin .mul (.cst (.int 6)) (.cst (.int 6))) .nil))))) (.seq (.rais 0 .nil)
 .skip) .skip)
 (.seq (.for [] (.tup (.cons (.name 2) (.cons (.name 3) .nil))) .enum (.cons (.idx (.slot 0) (.cst (.int 2))) .nil) (.seq (.ite (.or (.not (.call 7 (.cons (.slot 3) (.cons (.idx (.slot 0) (.cst (.int 0))) (.cons (.idx (.slot 0) (.cst (.int 1))) .nil))))) (.and (.cmp .gt (.slot 2) (.cst (.int 0))) (.cmp .le (.slot 3) (.idx (.idx (.slot 0) (.cst (.int 2))) (.bin .sub (.slot 2) (.cst (.int 1))))))) (.seq (.rais 0 .nil)
 .skip) .skip)
 .skip))
 .skip)))
/-- 47 -/
def b_stairs_between : S :=
 (.seq (.asg (.name 2) (.lst (.cons (.tup .nil) .nil)))
 (.seq (.for [] (.tup (.cons (.name 3) (.cons (.name 4) .nil))) .zip (.cons (.slot 0) (.cons (.slot 1) .nil)) (.seq (.asg (.name 5) (.lst .nil))
 (.seq (.for [] (.name 6) .val (.cons (.slot 2) .nil) (.seq (.asg (.name 7) (.ite (.cmp .ne (.slot 6) (.tup .nil)) (.prim .min2 (.cons (.slot 4) (.cons (.idx (.slot 6) (.neg (.cst (.int 1)))) .nil))) (.slot 4)))
 (.seq (.asg (.name 5) (.bin .add (.slot 5) (.comp [8] (.name 8) .rng (.cons (.slot 3) (.cons (.bin .add (.slot 7) (.cst (.int 1))) .nil)) (.cst (.bl true)) (.bin .add (.slot 6) (.tup (.cons (.slot 8) .nil))))))
 .skip)))
 (.seq (.asg (.name 2) (.slot 5))
 .skip))))
 (.seq (.ret (.slot 2))
 .skip)))
/-- 48 -/
def b_all_stairs_of : S :=
 (.seq (.ret (.call 47 (.cons (.bin .mul (.tup (.cons (.cst (.int 0)) .nil)) (.idx (.slot 0) (.cst (.int 0)))) (.cons (.bin .mul (.tup (.cons (.idx (.slot 0) (.cst (.int 1))) .nil)) (.idx (.slot 0) (.cst (.int 0)))) .nil))))
 .skip)
/-- 49 -/
def b_all_stairs : S :=
 (.seq (.expr (.call 8 (.cons (.slot 0) .nil)))
 (.seq (.ret (.call 48 (.cons (.slot 0) .nil)))
 .skip))
/-- 50 -/
def b_choose : S :=
 (.seq (.ite (.not (.chn .le .le (.cst (.int 0)) (.slot 1) (.slot 0))) (.seq (.ret (.cst (.int 0)))
 .skip) .skip)
 (.seq (.asg (.name 2) (.cst (.int 1)))
 (.seq (.for [] (.name 3) .rng (.cons (.slot 1) .nil) (.seq (.asg (.name 2) (.bin .fdiv (.bin .mul (.slot 2) (.bin .sub (.slot 0) (.slot 3))) (.bin .add (.slot 3) (.cst (.int 1)))))
 .skip))
 (.seq (.ret (.slot 2))
 .skip))))
/-- 51 -/
def b_count_stairs : S :=
 (.seq (.expr (.call 8 (.cons (.slot 0) .nil)))
 (.seq (.ret (.call 50 (.cons (.bin .add (.idx (.slot 0) (.cst (.int 0))) (.idx (.slot 0) (.cst (.int 1)))) (.cons (.idx (.slot 0) (.cst (.int 0))) .nil))))
 .skip))
/-- 17 -/
def b_law_pick : S :=
 (.seq (.ret (.idx (.slot 1) (.call 0 (.cons (.slot 0) (.cons (.prim .len (.cons (.slot 1) .nil)) .nil)))))
 .skip)
/-- 52 -/
def b_law_is_under : S :=
 (.seq (.ret (.cmp .lt (.idx (.slot 1) (.cst (.int 1))) (.idx (.slot 0) (.idx (.slot 1) (.cst (.int 0))))))
 .skip)
/-- 53 -/
def b_is_stair : S :=
 (.seq (.ite (.or (.not (.call 6 (.cons (.slot 1) (.cons (.idx (.slot 0) (.cst (.int 0))) (.cons (.idx (.slot 0) (.cst (.int 0))) .nil))))) (.not (.prim .all (.cons (.comp [2] (.name 2) .val (.cons (.slot 1) .nil) (.cst (.bl true)) (.call 5 (.cons (.slot 2) (.cons (.cst (.int 0)) (.cons (.idx (.slot 0) (.cst (.int 1))) .nil))))) .nil)))) (.seq (.ret (.cst (.bl false)))
 .skip) .skip)
 (.seq (.ret (.prim .all (.cons (.comp [3] (.name 3) .rng (.cons (.bin .sub (.prim .len (.cons (.slot 1) .nil)) (.cst (.int 1))) .nil) (.cst (.bl true)) (.cmp .ge (.idx (.slot 1) (.slot 3)) (.idx (.slot 1) (.bin .add (.slot 3) (.cst (.int 1)))))) .nil)))
 .skip))
/-- 54 -/
def b_need_stair : S :=
 (.seq (.ite (.not (.call 53 (.cons (.slot 0) (.cons (.slot 1) .nil)))) (.seq (.rais 0 .nil)
 .skip) .skip)
 .skip)
/-- 12 -/
def b_squares_of : S :=
 (.seq (.asg (.name 2) (.lst .nil))
 (.seq (.for [] (.name 3) .rng (.cons (.slot 0) .nil) (.seq (.asg (.name 2) (.bin .add (.slot 2) (.comp [4] (.name 4) .rng (.cons (.slot 1) .nil) (.cst (.bl true)) (.tup (.cons (.slot 3) (.cons (.slot 4) .nil))))))
 .skip))
 (.seq (.ret (.slot 2))
 .skip)))
/-- 55 -/
def b_is_under_of : S :=
 (.seq (.ret (.cmp .lt (.idx (.slot 1) (.cst (.int 1))) (.idx (.slot 0) (.idx (.slot 1) (.cst (.int 0))))))
 .skip)
/-- 56 -/
def b_squares_under : S :=
 (.seq (.expr (.call 8 (.cons (.slot 0) .nil)))
 (.seq (.expr (.call 54 (.cons (.slot 0) (.cons (.slot 1) .nil))))
 (.seq (.ret (.comp [2] (.name 2) .val (.cons (.call 12 (.cons (.idx (.slot 0) (.cst (.int 0))) (.cons (.idx (.slot 0) (.cst (.int 1))) .nil))) .nil) (.call 55 (.cons (.slot 1) (.cons (.slot 2) .nil))) (.slot 2)))
 .skip)))
/-- 57 -/
def b_count_under : S :=
 (.seq (.expr (.call 8 (.cons (.slot 0) .nil)))
 (.seq (.expr (.call 54 (.cons (.slot 0) (.cons (.slot 1) .nil))))
 (.seq (.ret (.prim .sum (.cons (.slot 1) .nil)))
 .skip)))
/-- 18 -/
def b_need_square : S :=
 (.seq (.ite (.not (.call 7 (.cons (.slot 1) (.cons (.idx (.slot 0) (.cst (.int 0))) (.cons (.idx (.slot 0) (.cst (.int 1))) .nil))))) (.seq (.rais 0 .nil)
 .skip) .skip)
 .skip)
/-- 58 -/
def b_is_under : S :=
 (.seq (.expr (.call 8 (.cons (.slot 0) .nil)))
 (.seq (.expr (.call 54 (.cons (.slot 0) (.cons (.slot 1) .nil))))
 (.seq (.expr (.call 18 (.cons (.slot 0) (.cons (.slot 2) .nil))))
 (.seq (.ret (.call 55 (.cons (.slot 1) (.cons (.slot 2) .nil))))
 .skip))))
/-- 59 -/
def b_law_turned : S :=
 (.seq (.asg (.name 3) (.ite (.call 52 (.cons (.slot 1) (.cons (.slot 2) .nil))) (.bin .sub (.cst (.int 0)) (.cst (.int 1))) (.cst (.int 1))))
 (.seq (.asg (.name 4) (.or (.cmp .eq (.idx (.slot 2) (.cst (.int 1))) (.idx (.slot 1) (.idx (.slot 2) (.cst (.int 0))))) (.cmp .eq (.idx (.slot 2) (.cst (.int 1))) (.bin .sub (.idx (.slot 1) (.idx (.slot 2) (.cst (.int 0)))) (.cst (.int 1))))))
 (.seq (.asg (.name 5) (.prim .tuple (.cons (.comp [6] (.name 6) .rng (.cons (.idx (.slot 0) (.cst (.int 0))) .nil) (.cst (.bl true)) (.bin .add (.idx (.slot 1) (.slot 6)) (.ite (.cmp .eq (.slot 6) (.idx (.slot 2) (.cst (.int 0)))) (.slot 3) (.cst (.int 0))))) .nil)))
 (.seq (.ret (.ite (.and (.slot 4) (.cmp .eq (.prim .list (.cons (.slot 5) .nil)) (.rev (.prim .sorted (.cons (.slot 5) .nil))))) (.slot 5) (.cst .non)))
 .skip))))
/-- 60 -/
def b_law_corners : S :=
 (.seq (.ret (.comp [2] (.name 2) .val (.cons (.call 1 (.cons (.idx (.slot 0) (.cst (.int 0))) (.cons (.idx (.slot 0) (.cst (.int 1))) .nil))) .nil) (.cmp .isnot (.call 59 (.cons (.slot 0) (.cons (.slot 1) (.cons (.slot 2) .nil)))) (.cst .non)) (.slot 2)))
 .skip)
/-- 61 -/
def b_inner_of : S :=
 (.seq (.asg (.name 1) (.bin .add (.prim .list (.cons (.slc (.slot 0) (.cst (.int 1)) .skipE) .nil)) (.lst (.cons (.cst (.int 0)) .nil))))
 (.seq (.ret (.comp [2, 3] (.tup (.cons (.name 2) (.cons (.name 3) .nil))) .enum (.cons (.slot 0) .nil) (.cmp .gt (.slot 3) (.idx (.slot 1) (.slot 2))) (.tup (.cons (.slot 2) (.cons (.bin .sub (.slot 3) (.cst (.int 1))) .nil)))))
 .skip))
/-- 62 -/
def b_inner_corners : S :=
 (.seq (.expr (.call 8 (.cons (.slot 0) .nil)))
 (.seq (.expr (.call 54 (.cons (.slot 0) (.cons (.slot 1) .nil))))
 (.seq (.ret (.call 61 (.cons (.slot 1) .nil)))
 .skip)))
/-- 63 -/
def b_outer_of : S :=
 (.seq (.asg (.name 2) (.bin .add (.lst (.cons (.idx (.slot 0) (.cst (.int 1))) .nil)) (.prim .list (.cons (.slc (.slot 1) .skipE (.neg (.cst (.int 1)))) .nil))))
 (.seq (.ret (.comp [3, 4] (.tup (.cons (.name 3) (.cons (.name 4) .nil))) .enum (.cons (.slot 1) .nil) (.cmp .lt (.slot 4) (.idx (.slot 2) (.slot 3))) (.tup (.cons (.slot 3) (.cons (.slot 4) .nil)))))
 .skip))
/-- 64 -/
def b_outer_corners : S :=
 (.seq (.expr (.call 8 (.cons (.slot 0) .nil)))
 (.seq (.expr (.call 54 (.cons (.slot 0) (.cons (.slot 1) .nil))))
 (.seq (.ret (.call 63 (.cons (.slot 0) (.cons (.slot 1) .nil))))
 .skip)))
/-- 65 -/
def b_ways_below : S :=
 (.seq (.asg (.name 2) (.lst (.cons (.dcomp [3] (.name 3) .rng (.cons (.idx (.slot 0) (.neg (.cst (.int 1)))) (.cons (.bin .add (.idx (.slot 1) (.neg (.cst (.int 1)))) (.cst (.int 1))) .nil)) (.cst (.bl true)) (.slot 3) (.cst (.int 1))) .nil)))
 (.seq (.for [] (.name 4) .rng (.cons (.bin .sub (.prim .len (.cons (.slot 0) .nil)) (.cst (.int 2))) (.cons (.neg (.cst (.int 1))) (.cons (.neg (.cst (.int 1))) .nil))) (.seq (.asg (.name 5) (.idx (.slot 2) (.cst (.int 0))))
 (.seq (.asg (.name 6) (.dcomp [3] (.name 3) .rng (.cons (.idx (.slot 0) (.slot 4)) (.cons (.bin .add (.idx (.slot 1) (.slot 4)) (.cst (.int 1))) .nil)) (.cst (.bl true)) (.slot 3) (.prim .sum (.cons (.comp [7] (.name 7) .val (.cons (.slot 5) .nil) (.cmp .le (.slot 7) (.slot 3)) (.idx (.slot 5) (.slot 7))) .nil))))
 (.seq (.asg (.name 2) (.bin .add (.lst (.cons (.slot 6) .nil)) (.slot 2)))
 .skip))))
 (.seq (.ret (.slot 2))
 .skip)))
/-- 66 -/
def b_number_between : S :=
 (.seq (.par [(3, false), (4, false), (5, false)] (.cons (.call 65 (.cons (.slot 0) (.cons (.slot 1) .nil))) (.cons (.cst (.int 0)) (.cons (.cst .non) .nil))))
 (.seq (.for [] (.tup (.cons (.name 6) (.cons (.name 7) .nil))) .enum (.cons (.slot 2) .nil) (.seq (.for [] (.name 8) .val (.cons (.idx (.slot 3) (.slot 6)) .nil) (.seq (.ite (.and (.cmp .lt (.slot 8) (.slot 7)) (.or (.cmp .is (.slot 5) (.cst .non)) (.cmp .le (.slot 8) (.slot 5)))) (.seq (.aug 4 .add (.idx (.idx (.slot 3) (.slot 6)) (.slot 8)))
 .skip) .skip)
 .skip))
 (.seq (.asg (.name 5) (.slot 7))
 .skip)))
 (.seq (.ret (.slot 4))
 .skip)))
/-- 67 -/
def b_stair_number : S :=
 (.seq (.expr (.call 8 (.cons (.slot 0) .nil)))
 (.seq (.expr (.call 54 (.cons (.slot 0) (.cons (.slot 1) .nil))))
 (.seq (.ret (.call 66 (.cons (.bin .mul (.tup (.cons (.cst (.int 0)) .nil)) (.idx (.slot 0) (.cst (.int 0)))) (.cons (.bin .mul (.tup (.cons (.idx (.slot 0) (.cst (.int 1))) .nil)) (.idx (.slot 0) (.cst (.int 0)))) (.cons (.slot 1) .nil)))))
 .skip)))
/-- 15 -/
def b_need_number : S :=
 (.seq (.ite (.not (.call 5 (.cons (.slot 0) (.cons (.slot 1) (.cons (.slot 2) .nil))))) (.seq (.rais 0 .nil)
 .skip) .skip)
 .skip)
/-- 68 -/
def b_stair_between : S :=
 (.seq (.par [(3, false), (4, true), (5, false)] (.cons (.call 65 (.cons (.slot 0) (.cons (.slot 1) .nil))) (.cons (.lst .nil) (.cons (.cst .non) .nil))))
 (.seq (.for [] (.name 6) .rng (.cons (.prim .len (.cons (.slot 0) .nil)) .nil) (.seq (.for [] (.name 7) .val (.cons (.prim .sorted (.cons (.idx (.slot 3) (.slot 6)) .nil)) .nil) (.seq (.ite (.and (.cmp .isnot (.slot 5) (.cst .non)) (.cmp .gt (.slot 7) (.slot 5))) (.seq .brk
 .skip) .skip)
 (.seq (.ite (.cmp .lt (.slot 2) (.idx (.idx (.slot 3) (.slot 6)) (.slot 7))) (.seq (.app 4 (.slot 7))
 (.seq .brk
 .skip)) .skip)
 (.seq (.aug 2 .sub (.idx (.idx (.slot 3) (.slot 6)) (.slot 7)))
 .skip))))
 (.seq (.asg (.name 5) (.idx (.brw 4) (.neg (.cst (.int 1)))))
 .skip)))
 (.seq (.ret (.prim .tuple (.cons (.brw 4) .nil)))
 .skip)))
/-- 69 -/
def b_stair_at : S :=
 (.seq (.expr (.call 8 (.cons (.slot 0) .nil)))
 (.seq (.expr (.call 15 (.cons (.slot 1) (.cons (.cst (.int 0)) (.cons (.bin .sub (.call 50 (.cons (.bin .add (.idx (.slot 0) (.cst (.int 0))) (.idx (.slot 0) (.cst (.int 1)))) (.cons (.idx (.slot 0) (.cst (.int 0))) .nil))) (.cst (.int 1))) .nil)))))
 (.seq (.ret (.call 68 (.cons (.bin .mul (.tup (.cons (.cst (.int 0)) .nil)) (.idx (.slot 0) (.cst (.int 0)))) (.cons (.bin .mul (.tup (.cons (.idx (.slot 0) (.cst (.int 1))) .nil)) (.idx (.slot 0) (.cst (.int 0)))) (.cons (.slot 1) .nil)))))
 .skip)))
/-- 70 -/
def b_count_through : S :=
 (.seq (.expr (.call 8 (.cons (.slot 0) .nil)))
 (.seq (.expr (.call 18 (.cons (.slot 0) (.cons (.slot 1) .nil))))
 (.seq (.asg (.name 2) (.call 48 (.cons (.slot 0) .nil)))
 (.seq (.asg (.name 3) (.prim .len (.cons (.comp [4] (.name 4) .val (.cons (.slot 2) .nil) (.cmp .mem (.slot 1) (.call 61 (.cons (.slot 4) .nil))) (.slot 4)) .nil)))
 (.seq (.ret (.bin .add (.slot 3) (.prim .len (.cons (.comp [4] (.name 4) .val (.cons (.slot 2) .nil) (.cmp .mem (.slot 1) (.call 63 (.cons (.slot 0) (.cons (.slot 4) .nil)))) (.slot 4)) .nil))))
 .skip)))))
/-- 84 -/
def b_about : S :=
 (.seq (.own 2 (.lst .nil))
 (.seq (.for [] (.name 3) .rng (.cons (.idx (.slot 0) (.cst (.int 0))) .nil) (.seq (.app 2 (.prim .max (.cons (.bin .add (.lst (.cons (.cst (.int 0)) .nil)) (.comp [4] (.name 4) .val (.cons (.slot 1) .nil) (.cmp .ge (.idx (.slot 4) (.cst (.int 0))) (.slot 3)) (.bin .add (.idx (.slot 4) (.cst (.int 1))) (.cst (.int 1))))) .nil)))
 .skip))
 (.seq (.ret (.prim .tuple (.cons (.brw 2) .nil)))
 .skip)))
/-- 111 -/
def b_rocks_of : S :=
 (.seq (.ret (.prim .tuple (.cons (.comp [2] (.name 2) .val (.cons (.idx (.slot 0) (.cst (.int 2))) .nil) (.call 55 (.cons (.slot 1) (.cons (.slot 2) .nil))) (.slot 2)) .nil)))
 .skip)
/-- 112 -/
def b_low_of : S :=
 (.seq (.ret (.call 84 (.cons (.slot 0) (.cons (.call 111 (.cons (.slot 0) (.cons (.slot 1) .nil))) .nil))))
 .skip)
/-- 86 -/
def b_before : S :=
 (.seq (.own 2 (.lst .nil))
 (.seq (.for [] (.name 3) .rng (.cons (.idx (.slot 0) (.cst (.int 0))) .nil) (.seq (.app 2 (.prim .min (.cons (.bin .add (.lst (.cons (.idx (.slot 0) (.cst (.int 1))) .nil)) (.comp [4] (.name 4) .val (.cons (.slot 1) .nil) (.cmp .le (.idx (.slot 4) (.cst (.int 0))) (.slot 3)) (.idx (.slot 4) (.cst (.int 1))))) .nil)))
 .skip))
 (.seq (.ret (.prim .tuple (.cons (.brw 2) .nil)))
 .skip)))
/-- 113 -/
def b_high_of : S :=
 (.seq (.ret (.call 86 (.cons (.slot 0) (.cons (.comp [2] (.name 2) .val (.cons (.idx (.slot 0) (.cst (.int 2))) .nil) (.not (.call 55 (.cons (.slot 1) (.cons (.slot 2) .nil)))) (.slot 2)) .nil))))
 .skip)
/-- 115 -/
def b_size_of : S :=
 (.seq (.ret (.prim .sumv (.cons (.idx (.call 65 (.cons (.call 112 (.cons (.slot 0) (.cons (.slot 1) .nil))) (.cons (.call 113 (.cons (.slot 0) (.cons (.slot 1) .nil))) .nil))) (.cst (.int 0))) .nil)))
 .skip)
/-- 116 -/
def b_count_kind : S :=
 (.seq (.expr (.call 8 (.cons (.slot 0) .nil)))
 (.seq (.expr (.call 54 (.cons (.slot 0) (.cons (.slot 1) .nil))))
 (.seq (.ret (.call 115 (.cons (.slot 0) (.cons (.slot 1) .nil))))
 .skip)))
/-- 125 -/
def b_kind_number : S :=
 (.seq (.expr (.call 8 (.cons (.slot 0) .nil)))
 (.seq (.expr (.call 54 (.cons (.slot 0) (.cons (.slot 1) .nil))))
 (.seq (.ret (.call 66 (.cons (.call 112 (.cons (.slot 0) (.cons (.slot 1) .nil))) (.cons (.call 113 (.cons (.slot 0) (.cons (.slot 1) .nil))) (.cons (.slot 1) .nil)))))
 .skip)))
/-- 126 -/
def b_kind_at : S :=
 (.seq (.expr (.call 8 (.cons (.slot 0) .nil)))
 (.seq (.expr (.call 54 (.cons (.slot 0) (.cons (.slot 1) .nil))))
 (.seq (.expr (.call 15 (.cons (.slot 2) (.cons (.cst (.int 0)) (.cons (.bin .sub (.call 115 (.cons (.slot 0) (.cons (.slot 1) .nil))) (.cst (.int 1))) .nil)))))
 (.seq (.ret (.call 68 (.cons (.call 112 (.cons (.slot 0) (.cons (.slot 1) .nil))) (.cons (.call 113 (.cons (.slot 0) (.cons (.slot 1) .nil))) (.cons (.slot 2) .nil)))))
 .skip))))
/-- 120 -/
def b_lowest : S :=
 (.seq (.expr (.call 8 (.cons (.slot 0) .nil)))
 (.seq (.expr (.call 54 (.cons (.slot 0) (.cons (.slot 1) .nil))))
 (.seq (.ret (.call 112 (.cons (.slot 0) (.cons (.slot 1) .nil))))
 .skip)))
/-- 121 -/
def b_highest : S :=
 (.seq (.expr (.call 8 (.cons (.slot 0) .nil)))
 (.seq (.expr (.call 54 (.cons (.slot 0) (.cons (.slot 1) .nil))))
 (.seq (.ret (.call 113 (.cons (.slot 0) (.cons (.slot 1) .nil))))
 .skip)))
/-- 74 -/
def b_need_two : S :=
 (.seq (.expr (.call 8 (.cons (.slot 0) .nil)))
 (.seq (.expr (.call 54 (.cons (.slot 0) (.cons (.slot 1) .nil))))
 (.seq (.expr (.call 54 (.cons (.slot 0) (.cons (.slot 2) .nil))))
 .skip)))
/-- 119 -/
def b_are_one : S :=
 (.seq (.expr (.call 74 (.cons (.slot 0) (.cons (.slot 1) (.cons (.slot 2) .nil)))))
 (.seq (.ret (.cmp .eq (.call 111 (.cons (.slot 0) (.cons (.slot 1) .nil))) (.call 111 (.cons (.slot 0) (.cons (.slot 2) .nil)))))
 .skip))
/-- 114 -/
def b_kind_stairs : S :=
 (.seq (.expr (.call 8 (.cons (.slot 0) .nil)))
 (.seq (.expr (.call 54 (.cons (.slot 0) (.cons (.slot 1) .nil))))
 (.seq (.ret (.call 47 (.cons (.call 112 (.cons (.slot 0) (.cons (.slot 1) .nil))) (.cons (.call 113 (.cons (.slot 0) (.cons (.slot 1) .nil))) .nil))))
 .skip)))
/-- 13 -/
def b_free_of : S :=
 (.seq (.ret (.comp [1] (.name 1) .val (.cons (.call 12 (.cons (.idx (.slot 0) (.cst (.int 0))) (.cons (.idx (.slot 0) (.cst (.int 1))) .nil))) .nil) (.cmp .nmem (.slot 1) (.idx (.slot 0) (.cst (.int 2)))) (.slot 1)))
 .skip)
/-- 14 -/
def b_free_squares : S :=
 (.seq (.expr (.call 8 (.cons (.slot 0) .nil)))
 (.seq (.ret (.call 13 (.cons (.slot 0) .nil)))
 .skip))
/-- 24 -/
def b_up_left : S :=
 (.seq (.ret (.and (.cmp .le (.idx (.slot 0) (.cst (.int 0))) (.idx (.slot 1) (.cst (.int 0)))) (.cmp .le (.idx (.slot 0) (.cst (.int 1))) (.idx (.slot 1) (.cst (.int 1))))))
 .skip)
/-- 142 -/
def b_lots_of : S :=
 (.seq (.asg (.name 1) (.lst (.cons (.tup .nil) .nil)))
 (.seq (.for [] (.name 2) .val (.cons (.idx (.slot 0) (.cst (.int 2))) .nil) (.seq (.asg (.name 3) (.comp [4] (.name 4) .val (.cons (.idx (.slot 0) (.cst (.int 2))) .nil) (.and (.cmp .ne (.slot 4) (.slot 2)) (.call 24 (.cons (.slot 4) (.cons (.slot 2) .nil)))) (.slot 4)))
 (.seq (.asg (.name 1) (.bin .add (.slot 1) (.comp [5] (.name 5) .val (.cons (.slot 1) .nil) (.prim .all (.cons (.comp [4] (.name 4) .val (.cons (.slot 3) .nil) (.cst (.bl true)) (.cmp .mem (.slot 4) (.slot 5))) .nil)) (.bin .add (.slot 5) (.tup (.cons (.slot 2) .nil))))))
 .skip)))
 (.seq (.ret (.slot 1))
 .skip)))
/-- 143 -/
def b_count_kinds : S :=
 (.seq (.expr (.call 8 (.cons (.slot 0) .nil)))
 (.seq (.ret (.prim .len (.cons (.call 142 (.cons (.slot 0) .nil)) .nil)))
 .skip))
/-- 146 -/
def b_is_lot_of : S :=
 (.seq (.ite (.not (.prim .all (.cons (.comp [2] (.name 2) .val (.cons (.slot 1) .nil) (.cst (.bl true)) (.cmp .mem (.slot 2) (.idx (.slot 0) (.cst (.int 2))))) .nil))) (.seq (.ret (.cst (.bl false)))
 .skip) .skip)
 (.seq (.for [] (.name 2) .val (.cons (.slot 1) .nil) (.seq (.ite (.prim .any (.cons (.comp [3] (.name 3) .val (.cons (.idx (.slot 0) (.cst (.int 2))) .nil) (.cst (.bl true)) (.and (.call 24 (.cons (.slot 3) (.cons (.slot 2) .nil))) (.cmp .nmem (.slot 3) (.slot 1)))) .nil)) (.seq (.ret (.cst (.bl false)))
 .skip) .skip)
 .skip))
 (.seq (.ret (.cst (.bl true)))
 .skip)))
/-- 207 -/
def b_joins_of : S :=
 (.seq (.own 2 (.lst .nil))
 (.seq (.for [] (.name 3) .val (.cons (.prim .sorted (.cons (.call 142 (.cons (.slot 0) .nil)) .nil)) .nil) (.seq (.ite (.cmp .nmem (.slot 1) (.slot 3)) (.seq (.asg (.name 4) (.prim .tuple (.cons (.prim .sorted (.cons (.bin .add (.slot 3) (.tup (.cons (.slot 1) .nil))) .nil)) .nil)))
 (.seq (.ite (.call 146 (.cons (.slot 0) (.cons (.slot 4) .nil))) (.seq (.app 2 (.tup (.cons (.slot 3) (.cons (.slot 4) .nil))))
 .skip) .skip)
 .skip)) .skip)
 .skip))
 (.seq (.frz 2)
 (.seq (.ret (.slot 2))
 .skip))))
/-- 213 -/
def b_put_of : S :=
 (.seq (.ret (.tup (.cons (.idx (.slot 0) (.cst (.int 0))) (.cons (.idx (.slot 0) (.cst (.int 1))) (.cons (.prim .tuple (.cons (.prim .sorted (.cons (.bin .add (.idx (.slot 0) (.cst (.int 2))) (.tup (.cons (.slot 1) .nil))) .nil)) .nil)) .nil)))))
 .skip)
/-- 216 -/
def b_best_square : S :=
 (.seq (.expr (.call 8 (.cons (.slot 0) .nil)))
 (.seq (.asg (.name 1) (.comp [2] (.name 2) .val (.cons (.call 13 (.cons (.slot 0) .nil)) .nil) (.cst (.bl true)) (.tup (.cons (.neg (.prim .len (.cons (.call 207 (.cons (.call 213 (.cons (.slot 0) (.cons (.slot 2) .nil))) (.cons (.slot 2) .nil))) .nil))) (.cons (.slot 2) .nil)))))
 (.seq (.ret (.ite (.cmp .ne (.slot 1) (.lst .nil)) (.tup (.cons (.neg (.idx (.prim .min (.cons (.slot 1) .nil)) (.cst (.int 0)))) (.cons (.idx (.prim .min (.cons (.slot 1) .nil)) (.cst (.int 1))) .nil))) (.cst .non)))
 .skip)))
/-- 314 -/
def b_bounds : S :=
 (.seq (.own 1 (.lst .nil))
 (.seq (.for [] (.name 2) .val (.cons (.call 142 (.cons (.slot 0) .nil)) .nil) (.seq (.app 1 (.tup (.cons (.call 84 (.cons (.slot 0) (.cons (.slot 2) .nil))) (.cons (.call 86 (.cons (.slot 0) (.cons (.comp [3] (.name 3) .val (.cons (.idx (.slot 0) (.cst (.int 2))) .nil) (.cmp .nmem (.slot 3) (.slot 2)) (.slot 3)) .nil))) .nil))))
 .skip))
 (.seq (.frz 1)
 (.seq (.ret (.slot 1))
 .skip))))
/-- 319 -/
def b_busiest : S :=
 (.seq (.expr (.call 8 (.cons (.slot 0) .nil)))
 (.seq (.asg (.name 1) (.call 314 (.cons (.slot 0) .nil)))
 (.seq (.asg (.name 2) (.cst .non))
 (.seq (.for [] (.name 3) .val (.cons (.call 12 (.cons (.idx (.slot 0) (.cst (.int 0))) (.cons (.idx (.slot 0) (.cst (.int 1))) .nil))) .nil) (.seq (.asg (.name 4) (.prim .len (.cons (.comp [5, 6] (.tup (.cons (.name 5) (.cons (.name 6) .nil))) .val (.cons (.slot 1) .nil) (.chn .le .lt (.idx (.slot 5) (.idx (.slot 3) (.cst (.int 0)))) (.idx (.slot 3) (.cst (.int 1))) (.idx (.slot 6) (.idx (.slot 3) (.cst (.int 0))))) (.cst (.int 1))) .nil)))
 (.seq (.ite (.or (.cmp .is (.slot 2) (.cst .non)) (.cmp .gt (.slot 4) (.idx (.slot 2) (.cst (.int 0))))) (.seq (.asg (.name 2) (.tup (.cons (.slot 4) (.cons (.slot 3) .nil))))
 .skip) .skip)
 .skip)))
 (.seq (.ret (.slot 2))
 .skip)))))
/-- 214 -/
def b_count_new : S :=
 (.seq (.expr (.call 8 (.cons (.slot 0) .nil)))
 (.seq (.expr (.call 18 (.cons (.slot 0) (.cons (.slot 1) .nil))))
 (.seq (.ite (.cmp .mem (.slot 1) (.idx (.slot 0) (.cst (.int 2)))) (.seq (.rais 0 .nil)
 .skip) .skip)
 (.seq (.ret (.prim .len (.cons (.call 207 (.cons (.call 213 (.cons (.slot 0) (.cons (.slot 1) .nil))) (.cons (.slot 1) .nil))) .nil)))
 .skip))))
/-- 320 -/
def b_dead_squares : S :=
 (.seq (.expr (.call 8 (.cons (.slot 0) .nil)))
 (.seq (.asg (.name 1) (.call 314 (.cons (.slot 0) .nil)))
 (.seq (.own 2 (.lst .nil))
 (.seq (.for [] (.name 3) .val (.cons (.call 12 (.cons (.idx (.slot 0) (.cst (.int 0))) (.cons (.idx (.slot 0) (.cst (.int 1))) .nil))) .nil) (.seq (.asg (.name 4) (.prim .len (.cons (.comp [5, 6] (.tup (.cons (.name 5) (.cons (.name 6) .nil))) .val (.cons (.slot 1) .nil) (.chn .le .lt (.idx (.slot 5) (.idx (.slot 3) (.cst (.int 0)))) (.idx (.slot 3) (.cst (.int 1))) (.idx (.slot 6) (.idx (.slot 3) (.cst (.int 0))))) (.cst (.int 1))) .nil)))
 (.seq (.ite (.and (.cmp .nmem (.slot 3) (.idx (.slot 0) (.cst (.int 2)))) (.cmp .eq (.slot 4) (.cst (.int 0)))) (.seq (.app 2 (.slot 3))
 .skip) .skip)
 .skip)))
 (.seq (.frz 2)
 (.seq (.ret (.slot 2))
 .skip))))))
/-- 318 -/
def b_zone_map : S :=
 (.seq (.expr (.call 8 (.cons (.slot 0) .nil)))
 (.seq (.asg (.name 1) (.call 314 (.cons (.slot 0) .nil)))
 (.seq (.own 2 (.lst .nil))
 (.seq (.for [] (.name 3) .rng (.cons (.idx (.slot 0) (.cst (.int 0))) .nil) (.seq (.own 4 (.lst .nil))
 (.seq (.for [] (.name 5) .rng (.cons (.idx (.slot 0) (.cst (.int 1))) .nil) (.seq (.app 4 (.prim .len (.cons (.comp [6, 7] (.tup (.cons (.name 6) (.cons (.name 7) .nil))) .val (.cons (.slot 1) .nil) (.chn .le .lt (.idx (.slot 6) (.slot 3)) (.slot 5) (.idx (.slot 7) (.slot 3))) (.cst (.int 1))) .nil)))
 .skip))
 (.seq (.app 2 (.prim .tuple (.cons (.brw 4) .nil)))
 .skip))))
 (.seq (.ret (.prim .tuple (.cons (.brw 2) .nil)))
 .skip)))))
/-- 218 -/
def b_strongest_rock : S :=
 (.seq (.expr (.call 8 (.cons (.slot 0) .nil)))
 (.seq (.asg (.name 1) (.comp [2] (.name 2) .val (.cons (.idx (.slot 0) (.cst (.int 2))) .nil) (.cst (.bl true)) (.tup (.cons (.neg (.prim .len (.cons (.call 207 (.cons (.slot 0) (.cons (.slot 2) .nil))) .nil))) (.cons (.slot 2) .nil)))))
 (.seq (.ret (.ite (.cmp .ne (.slot 1) (.lst .nil)) (.tup (.cons (.neg (.idx (.prim .min (.cons (.slot 1) .nil)) (.cst (.int 0)))) (.cons (.idx (.prim .min (.cons (.slot 1) .nil)) (.cst (.int 1))) .nil))) (.cst .non)))
 .skip)))
/-- 217 -/
def b_weakest_rock : S :=
 (.seq (.expr (.call 8 (.cons (.slot 0) .nil)))
 (.seq (.asg (.name 1) (.comp [2] (.name 2) .val (.cons (.idx (.slot 0) (.cst (.int 2))) .nil) (.cst (.bl true)) (.tup (.cons (.prim .len (.cons (.call 207 (.cons (.slot 0) (.cons (.slot 2) .nil))) .nil)) (.cons (.slot 2) .nil)))))
 (.seq (.ret (.ite (.cmp .ne (.slot 1) (.lst .nil)) (.prim .min (.cons (.slot 1) .nil)) (.cst .non)))
 .skip)))
/-- 208 -/
def b_joins : S :=
 (.seq (.expr (.call 8 (.cons (.slot 0) .nil)))
 (.seq (.expr (.call 18 (.cons (.slot 0) (.cons (.slot 1) .nil))))
 (.seq (.ite (.cmp .nmem (.slot 1) (.idx (.slot 0) (.cst (.int 2)))) (.seq (.rais 0 .nil)
 .skip) .skip)
 (.seq (.ret (.call 207 (.cons (.slot 0) (.cons (.slot 1) .nil))))
 .skip))))
/-- 209 -/
def b_count_joined : S :=
 (.seq (.ret (.prim .len (.cons (.call 208 (.cons (.slot 0) (.cons (.slot 1) .nil))) .nil)))
 .skip)
/-- 219 -/
def b_taken_of : S :=
 (.seq (.ret (.tup (.cons (.idx (.slot 0) (.cst (.int 0))) (.cons (.idx (.slot 0) (.cst (.int 1))) (.cons (.prim .tuple (.cons (.comp [2] (.name 2) .val (.cons (.idx (.slot 0) (.cst (.int 2))) .nil) (.cmp .ne (.slot 2) (.slot 1)) (.slot 2)) .nil)) .nil)))))
 .skip)
/-- 397 -/
def b_taken : S :=
 (.seq (.expr (.call 8 (.cons (.slot 0) .nil)))
 (.seq (.expr (.call 18 (.cons (.slot 0) (.cons (.slot 1) .nil))))
 (.seq (.ite (.cmp .nmem (.slot 1) (.idx (.slot 0) (.cst (.int 2)))) (.seq (.rais 0 .nil)
 .skip) .skip)
 (.seq (.ret (.call 219 (.cons (.slot 0) (.cons (.slot 1) .nil))))
 .skip))))
/-- 315 -/
def b_kinds_about : S :=
 (.seq (.expr (.call 8 (.cons (.slot 0) .nil)))
 (.seq (.expr (.call 18 (.cons (.slot 0) (.cons (.slot 1) .nil))))
 (.seq (.ret (.prim .len (.cons (.comp [2, 3] (.tup (.cons (.name 2) (.cons (.name 3) .nil))) .val (.cons (.call 314 (.cons (.slot 0) .nil)) .nil) (.chn .le .lt (.idx (.slot 2) (.idx (.slot 1) (.cst (.int 0)))) (.idx (.slot 1) (.cst (.int 1))) (.idx (.slot 3) (.idx (.slot 1) (.cst (.int 0))))) (.cst (.int 1))) .nil)))
 .skip)))
/-- 97 -/
def b_turnable_of : S :=
 (.seq (.ret (.prim .sorted (.cons (.comp [2] (.name 2) .val (.cons (.bin .add (.call 61 (.cons (.slot 1) .nil)) (.call 63 (.cons (.slot 0) (.cons (.slot 1) .nil)))) .nil) (.cmp .nmem (.slot 2) (.idx (.slot 0) (.cst (.int 2)))) (.slot 2)) .nil)))
 .skip)
/-- 109 -/
def b_turns_about : S :=
 (.seq (.expr (.call 8 (.cons (.slot 0) .nil)))
 (.seq (.expr (.call 18 (.cons (.slot 0) (.cons (.slot 1) .nil))))
 (.seq (.ret (.prim .len (.cons (.comp [2] (.name 2) .val (.cons (.call 48 (.cons (.slot 0) .nil)) .nil) (.cmp .mem (.slot 1) (.call 97 (.cons (.slot 0) (.cons (.slot 2) .nil)))) (.slot 2)) .nil)))
 .skip)))
/-- 398 -/
def b_put : S :=
 (.seq (.expr (.call 8 (.cons (.slot 0) .nil)))
 (.seq (.expr (.call 18 (.cons (.slot 0) (.cons (.slot 1) .nil))))
 (.seq (.ite (.cmp .mem (.slot 1) (.idx (.slot 0) (.cst (.int 2)))) (.seq (.rais 0 .nil)
 .skip) .skip)
 (.seq (.ret (.call 213 (.cons (.slot 0) (.cons (.slot 1) .nil))))
 .skip))))
/-- 83 -/
def b_need_squares : S :=
 (.seq (.ite (.not (.call 6 (.cons (.slot 1) (.cons (.cst (.int 0)) (.cons (.bin .mul (.cst (.int 6)) (.cst (.int 6))) .nil))))) (.seq (.rais 0 .nil)
 .skip) .skip)
 (.seq (.for [] (.tup (.cons (.name 2) (.cons (.name 3) .nil))) .enum (.cons (.slot 1) .nil) (.seq (.ite (.or (.not (.call 7 (.cons (.slot 3) (.cons (.idx (.slot 0) (.cst (.int 0))) (.cons (.idx (.slot 0) (.cst (.int 1))) .nil))))) (.and (.cmp .gt (.slot 2) (.cst (.int 0))) (.cmp .le (.slot 3) (.idx (.slot 1) (.bin .sub (.slot 2) (.cst (.int 1))))))) (.seq (.rais 0 .nil)
 .skip) .skip)
 .skip))
 .skip))
/-- 221 -/
def b_numbers_put : S :=
 (.seq (.expr (.call 8 (.cons (.slot 0) .nil)))
 (.seq (.expr (.call 83 (.cons (.slot 0) (.cons (.slot 1) .nil))))
 (.seq (.for [] (.tup (.cons (.name 2) (.cons (.name 3) .nil))) .enum (.cons (.slot 1) .nil) (.seq (.ite (.cmp .mem (.slot 3) (.idx (.slot 0) (.cst (.int 2)))) (.seq (.rais 0 .nil)
 .skip) .skip)
 .skip))
 (.seq (.own 4 (.lst (.cons (.prim .len (.cons (.call 142 (.cons (.slot 0) .nil)) .nil)) .nil)))
 (.seq (.for [] (.name 3) .val (.cons (.slot 1) .nil) (.seq (.asg (.name 0) (.call 213 (.cons (.slot 0) (.cons (.slot 3) .nil))))
 (.seq (.app 4 (.prim .len (.cons (.call 142 (.cons (.slot 0) .nil)) .nil)))
 .skip)))
 (.seq (.ret (.prim .tuple (.cons (.brw 4) .nil)))
 .skip))))))
/-- 150 -/
def b_lot_size_of : S :=
 (.seq (.asg (.name 2) (.call 86 (.cons (.slot 0) (.cons (.comp [3] (.name 3) .val (.cons (.idx (.slot 0) (.cst (.int 2))) .nil) (.cmp .nmem (.slot 3) (.slot 1)) (.slot 3)) .nil))))
 (.seq (.ret (.prim .sumv (.cons (.idx (.call 65 (.cons (.call 84 (.cons (.slot 0) (.cons (.slot 1) .nil))) (.cons (.slot 2) .nil))) (.cst (.int 0))) .nil)))
 .skip))
/-- 154 -/
def b_sizes : S :=
 (.seq (.expr (.call 8 (.cons (.slot 0) .nil)))
 (.seq (.ret (.prim .sorted (.cons (.comp [1] (.name 1) .val (.cons (.call 142 (.cons (.slot 0) .nil)) .nil) (.cst (.bl true)) (.call 150 (.cons (.slot 0) (.cons (.slot 1) .nil)))) .nil)))
 .skip))
/-- 155 -/
def b_greatest_kind : S :=
 (.seq (.expr (.call 8 (.cons (.slot 0) .nil)))
 (.seq (.asg (.name 1) (.prim .min (.cons (.comp [2] (.name 2) .val (.cons (.call 142 (.cons (.slot 0) .nil)) .nil) (.cst (.bl true)) (.tup (.cons (.neg (.call 150 (.cons (.slot 0) (.cons (.slot 2) .nil)))) (.cons (.prim .len (.cons (.slot 2) .nil)) (.cons (.slot 2) .nil))))) .nil)))
 (.seq (.ret (.tup (.cons (.neg (.idx (.slot 1) (.cst (.int 0)))) (.cons (.idx (.slot 1) (.cst (.int 2))) .nil))))
 .skip)))
end Ev

set_option maxHeartbeats 2000000
namespace Ev
open PySem
theorem cN_lt (a b : Nat) : cmpD .lt (eN a) (eN b) = some (.bl (decide (a < b))) := by
  simp [cmpD, ordD, okD, alkD, ordB, ltB, eN]
theorem cN_gt (a b : Nat) : cmpD .gt (eN a) (eN b) = some (.bl (decide (b < a))) := by
  simp [cmpD, ordD, okD, alkD, ordB, ltB, eN]
theorem cN_le (a b : Nat) : cmpD .le (eN a) (eN b) = some (.bl (decide (a ≤ b))) := by
  simp only [cmpD, ordD, okD, alkD, ordB, ltB, eN, Bool.and_self, if_true, Option.map_some, Int.ofNat_lt]
  congr 2
  rw [Bool.eq_iff_iff]; simp
theorem cN_ge (a b : Nat) : cmpD .ge (eN a) (eN b) = some (.bl (decide (b ≤ a))) := by
  simp only [cmpD, ordD, okD, alkD, ordB, ltB, eN, Bool.and_self, if_true, Option.map_some, Int.ofNat_lt]
  congr 2
  rw [Bool.eq_iff_iff]; simp
theorem eqD_N (a b : Nat) : eqD (eN a) (eN b) = decide (a = b) := by
  simp only [eN]
  simp only [eqD]
  rw [Bool.eq_iff_iff]
  simp
  omega
theorem cN_eq (a b : Nat) : cmpD .eq (eN a) (eN b) = some (.bl (decide (a = b))) := by
  show (if okD okDep (eN a) && okD okDep (eN b) then some (D.bl (eqD (eN a) (eN b))) else none) = _
  rw [eqD_N]; rfl
theorem cN_ne (a b : Nat) : cmpD .ne (eN a) (eN b) = some (.bl (!decide (a = b))) := by
  show (if okD okDep (eN a) && okD okDep (eN b) then some (D.bl (!eqD (eN a) (eN b))) else none) = _
  rw [eqD_N]; rfl
theorem add_N (a b : Nat) : binD .add (eN a) (eN b) = some (eN (a + b)) := by
  show some (D.int ((a : Int) + b)) = _
  unfold eN; rw [Int.natCast_add]
theorem sub_N {a b : Nat} (h : b ≤ a) : binD .sub (eN a) (eN b) = some (eN (a - b)) := by
  show some (D.int ((a : Int) - b)) = _
  unfold eN; rw [Int.natCast_sub h]
theorem ixD_N {n i : Nat} (h : i < n) : ixD n (i : Int) = some i := by
  unfold ixD
  rw [if_pos (by omega), if_pos (by omega)]
  simp
theorem idx_S {s : List Nat} {i : Nat} (h : i < s.length) : idxD (eS s) (eN i) = some (eN s[i]) := by
  show (ixD (s.map eN).length (i : Int)).bind (fun j => (s.map eN)[j]?) = _
  rw [List.length_map, ixD_N h]
  simp [h]
theorem idx_Q0 {q : Sq} : idxD (eQ q) (.int 0) = some (eN q.1) := rfl
theorem idx_Q1 {q : Sq} : idxD (eQ q) (.int 1) = some (eN q.2) := rfl
theorem idx_F0 {f : Fld} : idxD (eF f) (.int 0) = some (eN f.h) := rfl
theorem idx_F1 {f : Fld} : idxD (eF f) (.int 1) = some (eN f.w) := rfl
theorem idx_F2 {f : Fld} : idxD (eF f) (.int 2) = some (eQT f.r) := rfl
theorem rng_N {n : Nat} (h : n ≤ 1000000) : itemsD .rng [eN n] = some ((List.range n).map eN) := by
  show rngD 0 n = _
  unfold rngD
  rw [if_pos (by simp; omega)]
  simp [eN]
theorem rng_N2 {a b : Nat} (ha : a ≤ 1000000) (hb : b ≤ 1000000) : itemsD .rng [eN a, eN b] = some ((List.range' a (b - a)).map eN) := by
  show rngD a b = _
  unfold rngD
  rw [if_pos (by simp; omega)]
  have : ((b : Int) - a).toNat = b - a := by omega
  rw [this, List.range'_eq_map_range, List.map_map]
  congr 1
def squares (h w : Nat) : List Sq := (List.range h).flatMap fun r => (List.range w).map fun c => (r, c)
variable {φ : Phi}
theorem squares_len {h w : Nat} : (squares h w).length = h * w := by
  unfold squares
  rw [List.length_flatMap]
  simp [List.map_const']
theorem squares_snoc (h w : Nat) : squares (h + 1) w = squares h w ++ (List.range w).map fun c => (h, c) := by
  unfold squares
  rw [List.range_succ, List.flatMap_append]
  simp
theorem add_L {a b : List D} (h : a.length + b.length ≤ LIM) : binD .add (.lst a) (.lst b) = some (.lst (a ++ b)) := by
  show (if a.length + b.length ≤ LIM then some (D.lst (a ++ b)) else none) = _
  rw [if_pos h]
/-- for i in range(n) -/
theorem St.forR {ρ : Env} {t : T} {it : E} {b : S} {n : Nat} (I : Nat → Env → Prop) (hi : Vs φ ρ it [eN n]) (hn : n ≤ 1000000) (h0 : I 0 ρ)
    (st : ∀ i, i < n → ∀ ρ, I i ρ → ∃ ρ', Goes φ t b (eN i) ρ ρ' ∧ I (i + 1) ρ') : ∃ ρ', St φ ρ (.for [] t .rng it b) (.nx ρ') ∧ I n ρ' := by
  obtain ⟨ρ', e, h⟩ := St.for (φ := φ) (t := t) (b := b) (enc := eN) (List.range n) (fun d ρ => I d.length ρ) hi (rng_N hn) h0 (by
    intro d1 x d2 ρ hd h
    obtain ⟨rfl, hl⟩ := range_split hd
    obtain ⟨ρ', g, h'⟩ := st _ hl ρ h
    exact ⟨ρ', g, by rw [List.length_append]; exact h'⟩)
  exact ⟨ρ', e, by rw [List.length_range] at h; exact h⟩
theorem squares_run {h w : Nat} (hh : h ≤ 1000) (hw : w ≤ 1000) : Runs φ b_squares_of 5 [eN h, eN w] (eQL (squares h w)) := by
  refine Runs.of ?_
  refine St.seq (St.asg (V.lst Vs.nil) rfl) ?_
  obtain ⟨ρ', e, x3, rfl⟩ := St.forR (φ := φ) (t := .name 3) (it := .cons (.slot 0) .nil) (n := h) (ρ := [some (.val (eN h)), some (.val (eN w)), some (.val (.lst [])), none, none])
    (b := (.seq (.asg (.name 2) (.bin .add (.slot 2) (.comp [4] (.name 4) .rng (.cons (.slot 1) .nil) (.cst (.bl true)) (.tup (.cons (.slot 3) (.cons (.slot 4) .nil)))))) .skip))
    (fun i ρ => ∃ x3, ρ = [some (.val (eN h)), some (.val (eN w)), some (.val (eQL (squares i w))), x3, none]) (Vs.cons (V.slot rfl) Vs.nil) (by omega) ⟨none, rfl⟩ (by
      rintro i hl ρ ⟨x3, rfl⟩
      refine ⟨_, ⟨_, rfl, .inl (St.seq (St.asg (V.bin (V.slot rfl) (V.compA (enc := eN) (g := fun c => eQ (i, c)) (List.range w) (Vs.cons (V.slot rfl) Vs.nil) (rng_N (by omega)) (fun x _ => rfl) (fun x _ => V.tup (Vs.cons (V.slot rfl) (Vs.cons (V.slot rfl) Vs.nil)))) (add_L ?_)) rfl) St.skip)⟩, some (.val (eN i)), ?_⟩
      · simp [squares_len, LIM]
        have := Nat.mul_le_mul (Nat.le_of_lt (Nat.lt_of_lt_of_le hl hh)) hw
        omega
      · rw [squares_snoc]
        simp [eQL, setE])
  exact St.seq e (St.rt (St.ret (V.slot rfl)))
theorem is_under_run {s : List Nat} {q : Sq} (h : q.1 < s.length) : Runs φ b_is_under_of 2 [eS s, eQ q] (.bl (decide (q.2 < s[q.1]))) :=
  Runs.of (St.rt (St.ret (V.cmp (V.idx (V.slot rfl) V.cst idx_Q1) (V.idx (V.slot rfl) (V.idx (V.slot rfl) V.cst idx_Q0) (idx_S h)) (cN_lt _ _))))
structure Fld.Ok (f : Fld) : Prop where
  h1 : 1 ≤ f.h
  h6 : f.h ≤ 6
  w1 : 1 ≤ f.w
  w6 : f.w ≤ 6
  r : f.r.Sublist (squares f.h f.w)
def ltQ (a b : Sq) : Prop := a.1 < b.1 ∨ (a.1 = b.1 ∧ a.2 < b.2)
instance (a b : Sq) : Decidable (ltQ a b) := inferInstanceAs (Decidable (_ ∨ _))
theorem mem_squares {h w : Nat} {q : Sq} : q ∈ squares h w ↔ q.1 < h ∧ q.2 < w := by
  unfold squares
  simp only [List.mem_flatMap, List.mem_map, List.mem_range]
  constructor
  · rintro ⟨r, hr, c, hc, rfl⟩
    exact ⟨hr, hc⟩
  · exact fun ⟨a, b⟩ => ⟨q.1, a, q.2, b, rfl⟩
theorem squares_sorted (h w : Nat) : (squares h w).Pairwise ltQ := by
  unfold squares
  rw [List.pairwise_flatMap]
  refine ⟨fun r _ => ?_, ?_⟩
  · rw [List.pairwise_map]
    exact List.pairwise_lt_range.imp fun h => .inr ⟨rfl, h⟩
  · refine List.pairwise_lt_range.imp fun {a b} h x hx y hy => ?_
    rw [List.mem_map] at hx hy
    obtain ⟨_, _, rfl⟩ := hx
    obtain ⟨_, _, rfl⟩ := hy
    exact .inl h
theorem Fld.Ok.mem {f : Fld} (ok : f.Ok) {q : Sq} (h : q ∈ f.r) : q.1 < f.h ∧ q.2 < f.w := mem_squares.mp (ok.r.subset h)
theorem Fld.Ok.len {f : Fld} (ok : f.Ok) : f.r.length ≤ 36 := by
  have := ok.r.length_le
  rw [squares_len] at this
  exact Nat.le_trans this (Nat.mul_le_mul ok.h6 ok.w6)
theorem Fld.Ok.sorted {f : Fld} (ok : f.Ok) : f.r.Pairwise ltQ := (squares_sorted f.h f.w).sublist ok.r
/-- a stair of so many rows and columns -/
structure IsSt (h w : Nat) (s : List Nat) : Prop where
  len : s.length = h
  le : ∀ x ∈ s, x ≤ w
  mono : s.Pairwise (· ≥ ·)
def S_whole (φ : Phi) := ∀ n : Nat, To φ 4 [eN n] (.bl true)
def S_within (φ : Phi) := ∀ n lo hi : Nat, To φ 5 [eN n, eN lo, eN hi] (.bl (decide (lo ≤ n) && decide (n ≤ hi)))
def S_tuple_of (φ : Phi) := ∀ (l : List D) (lo hi : Nat), To φ 6 [.tup l, eN lo, eN hi] (.bl (decide (lo ≤ l.length) && decide (l.length ≤ hi)))
def S_is_square_of (φ : Phi) := ∀ (q : Sq) (h w : Nat), 1 ≤ h → 1 ≤ w → To φ 7 [eQ q, eN h, eN w] (.bl (decide (q.1 < h) && decide (q.2 < w)))
def S_need_field (φ : Phi) := ∀ f : Fld, f.Ok → To φ 8 [eF f] .non
theorem whole_run (n : Nat) : Runs φ b_whole 1 [eN n] (.bl true) :=
  Runs.of (St.rt (St.ret (V.and (t := true) (u := true) (V.prim (Vs.cons (V.slot rfl) Vs.nil) rfl) fun _ => V.not (t := false) (V.prim (Vs.cons (V.slot rfl) Vs.nil) rfl))))
theorem within_run (h1 : S_whole φ) (n lo hi : Nat) : Runs φ b_within 3 [eN n, eN lo, eN hi] (.bl (decide (lo ≤ n) && decide (n ≤ hi))) :=
  Runs.of (St.rt (St.ret (V.and (t := true) (V.call (Vs.cons (V.slot rfl) Vs.nil) (h1 n)) fun _ => V.chn (V.slot rfl) (V.slot rfl) (cN_le _ _) (V.slot rfl) (cN_le _ _))))
theorem tuple_of_run (l : List D) (lo hi : Nat) : Runs φ b_tuple_of 3 [.tup l, eN lo, eN hi] (.bl (decide (lo ≤ l.length) && decide (l.length ≤ hi))) :=
  Runs.of (St.rt (St.ret (V.and (t := true) (V.prim (Vs.cons (V.slot rfl) Vs.nil) rfl) fun _ => V.chn (V.slot rfl) (V.prim (d := eN l.length) (Vs.cons (V.slot rfl) Vs.nil) rfl) (cN_le _ _) (V.slot rfl) (cN_le _ _))))
theorem is_square_of_run (h1 : S_tuple_of φ) (h2 : S_within φ) (q : Sq) (h w : Nat) (hh : 1 ≤ h) (hw : 1 ≤ w) : Runs φ b_is_square_of 3 [eQ q, eN h, eN w] (.bl (decide (q.1 < h) && decide (q.2 < w))) := by
  have e : ∀ a b : Nat, 1 ≤ b → (decide (0 ≤ a) && decide (a ≤ b - 1)) = decide (a < b) := fun a b hb => by
    rw [Bool.eq_iff_iff]; simp; omega
  have := h2 q.1 0 (h - 1)
  rw [e _ _ hh] at this
  have := h2 q.2 0 (w - 1)
  rw [e _ _ hw] at this
  refine Runs.of (St.rt (St.ret (V.and (t := true) (u := decide (q.1 < h) && decide (q.2 < w)) (V.call (Vs.cons (V.slot rfl) (Vs.cons (V.cst (d := eN 2)) (Vs.cons (V.cst (d := eN 2)) Vs.nil))) (h1 _ 2 2)) fun _ => V.and (V.call (Vs.cons (V.idx (V.slot rfl) V.cst idx_Q0) (Vs.cons (V.cst (d := eN 0)) (Vs.cons (V.bin (V.slot rfl) (V.cst (d := eN 1)) (sub_N hh)) Vs.nil))) (by assumption)) fun _ => V.call (Vs.cons (V.idx (V.slot rfl) V.cst idx_Q1) (Vs.cons (V.cst (d := eN 0)) (Vs.cons (V.bin (V.slot rfl) (V.cst (d := eN 1)) (sub_N hw)) Vs.nil))) (by assumption))))
theorem okD_N (k n : Nat) : okD k (eN n) = true := by cases k <;> rfl
theorem okD_Q (q : Sq) : okD okDep (eQ q) = true := rfl
theorem alk_Q (a b : Sq) : alkD (eQ a) (eQ b) = true := rfl
theorem ltB_Q (a b : Sq) : ltB (eQ a) (eQ b) = decide (ltQ a b) := by
  have : ltB (eQ a) (eQ b) = if eqD (eN a.1) (eN b.1) then (if eqD (eN a.2) (eN b.2) then false else decide ((a.2 : Int) < b.2)) else decide ((a.1 : Int) < b.1) := by
    simp only [eQ, ltB, ltBs]
    rfl
  rw [this, eqD_N, eqD_N]
  have hd : ∀ p : Prop, [Decidable p] → True := fun _ _ => trivial
  unfold ltQ
  rw [Bool.eq_iff_iff]
  by_cases h1 : a.1 = b.1 <;> by_cases h2 : a.2 = b.2 <;> simp [h1, h2]
  all_goals omega
theorem cQ_le (a b : Sq) : cmpD .le (eQ a) (eQ b) = some (.bl (!decide (ltQ b a))) := by
  show (ordD .le (eQ a) (eQ b)).map D.bl = _
  unfold ordD
  rw [if_pos (by rw [okD_Q, okD_Q, alk_Q]; rfl)]
  show some (D.bl (!ltB (eQ b) (eQ a))) = _
  rw [ltB_Q]
theorem cQ_lt (a b : Sq) : cmpD .lt (eQ a) (eQ b) = some (.bl (decide (ltQ a b))) := by
  show (ordD .lt (eQ a) (eQ b)).map D.bl = _
  unfold ordD
  rw [if_pos (by rw [okD_Q, okD_Q, alk_Q]; rfl)]
  show some (D.bl (ltB (eQ a) (eQ b))) = _
  rw [ltB_Q]
theorem idx_T {α : Type} {enc : α → D} {l : List α} {i : Nat} (h : i < l.length) : idxD (.tup (l.map enc)) (eN i) = some (enc l[i]) := by
  show (ixD (l.map enc).length (i : Int)).bind (fun j => (l.map enc)[j]?) = _
  rw [List.length_map, ixD_N h]
  simp [h]
theorem idx_L {α : Type} {enc : α → D} {l : List α} {i : Nat} (h : i < l.length) : idxD (.lst (l.map enc)) (eN i) = some (enc l[i]) := by
  show (ixD (l.map enc).length (i : Int)).bind (fun j => (l.map enc)[j]?) = _
  rw [List.length_map, ixD_N h]
  simp [h]
theorem enum_map {α : Type} {enc : α → D} : ∀ (l : List α) (k : Nat), enumFrom k (l.map enc) = (l.zipIdx k).map fun p => D.tup [eN p.2, enc p.1]
  | [], k => rfl
  | x :: l, k => by
    show D.tup [.int (k : Nat), enc x] :: enumFrom (k + 1) (l.map enc) = _
    rw [enum_map l (k + 1)]
    rfl
theorem zipIdx_split {α : Type} {l : List α} {d1 d2 : List (α × Nat)} {p : α × Nat} (h : l.zipIdx = d1 ++ p :: d2) : p.2 = d1.length ∧ ∃ hl : d1.length < l.length, p.1 = l[d1.length] := by
  have hl : d1.length < l.length := by
    have := congrArg List.length h
    simp at this
    omega
  have e := congrArg (fun z => z[d1.length]?) h
  simp only [List.getElem?_append_right (Nat.le_refl _), Nat.sub_self, List.getElem?_cons_zero] at e
  rw [List.getElem?_zipIdx, List.getElem?_eq_getElem hl] at e
  have e := Option.some.inj e
  refine ⟨by rw [← e]; simp, hl, by rw [← e]⟩
theorem all_bl {α : Type} {l : List α} {g : α → D} (h : ∀ x ∈ l, g x = .bl true) : primD .all [.lst (l.map g)] = some (.bl true) := by
  show (blsOf (l.map g)).map (fun bs => D.bl (bs.all id)) = _
  have : blsOf (l.map g) = some (l.map fun _ => true) := by
    induction l with
    | nil => rfl
    | cons x l ih =>
      rw [List.map_cons, h x (by simp)]
      show (blsOf (l.map g)).map (true :: ·) = _
      rw [ih fun y hy => h y (by simp [hy])]
      rfl
  rw [this]
  simp
theorem all_bls {α : Type} {l : List α} {p : α → Bool} : primD .all [.lst (l.map fun x => D.bl (p x))] = some (.bl (l.all p)) := by
  show (blsOf (l.map fun x => D.bl (p x))).map (fun bs => D.bl (bs.all id)) = _
  have : blsOf (l.map fun x => D.bl (p x)) = some (l.map p) := by
    induction l with
    | nil => rfl
    | cons x l ih =>
      show (blsOf (l.map fun x => D.bl (p x))).map (p x :: ·) = _
      rw [ih]
      rfl
  rw [this]
  simp
theorem need_field_run (h1 : S_tuple_of φ) (h2 : S_within φ) (h3 : S_is_square_of φ) (f : Fld) (ok : f.Ok) : Runs φ b_need_field 4 [eF f] .non := by
  have okh := ok.h1; have okh6 := ok.h6; have okw := ok.w1; have okw6 := ok.w6
  have w1 := h2 f.h 1 6
  have w2 := h2 f.w 1 6
  rw [decide_eq_true okh, decide_eq_true okh6] at w1
  rw [decide_eq_true okw, decide_eq_true okw6] at w2
  refine Runs.ofN ?_
  have a1 : V φ [some (.val (eF f)), none, none, none] (.comp [1] (.name 1) .val (.cons (.slc (.slot 0) .skipE (.cst (.int 2))) .nil) (.cst (.bl true)) (.call 5 (.cons (.slot 1) (.cons (.cst (.int 1)) (.cons (.cst (.int 6)) .nil))))) (.lst ([f.h, f.w].map fun _ => .bl true)) := by
    refine V.compA (enc := eN) (g := fun _ => .bl true) [f.h, f.w] (Vs.cons (V.slc (d := .tup [eN f.h, eN f.w]) (V.slot rfl) V.skip (V.cst (d := eN 2)) rfl) Vs.nil) rfl (fun x _ => rfl) fun x hx => ?_
    refine V.call (Vs.cons (V.slot rfl) (Vs.cons (V.cst (d := eN 1)) (Vs.cons (V.cst (d := eN 6)) Vs.nil))) ?_
    simp only [List.mem_cons, List.not_mem_nil, or_false] at hx
    rcases hx with rfl | rfl
    · exact w1
    · exact w2
  obtain ⟨ρ', e, x2, x3, rfl⟩ := St.for (φ := φ) (t := .tup (.cons (.name 2) (.cons (.name 3) .nil))) (k := .enum) (it := .cons (.idx (.slot 0) (.cst (.int 2))) .nil) (enc := fun p : Sq × Nat => D.tup [eN p.2, eQ p.1])
    (ρ := [some (.val (eF f)), none, none, none])
    (b := (.seq (.ite (.or (.not (.call 7 (.cons (.slot 3) (.cons (.idx (.slot 0) (.cst (.int 0))) (.cons (.idx (.slot 0) (.cst (.int 1))) .nil))))) (.and (.cmp .gt (.slot 2) (.cst (.int 0))) (.cmp .le (.slot 3) (.idx (.idx (.slot 0) (.cst (.int 2))) (.bin .sub (.slot 2) (.cst (.int 1))))))) (.seq (.rais 0 .nil) .skip) .skip) .skip))
    f.r.zipIdx (fun d ρ => ∃ x2 x3, ρ = [some (.val (eF f)), none, x2, x3]) (Vs.cons (V.idx (V.slot rfl) V.cst idx_F2) Vs.nil) (by
      show some (enumFrom 0 (f.r.map eQ)) = _
      rw [enum_map]) ⟨none, none, rfl⟩ (by
      rintro d1 ⟨q, i⟩ d2 ρ hd ⟨x2, x3, rfl⟩
      obtain ⟨hi, hl, hq⟩ := zipIdx_split hd
      dsimp only at hi hq
      subst hi hq
      have hm := ok.mem (List.getElem_mem hl)
      have hsq := h3 f.r[d1.length] f.h f.w okh okw
      rw [decide_eq_true hm.1, decide_eq_true hm.2] at hsq
      refine ⟨_, ⟨_, rfl, .inl (St.seq (St.iteF (x := .bl false) (V.or (t := false) (u := false) (V.not (t := true) (V.call (Vs.cons (V.slot rfl) (Vs.cons (V.idx (V.slot rfl) V.cst idx_F0) (Vs.cons (V.idx (V.slot rfl) V.cst idx_F1) Vs.nil))) hsq)) fun _ => ?_) rfl St.skip) St.skip)⟩, _, _, rfl⟩
      have : (decide (0 < d1.length) && false) = false := by simp
      rw [← this]
      refine V.and (V.cmp (V.slot rfl) (V.cst (d := eN 0)) (cN_gt _ _)) fun hp => ?_
      have hp : 0 < d1.length := of_decide_eq_true hp
      refine V.cmp (V.slot rfl) (V.idx (V.idx (V.slot rfl) V.cst idx_F2) (V.bin (V.slot rfl) (V.cst (d := eN 1)) (sub_N hp)) (idx_T (by omega))) ?_
      rw [cQ_le]
      have hs := List.pairwise_iff_getElem.mp ok.sorted (d1.length - 1) d1.length (by omega) hl (by omega)
      rw [decide_eq_true hs]
      rfl)
  refine ⟨_, St.seq (St.iteF (x := .bl false) (V.or (t := false) (u := false) (V.not (t := true) (V.call (Vs.cons (V.slot rfl) (Vs.cons (V.cst (d := eN 3)) (Vs.cons (V.cst (d := eN 3)) Vs.nil))) (h1 _ 3 3))) fun _ => V.not (t := true) (V.prim (Vs.cons a1 Vs.nil) (all_bl fun _ _ => rfl))) rfl St.skip) (St.seq (St.iteF (x := .bl false) (V.not (t := true) ?_) rfl St.skip) (St.seq e St.skip))⟩
  have t2 := h1 (f.r.map eQ) 0 36
  rw [List.length_map, decide_eq_true (Nat.zero_le _), decide_eq_true ok.len] at t2
  exact V.call (Vs.cons (V.idx (V.slot rfl) V.cst idx_F2) (Vs.cons (V.cst (d := eN 0)) (Vs.cons (V.bin (V.cst (d := .int 6)) (V.cst (d := .int 6)) rfl) Vs.nil))) t2
end Ev

set_option maxHeartbeats 2000000
namespace Ev
open PySem
theorem idxD_lst (l : List D) (i : Int) : idxD (.lst l) (.int i) = (ixD l.length i).bind fun j => l[j]? := rfl
/-- the law's row -/
def RowIs (ns : List Int) (m : Mem) : Prop := ∃ a b c : Int, 0 ≤ a ∧ m = [.lst [intsD ns, .int a, .int b, .int c]]
theorem cmp_gt (i j : Int) : cmpD .gt (.int i) (.int j) = some (.bl (decide (j < i))) := by
  simp [cmpD, ordD, okD, alkD, ordB, ltB]
theorem cmp_ge (i j : Int) : cmpD .ge (.int i) (.int j) = some (.bl (!decide (i < j))) := by
  simp [cmpD, ordD, okD, alkD, ordB, ltB]
theorem cmp_lt (i j : Int) : cmpD .lt (.int i) (.int j) = some (.bl (decide (i < j))) := by
  simp [cmpD, ordD, okD, alkD, ordB, ltB]
theorem cmp_le (i j : Int) : cmpD .le (.int i) (.int j) = some (.bl (!decide (j < i))) := by
  simp [cmpD, ordD, okD, alkD, ordB, ltB]
theorem mod_ok {i j : Int} (h : 0 < j) : modD (.int i) (.int j) = some (.int (i % j)) := by simp [modD, h]
theorem fdiv_ok {i j : Int} (h : 0 < j) (h2 : j < 1073741824) : fdivD (.int i) (.int j) = some (.int (i / j)) := by simp [fdivD, h, h2]
theorem mul_ok {i j : Int} (h : -(2 ^ 64) < j) (h2 : j < 2 ^ 64) : mulD (.int i) (.int j) = some (.int (i * j)) := by
  unfold mulD
  dsimp only
  rw [if_pos]
  unfold mulOk
  rw [decide_eq_true h, decide_eq_true h2]
  simp
theorem mul_ok1 {i j : Int} (h : -18446744073709551616 < j) (h2 : j < 18446744073709551616) : mulD (.int i) (.int j) = some (.int (i * j)) := by
  have e : ((2 : Int) ^ 64) = 18446744073709551616 := by decide
  exact mul_ok (by rw [e]; exact h) (by rw [e]; exact h2)
theorem taken_run {φ : Phi} {ns : List Int} {many : Int} {m : Mem} (hr : RowIs ns m) (h1 : 0 < many) (h2 : many < 1073741824) :
    ∃ x m', fin m (evS φ b_law_taken (startE 4 [.ref 0, .int many]) m) = .ok (.int x) m' ∧ 0 ≤ x ∧ x < many ∧ RowIs ns m' := by
  obtain ⟨a, b, c, ha, rfl⟩ := hr
  have hmod : ∀ i : Int, 0 ≤ i % many ∧ i % many < many := fun i => ⟨Int.emod_nonneg _ (by omega), Int.emod_lt_of_pos _ h1⟩
  have p18 : powD (.int 10) (.int 18) = some (.int 1000000000000000000) := by simp [powD]
  by_cases hc : 0 < c
  · refine ⟨c % many, [.lst [intsD ns, .int a, .int b, .int (c / many)]], ?_, (hmod c).1, (hmod c).2, a, b, _, ha, rfl⟩
    simp [b_law_taken, evS, evE, startE, setE, idxD, ixD, cmp_gt, truD, hc, binD, mod_ok h1, fdiv_ok h1 h2, primD, intP, argsOf, consD, putT, putL, fin, finD]
  · by_cases hl : (ns.length : Int) < a + 1
    · refine ⟨(((b * 48271 + 11) % 2147483647) / 7) % many, [.lst [intsD ns, .int (a + 1), .int ((b * 48271 + 11) % 2147483647), .int c]], ?_, (hmod _).1, (hmod _).2, _, _, _, by omega, rfl⟩
      simp [b_law_taken, evS, evE, startE, setE, idxD, ixD, cmp_gt, truD, hc, hl, binD, mod_ok h1, fdiv_ok h1 h2, mod_ok, fdiv_ok, mul_ok, addD, primD, intP, lenD, intsD, argsOf, consD, putT, putL, fin, finD]
    · have hlt : a.toNat < ns.length := by omega
      have hix : idxD (intsD ns) (.int a) = some (.int ns[a.toNat]) := by
        simp only [intsD, idxD, List.length_map]
        have : ixD ns.length a = some a.toNat := by
          unfold ixD
          rw [if_pos ha, if_pos (by omega)]
        rw [this]
        simp [hlt]
      by_cases hg : ns[a.toNat] < 1000000000000000000
      · refine ⟨ns[a.toNat] % many, [.lst [intsD ns, .int (a + 1), .int ((b * 48271 + ns[a.toNat] + 11) % 2147483647), .int c]], ?_, (hmod _).1, (hmod _).2, _, _, _, by omega, rfl⟩
        have hlen : lenD [intsD ns] = some (.int ns.length) := by simp [lenD, intsD]
        have e1 : a + 1 - 1 = a := by omega
        simp [b_law_taken, evS, evE, startE, setE, cmp_gt, cmp_ge, truD, hc, hl, hg, binD, mod_ok h1, fdiv_ok h1 h2, mod_ok, fdiv_ok, mul_ok, addD, subD, p18, primD, intP, hlen, e1, hix, argsOf, consD, putT, putL, fin, finD, idxD_lst, ixD]
      · refine ⟨ns[a.toNat] % many, [.lst [intsD ns, .int (a + 1), .int ((b * 48271 + ns[a.toNat] + 11) % 2147483647), .int (ns[a.toNat] / many)]], ?_, (hmod _).1, (hmod _).2, _, _, _, by omega, rfl⟩
        have hlen : lenD [intsD ns] = some (.int ns.length) := by simp [lenD, intsD]
        have e1 : a + 1 - 1 = a := by omega
        simp [b_law_taken, evS, evE, startE, setE, cmp_gt, cmp_ge, truD, hc, hl, hg, binD, mod_ok h1, fdiv_ok h1 h2, mod_ok, fdiv_ok, mul_ok, addD, subD, p18, primD, intP, hlen, e1, hix, argsOf, consD, putT, putL, fin, finD, idxD_lst, ixD]
/-- a function draws something that Q holds of -/
def Draws (φ : Phi) (ns : List Int) (i : Nat) (ds : List D) (Q : D → Prop) : Prop := ∀ m, RowIs ns m → ∃ d m', φ i ds m = .ok d m' ∧ Q d ∧ RowIs ns m'
def S_taken (φ : Phi) (ns : List Int) := ∀ many : Nat, 0 < many → many < 1073741824 → Draws φ ns 0 [.ref 0, eN many] fun d => ∃ x, x < many ∧ d = eN x
theorem Draws.of {Φ : Tab} {i k : Nat} {fn : Fn} {ns : List Int} {ds : List D} {Q : D → Prop} (h : Φ i = some fn) (hl : ds.length = fn.ps.length)
    (hr : ∀ m, RowIs ns m → ∃ d m', fin m (evS (callK Φ k) fn.body (startE fn.N.length ds) m) = .ok d m' ∧ Q d ∧ RowIs ns m') : Draws (callK Φ (k + 1)) ns i ds Q := fun m hm => by
  rw [call_at h hl]
  exact hr m hm
theorem taken_dr {φ : Phi} {ns : List Int} {many : Nat} (h1 : 0 < many) (h2 : many < 1073741824) {m : Mem} (hr : RowIs ns m) : ∃ d m', fin m (evS φ b_law_taken (startE 4 [.ref 0, eN many]) m) = .ok d m' ∧ (∃ x, x < many ∧ d = eN x) ∧ RowIs ns m' := by
  obtain ⟨x, m', e, x0, x1, r⟩ := taken_run (φ := φ) (many := (many : Int)) hr (by omega) (by omega)
  refine ⟨_, m', e, ⟨x.toNat, by omega, ?_⟩, r⟩
  unfold eN
  rw [Int.toNat_of_nonneg x0]
theorem finD_row {ns : List Int} {m m' : Mem} {d : D} (h : RowIs ns m) (h' : RowIs ns m') : finD m m' d = .ok d m' := by
  obtain ⟨a, b, c, _, rfl⟩ := h
  obtain ⟨a', b', c', _, rfl⟩ := h'
  show (if 1 = 1 then Out.ok d _ else _) = _
  rw [if_pos rfl]
/-- an expression draws -/
def VD (φ : Phi) (ns : List Int) (ρ : Env) (e : E) (Q : D → Prop) : Prop := ∀ m, RowIs ns m → ∃ d m', evE φ e ρ m = .ok d m' ∧ Q d ∧ RowIs ns m'
section
variable {φ : Phi} {ns : List Int} {ρ : Env} {e a b es : E} {Q Q' : D → Prop} {d x : D}
theorem V.vd (h : V φ ρ e d) (hq : Q d) : VD φ ns ρ e Q := fun m hm => ⟨d, m, h m, hq, hm⟩
theorem VD.call {i : Nat} {ds : List D} (hs : Vs φ ρ es ds) (h : Draws φ ns i ds Q) : VD φ ns ρ (.call i es) Q := fun m hm => by
  obtain ⟨d, m', e, q, r⟩ := h m hm
  refine ⟨d, m', ?_, q, r⟩
  show (evE φ es ρ m).bind _ = _
  rw [hs m]
  exact e
theorem VD.binL {op : BOp} {y : D} (hb : V φ ρ a y) (ha : VD φ ns ρ b Q) (h : ∀ d, Q d → ∃ x, binD op y d = some x ∧ Q' x) : VD φ ns ρ (.bin op a b) Q' := fun m hm => by
  obtain ⟨d, m', e, q, r⟩ := ha m hm
  obtain ⟨x, h1, h2⟩ := h d q
  refine ⟨x, m', ?_, h2, r⟩
  show (evE φ a ρ m).bind _ = _
  rw [hb m]
  show (evE φ b ρ m).bind _ = _
  rw [e]
  show Out.of m' (binD op y d) = _
  rw [h1]; rfl
theorem VD.cons {Q2 : D → Prop} (ha : VD φ ns ρ a Q) (hb : VD φ ns ρ es fun d => ∃ l, d = .tup l ∧ Q2 d) : VD φ ns ρ (.cons a es) fun d => ∃ x l, d = .tup (x :: l) ∧ Q x ∧ Q2 (.tup l) := fun m hm => by
  obtain ⟨d, m1, e, q, r⟩ := ha m hm
  obtain ⟨_, m2, e2, ⟨l, rfl, q2⟩, r2⟩ := hb m1 r
  refine ⟨.tup (d :: l), m2, ?_, ⟨d, l, rfl, q, q2⟩, r2⟩
  show (evE φ a ρ m).bind _ = _
  rw [e]
  show (evE φ es ρ m1).bind _ = _
  rw [e2]
  rfl
/-- a comprehension whose test draws: some of the items -/
theorem comp_dr {α : Type} {enc : α → D} {g : D → Mem → Out (Option D)} : ∀ (l : List α) (acc : List D) (m : Mem), RowIs ns m → (∀ x ∈ l, ∀ m, RowIs ns m → ∃ (b : Bool) (m' : Mem), g (enc x) m = .ok (if b then some (enc x) else none) m' ∧ RowIs ns m') →
    ∃ (l' : List α) (m' : Mem), l'.Sublist l ∧ compL g (l.map enc) acc m = .ok (.lst (acc ++ l'.map enc)) m' ∧ RowIs ns m'
  | [], acc, m, hm, _ => ⟨[], m, List.Sublist.refl _, by simp [compL], hm⟩
  | x :: l, acc, m, hm, h => by
    obtain ⟨b, m1, e, r⟩ := h x (by simp) m hm
    cases b with
    | true =>
      obtain ⟨l', m', s, e2, r2⟩ := comp_dr l (acc ++ [enc x]) m1 r fun y hy => h y (by simp [hy])
      refine ⟨x :: l', m', s.cons_cons x, ?_, r2⟩
      show (g (enc x) m).bind _ = _
      rw [e]
      show compL g (l.map enc) (acc ++ [enc x]) m1 = _
      rw [e2]
      simp
    | false =>
      obtain ⟨l', m', s, e2, r2⟩ := comp_dr l acc m1 r fun y hy => h y (by simp [hy])
      refine ⟨l', m', s.cons x, ?_, r2⟩
      show (g (enc x) m).bind _ = _
      rw [e]
      exact e2
/-- [x for x in l if (a draw)] -/
theorem VD.comp {α : Type} {enc : α → D} {ρ' : α → Env} {own : List Nat} {t : T} {k : ItK} {it ifs elt : E} {ds : List D} (l : List α) (hi : Vs φ ρ it ds) (hk : itemsD k ds = some (l.map enc))
    (ht : ∀ x ∈ l, putT t (enc x) (wipeE ρ own) = some (ρ' x)) (hp : ∀ x ∈ l, VD φ ns (ρ' x) ifs fun d => ∃ b, d = .bl b) (he : ∀ x ∈ l, V φ (ρ' x) elt (enc x)) :
    VD φ ns ρ (.comp own t k it ifs elt) fun d => ∃ l' : List α, l'.Sublist l ∧ d = .lst (l'.map enc) := fun m hm => by
  obtain ⟨l', m', sub, e, r⟩ := comp_dr (ns := ns) (enc := enc) (g := fun x m => match putT t x (wipeE ρ own) with
      | some ρ1 => (evE φ ifs ρ1 m).bind fun c m => match truD c with
        | some true => (evE φ elt ρ1 m).bind fun y m => .ok (some y) m
        | some false => .ok none m
        | none => .no
      | none => .no) l [] m hm fun x hx m hm => by
    obtain ⟨_, m', e, ⟨b, rfl⟩, r⟩ := hp x hx m hm
    refine ⟨b, m', ?_, r⟩
    rw [ht x hx]
    show (evE φ ifs (ρ' x) m).bind _ = _
    rw [e]
    cases b with
    | true =>
      show (evE φ elt (ρ' x) m').bind _ = _
      rw [he x hx m']
      rfl
    | false => rfl
  refine ⟨_, m', ?_, ⟨l', sub, rfl⟩, r⟩
  show (evE φ it ρ m).bind _ = _
  rw [hi m]
  show (Out.of m (itemsD k ds)).bind _ = _
  rw [hk]
  exact e
theorem VD.cmp {op : COp} {y : D} (ha : VD φ ns ρ a Q) (hb : V φ ρ b y) (h : ∀ d, Q d → ∃ x, cmpD op d y = some x ∧ Q' x) : VD φ ns ρ (.cmp op a b) Q' := fun m hm => by
  obtain ⟨d, m', e, q, r⟩ := ha m hm
  obtain ⟨x, h1, h2⟩ := h d q
  refine ⟨x, m', ?_, h2, r⟩
  show (evE φ a ρ m).bind _ = _
  rw [e]
  show (evE φ b ρ m').bind _ = _
  rw [hb m']
  show Out.of m' (cmpD op d y) = _
  rw [h1]; rfl
theorem VD.prim1 {p : Prim} (ha : VD φ ns ρ a Q) (h : ∀ d, Q d → ∃ x, primD p [d] = some x ∧ Q' x) : VD φ ns ρ (.prim p (.cons a .nil)) Q' := fun m hm => by
  obtain ⟨d, m', e, q, r⟩ := ha m hm
  obtain ⟨x, h1, h2⟩ := h d q
  refine ⟨x, m', ?_, h2, r⟩
  show ((evE φ a ρ m).bind fun x m => (evE φ .nil ρ m).bind fun r m => Out.of m (consD x r)).bind _ = _
  rw [e]
  show Out.of m' (primD p [d]) = _
  rw [h1]; rfl
theorem VD.idx {y : D} (ha : V φ ρ a y) (hb : VD φ ns ρ b Q) (h : ∀ d, Q d → ∃ x, idxD y d = some x ∧ Q' x) : VD φ ns ρ (.idx a b) Q' := fun m hm => by
  obtain ⟨d, m', e, q, r⟩ := hb m hm
  obtain ⟨x, h1, h2⟩ := h d q
  refine ⟨x, m', ?_, h2, r⟩
  show (evE φ a ρ m).bind _ = _
  rw [ha m]
  show (evE φ b ρ m).bind _ = _
  rw [e]
  show Out.of m' (idxD y d) = _
  rw [h1]; rfl
/-- a statement that draws -/
def SD (φ : Phi) (ns : List Int) (ρ : Env) (s : S) (Q : Flow → Prop) : Prop := ∀ m, RowIs ns m → ∃ f m', evS φ s ρ m = .ok f m' ∧ Q f ∧ RowIs ns m'
variable {s r : S} {f : Flow} {R : Flow → Prop} {P : Env → Prop}
theorem St.sd (h : St φ ρ s f) (hq : R f) : SD φ ns ρ s R := fun m hm => ⟨f, m, h m, hq, hm⟩
theorem SD.seq (h : SD φ ns ρ s fun f => ∃ ρ1, f = .nx ρ1 ∧ P ρ1) (h2 : ∀ ρ1, P ρ1 → SD φ ns ρ1 r R) : SD φ ns ρ (.seq s r) R := fun m hm => by
  obtain ⟨_, m1, e, ⟨ρ1, rfl, p⟩, r1⟩ := h m hm
  obtain ⟨f, m2, e2, q, r2⟩ := h2 ρ1 p m1 r1
  exact ⟨f, m2, (seq_nx e).trans e2, q, r2⟩
theorem SD.seqS {ρ1 : Env} (h : St φ ρ s (.nx ρ1)) (h2 : SD φ ns ρ1 r R) : SD φ ns ρ (.seq s r) R := fun m hm => by
  obtain ⟨f, m2, e2, q, r2⟩ := h2 m hm
  exact ⟨f, m2, (seq_nx (h m)).trans e2, q, r2⟩
theorem SD.asg {t : T} (h : VD φ ns ρ e Q) (hp : ∀ d, Q d → ∃ ρ1, putT t d ρ = some ρ1 ∧ P ρ1) : SD φ ns ρ (.asg t e) fun f => ∃ ρ1, f = .nx ρ1 ∧ P ρ1 := fun m hm => by
  obtain ⟨d, m', e1, q, r1⟩ := h m hm
  obtain ⟨ρ1, e2, p⟩ := hp d q
  refine ⟨_, m', ?_, ⟨ρ1, rfl, p⟩, r1⟩
  show (evE φ e ρ m).bind _ = _
  rw [e1]
  show (Out.of m' (putT t d ρ)).bind _ = _
  rw [e2]; rfl
theorem SD.ret (h : VD φ ns ρ e Q) : SD φ ns ρ (.ret e) fun f => ∃ d, f = .rt d ∧ Q d := fun m hm => by
  obtain ⟨d, m', e1, q, r1⟩ := h m hm
  refine ⟨_, m', ?_, ⟨d, rfl, q⟩, r1⟩
  show (evE φ e ρ m).bind _ = _
  rw [e1]; rfl
theorem SD.rt (h : SD φ ns ρ s fun f => ∃ d, f = .rt d ∧ Q d) : SD φ ns ρ (.seq s r) fun f => ∃ d, f = .rt d ∧ Q d := fun m hm => by
  obtain ⟨_, m', e1, ⟨d, rfl, q⟩, r1⟩ := h m hm
  exact ⟨_, m', seq_rt e1, ⟨d, rfl, q⟩, r1⟩
/-- a body that draws and returns -/
theorem SD.fin {b : S} {n : Nat} {ds : List D} (h : SD φ ns (startE n ds) b fun f => ∃ d, f = .rt d ∧ Q d) {m : Mem} (hm : RowIs ns m) : ∃ d m', fin m (evS φ b (startE n ds) m) = .ok d m' ∧ Q d ∧ RowIs ns m' := by
  obtain ⟨_, m', e, ⟨d, rfl, q⟩, r⟩ := h m hm
  refine ⟨d, m', ?_, q, r⟩
  rw [e]
  exact finD_row hm r
end
def S_squares (φ : Phi) (i : Nat) := ∀ h w : Nat, h ≤ 1000 → w ≤ 1000 → To φ i [eN h, eN w] (eQL (squares h w))
section
variable {φ : Phi} {ns : List Int}
theorem tup3_at {ρ : Env} {a b c : E} {x y d : D} {m m' : Mem} (ha : V φ ρ a x) (hb : V φ ρ b y) (hc : evE φ c ρ m = .ok d m') : evE φ (.tup (.cons a (.cons b (.cons c .nil)))) ρ m = .ok (.tup [x, y, d]) m' := by
  simp [evE, ha m, hb m, hc, consD]
/-- the draw of a field -/
theorem field_dr (ht : S_taken φ ns) (hs : S_squares φ 1) {a b : Nat} (ha : 0 < a) (ha6 : a ≤ 6) (hb : 0 < b) (hb6 : b ≤ 6) {m : Mem} (hr : RowIs ns m) :
    ∃ d m', fin m (evS φ b_law_field_2 (startE 7 [.ref 0, eN a, eN b]) m) = .ok d m' ∧ (∃ F : Fld, F.Ok ∧ F.h ≤ a ∧ F.w ≤ b ∧ d = eF F) ∧ RowIs ns m' := by
  refine SD.fin ?_ hr
  refine SD.seq (P := fun ρ => ∃ x y z, x < a ∧ y < b ∧ z < 7 ∧ ρ = [some (.val (.ref 0)), some (.val (eN a)), some (.val (eN b)), some (.val (eN (1 + x))), some (.val (eN (1 + y))), some (.val (eN z)), none]) (fun m hm => ?_) ?_
  · obtain ⟨_, m1, e1, ⟨x, hx, rfl⟩, r1⟩ := ht a ha (by omega) m hm
    obtain ⟨_, m2, e2, ⟨y, hy, rfl⟩, r2⟩ := ht b hb (by omega) m1 r1
    obtain ⟨_, m3, e3, ⟨z, hz, rfl⟩, r3⟩ := ht 7 (by omega) (by omega) m2 r2
    have c1 : ∀ n : Nat, addD (.int 1) (eN n) = some (eN (1 + n)) := fun n => add_N 1 n
    have e3 : φ 0 [.ref 0, .int 7] m2 = .ok (eN z) m3 := e3
    exact ⟨_, m3, by simp [startE, evS, evE, consD, argsOf, e1, e2, e3, binD, c1, putT, setE], ⟨_, rfl, x, y, z, hx, hy, hz, rfl⟩, r3⟩
  · rintro _ ⟨x, y, z, hx, hy, hz, rfl⟩
    refine SD.rt (SD.ret fun m hm => ?_)
    obtain ⟨_, m', e, ⟨l, sub, rfl⟩, r⟩ := VD.prim1 (p := .tuple) (Q' := fun d => ∃ l' : List Sq, l'.Sublist (squares (1 + x) (1 + y)) ∧ d = D.tup (l'.map eQ))
      (VD.comp (φ := φ) (ns := ns) (enc := eQ) (own := [6]) (t := .name 6) (k := .val) (ρ := [some (.val (.ref 0)), some (.val (eN a)), some (.val (eN b)), some (.val (eN (1 + x))), some (.val (eN (1 + y))), some (.val (eN z)), none])
        (it := .cons (.call 1 (.cons (.slot 3) (.cons (.slot 4) .nil))) .nil) (ifs := .cmp .lt (.call 0 (.cons (.slot 0) (.cons (.cst (.int 8)) .nil))) (.slot 5)) (elt := .slot 6) (squares (1 + x) (1 + y))
        (Vs.cons (V.call (Vs.cons (V.slot rfl) (Vs.cons (V.slot rfl) Vs.nil)) (hs _ _ (by omega) (by omega))) Vs.nil) rfl (fun q _ => rfl)
        (fun q _ => VD.cmp (VD.call (Vs.cons (V.slot rfl) (Vs.cons (V.cst (d := eN 8)) Vs.nil)) (ht 8 (by omega) (by omega))) (V.slot rfl) (by
          rintro _ ⟨v, _, rfl⟩
          exact ⟨_, cN_lt _ _, _, rfl⟩)) (fun q _ => V.slot rfl)) (by
        rintro _ ⟨l, sub, rfl⟩
        exact ⟨_, rfl, l, sub, rfl⟩) m hm
    refine ⟨eF ⟨1 + x, 1 + y, l⟩, m', ?_, ⟨⟨1 + x, 1 + y, l⟩, ⟨by show 1 ≤ 1 + x; omega, by show 1 + x ≤ 6; omega, by show 1 ≤ 1 + y; omega, by show 1 + y ≤ 6; omega, sub⟩, by show 1 + x ≤ a; omega, by show 1 + y ≤ b; omega, rfl⟩, r⟩
    exact tup3_at (V.slot rfl) (V.slot rfl) e
/-- one of some things -/
theorem pick_dr (ht : S_taken φ ns) {α : Type} {enc : α → D} {l : List α} (h0 : 0 < l.length) (h1 : l.length < 1073741824) {things : D} (hth : things = .lst (l.map enc) ∨ things = .tup (l.map enc)) {m : Mem} (hr : RowIs ns m) :
    ∃ d m', fin m (evS φ b_law_pick (startE 2 [.ref 0, things]) m) = .ok d m' ∧ (∃ (i : Nat) (hi : i < l.length), d = enc l[i]) ∧ RowIs ns m' := by
  refine SD.fin (SD.rt (SD.ret (VD.idx (V.slot rfl) (VD.call (ds := [.ref 0, eN l.length]) (Vs.cons (V.slot rfl) (Vs.cons (V.prim (d := eN l.length) (Vs.cons (V.slot rfl) Vs.nil) ?_) Vs.nil)) (ht _ h0 h1)) ?_))) hr
  · rcases hth with rfl | rfl <;> simp [primD, lenD, eN]
  · rintro _ ⟨x, hx, rfl⟩
    refine ⟨enc l[x], ?_, x, hx, rfl⟩
    rcases hth with rfl | rfl
    · exact idx_L hx
    · exact idx_T hx
end
end Ev

set_option maxHeartbeats 2000000
namespace Ev
open PySem
/-- values that the law may compare with themselves -/
def plD : Nat → D → Bool
  | _, .non => true
  | _, .bl _ => true
  | _, .int _ => true
  | _, .str s => PyData.strOk s
  | n + 1, .tup l => decide (l.length ≤ 1000000) && l.all (plD n)
  | n + 1, .lst l => decide (l.length ≤ 1000000) && l.all (plD n)
  | _, _ => false
section
variable {φ : Phi}
theorem alike_seq {d : D} {l : List D} (hd : d = .tup l ∨ d = .lst l) (hl : l.length ≤ 1000000) (h : ∀ x ∈ l, To φ 3 [x, x] (.bl true)) : Runs φ b_law_alike 3 [d, d] (.bl true) := by
  have h1 : primD .isTupLst [d] = some (.bl true) := by rcases hd with rfl | rfl <;> rfl
  have h2 : ∃ b, primD .isLst [d] = some (.bl b) := by rcases hd with rfl | rfl <;> exact ⟨_, rfl⟩
  have h3 : primD .len [d] = some (eN l.length) := by rcases hd with rfl | rfl <;> rfl
  have h4 : ∀ i : Nat, (hi : i < l.length) → idxD d (eN i) = some l[i] := fun i hi => by
    rcases hd with rfl | rfl
    · have := idx_T (enc := id) (l := l) hi; simpa using this
    · have := idx_L (enc := id) (l := l) hi; simpa using this
  obtain ⟨b, h2⟩ := h2
  have ne : cmpD .ne (.bl b) (.bl b) = some (.bl false) := by cases b <;> rfl
  refine Runs.of (St.rt (St.iteT (x := .bl true) (V.prim (Vs.cons (V.slot rfl) Vs.nil) h1) rfl ?_))
  refine St.seq (St.iteF (x := .bl false) (V.or (t := false) (u := false) (V.not (t := true) (V.prim (Vs.cons (V.slot rfl) Vs.nil) h1)) fun _ => V.cmp (V.prim (Vs.cons (V.slot rfl) Vs.nil) h2) (V.prim (Vs.cons (V.slot rfl) Vs.nil) h2) ne) rfl St.skip) ?_
  refine St.seq (St.iteF (x := .bl false) (V.cmp (V.prim (Vs.cons (V.slot rfl) Vs.nil) h3) (V.prim (Vs.cons (V.slot rfl) Vs.nil) h3) (by rw [cN_ne]; simp)) rfl St.skip) ?_
  refine St.rt (St.ret (V.cmp (V.comp (enc := eN) (p := fun _ => false) (g := eN) (List.range l.length) (Vs.cons (V.prim (Vs.cons (V.slot rfl) Vs.nil) h3) Vs.nil) (rng_N hl) (fun i _ => rfl) (fun i hi => ?_) (fun i _ _ => V.slot rfl)) (V.lst Vs.nil) ?_))
  · rw [List.mem_range] at hi
    exact V.not (t := true) (V.call (Vs.cons (V.idx (V.slot rfl) (V.slot rfl) (h4 i hi)) (Vs.cons (V.idx (V.slot rfl) (V.slot rfl) (h4 i hi)) Vs.nil)) (h _ (List.getElem_mem hi)))
  · rw [List.filter_eq_nil_iff.mpr (by simp)]
    rfl
theorem alike_flat {d : D} (h1 : primD .isTupLst [d] = some (.bl false)) (h2 : cmpD .is d .non = some (.bl false)) (h3 : primD .isStr [d] = some (.bl false)) (h4 : primD .isInt [d] = some (.bl true)) {b : Bool} (h5 : primD .isBool [d] = some (.bl b)) (h6 : cmpD .eq d d = some (.bl true)) : Runs φ b_law_alike 3 [d, d] (.bl true) := by
  have e : cmpD .eq (.bl b) (.bl b) = some (.bl true) := by cases b <;> rfl
  refine Runs.of (St.seq (St.iteF (x := .bl false) (V.prim (Vs.cons (V.slot rfl) Vs.nil) h1) rfl St.skip) ?_)
  refine St.seq (St.iteF (x := .bl false) (V.or (t := false) (u := false) (V.cmp (V.slot rfl) V.cst h2) fun _ => V.prim (Vs.cons (V.slot rfl) Vs.nil) h3) rfl St.skip) ?_
  exact St.rt (St.ret (V.and (t := true) (u := true) (V.prim (Vs.cons (V.slot rfl) Vs.nil) h4) fun _ => V.and (t := true) (u := true) (V.cmp (V.prim (Vs.cons (V.slot rfl) Vs.nil) h5) (V.prim (Vs.cons (V.slot rfl) Vs.nil) h5) e) fun _ => V.cmp (V.slot rfl) (V.slot rfl) h6))
theorem alike_word {d : D} {t u : Bool} (h1 : primD .isTupLst [d] = some (.bl false)) (h2 : cmpD .is d .non = some (.bl t)) (h3 : primD .isStr [d] = some (.bl u)) (ht : (t || u) = true) (h6 : cmpD .eq d d = some (.bl true)) : Runs φ b_law_alike 3 [d, d] (.bl true) := by
  have e : cmpD .eq (.bl u) (.bl u) = some (.bl true) := by cases u <;> rfl
  refine Runs.of (St.seq (St.iteF (x := .bl false) (V.prim (Vs.cons (V.slot rfl) Vs.nil) h1) rfl St.skip) ?_)
  refine St.rt (St.iteT (x := .bl (t || u)) (V.or (V.cmp (V.slot rfl) V.cst h2) fun _ => V.prim (Vs.cons (V.slot rfl) Vs.nil) h3) (by rw [ht]; rfl) ?_)
  exact St.rt (St.ret (V.and (t := true) (u := true) (V.cmp (V.slot rfl) (V.slot rfl) h6) fun _ => V.cmp (V.prim (Vs.cons (V.slot rfl) Vs.nil) h3) (V.prim (Vs.cons (V.slot rfl) Vs.nil) h3) e))
/-- like values are found so -/
theorem alike_ok {Φ : Tab} {fn : Fn} (hf : Φ 3 = some fn) (hp : fn.ps.length = 2) (hN : fn.N.length = 3) (hb : fn.body = b_law_alike) : ∀ (n : Nat) (d : D), plD n d = true → ∀ k, n < k → To (callK Φ k) 3 [d, d] (.bl true) := by
  intro n
  induction n with
  | zero =>
    intro d h k hk
    obtain ⟨k, rfl⟩ : ∃ j, k = j + 1 := ⟨k - 1, by omega⟩
    refine To.of hf (by rw [hp]; rfl) ?_
    rw [hN, hb]
    cases d <;> first | cases h; done | skip
    · exact alike_word (t := true) (u := false) rfl rfl rfl rfl rfl
    · exact alike_flat rfl rfl rfl rfl (b := true) rfl (by rename_i b; cases b <;> rfl)
    · exact alike_flat rfl rfl rfl rfl (b := false) rfl (by rename_i i; show some (D.bl (eqD (.int i) (.int i))) = _; simp [eqD])
    · rename_i s
      exact alike_word (t := false) (u := true) rfl rfl rfl rfl (by
        have h : PyData.strOk s = true := h
        show (if okD okDep (.str s) && okD okDep (.str s) then some (D.bl (eqD (.str s) (.str s))) else none) = _
        have : okD okDep (.str s) = true := h
        rw [this]
        simp [eqD])
  | succ n ih =>
    intro d h k hk
    obtain ⟨k, rfl⟩ : ∃ j, k = j + 1 := ⟨k - 1, by omega⟩
    have sq : ∀ l, (d = .tup l ∨ d = .lst l) → (decide (l.length ≤ 1000000) && l.all (plD n)) = true → To (callK Φ (k + 1)) 3 [d, d] (.bl true) := by
      intro l hd h
      rw [Bool.and_eq_true, decide_eq_true_eq, List.all_eq_true] at h
      refine To.of hf (by rw [hp]; rfl) ?_
      rw [hN, hb]
      exact alike_seq hd h.1 fun x hx => ih x (h.2 x hx) k (by omega)
    cases d <;> first | cases h; done | skip
    all_goals first
      | exact sq _ (.inl rfl) h
      | exact sq _ (.inr rfl) h
      | exact ih _ (by cases n <;> exact h) (k + 1) (by omega)
end
end Ev

set_option maxHeartbeats 2000000
namespace Ev
open PySem
variable {φ : Phi}
def und (s : List Nat) (q : Sq) : Bool := decide (q.2 < s.getD q.1 0)
def hasQ (q : Sq) (l : List Sq) : Bool := l.any fun x => x.1 == q.1 && x.2 == q.2
theorem eqD_Q (a b : Sq) : eqD (eQ a) (eQ b) = (a.1 == b.1 && a.2 == b.2) := by
  have : eqD (eQ a) (eQ b) = (eqD (eN a.1) (eN b.1) && (eqD (eN a.2) (eN b.2) && true)) := by
    simp only [eQ, eqD, eqDs]
  rw [this, eqD_N, eqD_N, Bool.and_true]
  rfl
theorem hasQ_iff {q : Sq} {l : List Sq} : hasQ q l = true ↔ q ∈ l := by
  unfold hasQ
  rw [List.any_eq_true]
  constructor
  · rintro ⟨x, hx, h⟩
    rw [Bool.and_eq_true, beq_iff_eq, beq_iff_eq] at h
    rwa [← show x = q from Prod.ext h.1 h.2]
  · exact fun h => ⟨q, h, by simp⟩
theorem allQ {l : List Sq} : (l.map eQ).all (okD okDep) = true := by
  rw [List.all_eq_true]
  intro d hd
  obtain ⟨q, _, rfl⟩ := List.mem_map.mp hd
  exact okD_Q q
theorem mem_Qs (q : Sq) (l : List Sq) : cmpD .mem (eQ q) (eQL l) = some (.bl (hasQ q l)) := by
  show (if okD okDep (eQ q) && (l.map eQ).all (okD okDep) then some ((l.map eQ).any fun z => eqD z (eQ q)) else none).map D.bl = _
  rw [okD_Q, allQ]
  show some (D.bl ((l.map eQ).any fun z => eqD z (eQ q))) = _
  rw [List.any_map]
  unfold hasQ
  congr 2
  refine congrArg (fun f => l.any f) (funext fun x => ?_)
  exact eqD_Q x q
theorem nmem_Qs (q : Sq) (l : List Sq) : cmpD .nmem (eQ q) (eQL l) = some (.bl (!hasQ q l)) := by
  have h := mem_Qs q l
  have h : (memD (eQ q) (eQL l)).map D.bl = some (.bl (hasQ q l)) := h
  show (memD (eQ q) (eQL l)).map (fun b => D.bl (!b)) = _
  cases hm : memD (eQ q) (eQL l) with
  | none => rw [hm] at h; cases h
  | some b => rw [hm] at h; cases h; rfl
theorem memT_Qs (q : Sq) (l : List Sq) : cmpD .mem (eQ q) (eQT l) = some (.bl (hasQ q l)) := mem_Qs q l
theorem nmemT_Qs (q : Sq) (l : List Sq) : cmpD .nmem (eQ q) (eQT l) = some (.bl (!hasQ q l)) := nmem_Qs q l
theorem eqDs_N : ∀ a b : List Nat, eqDs (a.map eN) (b.map eN) = decide (a = b)
  | [], [] => rfl
  | [], _ :: _ => rfl
  | _ :: _, [] => rfl
  | x :: a, y :: b => by
    show (eqD (eN x) (eN y) && eqDs (a.map eN) (b.map eN)) = _
    rw [eqD_N, eqDs_N a b, Bool.eq_iff_iff]
    simp
theorem eqD_S (a b : List Nat) : eqD (eS a) (eS b) = decide (a = b) := by
  show eqD (.tup _) (.tup _) = _
  simp only [eqD]
  exact eqDs_N a b
theorem okD_S (s : List Nat) : okD okDep (eS s) = true := by
  show (s.map eN).all (okD 11) = true
  rw [List.all_eq_true]
  intro d hd
  obtain ⟨n, _, rfl⟩ := List.mem_map.mp hd
  rfl
theorem index_S {l : List (List Nat)} {s : List Nat} {i : Nat} (h : l.findIdx? (fun z => decide (z = s)) = some i) : methD .index (eSL l) [eS s] = some (eN i) := by
  have ha : (l.map eS).all (okD okDep) = true := by
    rw [List.all_eq_true]
    intro d hd
    obtain ⟨z, _, rfl⟩ := List.mem_map.mp hd
    exact okD_S z
  show (if okD okDep (eS s) && (l.map eS).all (okD okDep) then ((l.map eS).findIdx? fun z => eqD z (eS s)).map (fun (j : Nat) => D.int j) else none) = _
  rw [okD_S, ha]
  show ((l.map eS).findIdx? fun z => eqD z (eS s)).map (fun (j : Nat) => D.int j) = _
  have : (l.map eS).findIdx? (fun z => eqD z (eS s)) = l.findIdx? fun z => decide (z = s) := by
    rw [List.findIdx?_map]
    exact congrArg (fun f => l.findIdx? f) (funext fun z => eqD_S z s)
  rw [this, h]
  rfl
theorem ints_N : ∀ s : List Nat, intsOf (s.map eN) = some (s.map fun (n : Nat) => (n : Int))
  | [] => rfl
  | n :: s => by
    show (intsOf (s.map eN)).map (((n : Nat) : Int) :: ·) = _
    rw [ints_N s]
    rfl
theorem sum_cast : ∀ s : List Nat, (s.map fun (n : Nat) => (n : Int)).sum = ((s.sum : Nat) : Int)
  | [] => rfl
  | n :: s => by rw [List.map_cons, List.sum_cons, List.sum_cons, sum_cast s, Int.natCast_add]
theorem sum_S (s : List Nat) : primD .sum [eS s] = some (eN s.sum) := by
  show (intsOf (s.map eN)).map (fun ns => D.int ns.sum) = _
  rw [ints_N, Option.map_some, sum_cast]
  rfl
theorem rep_N {a k : Nat} (h1 : 1 ≤ k) (h2 : k ≤ 1000) : binD .mul (.tup [eN a]) (eN k) = some (eS (List.replicate k a)) := by
  show (if decide ((1 : Int) ≤ k) && decide ((k : Int) ≤ 1000) && decide (1 ≤ 1000) then some (D.tup (List.replicate (k : Int).toNat [eN a]).flatten) else none) = _
  rw [if_pos (by simp; omega)]
  unfold eS
  congr 2
  rw [Int.toNat_natCast, List.map_replicate]
  clear h1 h2
  induction k with
  | zero => rfl
  | succ k ih => rw [List.replicate_succ, List.replicate_succ, List.flatten_cons, ih]; rfl
def S_is_stair (φ : Phi) := ∀ (f : Fld) (s : List Nat), f.Ok → IsSt f.h f.w s → To φ 53 [eF f, eS s] (.bl true)
def S_need_stair (φ : Phi) := ∀ (f : Fld) (s : List Nat), f.Ok → IsSt f.h f.w s → To φ 54 [eF f, eS s] .non
def S_need_square (φ : Phi) := ∀ (f : Fld) (q : Sq), f.Ok → q.1 < f.h → q.2 < f.w → To φ 18 [eF f, eQ q] .non
def S_need_number (φ : Phi) := ∀ n lo hi : Nat, lo ≤ n → n ≤ hi → To φ 15 [eN n, eN lo, eN hi] .non
theorem is_stair_run (h1 : S_tuple_of φ) (h2 : S_within φ) (f : Fld) (s : List Nat) (ok : f.Ok) (hs : IsSt f.h f.w s) : Runs φ b_is_stair 4 [eF f, eS s] (.bl true) := by
  have hl := hs.len
  have t1 := h1 (s.map eN) f.h f.h
  rw [List.length_map, hl, decide_eq_true (Nat.le_refl _)] at t1
  have okh := ok.h1; have okh6 := ok.h6
  refine Runs.of (St.seq (St.iteF (x := .bl false) (V.or (t := false) (u := false) (V.not (t := true) (V.call (Vs.cons (V.slot rfl) (Vs.cons (V.idx (V.slot rfl) V.cst idx_F0) (Vs.cons (V.idx (V.slot rfl) V.cst idx_F0) Vs.nil))) t1)) fun _ => V.not (t := true) (V.prim (Vs.cons (V.compA (enc := eN) (g := fun _ => .bl true) s (Vs.cons (V.slot rfl) Vs.nil) rfl (fun x _ => rfl) fun x hx => ?_) Vs.nil) (all_bl fun _ _ => rfl))) rfl St.skip) ?_)
  · have w1 := h2 x 0 f.w
    rw [decide_eq_true (Nat.zero_le _), decide_eq_true (hs.le x hx)] at w1
    exact V.call (Vs.cons (V.slot rfl) (Vs.cons (V.cst (d := eN 0)) (Vs.cons (V.idx (V.slot rfl) V.cst idx_F1) Vs.nil))) w1
  · refine St.rt (St.ret (V.prim (Vs.cons (V.compA (enc := eN) (g := fun _ => .bl true) (List.range (s.length - 1)) (Vs.cons (V.bin (V.prim (d := eN s.length) (Vs.cons (V.slot rfl) Vs.nil) (by simp [primD, lenD, eS, eN])) (V.cst (d := eN 1)) (sub_N (by omega))) Vs.nil) (rng_N (by omega)) (fun x _ => rfl) fun x hx => ?_) Vs.nil) (all_bl fun _ _ => rfl)))
    rw [List.mem_range] at hx
    have hm := List.pairwise_iff_getElem.mp hs.mono x (x + 1) (by omega) (by omega) (by omega)
    refine V.cmp (V.idx (V.slot rfl) (V.slot rfl) (idx_S (by omega))) (V.idx (V.slot rfl) (V.bin (V.slot rfl) (V.cst (d := eN 1)) (add_N _ _)) (idx_S (by omega))) ?_
    rw [cN_ge, decide_eq_true hm]
theorem need_stair_run (h1 : S_is_stair φ) (f : Fld) (s : List Nat) (ok : f.Ok) (hs : IsSt f.h f.w s) : Runs φ b_need_stair 2 [eF f, eS s] .non :=
  Runs.ofN ⟨_, St.seq (St.iteF (x := .bl false) (V.not (t := true) (V.call (Vs.cons (V.slot rfl) (Vs.cons (V.slot rfl) Vs.nil)) (h1 f s ok hs))) rfl St.skip) St.skip⟩
theorem need_square_run (h1 : S_is_square_of φ) (f : Fld) (q : Sq) (ok : f.Ok) (hh : q.1 < f.h) (hw : q.2 < f.w) : Runs φ b_need_square 2 [eF f, eQ q] .non := by
  have t := h1 q f.h f.w ok.h1 ok.w1
  rw [decide_eq_true hh, decide_eq_true hw] at t
  exact Runs.ofN ⟨_, St.seq (St.iteF (x := .bl false) (V.not (t := true) (V.call (Vs.cons (V.slot rfl) (Vs.cons (V.idx (V.slot rfl) V.cst idx_F0) (Vs.cons (V.idx (V.slot rfl) V.cst idx_F1) Vs.nil))) t)) rfl St.skip) St.skip⟩
theorem need_number_run (h1 : S_within φ) (n lo hi : Nat) (hl : lo ≤ n) (hh : n ≤ hi) : Runs φ b_need_number 3 [eN n, eN lo, eN hi] .non := by
  have t := h1 n lo hi
  rw [decide_eq_true hl, decide_eq_true hh] at t
  exact Runs.ofN ⟨_, St.seq (St.iteF (x := .bl false) (V.not (t := true) (V.call (Vs.cons (V.slot rfl) (Vs.cons (V.slot rfl) (Vs.cons (V.slot rfl) Vs.nil))) t)) rfl St.skip) St.skip⟩
def S_under (φ : Phi) (i : Nat) := ∀ (s : List Nat) (q : Sq), q.1 < s.length → To φ i [eS s, eQ q] (.bl (und s q))
theorem under_run {b : S} (hb : b = .seq (.ret (.cmp .lt (.idx (.slot 1) (.cst (.int 1))) (.idx (.slot 0) (.idx (.slot 1) (.cst (.int 0)))))) .skip) (s : List Nat) (q : Sq) (h : q.1 < s.length) : Runs φ b 2 [eS s, eQ q] (.bl (und s q)) := by
  subst hb
  have e : und s q = decide (q.2 < s[q.1]) := by unfold und; rw [List.getD_eq_getElem?_getD, List.getElem?_eq_getElem h]; rfl
  rw [e]
  exact Runs.of (St.rt (St.ret (V.cmp (V.idx (V.slot rfl) V.cst idx_Q1) (V.idx (V.slot rfl) (V.idx (V.slot rfl) V.cst idx_Q0) (idx_S h)) (cN_lt _ _))))
section
variable {f : Fld} {s : List Nat} {q : Sq} {x : D} (n1 : S_need_field φ) (ok : f.Ok)
include n1 ok
theorem V.need {ρ : Env} {a : E} (h : V φ ρ a (eF f)) : St φ ρ (.expr (.call 8 (.cons a .nil))) (.nx ρ) := St.expr (V.call (Vs.cons h Vs.nil) (n1 f ok))
variable (n2 : S_need_stair φ) (hs : IsSt f.h f.w s)
include n2 hs
theorem squares_under_run (h3 : S_squares φ 12) (h4 : S_under φ 55) : Runs φ b_squares_under 3 [eF f, eS s] (eQL ((squares f.h f.w).filter (und s))) := by
  have okh6 := ok.h6; have okw6 := ok.w6
  refine Runs.of (St.seq (V.need n1 ok (V.slot rfl)) (St.seq (St.expr (V.call (Vs.cons (V.slot rfl) (Vs.cons (V.slot rfl) Vs.nil)) (n2 f s ok hs))) (St.rt (St.ret ?_))))
  exact V.comp (enc := eQ) (p := und s) (g := eQ) (squares f.h f.w) (Vs.cons (V.call (Vs.cons (V.idx (V.slot rfl) V.cst idx_F0) (Vs.cons (V.idx (V.slot rfl) V.cst idx_F1) Vs.nil)) (h3 _ _ (by omega) (by omega))) Vs.nil) rfl (fun x _ => rfl)
    (fun x hx => V.call (Vs.cons (V.slot rfl) (Vs.cons (V.slot rfl) Vs.nil)) (h4 s x (by rw [hs.len]; exact (mem_squares.mp hx).1))) fun x _ _ => V.slot rfl
theorem count_under_run : Runs φ b_count_under 2 [eF f, eS s] (eN s.sum) :=
  Runs.of (St.seq (V.need n1 ok (V.slot rfl)) (St.seq (St.expr (V.call (Vs.cons (V.slot rfl) (Vs.cons (V.slot rfl) Vs.nil)) (n2 f s ok hs))) (St.rt (St.ret (V.prim (Vs.cons (V.slot rfl) Vs.nil) (sum_S s))))))
theorem is_under_run2 (n3 : S_need_square φ) (h4 : S_under φ 55) (hh : q.1 < f.h) (hw : q.2 < f.w) : Runs φ b_is_under 3 [eF f, eS s, eQ q] (.bl (und s q)) :=
  Runs.of (St.seq (V.need n1 ok (V.slot rfl)) (St.seq (St.expr (V.call (Vs.cons (V.slot rfl) (Vs.cons (V.slot rfl) Vs.nil)) (n2 f s ok hs))) (St.seq (St.expr (V.call (Vs.cons (V.slot rfl) (Vs.cons (V.slot rfl) Vs.nil)) (n3 f q ok hh hw))) (St.rt (St.ret (V.call (Vs.cons (V.slot rfl) (Vs.cons (V.slot rfl) Vs.nil)) (h4 s q (by rw [hs.len]; exact hh))))))))
theorem inner_corners_run (h : To φ 61 [eS s] x) : Runs φ b_inner_corners 2 [eF f, eS s] x :=
  Runs.of (St.seq (V.need n1 ok (V.slot rfl)) (St.seq (St.expr (V.call (Vs.cons (V.slot rfl) (Vs.cons (V.slot rfl) Vs.nil)) (n2 f s ok hs))) (St.rt (St.ret (V.call (Vs.cons (V.slot rfl) Vs.nil) h)))))
theorem outer_corners_run (h : To φ 63 [eF f, eS s] x) : Runs φ b_outer_corners 2 [eF f, eS s] x :=
  Runs.of (St.seq (V.need n1 ok (V.slot rfl)) (St.seq (St.expr (V.call (Vs.cons (V.slot rfl) (Vs.cons (V.slot rfl) Vs.nil)) (n2 f s ok hs))) (St.rt (St.ret (V.call (Vs.cons (V.slot rfl) (Vs.cons (V.slot rfl) Vs.nil)) h)))))
theorem stair_number_run (h : To φ 66 [eS (List.replicate f.h 0), eS (List.replicate f.h f.w), eS s] x) : Runs φ b_stair_number 2 [eF f, eS s] x := by
  have okh := ok.h1; have okh6 := ok.h6
  exact Runs.of (St.seq (V.need n1 ok (V.slot rfl)) (St.seq (St.expr (V.call (Vs.cons (V.slot rfl) (Vs.cons (V.slot rfl) Vs.nil)) (n2 f s ok hs))) (St.rt (St.ret (V.call (Vs.cons (V.bin (V.tup (Vs.cons (V.cst (d := eN 0)) Vs.nil)) (V.idx (V.slot rfl) V.cst idx_F0) (rep_N (by omega) (by omega))) (Vs.cons (V.bin (V.tup (Vs.cons (V.idx (V.slot rfl) V.cst idx_F1) Vs.nil)) (V.idx (V.slot rfl) V.cst idx_F0) (rep_N (by omega) (by omega))) (Vs.cons (V.slot rfl) Vs.nil))) h)))))
omit n2 hs
theorem stair_at_run (n4 : S_need_number φ) {c i : Nat} (hc : To φ 50 [eN (f.h + f.w), eN f.h] (eN c)) (hi : i < c) (h : To φ 68 [eS (List.replicate f.h 0), eS (List.replicate f.h f.w), eN i] x) : Runs φ b_stair_at 2 [eF f, eN i] x := by
  have okh := ok.h1; have okh6 := ok.h6
  refine Runs.of (St.seq (V.need n1 ok (V.slot rfl)) (St.seq (St.expr (V.call (Vs.cons (V.slot rfl) (Vs.cons (V.cst (d := eN 0)) (Vs.cons (V.bin (V.call (Vs.cons (V.bin (V.idx (V.slot rfl) V.cst idx_F0) (V.idx (V.slot rfl) V.cst idx_F1) (add_N _ _)) (Vs.cons (V.idx (V.slot rfl) V.cst idx_F0) Vs.nil)) hc) (V.cst (d := eN 1)) (sub_N (by omega))) Vs.nil))) (n4 i 0 (c - 1) (by omega) (by omega)))) (St.rt (St.ret ?_))))
  exact V.call (Vs.cons (V.bin (V.tup (Vs.cons (V.cst (d := eN 0)) Vs.nil)) (V.idx (V.slot rfl) V.cst idx_F0) (rep_N (by omega) (by omega))) (Vs.cons (V.bin (V.tup (Vs.cons (V.idx (V.slot rfl) V.cst idx_F1) Vs.nil)) (V.idx (V.slot rfl) V.cst idx_F0) (rep_N (by omega) (by omega))) (Vs.cons (V.slot rfl) Vs.nil))) h
omit n1
theorem all_stairs_of_run (h : To φ 47 [eS (List.replicate f.h 0), eS (List.replicate f.h f.w)] x) : Runs φ b_all_stairs_of 1 [eF f] x := by
  have okh := ok.h1; have okh6 := ok.h6
  exact Runs.of (St.rt (St.ret (V.call (Vs.cons (V.bin (V.tup (Vs.cons (V.cst (d := eN 0)) Vs.nil)) (V.idx (V.slot rfl) V.cst idx_F0) (rep_N (by omega) (by omega))) (Vs.cons (V.bin (V.tup (Vs.cons (V.idx (V.slot rfl) V.cst idx_F1) Vs.nil)) (V.idx (V.slot rfl) V.cst idx_F0) (rep_N (by omega) (by omega))) Vs.nil)) h)))
include n1
theorem all_stairs_run (h : To φ 48 [eF f] x) : Runs φ b_all_stairs 1 [eF f] x :=
  Runs.of (St.seq (V.need n1 ok (V.slot rfl)) (St.rt (St.ret (V.call (Vs.cons (V.slot rfl) Vs.nil) h))))
theorem count_stairs_run (h : To φ 50 [eN (f.h + f.w), eN f.h] x) : Runs φ b_count_stairs 1 [eF f] x :=
  Runs.of (St.seq (V.need n1 ok (V.slot rfl)) (St.rt (St.ret (V.call (Vs.cons (V.bin (V.idx (V.slot rfl) V.cst idx_F0) (V.idx (V.slot rfl) V.cst idx_F1) (add_N _ _)) (Vs.cons (V.idx (V.slot rfl) V.cst idx_F0) Vs.nil)) h))))
theorem count_through_run (n3 : S_need_square φ) (hh : q.1 < f.h) (hw : q.2 < f.w) {L : List (List Nat)} (inn out : List Nat → List Sq) (h : To φ 48 [eF f] (eSL L)) (hi : ∀ s ∈ L, To φ 61 [eS s] (eQL (inn s))) (ho : ∀ s ∈ L, To φ 63 [eF f, eS s] (eQL (out s))) :
    Runs φ b_count_through 5 [eF f, eQ q] (eN ((L.filter fun s => hasQ q (inn s)).length + (L.filter fun s => hasQ q (out s)).length)) := by
  have ln : ∀ (l : List (List Nat)), primD .len [.lst (l.map eS)] = some (eN l.length) := fun l => by simp [primD, lenD, eN]
  refine Runs.of (St.seq (V.need n1 ok (V.slot rfl)) (St.seq (St.expr (V.call (Vs.cons (V.slot rfl) (Vs.cons (V.slot rfl) Vs.nil)) (n3 f q ok hh hw))) (St.seq (St.asg (V.call (Vs.cons (V.slot rfl) Vs.nil) h) rfl) (St.seq (St.asg (V.prim (Vs.cons (V.comp (enc := eS) (p := fun s => hasQ q (inn s)) (g := eS) L (Vs.cons (V.slot rfl) Vs.nil) rfl (fun x _ => rfl) (fun s hs => ?_) fun x _ _ => V.slot rfl) Vs.nil) (ln _)) rfl) (St.rt (St.ret (V.bin (V.slot rfl) (V.prim (Vs.cons (V.comp (enc := eS) (p := fun s => hasQ q (out s)) (g := eS) L (Vs.cons (V.slot rfl) Vs.nil) rfl (fun x _ => rfl) (fun s hs => ?_) fun x _ _ => V.slot rfl) Vs.nil) (ln _)) (add_N _ _))))))))
  · exact V.cmp (V.slot rfl) (V.call (Vs.cons (V.slot rfl) Vs.nil) (hi s hs)) (mem_Qs _ _)
  · exact V.cmp (V.slot rfl) (V.call (Vs.cons (V.slot rfl) (Vs.cons (V.slot rfl) Vs.nil)) (ho s hs)) (mem_Qs _ _)
end
end Ev

namespace K52
open PySem PySem.Spec PyProof.Rows L2 Ev
def top (i : Nat) : Stmt := PySem.Challenge.pw_rockystairs_k52_across_best_squares.main.body.getD i (.Pass ⟨0, 0, 0, 0⟩)
def mkD (g x : Str) (i : Nat) : He.DefD := ⟨(g, none), x, x, defArgs (top i), defBody (top i), defScope (top i), [], []⟩
def e__law_taken : Ent := ⟨0, mkD "_law_taken" "_law_taken" 61, ["_law_row", "_law_many"], ["_law_row", "_law_many", "_law_found", "_law_cell"], Ev.b_law_taken⟩
def e__law_squares : Ent := ⟨1, mkD "_law_squares" "_law_squares" 62, ["_law_high", "_law_wide"], ["_law_high", "_law_wide", "_law_found", "_law_line", "_law_spot"], Ev.b_law_squares⟩
def e__law_field : Ent := ⟨29, mkD "_law_field" "_law_field" 63, ["_law_row", "_law_high", "_law_wide"], ["_law_row", "_law_high", "_law_wide", "_law_many", "_law_side", "_law_share", "_law_told"], Ev.b_law_field_2⟩
def e_whole : Ent := ⟨4, mkD "whole" "whole" 9, ["value"], ["value"], Ev.b_whole⟩
def e_within : Ent := ⟨5, mkD "within" "within" 10, ["value", "low", "high"], ["value", "low", "high"], Ev.b_within⟩
def e_tuple_of : Ent := ⟨6, mkD "tuple_of" "tuple_of" 11, ["value", "low", "high"], ["value", "low", "high"], Ev.b_tuple_of⟩
def e_is_square_of : Ent := ⟨7, mkD "is_square_of" "is_square_of" 12, ["value", "rows", "columns"], ["value", "rows", "columns"], Ev.b_is_square_of⟩
def e_need_field : Ent := ⟨8, mkD "need_field" "need_field" 13, ["field"], ["field", "side", "index", "rock"], Ev.b_need_field⟩
def e_squares_of : Ent := ⟨12, mkD "squares_of" "squares_of" 18, ["rows", "columns"], ["rows", "columns", "found", "row", "column"], Ev.b_squares_of⟩
def e_free_of : Ent := ⟨13, mkD "free_of" "free_of" 19, ["field"], ["field", "square"], Ev.b_free_of⟩
def e_free_squares : Ent := ⟨14, mkD "free_squares" "free_squares" 20, ["field"], ["field"], Ev.b_free_squares⟩
def e_up_left : Ent := ⟨24, mkD "up_left" "up_left" 25, ["one", "other"], ["one", "other"], Ev.b_up_left⟩
def e_lots_of : Ent := ⟨142, mkD "lots_of" "lots_of" 36, ["field"], ["field", "found", "rock", "needs", "other", "lot"], Ev.b_lots_of⟩
def e_count_kinds : Ent := ⟨143, mkD "count_kinds" "count_kinds" 37, ["field"], ["field"], Ev.b_count_kinds⟩
def e_is_lot_of : Ent := ⟨146, mkD "is_lot_of" "is_lot_of" 38, ["field", "squares"], ["field", "squares", "square", "rock"], Ev.b_is_lot_of⟩
def e_joins_of : Ent := ⟨207, mkD "joins_of" "joins_of" 44, ["field", "square"], ["field", "square", "found", "lot", "later"], Ev.b_joins_of⟩
def e_put_of : Ent := ⟨213, mkD "put_of" "put_of" 21, ["field", "square"], ["field", "square"], Ev.b_put_of⟩
def e_best_square : Ent := ⟨216, mkD "best_square" "best_square" 47, ["field"], ["field", "some", "square"], Ev.b_best_square⟩
def e_about : Ent := ⟨84, mkD "about" "about" 27, ["field", "squares"], ["field", "squares", "found", "row", "square"], Ev.b_about⟩
def e_before : Ent := ⟨86, mkD "before" "before" 28, ["field", "squares"], ["field", "squares", "found", "row", "square"], Ev.b_before⟩
def e_bounds : Ent := ⟨314, mkD "bounds" "bounds" 54, ["field"], ["field", "found", "lot", "rock"], Ev.b_bounds⟩
def e_busiest : Ent := ⟨319, mkD "busiest" "busiest" 58, ["field"], ["field", "some", "best", "square", "many", "least", "most"], Ev.b_busiest⟩
def e_need_square : Ent := ⟨18, mkD "need_square" "need_square" 14, ["field", "square"], ["field", "square"], Ev.b_need_square⟩
def e_count_new : Ent := ⟨214, mkD "count_new" "count_new" 46, ["field", "square"], ["field", "square"], Ev.b_count_new⟩
def e_dead_squares : Ent := ⟨320, mkD "dead_squares" "dead_squares" 57, ["field"], ["field", "some", "found", "square", "many", "least", "most"], Ev.b_dead_squares⟩
def e_zone_map : Ent := ⟨318, mkD "zone_map" "zone_map" 56, ["field"], ["field", "some", "found", "row", "line", "column", "least", "most"], Ev.b_zone_map⟩
def e_strongest_rock : Ent := ⟨218, mkD "strongest_rock" "strongest_rock" 49, ["field"], ["field", "some", "rock"], Ev.b_strongest_rock⟩
def e_weakest_rock : Ent := ⟨217, mkD "weakest_rock" "weakest_rock" 48, ["field"], ["field", "some", "rock"], Ev.b_weakest_rock⟩
def e_joins : Ent := ⟨208, mkD "joins" "joins" 43, ["field", "square"], ["field", "square"], Ev.b_joins⟩
def e_count_joined : Ent := ⟨209, mkD "count_joined" "count_joined" 45, ["field", "square"], ["field", "square"], Ev.b_count_joined⟩
def e_taken_of : Ent := ⟨219, mkD "taken_of" "taken_of" 22, ["field", "square"], ["field", "square", "rock"], Ev.b_taken_of⟩
def e_taken : Ent := ⟨397, mkD "taken" "taken" 24, ["field", "square"], ["field", "square"], Ev.b_taken⟩
def e_kinds_about : Ent := ⟨315, mkD "kinds_about" "kinds_about" 55, ["field", "square"], ["field", "square", "least", "most"], Ev.b_kinds_about⟩
def e_stairs_between : Ent := ⟨47, mkD "stairs_between" "stairs_between" 32, ["low", "high"], ["low", "high", "found", "least", "most", "later", "told", "top", "size"], Ev.b_stairs_between⟩
def e_all_stairs_of : Ent := ⟨48, mkD "all_stairs_of" "all_stairs_of" 33, ["field"], ["field"], Ev.b_all_stairs_of⟩
def e_inner_of : Ent := ⟨61, mkD "inner_of" "inner_of" 29, ["stair"], ["stair", "ends", "row", "size"], Ev.b_inner_of⟩
def e_outer_of : Ent := ⟨63, mkD "outer_of" "outer_of" 30, ["field", "stair"], ["field", "stair", "heads", "row", "size"], Ev.b_outer_of⟩
def e_turnable_of : Ent := ⟨97, mkD "turnable_of" "turnable_of" 52, ["field", "stair"], ["field", "stair", "square"], Ev.b_turnable_of⟩
def e_turns_about : Ent := ⟨109, mkD "turns_about" "turns_about" 59, ["field", "square"], ["field", "square", "stair"], Ev.b_turns_about⟩
def e_put : Ent := ⟨398, mkD "put" "put" 23, ["field", "square"], ["field", "square"], Ev.b_put⟩
def e_need_squares : Ent := ⟨83, mkD "need_squares" "need_squares" 15, ["field", "squares"], ["field", "squares", "index", "square"], Ev.b_need_squares⟩
def e_numbers_put : Ent := ⟨221, mkD "numbers_put" "numbers_put" 50, ["field", "squares"], ["field", "squares", "index", "square", "found"], Ev.b_numbers_put⟩
def e_choose : Ent := ⟨50, mkD "choose" "choose" 16, ["many", "some"], ["many", "some", "found", "step"], Ev.b_choose⟩
def e_count_stairs : Ent := ⟨51, mkD "count_stairs" "count_stairs" 31, ["field"], ["field"], Ev.b_count_stairs⟩
def e_ways_below : Ent := ⟨65, mkD "ways_below" "ways_below" 34, ["low", "high"], ["low", "high", "found", "size", "row", "last", "told", "less"], Ev.b_ways_below⟩
def e_lot_size_of : Ent := ⟨150, mkD "lot_size_of" "lot_size_of" 39, ["field", "lot"], ["field", "lot", "high", "rock"], Ev.b_lot_size_of⟩
def e_sizes : Ent := ⟨154, mkD "sizes" "sizes" 41, ["field"], ["field", "lot"], Ev.b_sizes⟩
def e_greatest_kind : Ent := ⟨155, mkD "greatest_kind" "greatest_kind" 40, ["field"], ["field", "best", "lot"], Ev.b_greatest_kind⟩
def es : List Ent := [e__law_taken, e__law_squares, e__law_field, e_whole, e_within, e_tuple_of, e_is_square_of, e_need_field, e_squares_of, e_free_of, e_free_squares, e_up_left, e_lots_of, e_count_kinds, e_is_lot_of, e_joins_of, e_put_of, e_best_square, e_about, e_before, e_bounds, e_busiest, e_need_square, e_count_new, e_dead_squares, e_zone_map, e_strongest_rock, e_weakest_rock, e_joins, e_count_joined, e_taken_of, e_taken, e_kinds_about, e_stairs_between, e_all_stairs_of, e_inner_of, e_outer_of, e_turnable_of, e_turns_about, e_put, e_need_squares, e_numbers_put, e_choose, e_count_stairs, e_ways_below, e_lot_size_of, e_sizes, e_greatest_kind]
def b_law : S :=
 (.seq (.asg (.name 2) (.call 29 (.cons (.slot 1) (.cons (.cst (.int 4)) (.cons (.cst (.int 4)) .nil)))))
 (.seq (.par [(3, false), (4, false), (5, false)] (.cons (.call 14 (.cons (.slot 2) .nil)) (.cons (.prim .list (.cons (.idx (.slot 2) (.cst (.int 2))) .nil)) (.cons (.call 143 (.cons (.slot 2) .nil)) .nil))))
 (.seq (.asg (.name 6) (.call 216 (.cons (.slot 2) .nil)))
 (.seq (.ite (.cmp .ne (.cmp .is (.slot 6) (.cst .non)) (.cmp .eq (.slot 3) (.lst .nil))) (.seq (.ret (.cst (.bl false)))
 .skip) .skip)
 (.seq (.ite (.and (.cmp .isnot (.slot 6) (.cst .non)) (.or (.cmp .ne (.call 214 (.cons (.slot 2) (.cons (.idx (.slot 6) (.cst (.int 1))) .nil))) (.idx (.slot 6) (.cst (.int 0)))) (.cmp .ne (.call 319 (.cons (.slot 2) .nil)) (.slot 6)))) (.seq (.ret (.cst (.bl false)))
 .skip) .skip)
 (.seq (.ite (.or (.and (.cmp .is (.slot 6) (.cst .non)) (.cmp .ne (.idx (.call 319 (.cons (.slot 2) .nil)) (.cst (.int 0))) (.cst (.int 0)))) (.cmp .ne (.call 320 (.cons (.slot 2) .nil)) (.lst .nil))) (.seq (.ret (.cst (.bl false)))
 .skip) .skip)
 (.seq (.asg (.name 7) (.comp [8] (.name 8) .val (.cons (.slot 3) .nil) (.cst (.bl true)) (.call 214 (.cons (.slot 2) (.cons (.slot 8) .nil)))))
 (.seq (.ite (.and (.cmp .isnot (.slot 6) (.cst .non)) (.or (.cmp .ne (.prim .max (.cons (.slot 7) .nil)) (.idx (.slot 6) (.cst (.int 0)))) (.or (.cmp .ne (.idx (.slot 3) (.meth .index (.slot 7) (.cons (.prim .max (.cons (.slot 7) .nil)) .nil))) (.idx (.slot 6) (.cst (.int 1)))) (.cmp .lt (.prim .min (.cons (.slot 7) .nil)) (.cst (.int 1)))))) (.seq (.ret (.cst (.bl false)))
 .skip) .skip)
 (.seq (.ite (.cmp .ne (.prim .sum (.cons (.comp [9] (.name 9) .val (.cons (.call 318 (.cons (.slot 2) .nil)) .nil) (.cst (.bl true)) (.prim .sum (.cons (.slot 9) .nil))) .nil)) (.prim .sum (.cons (.slot 7) .nil))) (.seq (.ret (.cst (.bl false)))
 .skip) .skip)
 (.seq (.ite (.or (.cmp .ne (.cmp .is (.call 217 (.cons (.slot 2) .nil)) (.cst .non)) (.cmp .eq (.slot 4) (.lst .nil))) (.cmp .ne (.cmp .is (.call 218 (.cons (.slot 2) .nil)) (.cst .non)) (.cmp .eq (.slot 4) (.lst .nil)))) (.seq (.ret (.cst (.bl false)))
 .skip) .skip)
 (.seq (.ite (.cmp .ne (.slot 4) (.lst .nil)) (.seq (.asg (.name 10) (.comp [13] (.name 13) .val (.cons (.slot 4) .nil) (.cst (.bl true)) (.call 209 (.cons (.slot 2) (.cons (.slot 13) .nil)))))
 (.seq (.par [(11, false), (12, false)] (.cons (.call 217 (.cons (.slot 2) .nil)) (.cons (.call 218 (.cons (.slot 2) .nil)) .nil)))
 (.seq (.ite (.cmp .ne (.slot 11) (.tup (.cons (.prim .min (.cons (.slot 10) .nil)) (.cons (.idx (.slot 4) (.meth .index (.slot 10) (.cons (.prim .min (.cons (.slot 10) .nil)) .nil))) .nil)))) (.seq (.ret (.cst (.bl false)))
 .skip) .skip)
 (.seq (.ite (.or (.cmp .ne (.slot 12) (.tup (.cons (.prim .max (.cons (.slot 10) .nil)) (.cons (.idx (.slot 4) (.meth .index (.slot 10) (.cons (.prim .max (.cons (.slot 10) .nil)) .nil))) .nil)))) (.cmp .lt (.idx (.slot 11) (.cst (.int 0))) (.cst (.int 1)))) (.seq (.ret (.cst (.bl false)))
 .skip) .skip)
 (.seq (.ite (.or (.cmp .ne (.call 143 (.cons (.call 397 (.cons (.slot 2) (.cons (.idx (.slot 12) (.cst (.int 1))) .nil))) .nil)) (.bin .sub (.slot 5) (.idx (.slot 12) (.cst (.int 0))))) (.cmp .gt (.bin .mul (.cst (.int 2)) (.prim .max (.cons (.slot 10) .nil))) (.bin .sub (.bin .add (.slot 5) (.slot 5)) (.cst (.int 1))))) (.seq (.ret (.cst (.bl false)))
 .skip) .skip)
 (.seq (.ite (.cmp .ne (.comp [13] (.name 13) .val (.cons (.slot 4) .nil) (.or (.cmp .ne (.call 109 (.cons (.slot 2) (.cons (.slot 13) .nil))) (.cst (.int 0))) (.cmp .ne (.call 315 (.cons (.slot 2) (.cons (.slot 13) .nil))) (.cst (.int 0)))) (.slot 13)) (.lst .nil)) (.seq (.ret (.cst (.bl false)))
 .skip) .skip)
 .skip)))))) .skip)
 (.seq (.ite (.cmp .isnot (.slot 6) (.cst .non)) (.seq (.asg (.name 14) (.call 398 (.cons (.slot 2) (.cons (.idx (.slot 6) (.cst (.int 1))) .nil))))
 (.seq (.ite (.or (.cmp .ne (.call 143 (.cons (.slot 14) .nil)) (.bin .add (.slot 5) (.idx (.slot 6) (.cst (.int 0))))) (.cmp .ne (.call 221 (.cons (.slot 2) (.cons (.tup (.cons (.idx (.slot 6) (.cst (.int 1))) .nil)) .nil))) (.tup (.cons (.slot 5) (.cons (.bin .add (.slot 5) (.idx (.slot 6) (.cst (.int 0)))) .nil))))) (.seq (.ret (.cst (.bl false)))
 .skip) .skip)
 (.seq (.ite (.cmp .ne (.comp [8] (.name 8) .val (.cons (.slot 3) .nil) (.cmp .lt (.call 109 (.cons (.slot 2) (.cons (.slot 8) .nil))) (.bin .mul (.cst (.int 2)) (.call 315 (.cons (.slot 2) (.cons (.slot 8) .nil))))) (.slot 8)) (.lst .nil)) (.seq (.ret (.cst (.bl false)))
 .skip) .skip)
 .skip))) .skip)
 (.seq (.ret (.and (.cmp .eq (.idx (.call 154 (.cons (.slot 2) .nil)) (.neg (.cst (.int 1)))) (.idx (.call 155 (.cons (.slot 2) .nil)) (.cst (.int 0)))) (.cmp .eq (.cmp .eq (.slot 5) (.call 51 (.cons (.slot 2) .nil))) (.cmp .eq (.slot 3) (.lst .nil)))))
 .skip)))))))))))))
def law : LawEnt := ⟨mkD "law" "law" 64, ["_law_script", "_law_row", "_law_field_here", "_law_free", "_law_rocks", "_law_many", "_law_found", "_law_gains", "_law_square", "_law_line", "_law_falls", "_law_weak", "_law_strong", "_law_rock", "_law_more"], 8252, b_law⟩
def nms : Nms := ⟨["all", "any", "bool", "enumerate", "int", "isinstance", "len", "list", "max", "min", "range", "sorted", "sum", "tuple", "zip"], [("MOST_SIDE", 6)], []⟩
theorem f_law_taken : tabOf es 0 = some ⟨e__law_taken.d.name, e__law_taken.ps, e__law_taken.N, Ev.b_law_taken⟩ := rfl
theorem f_law_squares : tabOf es 1 = some ⟨e__law_squares.d.name, e__law_squares.ps, e__law_squares.N, Ev.b_law_squares⟩ := rfl
theorem f_law_field_2 : tabOf es 29 = some ⟨e__law_field.d.name, e__law_field.ps, e__law_field.N, Ev.b_law_field_2⟩ := rfl
theorem f_whole : tabOf es 4 = some ⟨e_whole.d.name, e_whole.ps, e_whole.N, Ev.b_whole⟩ := rfl
theorem f_within : tabOf es 5 = some ⟨e_within.d.name, e_within.ps, e_within.N, Ev.b_within⟩ := rfl
theorem f_tuple_of : tabOf es 6 = some ⟨e_tuple_of.d.name, e_tuple_of.ps, e_tuple_of.N, Ev.b_tuple_of⟩ := rfl
theorem f_is_square_of : tabOf es 7 = some ⟨e_is_square_of.d.name, e_is_square_of.ps, e_is_square_of.N, Ev.b_is_square_of⟩ := rfl
theorem f_need_field : tabOf es 8 = some ⟨e_need_field.d.name, e_need_field.ps, e_need_field.N, Ev.b_need_field⟩ := rfl
theorem f_squares_of : tabOf es 12 = some ⟨e_squares_of.d.name, e_squares_of.ps, e_squares_of.N, Ev.b_squares_of⟩ := rfl
theorem f_free_of : tabOf es 13 = some ⟨e_free_of.d.name, e_free_of.ps, e_free_of.N, Ev.b_free_of⟩ := rfl
theorem f_free_squares : tabOf es 14 = some ⟨e_free_squares.d.name, e_free_squares.ps, e_free_squares.N, Ev.b_free_squares⟩ := rfl
theorem f_up_left : tabOf es 24 = some ⟨e_up_left.d.name, e_up_left.ps, e_up_left.N, Ev.b_up_left⟩ := rfl
theorem f_lots_of : tabOf es 142 = some ⟨e_lots_of.d.name, e_lots_of.ps, e_lots_of.N, Ev.b_lots_of⟩ := rfl
theorem f_count_kinds : tabOf es 143 = some ⟨e_count_kinds.d.name, e_count_kinds.ps, e_count_kinds.N, Ev.b_count_kinds⟩ := rfl
theorem f_is_lot_of : tabOf es 146 = some ⟨e_is_lot_of.d.name, e_is_lot_of.ps, e_is_lot_of.N, Ev.b_is_lot_of⟩ := rfl
theorem f_joins_of : tabOf es 207 = some ⟨e_joins_of.d.name, e_joins_of.ps, e_joins_of.N, Ev.b_joins_of⟩ := rfl
theorem f_put_of : tabOf es 213 = some ⟨e_put_of.d.name, e_put_of.ps, e_put_of.N, Ev.b_put_of⟩ := rfl
theorem f_best_square : tabOf es 216 = some ⟨e_best_square.d.name, e_best_square.ps, e_best_square.N, Ev.b_best_square⟩ := rfl
theorem f_about : tabOf es 84 = some ⟨e_about.d.name, e_about.ps, e_about.N, Ev.b_about⟩ := rfl
theorem f_before : tabOf es 86 = some ⟨e_before.d.name, e_before.ps, e_before.N, Ev.b_before⟩ := rfl
theorem f_bounds : tabOf es 314 = some ⟨e_bounds.d.name, e_bounds.ps, e_bounds.N, Ev.b_bounds⟩ := rfl
theorem f_busiest : tabOf es 319 = some ⟨e_busiest.d.name, e_busiest.ps, e_busiest.N, Ev.b_busiest⟩ := rfl
theorem f_need_square : tabOf es 18 = some ⟨e_need_square.d.name, e_need_square.ps, e_need_square.N, Ev.b_need_square⟩ := rfl
theorem f_count_new : tabOf es 214 = some ⟨e_count_new.d.name, e_count_new.ps, e_count_new.N, Ev.b_count_new⟩ := rfl
theorem f_dead_squares : tabOf es 320 = some ⟨e_dead_squares.d.name, e_dead_squares.ps, e_dead_squares.N, Ev.b_dead_squares⟩ := rfl
theorem f_zone_map : tabOf es 318 = some ⟨e_zone_map.d.name, e_zone_map.ps, e_zone_map.N, Ev.b_zone_map⟩ := rfl
theorem f_strongest_rock : tabOf es 218 = some ⟨e_strongest_rock.d.name, e_strongest_rock.ps, e_strongest_rock.N, Ev.b_strongest_rock⟩ := rfl
theorem f_weakest_rock : tabOf es 217 = some ⟨e_weakest_rock.d.name, e_weakest_rock.ps, e_weakest_rock.N, Ev.b_weakest_rock⟩ := rfl
theorem f_joins : tabOf es 208 = some ⟨e_joins.d.name, e_joins.ps, e_joins.N, Ev.b_joins⟩ := rfl
theorem f_count_joined : tabOf es 209 = some ⟨e_count_joined.d.name, e_count_joined.ps, e_count_joined.N, Ev.b_count_joined⟩ := rfl
theorem f_taken_of : tabOf es 219 = some ⟨e_taken_of.d.name, e_taken_of.ps, e_taken_of.N, Ev.b_taken_of⟩ := rfl
theorem f_taken : tabOf es 397 = some ⟨e_taken.d.name, e_taken.ps, e_taken.N, Ev.b_taken⟩ := rfl
theorem f_kinds_about : tabOf es 315 = some ⟨e_kinds_about.d.name, e_kinds_about.ps, e_kinds_about.N, Ev.b_kinds_about⟩ := rfl
theorem f_stairs_between : tabOf es 47 = some ⟨e_stairs_between.d.name, e_stairs_between.ps, e_stairs_between.N, Ev.b_stairs_between⟩ := rfl
theorem f_all_stairs_of : tabOf es 48 = some ⟨e_all_stairs_of.d.name, e_all_stairs_of.ps, e_all_stairs_of.N, Ev.b_all_stairs_of⟩ := rfl
theorem f_inner_of : tabOf es 61 = some ⟨e_inner_of.d.name, e_inner_of.ps, e_inner_of.N, Ev.b_inner_of⟩ := rfl
theorem f_outer_of : tabOf es 63 = some ⟨e_outer_of.d.name, e_outer_of.ps, e_outer_of.N, Ev.b_outer_of⟩ := rfl
theorem f_turnable_of : tabOf es 97 = some ⟨e_turnable_of.d.name, e_turnable_of.ps, e_turnable_of.N, Ev.b_turnable_of⟩ := rfl
theorem f_turns_about : tabOf es 109 = some ⟨e_turns_about.d.name, e_turns_about.ps, e_turns_about.N, Ev.b_turns_about⟩ := rfl
theorem f_put : tabOf es 398 = some ⟨e_put.d.name, e_put.ps, e_put.N, Ev.b_put⟩ := rfl
theorem f_need_squares : tabOf es 83 = some ⟨e_need_squares.d.name, e_need_squares.ps, e_need_squares.N, Ev.b_need_squares⟩ := rfl
theorem f_numbers_put : tabOf es 221 = some ⟨e_numbers_put.d.name, e_numbers_put.ps, e_numbers_put.N, Ev.b_numbers_put⟩ := rfl
theorem f_choose : tabOf es 50 = some ⟨e_choose.d.name, e_choose.ps, e_choose.N, Ev.b_choose⟩ := rfl
theorem f_count_stairs : tabOf es 51 = some ⟨e_count_stairs.d.name, e_count_stairs.ps, e_count_stairs.N, Ev.b_count_stairs⟩ := rfl
theorem f_ways_below : tabOf es 65 = some ⟨e_ways_below.d.name, e_ways_below.ps, e_ways_below.N, Ev.b_ways_below⟩ := rfl
theorem f_lot_size_of : tabOf es 150 = some ⟨e_lot_size_of.d.name, e_lot_size_of.ps, e_lot_size_of.N, Ev.b_lot_size_of⟩ := rfl
theorem f_sizes : tabOf es 154 = some ⟨e_sizes.d.name, e_sizes.ps, e_sizes.N, Ev.b_sizes⟩ := rfl
theorem f_greatest_kind : tabOf es 155 = some ⟨e_greatest_kind.d.name, e_greatest_kind.ps, e_greatest_kind.N, Ev.b_greatest_kind⟩ := rfl
end K52

set_option maxHeartbeats 2000000
namespace Ev
abbrev Bd := List (Nat × Nat)
def capO : Option Nat → Nat → Nat
  | none, hi => hi
  | some t, hi => min hi t
/-- the stairs over a lowest and under a highest one, row by row -/
def SB : Bd → Option Nat → List (List Nat)
  | [], _ => [[]]
  | (lo, hi) :: r, top => (List.range' lo (capO top hi + 1 - lo)).flatMap fun x => (SB r (some x)).map (x :: ·)
theorem SB_cons (lo hi : Nat) (r : Bd) (top : Option Nat) : SB ((lo, hi) :: r) top = (List.range' lo (capO top hi + 1 - lo)).flatMap fun x => (SB r (some x)).map (x :: ·) := rfl
def stepSB (F : List (List Nat)) (b : Nat × Nat) : List (List Nat) := F.flatMap fun t => (List.range' b.1 (capO t.getLast? b.2 + 1 - b.1)).map fun x => t ++ [x]
theorem foldl_SB : ∀ (B : Bd) (F : List (List Nat)), B.foldl stepSB F = F.flatMap fun t => (SB B t.getLast?).map (t ++ ·)
  | [], F => by simp [SB]
  | (lo, hi) :: B, F => by
    rw [List.foldl_cons, foldl_SB B (stepSB F (lo, hi))]
    unfold stepSB
    rw [List.flatMap_assoc]
    refine congrArg (fun g => F.flatMap g) (funext fun t => ?_)
    rw [List.flatMap_map, SB_cons, List.map_flatMap]
    refine congrArg (fun g => List.flatMap g _) (funext fun x => ?_)
    simp
theorem fold_SB (B : Bd) : B.foldl stepSB [[]] = SB B none := by
  rw [foldl_SB]
  simp
/-- so that t is one of them -/
def InB : Bd → Option Nat → List Nat → Prop
  | [], _, t => t = []
  | (lo, hi) :: r, top, t => ∃ x s, t = x :: s ∧ lo ≤ x ∧ x ≤ capO top hi ∧ InB r (some x) s
theorem mem_SB : ∀ (B : Bd) (top : Option Nat) (t : List Nat), t ∈ SB B top ↔ InB B top t
  | [], top, t => by simp [SB, InB]
  | (lo, hi) :: r, top, t => by
    rw [SB_cons, List.mem_flatMap]
    constructor
    · rintro ⟨x, hx, ht⟩
      rw [List.mem_range'_1] at hx
      obtain ⟨s, hs, rfl⟩ := List.mem_map.mp ht
      exact ⟨x, s, rfl, hx.1, by omega, (mem_SB r (some x) s).mp hs⟩
    · rintro ⟨x, s, rfl, h1, h2, h3⟩
      exact ⟨x, by rw [List.mem_range'_1]; omega, List.mem_map.mpr ⟨s, (mem_SB r (some x) s).mpr h3, rfl⟩⟩
/-- python's order of tuples -/
def ltS : List Nat → List Nat → Prop
  | [], [] => False
  | [], _ :: _ => True
  | _ :: _, [] => False
  | x :: s, y :: t => x < y ∨ (x = y ∧ ltS s t)
theorem ltS_irrefl : ∀ s, ¬ ltS s s
  | [], h => h
  | x :: s, h => h.elim (Nat.lt_irrefl _) fun h => ltS_irrefl s h.2
theorem ltS_trans : ∀ {a b c}, ltS a b → ltS b c → ltS a c
  | [], [], _, h, _ => h.elim
  | [], _ :: _, [], _, h => h.elim
  | [], _ :: _, _ :: _, _, _ => trivial
  | _ :: _, [], _, h, _ => h.elim
  | _ :: _, _ :: _, [], _, h => h.elim
  | x :: a, y :: b, z :: c, h1, h2 => by
    rcases h1 with h1 | ⟨rfl, h1⟩
    · rcases h2 with h2 | ⟨rfl, h2⟩
      · exact .inl (Nat.lt_trans h1 h2)
      · exact .inl h1
    · rcases h2 with h2 | ⟨rfl, h2⟩
      · exact .inl h2
      · exact .inr ⟨rfl, ltS_trans h1 h2⟩
theorem SB_sorted : ∀ (B : Bd) (top : Option Nat), (SB B top).Pairwise ltS
  | [], _ => List.pairwise_singleton _ _
  | (lo, hi) :: r, top => by
    rw [SB_cons, List.pairwise_flatMap]
    refine ⟨fun x _ => ?_, ?_⟩
    · rw [List.pairwise_map]
      exact (SB_sorted r (some x)).imp fun h => .inr ⟨rfl, h⟩
    · refine (List.pairwise_lt_range' (s := lo) (n := capO top hi + 1 - lo)).imp fun {x y} h a ha b hb => ?_
      obtain ⟨s, _, rfl⟩ := List.mem_map.mp ha
      obtain ⟨t, _, rfl⟩ := List.mem_map.mp hb
      exact .inl h
/-- two ascending lists of the same things -/
theorem sorted_ext {α : Type} {R : α → α → Prop} (irr : ∀ a, ¬ R a a) (tr : ∀ {a b c}, R a b → R b c → R a c) : ∀ {l m : List α}, l.Pairwise R → m.Pairwise R → (∀ x, x ∈ l ↔ x ∈ m) → l = m
  | [], [], _, _, _ => rfl
  | [], y :: m, _, _, h => absurd ((h y).mpr List.mem_cons_self) List.not_mem_nil
  | x :: l, [], _, _, h => absurd ((h x).mp List.mem_cons_self) List.not_mem_nil
  | x :: l, y :: m, hl, hm, h => by
    rw [List.pairwise_cons] at hl hm
    have e : x = y := by
      rcases List.mem_cons.mp ((h x).mp List.mem_cons_self) with e | hx
      · exact e
      · rcases List.mem_cons.mp ((h y).mpr List.mem_cons_self) with e | hy
        · exact e.symm
        · exact absurd (tr (hl.1 y hy) (hm.1 x hx)) (irr x)
    subst e
    refine congrArg (x :: ·) (sorted_ext irr tr hl.2 hm.2 fun z => ⟨fun hz => ?_, fun hz => ?_⟩)
    · rcases List.mem_cons.mp ((h z).mp (List.mem_cons_of_mem _ hz)) with rfl | h'
      · exact absurd (hl.1 z hz) (irr z)
      · exact h'
    · rcases List.mem_cons.mp ((h z).mpr (List.mem_cons_of_mem _ hz)) with rfl | h'
      · exact absurd (hm.1 z hz) (irr z)
      · exact h'
/-- how many there are below a first one -/
def nB (r : Bd) (x : Nat) : Nat := (SB r (some x)).length
theorem len_SB (lo hi : Nat) (r : Bd) (top : Option Nat) : (SB ((lo, hi) :: r) top).length = ((List.range' lo (capO top hi + 1 - lo)).map (nB r)).sum := by
  rw [SB_cons, List.length_flatMap]
  congr 1
  refine List.map_congr_left fun x _ => ?_
  rw [List.length_map]
  rfl
/-- an item of a list of lists put together -/
theorem flat_get {α β : Type} (g : α → List β) : ∀ (l1 : List α) (x : α) (l2 : List α) (j : Nat), j < (g x).length → ((l1 ++ x :: l2).flatMap g)[(l1.map fun y => (g y).length).sum + j]? = (g x)[j]?
  | [], x, l2, j, h => by
    simp only [List.nil_append, List.map_nil, List.sum_nil, Nat.zero_add, List.flatMap_cons]
    exact List.getElem?_append_left h
  | y :: l1, x, l2, j, h => by
    simp only [List.cons_append, List.map_cons, List.sum_cons, List.flatMap_cons]
    rw [List.getElem?_append_right (by omega), show (g y).length + (l1.map fun y => (g y).length).sum + j - (g y).length = (l1.map fun y => (g y).length).sum + j by omega]
    exact flat_get g l1 x l2 j h
theorem range'_split {lo n k : Nat} (h : k < n) : List.range' lo n = List.range' lo k ++ (lo + k) :: List.range' (lo + k + 1) (n - k - 1) := by
  have : n = k + ((n - k - 1) + 1) := by omega
  conv => lhs; rw [this]
  rw [← List.range'_append_1, List.range'_succ]
theorem SB_at {lo hi : Nat} {r : Bd} {top : Option Nat} {k j : Nat} {s : List Nat} (hk : lo + k ≤ capO top hi) (hs : (SB r (some (lo + k)))[j]? = some s) :
    (SB ((lo, hi) :: r) top)[((List.range' lo k).map (nB r)).sum + j]? = some ((lo + k) :: s) := by
  rw [SB_cons, range'_split (k := k) (by omega)]
  have hj : j < (SB r (some (lo + k))).length := (List.getElem?_eq_some_iff.mp hs).1
  have := flat_get (fun x => (SB r (some x)).map (x :: ·)) (List.range' lo k) (lo + k) (List.range' (lo + k + 1) (capO top hi + 1 - lo - k - 1)) j (by rw [List.length_map]; exact hj)
  simp only [List.length_map] at this
  show _ = _
  unfold nB
  rw [this, List.getElem?_map, hs]
  rfl
/-- the place of a stair -/
def numB : Bd → List Nat → Nat
  | (lo, _) :: r, x :: s => ((List.range' lo (x - lo)).map (nB r)).sum + numB r s
  | _, _ => 0
theorem SB_num : ∀ (B : Bd) (top : Option Nat) (s : List Nat), InB B top s → (SB B top)[numB B s]? = some s
  | [], top, s, h => by cases (show s = [] from h); rfl
  | (lo, hi) :: r, top, s, h => by
    obtain ⟨x, t, rfl, h1, h2, h3⟩ := h
    have := SB_num r (some x) t h3
    have e : lo + (x - lo) = x := by omega
    have := SB_at (lo := lo) (hi := hi) (r := r) (top := top) (k := x - lo) (j := numB r t) (s := t) (by rw [e]; exact h2) (by rw [e]; exact this)
    rw [e] at this
    exact this
theorem SB_lt {B : Bd} {top : Option Nat} {s : List Nat} (h : InB B top s) : numB B s < (SB B top).length := (List.getElem?_eq_some_iff.mp (SB_num B top s h)).1
theorem SB_nodup (B : Bd) (top : Option Nat) : (SB B top).Nodup := List.Pairwise.imp (S := fun a b => a ≠ b) (fun {a b} h (e : a = b) => ltS_irrefl b (by rw [e] at h; exact h)) (SB_sorted B top)
/-- the stair at a place: which first one, how many are left -/
theorem pick_at (g : Nat → Nat) (lo : Nat) : ∀ (n i : Nat), i < ((List.range' lo n).map g).sum → ∃ k, k < n ∧ ((List.range' lo k).map g).sum ≤ i ∧ i < ((List.range' lo k).map g).sum + g (lo + k)
  | 0, i, h => by simp at h
  | n + 1, i, h => by
    rw [List.range'_concat, List.map_append, List.sum_append] at h
    simp only [List.map_cons, List.map_nil, List.sum_cons, List.sum_nil, Nat.one_mul, Nat.add_zero] at h
    by_cases hi : i < ((List.range' lo n).map g).sum
    · obtain ⟨k, h1, h2, h3⟩ := pick_at g lo n i hi
      exact ⟨k, by omega, h2, h3⟩
    · exact ⟨n, by omega, by omega, by omega⟩
theorem filter_range' {lo n t : Nat} (h : lo ≤ t + 1) : (List.range' lo n).filter (fun x => decide (x ≤ t)) = List.range' lo (min n (t + 1 - lo)) := by
  induction n with
  | zero => simp
  | succ n ih =>
    rw [List.range'_concat, List.filter_append, ih]
    by_cases ht : lo + n ≤ t
    · rw [List.filter_cons_of_pos (by simpa using ht), show min (n + 1) (t + 1 - lo) = n + 1 by omega, show min n (t + 1 - lo) = n by omega, List.range'_concat]
      simp
    · rw [List.filter_cons_of_neg (by simpa using ht), show min (n + 1) (t + 1 - lo) = min n (t + 1 - lo) by omega]
      simp
theorem filter_range'_none {lo n t : Nat} (h : t < lo) : (List.range' lo n).filter (fun x => decide (x ≤ t)) = [] := by
  rw [List.filter_eq_nil_iff]
  intro x hx
  rw [List.mem_range'_1] at hx
  simp
  omega
/-- how many below, by the sum over smaller firsts -/
theorem nB_cons (lo hi : Nat) (r : Bd) (x : Nat) : nB ((lo, hi) :: r) x = (((List.range' lo (hi + 1 - lo)).filter fun y => decide (y ≤ x)).map (nB r)).sum := by
  unfold nB
  rw [len_SB]
  unfold capO
  by_cases h : lo ≤ x + 1
  · rw [filter_range' h, show min (hi + 1 - lo) (x + 1 - lo) = min hi x + 1 - lo by omega]
    rfl
  · rw [filter_range'_none (by omega), show min hi x + 1 - lo = 0 by omega]
    rfl
end Ev

set_option maxHeartbeats 4000000
namespace Ev
open PySem
variable {φ : Phi}
/-- bounds of at most six rows and columns -/
structure Small (low high : List Nat) : Prop where
  len : low.length = high.length
  l6 : low.length ≤ 6
  h6 : ∀ x ∈ high, x ≤ 6
  lo6 : ∀ x ∈ low, x ≤ 6
theorem Small.zip {low high : List Nat} (h : Small low high) : (low.zip high).length = low.length := by rw [List.length_zip, ← h.len]; omega
theorem Small.mem {low high : List Nat} (h : Small low high) {p : Nat × Nat} (hp : p ∈ low.zip high) : p.1 ≤ 6 ∧ p.2 ≤ 6 := ⟨h.lo6 _ (List.of_mem_zip hp).1, h.h6 _ (List.of_mem_zip hp).2⟩
theorem capO_le (o : Option Nat) (hi : Nat) : capO o hi ≤ hi := by
  cases o with
  | none => exact Nat.le_refl _
  | some t => exact Nat.min_le_left _ _
def ext (t : List Nat) (b : Nat × Nat) : List (List Nat) := (List.range' b.1 (capO t.getLast? b.2 + 1 - b.1)).map fun x => t ++ [x]
theorem ext_len {t : List Nat} {b : Nat × Nat} (h : b.2 ≤ 6) : (ext t b).length ≤ 7 := by
  unfold ext
  rw [List.length_map, List.length_range']
  have := capO_le t.getLast? b.2
  omega
theorem flat_len {F : List (List Nat)} {b : Nat × Nat} (h : b.2 ≤ 6) : (F.flatMap fun t => ext t b).length ≤ 7 * F.length := by
  induction F with
  | nil => simp
  | cons t F ih =>
    rw [List.flatMap_cons, List.length_append, List.length_cons]
    have := ext_len (t := t) h
    omega
theorem fold_len : ∀ (B : Bd), (∀ p ∈ B, p.2 ≤ 6) → ∀ F : List (List Nat), (B.foldl stepSB F).length ≤ 7 ^ B.length * F.length
  | [], _, F => by simp
  | b :: B, h, F => by
    rw [List.foldl_cons]
    have h1 := fold_len B (fun p hp => h p (List.mem_cons_of_mem _ hp)) (stepSB F b)
    have h2 : (stepSB F b).length ≤ 7 * F.length := flat_len (h b List.mem_cons_self)
    rw [List.length_cons, Nat.pow_succ]
    calc _ ≤ 7 ^ B.length * (stepSB F b).length := h1
      _ ≤ 7 ^ B.length * (7 * F.length) := Nat.mul_le_mul (Nat.le_refl _) h2
      _ = _ := by rw [Nat.mul_assoc]
theorem zip_items (a b : List Nat) : itemsD .zip [eS a, eS b] = some ((a.zip b).map fun p => D.tup [eN p.1, eN p.2]) := by
  show some (zip2 (a.map eN) (b.map eN)) = _
  congr 1
  induction a generalizing b with
  | nil => cases b <;> rfl
  | cons x a ih =>
    cases b with
    | nil => rfl
    | cons y b =>
      show D.tup [eN x, eN y] :: zip2 (a.map eN) (b.map eN) = _
      rw [ih]
      rfl
theorem ne_nil_S (t : List Nat) : cmpD .ne (eS t) (.tup []) = some (.bl (!decide (t = []))) := by
  have h : cmpD .ne (eS t) (eS []) = some (.bl (!decide (t = []))) := by
    show (if okD okDep (eS t) && okD okDep (eS []) then some (D.bl (!eqD (eS t) (eS []))) else none) = _
    rw [okD_S, okD_S, eqD_S]
    rfl
  exact h
theorem last_S {t : List Nat} {x : Nat} (h : t.getLast? = some x) : idxD (eS t) (.int (-1)) = some (eN x) := by
  have hl : 0 < t.length := by
    cases t with
    | nil => cases h
    | cons => simp
  show (ixD (t.map eN).length (-1)).bind (fun j => (t.map eN)[j]?) = _
  rw [List.length_map]
  have : ixD t.length (-1) = some (t.length - 1) := by
    unfold ixD
    rw [if_neg (by omega), if_pos (by omega)]
    congr 1
    omega
  rw [this]
  show (t.map eN)[t.length - 1]? = _
  rw [List.getElem?_map, ← List.getLast?_eq_getElem?, h]
  rfl
theorem min2_N (a b : Nat) : primD .min2 [eN a, eN b] = some (eN (min a b)) := by
  show some (D.int (if (b : Int) < a then (b : Int) else a)) = _
  unfold eN
  congr 2
  split <;> omega
theorem max2_N (a b : Nat) : primD .max2 [eN a, eN b] = some (eN (max a b)) := by
  show some (D.int (if (b : Int) > a then (b : Int) else a)) = _
  unfold eN
  congr 2
  split <;> omega
theorem snoc_S {t : List Nat} {x : Nat} (h : t.length ≤ 1000) : binD .add (eS t) (.tup [eN x]) = some (eS (t ++ [x])) := by
  show (if (t.map eN).length + 1 ≤ LIM then some (D.tup (t.map eN ++ [eN x])) else none) = _
  rw [if_pos (by rw [List.length_map]; unfold LIM; omega)]
  simp [eS]
theorem stepSB_ext (F : List (List Nat)) (b : Nat × Nat) : stepSB F b = F.flatMap fun t => ext t b := rfl
theorem fold_mem_len : ∀ (B : Bd) (F : List (List Nat)) (n : Nat), (∀ t ∈ F, t.length = n) → ∀ t ∈ B.foldl stepSB F, t.length = n + B.length
  | [], F, n, h, t, ht => h t ht
  | b :: B, F, n, h, t, ht => by
    rw [List.foldl_cons] at ht
    have := fold_mem_len B (stepSB F b) (n + 1) (fun s hs => by
      obtain ⟨u, hu, hs⟩ := List.mem_flatMap.mp hs
      obtain ⟨x, _, rfl⟩ := List.mem_map.mp hs
      rw [List.length_append, h u hu]
      rfl) t ht
    rw [this, List.length_cons]
    omega
def S_stairs_between (φ : Phi) := ∀ low high : List Nat, Small low high → To φ 47 [eS low, eS high] (eSL (SB (low.zip high) none))
theorem stairs_between_run {low high : List Nat} (sm : Small low high) : Runs φ b_stairs_between 9 [eS low, eS high] (eSL (SB (low.zip high) none)) := by
  rw [← fold_SB]
  refine Runs.of (St.seq (St.asg (V.lst (Vs.cons (V.tup Vs.nil) Vs.nil)) rfl) ?_)
  obtain ⟨ρ', e, x3, x4, x5, x6, x7, rfl⟩ := St.for (φ := φ) (t := .tup (.cons (.name 3) (.cons (.name 4) .nil))) (k := .zip) (it := .cons (.slot 0) (.cons (.slot 1) .nil)) (enc := fun p : Nat × Nat => D.tup [eN p.1, eN p.2])
    (ρ := [some (.val (eS low)), some (.val (eS high)), some (.val (eSL [[]])), none, none, none, none, none, none])
    (b := (.seq (.asg (.name 5) (.lst .nil))
      (.seq (.for [] (.name 6) .val (.cons (.slot 2) .nil) (.seq (.asg (.name 7) (.ite (.cmp .ne (.slot 6) (.tup .nil)) (.prim .min2 (.cons (.slot 4) (.cons (.idx (.slot 6) (.neg (.cst (.int 1)))) .nil))) (.slot 4)))
      (.seq (.asg (.name 5) (.bin .add (.slot 5) (.comp [8] (.name 8) .rng (.cons (.slot 3) (.cons (.bin .add (.slot 7) (.cst (.int 1))) .nil)) (.cst (.bl true)) (.bin .add (.slot 6) (.tup (.cons (.slot 8) .nil))))))
      .skip)))
      (.seq (.asg (.name 2) (.slot 5))
      .skip))))
    (low.zip high) (fun d ρ => ∃ x3 x4 x5 x6 x7, ρ = [some (.val (eS low)), some (.val (eS high)), some (.val (eSL (d.foldl stepSB [[]]))), x3, x4, x5, x6, x7, none])
    (Vs.cons (V.slot rfl) (Vs.cons (V.slot rfl) Vs.nil)) (zip_items low high) ⟨_, _, _, _, _, rfl⟩ (by
      rintro d1 ⟨lo, hi⟩ d2 ρ hd ⟨x3, x4, x5, x6, x7, rfl⟩
      have hm : (lo, hi) ∈ low.zip high := by rw [hd]; simp
      obtain ⟨l6, h6⟩ := sm.mem hm
      have d6 : d1.length < 6 := by
        have := congrArg List.length hd
        rw [sm.zip, List.length_append, List.length_cons] at this
        have := sm.l6
        omega
      have dm : ∀ p ∈ d1, p.2 ≤ 6 := fun p hp => (sm.mem (by rw [hd]; exact List.mem_append_left _ hp)).2
      generalize hF : d1.foldl stepSB [[]] = F
      have Fl : F.length ≤ 117649 := by
        rw [← hF]
        have := fold_len d1 dm [[]]
        have p : 7 ^ d1.length ≤ 7 ^ 6 := Nat.pow_le_pow_right (by omega) (by omega)
        simp at this
        omega
      have Ft : ∀ t ∈ F, t.length ≤ 1000 := fun t ht => by
        rw [← hF] at ht
        have := fold_mem_len d1 [[]] 0 (by simp) t ht
        omega
      obtain ⟨ρ', e, x6', x7', rfl⟩ := St.for (φ := φ) (t := .name 6) (k := .val) (it := .cons (.slot 2) .nil) (enc := eS)
        (ρ := [some (.val (eS low)), some (.val (eS high)), some (.val (eSL F)), some (.val (eN lo)), some (.val (eN hi)), some (.val (eSL [])), x6, x7, none])
        (b := (.seq (.asg (.name 7) (.ite (.cmp .ne (.slot 6) (.tup .nil)) (.prim .min2 (.cons (.slot 4) (.cons (.idx (.slot 6) (.neg (.cst (.int 1)))) .nil))) (.slot 4)))
          (.seq (.asg (.name 5) (.bin .add (.slot 5) (.comp [8] (.name 8) .rng (.cons (.slot 3) (.cons (.bin .add (.slot 7) (.cst (.int 1))) .nil)) (.cst (.bl true)) (.bin .add (.slot 6) (.tup (.cons (.slot 8) .nil))))))
          .skip)))
        F (fun d ρ => ∃ x6 x7, ρ = [some (.val (eS low)), some (.val (eS high)), some (.val (eSL F)), some (.val (eN lo)), some (.val (eN hi)), some (.val (eSL (d.flatMap fun t => ext t (lo, hi)))), x6, x7, none])
        (Vs.cons (V.slot rfl) Vs.nil) rfl ⟨_, _, rfl⟩ (by
          rintro e1 t e2 ρ he ⟨x6, x7, rfl⟩
          have ht : t ∈ F := by rw [he]; simp
          have hcap : V φ [some (.val (eS low)), some (.val (eS high)), some (.val (eSL F)), some (.val (eN lo)), some (.val (eN hi)), some (.val (eSL (e1.flatMap fun t => ext t (lo, hi)))), some (.val (eS t)), x7, none]
              (.ite (.cmp .ne (.slot 6) (.tup .nil)) (.prim .min2 (.cons (.slot 4) (.cons (.idx (.slot 6) (.neg (.cst (.int 1)))) .nil))) (.slot 4)) (eN (capO t.getLast? hi)) := by
            cases hl : t.getLast? with
            | none =>
              have : t = [] := List.getLast?_eq_none_iff.mp hl
              subst this
              exact V.ite (t := false) (x := eN 0) (V.cmp (V.slot rfl) (V.tup Vs.nil) (ne_nil_S [])) (fun h => by cases h) fun _ => V.slot rfl
            | some x =>
              have hne : t ≠ [] := fun q => by rw [q] at hl; cases hl
              have hc := ne_nil_S t
              rw [decide_eq_false hne] at hc
              exact V.ite (t := true) (y := eN 0) (V.cmp (V.slot rfl) (V.tup Vs.nil) hc) (fun _ => V.prim (Vs.cons (V.slot rfl) (Vs.cons (V.idx (V.slot rfl) (V.neg V.cst) (last_S hl)) Vs.nil)) (min2_N hi x)) fun h => by cases h
          have cl := capO_le t.getLast? hi
          refine ⟨_, ⟨_, rfl, .inl (St.seq (St.asg hcap rfl) (St.seq (St.asg (V.bin (V.slot rfl) (V.compA (enc := eN) (g := fun x => eS (t ++ [x])) (List.range' lo (capO t.getLast? hi + 1 - lo)) (Vs.cons (V.slot rfl) (Vs.cons (V.bin (V.slot rfl) (V.cst (d := eN 1)) (add_N _ _)) Vs.nil)) (rng_N2 (by omega) (by omega)) (fun x _ => rfl) (fun x _ => V.bin (V.slot rfl) (V.tup (Vs.cons (V.slot rfl) Vs.nil)) (snoc_S (Ft t ht)))) (add_L ?_)) rfl) St.skip))⟩, some (.val (eS t)), some (.val (eN (capO t.getLast? hi))), ?_⟩
          · rw [List.length_map, List.length_map, List.length_range']
            have h1 := flat_len (F := e1) (b := (lo, hi)) h6
            have h2 := congrArg List.length he
            rw [List.length_append, List.length_cons] at h2
            unfold LIM
            omega
          · rw [List.flatMap_append]
            simp [eSL, setE, ext])
      refine ⟨_, ⟨_, rfl, .inl (St.seq (St.asg (V.lst Vs.nil) rfl) (St.seq e (St.seq (St.asg (V.slot rfl) rfl) St.skip)))⟩, ?_⟩
      rw [List.foldl_append, hF]
      exact ⟨_, _, _, _, _, rfl⟩)
  exact St.seq e (St.rt (St.ret (V.slot rfl)))
end Ev

set_option maxHeartbeats 4000000
namespace Ev
open PySem
variable {φ : Phi}
def wD (l : List (Nat × Nat)) : D := .dic (l.map fun p => .tup [eN p.1, eN p.2])
theorem key_N (a b : Nat) : keyIsD (eN a) (eN b) = decide (a = b) := by
  show decide ((a : Int) = b) = _
  rw [Bool.eq_iff_iff]
  simp
  omega
theorem has_N {α : Type} {k : α → Nat} {v : α → D} {n : Nat} : ∀ l : List α, hasD (eN n) (l.map fun x => D.tup [eN (k x), v x]) = l.any fun x => decide (k x = n)
  | [] => rfl
  | x :: l => by
    show (keyIsD (eN (k x)) (eN n) || hasD (eN n) (l.map fun x => D.tup [eN (k x), v x])) = _
    rw [key_N, has_N l]
    rfl
theorem dcompL_to {α : Type} {g : D → Mem → Out (Option (D × D))} {enc : α → D} {k : α → Nat} {v : α → D} {m : Mem} : ∀ (l done : List α), ((done ++ l).map k).Nodup → (∀ x ∈ l, g (enc x) m = .ok (some (eN (k x), v x)) m) →
    dcompL g (l.map enc) (done.map fun x => D.tup [eN (k x), v x]) m = .ok (.dic ((done ++ l).map fun x => D.tup [eN (k x), v x])) m
  | [], done, _, _ => by rw [List.append_nil]; rfl
  | x :: l, done, nd, h => by
    show (g (enc x) m).bind _ = _
    rw [h x List.mem_cons_self]
    show (if isKeyD (eN (k x)) = true then dcompL g (l.map enc) (dputD (eN (k x)) (v x) (done.map fun x => D.tup [eN (k x), v x])) m else .no) = _
    show dcompL g (l.map enc) (dputD (eN (k x)) (v x) (done.map fun x => D.tup [eN (k x), v x])) m = _
    have hn : hasD (eN (k x)) (done.map fun x => D.tup [eN (k x), v x]) = false := by
      rw [has_N, List.any_eq_false]
      intro y hy
      simp only [decide_eq_true_eq]
      intro e
      rw [List.map_append, List.nodup_append] at nd
      exact nd.2.2 _ (List.mem_map_of_mem hy) _ (List.mem_map_of_mem List.mem_cons_self) e
    unfold dputD
    rw [hn, if_neg Bool.false_ne_true]
    have := dcompL_to l (done ++ [x]) (by rw [List.append_assoc]; exact nd) fun y hy => h y (List.mem_cons_of_mem _ hy)
    rw [List.map_append, List.append_assoc] at this
    exact this
/-- {k x: v x for x in l} -/
theorem V.dcomp {ρ : Env} {ds : List D} {α : Type} {enc : α → D} {k : α → Nat} {v : α → D} {ρ' : α → Env} {own : List Nat} {t : T} {ik : ItK} {it key val : E} (l : List α) (hi : Vs φ ρ it ds) (hk : itemsD ik ds = some (l.map enc)) (nd : (l.map k).Nodup)
    (ht : ∀ x ∈ l, putT t (enc x) (wipeE ρ own) = some (ρ' x)) (hkey : ∀ x ∈ l, V φ (ρ' x) key (eN (k x))) (hval : ∀ x ∈ l, V φ (ρ' x) val (v x)) :
    V φ ρ (.dcomp own t ik it (.cst (.bl true)) key val) (.dic (l.map fun x => D.tup [eN (k x), v x])) := fun m => by
  show (evE φ it ρ m).bind _ = _
  rw [hi m]
  show (Out.of m (itemsD ik ds)).bind _ = _
  rw [hk]
  have := dcompL_to (g := fun x m => match putT t x (wipeE ρ own) with
        | some ρ1 => (evE φ (.cst (.bl true)) ρ1 m).bind fun c m => match truD c with
          | some true => (evE φ key ρ1 m).bind fun y m => (evE φ val ρ1 m).bind fun z m => .ok (some (y, z)) m
          | some false => .ok none m
          | none => .no
        | none => .no) (enc := enc) (k := k) (v := v) (m := m) l [] nd fun x hx => by
    rw [ht x hx]
    show (evE φ key (ρ' x) m).bind _ = _
    rw [hkey x hx m]
    show (evE φ val (ρ' x) m).bind _ = _
    rw [hval x hx m]
    rfl
  exact this
theorem keys_w : ∀ l : List (Nat × Nat), keysOf (l.map fun p => D.tup [eN p.1, eN p.2]) = some (l.map fun p => eN p.1)
  | [] => rfl
  | p :: l => by
    show (keysOf (l.map fun p => D.tup [eN p.1, eN p.2])).map (eN p.1 :: ·) = _
    rw [keys_w l]
    rfl
theorem look_w {f : Nat → Nat} {x : Nat} : ∀ xs : List Nat, x ∈ xs → idxD (wD (xs.map fun x => (x, f x))) (eN x) = some (eN (f x))
  | [], h => absurd h List.not_mem_nil
  | y :: xs, h => by
    show (if keyIsD (eN y) (eN x) then some (eN (f y)) else lookD (eN x) ((xs.map fun x => (x, f x)).map fun p => D.tup [eN p.1, eN p.2])) = _
    rw [key_N]
    by_cases e : y = x
    · rw [if_pos (by simpa using e), e]
    · rw [if_neg (by simpa using e)]
      rcases List.mem_cons.mp h with q | h
      · exact absurd q.symm e
      · exact look_w xs h
theorem sum_L (s : List Nat) : primD .sum [.lst (s.map eN)] = some (eN s.sum) := by
  show (intsOf (s.map eN)).map (fun ns => D.int ns.sum) = _
  rw [ints_N, Option.map_some, sum_cast]
  rfl
theorem sumv_w (l : List (Nat × Nat)) : primD .sumv [wD l] = some (eN (l.map (·.2)).sum) := by
  show (valsOf (l.map fun p => D.tup [eN p.1, eN p.2])).bind (fun vs => (intsOf vs).map fun ns => D.int ns.sum) = _
  have : valsOf (l.map fun p => D.tup [eN p.1, eN p.2]) = some ((l.map (·.2)).map eN) := by
    induction l with
    | nil => rfl
    | cons p l ih =>
      show (valsOf (l.map fun p => D.tup [eN p.1, eN p.2])).map (eN p.2 :: ·) = _
      rw [ih]
      rfl
  rw [this]
  show (intsOf ((l.map (·.2)).map eN)).map (fun ns => D.int ns.sum) = _
  rw [ints_N, Option.map_some, sum_cast]
  rfl
/-- a row of ways -/
def wrow (lo hi : Nat) (r : Bd) : List (Nat × Nat) := (List.range' lo (hi + 1 - lo)).map fun x => (x, nB r x)
def WL : Bd → List (List (Nat × Nat))
  | [] => []
  | (lo, hi) :: r => wrow lo hi r :: WL r
theorem WL_len : ∀ B : Bd, (WL B).length = B.length
  | [] => rfl
  | (lo, hi) :: r => by show (WL r).length + 1 = _; rw [WL_len r]; rfl
theorem WL_drop : ∀ (B : Bd) (i : Nat) (h : i < B.length), WL (B.drop i) = wrow B[i].1 B[i].2 (B.drop (i + 1)) :: WL (B.drop (i + 1)) := fun B i h => by
  rw [List.drop_eq_getElem_cons h]
  rfl
theorem WL_get : ∀ (B : Bd) (i : Nat) (h : i < B.length), (WL B)[i]'(by rw [WL_len]; exact h) = wrow B[i].1 B[i].2 (B.drop (i + 1))
  | (lo, hi) :: r, 0, _ => rfl
  | (lo, hi) :: r, i + 1, h => WL_get r i (by simpa using h)
theorem rng_down {n : Nat} (h : n ≤ 1000) : itemsD .rng [.int ((n : Int) - 2), .int (-1), .int (-1)] = some ((List.range (n - 1)).map fun i => eN (n - 2 - i)) := by
  show (if (-1 : Int) = -1 then rngN ((n : Int) - 2) (-1) else none) = _
  rw [if_pos rfl]
  unfold rngN
  rw [if_pos (by simp; omega)]
  have : ((n : Int) - 2 - -1).toNat = n - 1 := by omega
  rw [this]
  congr 1
  refine List.map_congr_left fun i hi => ?_
  rw [List.mem_range] at hi
  unfold eN
  congr 1
  omega
def S_ways_below (φ : Phi) := ∀ low high : List Nat, Small low high → 0 < low.length → To φ 65 [eS low, eS high] (.lst ((WL (low.zip high)).map wD))
theorem ways_below_run {low high : List Nat} (sm : Small low high) (h0 : 0 < low.length) : Runs φ b_ways_below 8 [eS low, eS high] (.lst ((WL (low.zip high)).map wD)) := by
  generalize hB : low.zip high = B
  have Bl : B.length = low.length := by rw [← hB]; exact sm.zip
  have l6 := sm.l6
  have Bg : ∀ i (h : i < B.length), B[i] = (low[i], high[i]'(by rw [← sm.len]; omega)) := fun i h => by
    subst hB
    exact List.getElem_zip
  have nd : ∀ lo n : Nat, ((List.range' lo n).map fun x => x).Nodup := fun lo n => by rw [List.map_id']; exact List.nodup_range'
  have lastS : ∀ s : List Nat, (hs : 0 < s.length) → idxD (eS s) (.int (-1)) = some (eN s[s.length - 1]) := fun s hs => last_S (by rw [List.getLast?_eq_getElem?, List.getElem?_eq_getElem (by omega)])
  have hh : 0 < high.length := by rw [← sm.len]; exact h0
  refine Runs.of (St.seq (St.asg (V.lst (Vs.cons (V.dcomp (enc := eN) (k := fun x => x) (v := fun _ => eN 1) (List.range' low[low.length - 1] (high[high.length - 1] + 1 - low[low.length - 1]))
    (Vs.cons (V.idx (V.slot rfl) (V.neg V.cst) (lastS low h0)) (Vs.cons (V.bin (V.idx (V.slot rfl) (V.neg V.cst) (lastS high hh)) (V.cst (d := eN 1)) (add_N _ _)) Vs.nil))
    (rng_N2 (by have := sm.lo6 low[low.length - 1] (List.getElem_mem _); omega) (by have := sm.h6 high[high.length - 1] (List.getElem_mem _); omega)) (nd _ _) (fun x _ => rfl) (fun x _ => V.slot rfl) (fun x _ => V.cst)) Vs.nil)) rfl) ?_)
  have start : (.lst [.dic ((List.range' low[low.length - 1] (high[high.length - 1] + 1 - low[low.length - 1])).map fun x => D.tup [eN x, eN 1])] : D) = .lst ((WL (B.drop (low.length - 1))).map wD) := by
    rw [WL_drop B (low.length - 1) (by omega), Bg, List.drop_eq_nil_of_le (by omega)]
    have e1 : low.length - 1 = high.length - 1 := by rw [sm.len]
    show _ = D.lst [wD (wrow low[low.length - 1] (high[low.length - 1]'_) [])]
    unfold wD wrow
    rw [List.map_map]
    congr 4
    · simp only [e1]
  rw [start]
  obtain ⟨ρ', e, x3, x4, x5, x6, x7, rfl⟩ := St.for (φ := φ) (t := .name 4) (k := .rng) (it := .cons (.bin .sub (.prim .len (.cons (.slot 0) .nil)) (.cst (.int 2))) (.cons (.neg (.cst (.int 1))) (.cons (.neg (.cst (.int 1))) .nil))) (enc := fun i => eN (low.length - 2 - i))
    (ρ := [some (.val (eS low)), some (.val (eS high)), some (.val (.lst ((WL (B.drop (low.length - 1))).map wD))), none, none, none, none, none])
    (b := (.seq (.asg (.name 5) (.idx (.slot 2) (.cst (.int 0))))
      (.seq (.asg (.name 6) (.dcomp [3] (.name 3) .rng (.cons (.idx (.slot 0) (.slot 4)) (.cons (.bin .add (.idx (.slot 1) (.slot 4)) (.cst (.int 1))) .nil)) (.cst (.bl true)) (.slot 3) (.prim .sum (.cons (.comp [7] (.name 7) .val (.cons (.slot 5) .nil) (.cmp .le (.slot 7) (.slot 3)) (.idx (.slot 5) (.slot 7))) .nil))))
      (.seq (.asg (.name 2) (.bin .add (.lst (.cons (.slot 6) .nil)) (.slot 2)))
      .skip))))
    (List.range (low.length - 1)) (fun d ρ => ∃ x4 x5 x6, ρ = [some (.val (eS low)), some (.val (eS high)), some (.val (.lst ((WL (B.drop (low.length - 1 - d.length))).map wD))), none, x4, x5, x6, none])
    (Vs.cons (V.bin (d := .int ((low.length : Int) - 2)) (V.prim (d := eN low.length) (Vs.cons (V.slot rfl) Vs.nil) (by simp [primD, lenD, eS, eN])) (V.cst (d := .int 2)) rfl) (Vs.cons (V.neg V.cst) (Vs.cons (V.neg V.cst) Vs.nil))) (rng_down (by omega)) ⟨_, _, _, rfl⟩ (by
      rintro d1 x d2 ρ hd ⟨x4, x5, x6, rfl⟩
      obtain ⟨rfl, hl⟩ := range_split hd
      generalize hi : low.length - 2 - d1.length = i
      have e1 : low.length - 1 - d1.length = i + 1 := by omega
      have il : i + 1 < B.length := by omega
      rw [e1, WL_drop B (i + 1) il]
      have hlo := sm.lo6 low[i] (List.getElem_mem _)
      have hhi := sm.h6 (high[i]'(by rw [← sm.len]; omega)) (List.getElem_mem _)
      have row : ∀ x : Nat, V φ [some (.val (eS low)), some (.val (eS high)), some (.val (.lst ((wrow B[i + 1].1 B[i + 1].2 (B.drop (i + 1 + 1)) :: WL (B.drop (i + 1 + 1))).map wD))), some (.val (eN x)), some (.val (eN i)), some (.val (wD (wrow B[i + 1].1 B[i + 1].2 (B.drop (i + 1 + 1))))), x6, none]
          (.prim .sum (.cons (.comp [7] (.name 7) .val (.cons (.slot 5) .nil) (.cmp .le (.slot 7) (.slot 3)) (.idx (.slot 5) (.slot 7))) .nil)) (eN (nB (B.drop (i + 1)) x)) := by
        intro x
        rw [List.drop_eq_getElem_cons il, show B[i + 1] = (B[i + 1].1, B[i + 1].2) from rfl, nB_cons]
        refine V.prim (Vs.cons (V.comp (enc := eN) (p := fun y => decide (y ≤ x)) (g := fun y => eN (nB (B.drop (i + 1 + 1)) y)) (List.range' B[i + 1].1 (B[i + 1].2 + 1 - B[i + 1].1)) (Vs.cons (V.slot rfl) Vs.nil) ?_ (fun y _ => rfl) (fun y _ => V.cmp (V.slot rfl) (V.slot rfl) (cN_le _ _)) (fun y hy _ => V.idx (V.slot rfl) (V.slot rfl) (look_w _ hy))) Vs.nil) ?_
        · show keysOf _ = _
          unfold wrow
          rw [keys_w, List.map_map]
          rfl
        · have := sum_L (((List.range' B[i + 1].1 (B[i + 1].2 + 1 - B[i + 1].1)).filter fun y => decide (y ≤ x)).map (nB (B.drop (i + 1 + 1))))
          rw [List.map_map] at this
          exact this
      refine ⟨_, ⟨_, rfl, .inl (St.seq (St.asg (V.idx (V.slot rfl) (V.cst (d := eN 0)) (idx_L (enc := wD) (i := 0) (by simp))) rfl) (St.seq (St.asg (V.dcomp (enc := eN) (k := fun x => x) (v := fun x => eN (nB (B.drop (i + 1)) x)) (List.range' low[i] ((high[i]'(by rw [← sm.len]; omega)) + 1 - low[i]))
        (Vs.cons (V.idx (V.slot rfl) (V.slot rfl) (idx_S (by omega))) (Vs.cons (V.bin (V.idx (V.slot rfl) (V.slot rfl) (idx_S (by rw [← sm.len]; omega))) (V.cst (d := eN 1)) (add_N _ _)) Vs.nil)) (rng_N2 (by omega) (by omega)) (nd _ _) (fun x _ => rfl) (fun x _ => V.slot rfl) (fun x _ => row x)) rfl)
        (St.seq (St.asg (V.bin (V.lst (Vs.cons (V.slot rfl) Vs.nil)) (V.slot rfl) (add_L ?_)) rfl) St.skip)))⟩, ?_⟩
      · rw [List.length_map, List.length_cons, List.length_cons, WL_len, List.length_drop]
        show 1 + _ ≤ LIM
        unfold LIM
        omega
      · have e2 : low.length - 1 - (d1 ++ [d1.length]).length = i := by rw [List.length_append, List.length_singleton]; omega
        rw [e2, WL_drop B i (by omega), WL_drop B (i + 1) il, Bg i (by omega)]
        have ew : wD (wrow low[i] (high[i]'(by rw [← sm.len]; omega)) (B.drop (i + 1))) = .dic ((List.range' low[i] ((high[i]'(by rw [← sm.len]; omega)) + 1 - low[i])).map fun x => D.tup [eN x, eN (nB (B.drop (i + 1)) x)]) := by
          unfold wD wrow
          rw [List.map_map]
          rfl
        refine ⟨some (.val (eN i)), some (.val (wD (wrow B[i + 1].1 B[i + 1].2 (B.drop (i + 1 + 1))))), some (.val (wD (wrow low[i] (high[i]'(by rw [← sm.len]; omega)) (B.drop (i + 1))))), ?_⟩
        simp [setE, wD, wrow, List.map_map, Function.comp_def])
  refine St.seq e (St.rt (St.ret ?_))
  rw [List.length_range, Nat.sub_self, List.drop_zero]
  exact V.slot rfl
end Ev

set_option maxHeartbeats 4000000
namespace Ev
open PySem
variable {φ : Phi}
theorem filter_lt_range' {lo n x : Nat} (h : lo ≤ x) (hx : x ≤ lo + n) : (List.range' lo n).filter (fun y => decide (y < x)) = List.range' lo (x - lo) := by
  induction n with
  | zero => rw [show x - lo = 0 by omega]; rfl
  | succ n ih =>
    rw [List.range'_concat, List.filter_append]
    by_cases e : x ≤ lo + n
    · rw [ih e, List.filter_cons_of_neg (by simp; omega)]
      simp
    · have e2 : x = lo + n + 1 := by omega
      subst e2
      have : (List.range' lo n).filter (fun y => decide (y < lo + n + 1)) = List.range' lo n := by
        rw [List.filter_eq_self]
        intro y hy
        rw [List.mem_range'_1] at hy
        simp; omega
      rw [this, List.filter_cons_of_pos (by simp), show lo + n + 1 - lo = n + 1 by omega, List.range'_concat]
      simp
def eO : Option Nat → D
  | none => .non
  | some t => eN t
theorem S_drop {s : List Nat} {i : Nat} (h : i < s.length) : s.drop i = s[i] :: s.drop (i + 1) := List.drop_eq_getElem_cons h
theorem InB.len : ∀ {B : Bd} {top : Option Nat} {s : List Nat}, InB B top s → s.length = B.length
  | [], _, _, h => by cases (show _ = [] from h); rfl
  | (lo, hi) :: r, top, _, ⟨x, t, rfl, _, _, h⟩ => by rw [List.length_cons, List.length_cons, InB.len h]
theorem idx_WL {B : Bd} {i : Nat} (h : i < B.length) : idxD (.lst ((WL B).map wD)) (eN i) = some (wD (wrow B[i].1 B[i].2 (B.drop (i + 1)))) := by
  rw [idx_L (enc := wD) (l := WL B) (i := i) (by rw [WL_len]; exact h), WL_get B i h]
theorem look_row {lo hi : Nat} {r : Bd} {y : Nat} (h : y ∈ List.range' lo (hi + 1 - lo)) : idxD (wD (wrow lo hi r)) (eN y) = some (eN (nB r y)) := look_w (f := nB r) _ h
theorem keys_row (lo hi : Nat) (r : Bd) : itemsD .val [wD (wrow lo hi r)] = some ((List.range' lo (hi + 1 - lo)).map eN) := by
  show keysOf _ = _
  unfold wrow
  rw [keys_w, List.map_map]
  rfl
def S_number_between (φ : Phi) := ∀ low high s : List Nat, Small low high → 0 < low.length → InB (low.zip high) none s → To φ 66 [eS low, eS high, eS s] (eN (numB (low.zip high) s))
theorem number_between_run {low high s : List Nat} (hw : S_ways_below φ) (sm : Small low high) (h0 : 0 < low.length) (hs : InB (low.zip high) none s) : Runs φ b_number_between 9 [eS low, eS high, eS s] (eN (numB (low.zip high) s)) := by
  have w := hw low high sm h0
  generalize hB : low.zip high = B at w hs
  have Bl : B.length = low.length := by rw [← hB]; exact sm.zip
  have sl := hs.len
  refine Runs.of (St.seq (St.par (Vs.cons (V.call (Vs.cons (V.slot rfl) (Vs.cons (V.slot rfl) Vs.nil)) w) (Vs.cons (V.cst (d := eN 0)) (Vs.cons V.cst Vs.nil))) rfl) ?_)
  obtain ⟨ρ', e, acc, top, x6, x7, x8, rfl, hin, hn⟩ := St.for (φ := φ) (t := .tup (.cons (.name 6) (.cons (.name 7) .nil))) (k := .enum) (it := .cons (.slot 2) .nil) (enc := fun p : Nat × Nat => D.tup [eN p.2, eN p.1])
    (ρ := [some (.val (eS low)), some (.val (eS high)), some (.val (eS s)), some (.val (.lst ((WL B).map wD))), some (.val (eN 0)), some (.val (eO none)), none, none, none])
    (b := (.seq (.for [] (.name 8) .val (.cons (.idx (.slot 3) (.slot 6)) .nil) (.seq (.ite (.and (.cmp .lt (.slot 8) (.slot 7)) (.or (.cmp .is (.slot 5) (.cst .non)) (.cmp .le (.slot 8) (.slot 5)))) (.seq (.aug 4 .add (.idx (.idx (.slot 3) (.slot 6)) (.slot 8)))
      .skip) .skip)
      .skip))
      (.seq (.asg (.name 5) (.slot 7))
      .skip)))
    s.zipIdx (fun d ρ => ∃ acc top x6 x7 x8, ρ = [some (.val (eS low)), some (.val (eS high)), some (.val (eS s)), some (.val (.lst ((WL B).map wD))), some (.val (eN acc)), some (.val (eO top)), x6, x7, x8] ∧
      InB (B.drop d.length) top (s.drop d.length) ∧ acc + numB (B.drop d.length) (s.drop d.length) = numB B s)
    (Vs.cons (V.slot rfl) Vs.nil) (congrArg some (enum_map s 0)) ⟨0, none, none, none, none, rfl, hs, Nat.zero_add _⟩ (by
      rintro d1 ⟨x, j⟩ d2 ρ hd ⟨acc, top, x6, x7, x8, rfl, hin, hn⟩
      obtain ⟨rfl, hl, hx⟩ := zipIdx_split hd
      change x = _ at hx
      have il : d1.length < B.length := by omega
      rw [S_drop hl, List.drop_eq_getElem_cons il] at hin
      rw [S_drop hl, List.drop_eq_getElem_cons il] at hn
      rw [← hx] at hin hn
      generalize hj : d1.length = j at *
      generalize hb : B[j] = b at hin hn
      obtain ⟨lo, hi⟩ := b
      obtain ⟨_, _, e1, h1, h2, h3⟩ := hin
      obtain ⟨rfl, rfl⟩ := List.cons.inj e1
      change acc + (((List.range' lo (x - lo)).map (nB (B.drop (j + 1)))).sum + numB (B.drop (j + 1)) (s.drop (j + 1))) = _ at hn
      have hc := capO_le top hi
      have row := idx_WL (B := B) (i := j) il
      rw [hb] at row
      obtain ⟨ρ', e, x8', rfl⟩ := St.for (φ := φ) (t := .name 8) (k := .val) (it := .cons (.idx (.slot 3) (.slot 6)) .nil) (enc := eN)
        (ρ := [some (.val (eS low)), some (.val (eS high)), some (.val (eS s)), some (.val (.lst ((WL B).map wD))), some (.val (eN acc)), some (.val (eO top)), some (.val (eN j)), some (.val (eN x)), x8])
        (b := (.seq (.ite (.and (.cmp .lt (.slot 8) (.slot 7)) (.or (.cmp .is (.slot 5) (.cst .non)) (.cmp .le (.slot 8) (.slot 5)))) (.seq (.aug 4 .add (.idx (.idx (.slot 3) (.slot 6)) (.slot 8)))
          .skip) .skip)
          .skip))
        (List.range' lo (hi + 1 - lo)) (fun d ρ => ∃ x8, ρ = [some (.val (eS low)), some (.val (eS high)), some (.val (eS s)), some (.val (.lst ((WL B).map wD))), some (.val (eN (acc + ((d.filter fun y => decide (y < x)).map (nB (B.drop (j + 1)))).sum))), some (.val (eO top)), some (.val (eN j)), some (.val (eN x)), x8])
        (Vs.cons (V.idx (V.slot rfl) (V.slot rfl) row) Vs.nil) (keys_row lo hi _) ⟨_, rfl⟩ (by
          rintro e1 y e2 ρ he ⟨x8, rfl⟩
          have hy : y ∈ List.range' lo (hi + 1 - lo) := by rw [he]; simp
          by_cases hyx : y < x
          · refine ⟨_, ⟨_, rfl, .inl (St.seq (St.iteT (x := .bl true) (V.and (t := true) (u := true) ?_ fun _ => ?_) rfl (St.seq (St.aug (p := ((acc + ((e1.filter fun y => decide (y < x)).map (nB (B.drop (j + 1)))).sum : Nat) : Int)) (q := (nB (B.drop (j + 1)) y : Nat)) rfl (V.idx (V.idx (V.slot rfl) (V.slot rfl) row) (V.slot rfl) (look_row hy)) (add_N _ _)) St.skip)) St.skip)⟩, some (.val (eN y)), ?_⟩
            · have := cN_lt y x
              rw [decide_eq_true hyx] at this
              exact V.cmp (V.slot rfl) (V.slot rfl) this
            · cases top with
              | none => exact V.or (t := true) (u := true) (V.cmp (V.slot rfl) V.cst rfl) fun h => by cases h
              | some t =>
                have hle : y ≤ t := by
                  have : x ≤ min hi t := h2
                  omega
                refine V.or (t := false) (u := true) (V.cmp (V.slot rfl) V.cst rfl) fun _ => V.cmp (x := eN y) (y := eN t) (V.slot rfl) (V.slot rfl) ?_
                have := cN_le y t
                rw [decide_eq_true hle] at this
                exact this
            · rw [List.filter_append, List.filter_cons_of_pos (by simpa using hyx)]
              simp [setE, Nat.add_assoc]
          · refine ⟨_, ⟨_, rfl, .inl (St.seq (St.iteF (x := .bl false) (V.and (t := false) (u := false) ?_ fun h => by cases h) rfl St.skip) St.skip)⟩, some (.val (eN y)), ?_⟩
            · have := cN_lt y x
              rw [decide_eq_false hyx] at this
              exact V.cmp (V.slot rfl) (V.slot rfl) this
            · rw [List.filter_append, List.filter_cons_of_neg (by simpa using hyx)]
              simp [setE])
      rw [filter_lt_range' h1 (by omega)] at e
      refine ⟨_, ⟨_, rfl, .inl (St.seq e (St.seq (St.asg (V.slot rfl) rfl) St.skip))⟩, _, some x, _, _, _, rfl, ?_, ?_⟩
      · rw [List.length_append, hj]; exact h3
      · rw [List.length_append, hj, Nat.add_assoc]; exact hn)
  refine St.seq e (St.rt (St.ret ?_))
  rw [List.length_zipIdx, sl, List.drop_length] at hn
  have : numB ([] : Bd) (s.drop B.length) = 0 := rfl
  rw [this, Nat.add_zero] at hn
  rw [hn]
  exact V.slot rfl
end Ev

set_option maxHeartbeats 4000000
namespace Ev
open PySem
variable {φ : Phi}
theorem forL_app {α : Type} {φ : Phi} {t : T} {b : S} {enc : α → D} (I : List α → Env → Prop) : ∀ (l done : List α) (ρ : Env), I done ρ →
    (∀ (d1 : List α) x d2 ρ, done ++ l = d1 ++ x :: d2 → I d1 ρ → ∃ ρ', Goes φ t b (enc x) ρ ρ' ∧ I (d1 ++ [x]) ρ') → ∃ ρ', (∀ m r, forL (turnG φ t b) [] (l.map enc ++ r) ρ m = forL (turnG φ t b) [] r ρ' m) ∧ I (done ++ l) ρ'
  | [], done, ρ, h, _ => ⟨ρ, fun m r => rfl, by rw [List.append_nil]; exact h⟩
  | x :: l, done, ρ, h, st => by
    obtain ⟨ρ1, e1, h1⟩ := st done x l ρ rfl h
    obtain ⟨ρ2, e2, h2⟩ := forL_app I l (done ++ [x]) ρ1 h1 fun d1 y d2 ρ e => st d1 y d2 ρ (by rw [← e]; simp)
    refine ⟨ρ2, fun m r => ?_, by rw [List.append_assoc] at h2; exact h2⟩
    rw [List.map_cons, List.cons_append, turn_go e1]
    exact e2 m r
/-- a for that breaks at one of its items -/
theorem St.forBk {φ : Phi} {ρ : Env} {ds : List D} {α : Type} {enc : α → D} {t : T} {k : ItK} {it : E} {b : S} {Q : Env → Prop} (l : List α) (y : α) (l2 : List α) (I : List α → Env → Prop) (hi : Vs φ ρ it ds) (hk : itemsD k ds = some ((l ++ y :: l2).map enc)) (h0 : I [] ρ)
    (st : ∀ (d1 : List α) x d2 ρ, l = d1 ++ x :: d2 → I d1 ρ → ∃ ρ', Goes φ t b (enc x) ρ ρ' ∧ I (d1 ++ [x]) ρ') (sb : ∀ ρ, I l ρ → ∃ ρ1 ρ', putT t (enc y) ρ = some ρ1 ∧ St φ ρ1 b (.bk ρ') ∧ Q ρ') : ∃ ρ', St φ ρ (.for [] t k it b) (.nx ρ') ∧ Q ρ' := by
  obtain ⟨ρ2, e, h⟩ := forL_app (φ := φ) (t := t) (b := b) (enc := enc) I l [] ρ h0 st
  obtain ⟨ρ1, ρ', e1, e2, hq⟩ := sb ρ2 h
  refine ⟨ρ', fun m => ?_, hq⟩
  show (evE φ it ρ m).bind _ = _
  rw [hi m]
  show (Out.of m (itemsD k ds)).bind _ = _
  rw [hk, List.map_append, List.map_cons]
  refine (e m _).trans ?_
  exact turn_bk e1 e2 _ m
theorem St.brk {ρ : Env} : St φ ρ .brk (.bk ρ) := fun m => rfl
theorem sorted_row (lo hi : Nat) (r : Bd) (h : hi ≤ 6) : primD .sorted [wD (wrow lo hi r)] = some (.lst ((List.range' lo (hi + 1 - lo)).map eN)) := by
  show (keysOf ((wrow lo hi r).map fun p => D.tup [eN p.1, eN p.2])).bind (fun ks => if (intsOf ks).isSome && decide (ks.length < 64) then some (D.lst (sortB ks)) else none) = _
  have e : keysOf ((wrow lo hi r).map fun p => D.tup [eN p.1, eN p.2]) = some ((List.range' lo (hi + 1 - lo)).map eN) := keys_row lo hi r
  rw [e]
  show (if (intsOf ((List.range' lo (hi + 1 - lo)).map eN)).isSome && decide (((List.range' lo (hi + 1 - lo)).map eN).length < 64) then some (D.lst (sortB ((List.range' lo (hi + 1 - lo)).map eN))) else none) = _
  rw [if_pos (by rw [ints_N, List.length_map, List.length_range']; simp; omega)]
  congr 2
  have e2 : (List.range' lo (hi + 1 - lo)).map eN = ((List.range' lo (hi + 1 - lo)).map fun (n : Nat) => (n : Int)).map D.int := by rw [List.map_map]; rfl
  rw [e2]
  refine sortB_ints (List.Perm.refl _) ?_
  rw [List.pairwise_map]
  exact (List.pairwise_lt_range').imp fun h => by omega
theorem sub_lt_cond (a b : Nat) : cmpD .lt (eN a) (eN b) = some (.bl (decide (a < b))) := cN_lt a b
theorem last_own {l : List Nat} {x : Nat} : idxD (.lst ((l ++ [x]).map eN)) (.int (-1)) = some (eN x) := by
  have := last_S (t := l ++ [x]) (x := x) (by simp)
  exact this
theorem SB_step {lo hi : Nat} {r : Bd} {top : Option Nat} {n : Nat} {t : List Nat} (h : (SB ((lo, hi) :: r) top)[n]? = some t) : ∃ k u, lo + k ≤ capO top hi ∧ ((List.range' lo k).map (nB r)).sum ≤ n ∧ n < ((List.range' lo k).map (nB r)).sum + nB r (lo + k) ∧
    (SB r (some (lo + k)))[n - ((List.range' lo k).map (nB r)).sum]? = some u ∧ t = (lo + k) :: u := by
  have hn : n < (SB ((lo, hi) :: r) top).length := (List.getElem?_eq_some_iff.mp h).1
  rw [len_SB] at hn
  obtain ⟨k, h1, h2, h3⟩ := pick_at (nB r) lo _ n hn
  have hl : n - ((List.range' lo k).map (nB r)).sum < (SB r (some (lo + k))).length := by
    show _ < nB r (lo + k)
    omega
  refine ⟨k, _, by omega, h2, h3, List.getElem?_eq_getElem hl, ?_⟩
  have := SB_at (lo := lo) (hi := hi) (r := r) (top := top) (k := k) (j := n - ((List.range' lo k).map (nB r)).sum) (by omega) (List.getElem?_eq_getElem hl)
  rw [show ((List.range' lo k).map (nB r)).sum + (n - ((List.range' lo k).map (nB r)).sum) = n by omega, h] at this
  exact Option.some.inj this
def S_stair_between (φ : Phi) := ∀ (low high : List Nat) (i : Nat) (s : List Nat), Small low high → 0 < low.length → (SB (low.zip high) none)[i]? = some s → To φ 68 [eS low, eS high, eN i] (eS s)
theorem stair_between_run {low high : List Nat} {i : Nat} {s : List Nat} (hw : S_ways_below φ) (sm : Small low high) (h0 : 0 < low.length) (hs : (SB (low.zip high) none)[i]? = some s) : Runs φ b_stair_between 8 [eS low, eS high, eN i] (eS s) := by
  have w := hw low high sm h0
  have l6 := sm.l6
  have sm2 : ∀ p ∈ low.zip high, p.2 ≤ 6 := fun p hp => (sm.mem hp).2
  generalize hB : low.zip high = B at w hs sm2
  have Bl : B.length = low.length := by rw [← hB]; exact sm.zip
  refine Runs.of (St.seq (St.par (Vs.cons (V.call (Vs.cons (V.slot rfl) (Vs.cons (V.slot rfl) Vs.nil)) w) (Vs.cons (V.lst Vs.nil) (Vs.cons V.cst Vs.nil))) rfl) ?_)
  obtain ⟨ρ', e, pre, n, top, t, x6, x7, rfl, ht, hp, hl⟩ := St.forR (φ := φ) (t := .name 6) (it := .cons (.prim .len (.cons (.slot 0) .nil)) .nil) (n := low.length)
    (ρ := [some (.val (eS low)), some (.val (eS high)), some (.val (eN i)), some (.val (.lst ((WL B).map wD))), some (.own (.lst (([] : List Nat).map eN))), some (.val (eO none)), none, none])
    (b := (.seq (.for [] (.name 7) .val (.cons (.prim .sorted (.cons (.idx (.slot 3) (.slot 6)) .nil)) .nil) (.seq (.ite (.and (.cmp .isnot (.slot 5) (.cst .non)) (.cmp .gt (.slot 7) (.slot 5))) (.seq .brk
      .skip) .skip)
      (.seq (.ite (.cmp .lt (.slot 2) (.idx (.idx (.slot 3) (.slot 6)) (.slot 7))) (.seq (.app 4 (.slot 7))
      (.seq .brk
      .skip)) .skip)
      (.seq (.aug 2 .sub (.idx (.idx (.slot 3) (.slot 6)) (.slot 7)))
      .skip))))
      (.seq (.asg (.name 5) (.idx (.brw 4) (.neg (.cst (.int 1)))))
      .skip)))
    (fun j ρ => ∃ (pre : List Nat) (n : Nat) (top : Option Nat) (t : List Nat) (x6 x7 : Option Sl), ρ = [some (.val (eS low)), some (.val (eS high)), some (.val (eN n)), some (.val (.lst ((WL B).map wD))), some (.own (.lst (pre.map eN))), some (.val (eO top)), x6, x7] ∧
      (SB (B.drop j) top)[n]? = some t ∧ s = pre ++ t ∧ pre.length = j)
    (Vs.cons (V.prim (d := eN low.length) (Vs.cons (V.slot rfl) Vs.nil) (by simp [primD, lenD, eS, eN])) Vs.nil) (by omega) ⟨[], i, none, s, none, none, rfl, hs, rfl, rfl⟩ (by
      rintro j hj ρ ⟨pre, n, top, t, x6, x7, rfl, ht, hp, hl⟩
      have il : j < B.length := by omega
      rw [List.drop_eq_getElem_cons il] at ht
      have row := idx_WL (B := B) (i := j) il
      have hb6 : B[j].2 ≤ 6 := sm2 _ (List.getElem_mem il)
      generalize B[j] = b at ht row hb6
      obtain ⟨lo, hi⟩ := b
      change hi ≤ 6 at hb6
      obtain ⟨k, u, hk, k1, k2, hu, rfl⟩ := SB_step ht
      have hc := capO_le top hi
      have split := range'_split (lo := lo) (n := hi + 1 - lo) (k := k) (by omega)
      have notop : ∀ (y : Nat) (ρ : Env), y ≤ capO top hi → ρ[5]? = some (some (.val (eO top))) → ρ[7]? = some (some (.val (eN y))) → V φ ρ (.and (.cmp .isnot (.slot 5) (.cst .non)) (.cmp .gt (.slot 7) (.slot 5))) (.bl false) := by
        intro y ρ hy h5 h7
        cases top with
        | none => exact V.and (t := false) (u := false) (V.cmp (V.slot h5) V.cst rfl) fun h => by cases h
        | some t =>
          refine V.and (t := true) (u := false) (V.cmp (V.slot h5) V.cst rfl) fun _ => V.cmp (x := eN y) (y := eN t) (V.slot h7) (V.slot h5) ?_
          have hy : y ≤ min hi t := hy
          rw [cN_gt, decide_eq_false (by omega)]
      obtain ⟨ρ', e, x7', rfl⟩ := St.forBk (φ := φ) (t := .name 7) (k := .val) (it := .cons (.prim .sorted (.cons (.idx (.slot 3) (.slot 6)) .nil)) .nil) (enc := eN)
        (ρ := [some (.val (eS low)), some (.val (eS high)), some (.val (eN n)), some (.val (.lst ((WL B).map wD))), some (.own (.lst (pre.map eN))), some (.val (eO top)), some (.val (eN j)), x7])
        (b := (.seq (.ite (.and (.cmp .isnot (.slot 5) (.cst .non)) (.cmp .gt (.slot 7) (.slot 5))) (.seq .brk
          .skip) .skip)
          (.seq (.ite (.cmp .lt (.slot 2) (.idx (.idx (.slot 3) (.slot 6)) (.slot 7))) (.seq (.app 4 (.slot 7))
          (.seq .brk
          .skip)) .skip)
          (.seq (.aug 2 .sub (.idx (.idx (.slot 3) (.slot 6)) (.slot 7)))
          .skip))))
        (Q := fun ρ => ∃ x7, ρ = [some (.val (eS low)), some (.val (eS high)), some (.val (eN (n - ((List.range' lo k).map (nB (B.drop (j + 1)))).sum))), some (.val (.lst ((WL B).map wD))), some (.own (.lst ((pre ++ [lo + k]).map eN))), some (.val (eO top)), some (.val (eN j)), x7])
        (List.range' lo k) (lo + k) (List.range' (lo + k + 1) (hi + 1 - lo - k - 1)) (fun d ρ => ∃ x7, ρ = [some (.val (eS low)), some (.val (eS high)), some (.val (eN (n - (d.map (nB (B.drop (j + 1)))).sum))), some (.val (.lst ((WL B).map wD))), some (.own (.lst (pre.map eN))), some (.val (eO top)), some (.val (eN j)), x7])
        (Vs.cons (V.prim (Vs.cons (V.idx (V.slot rfl) (V.slot rfl) row) Vs.nil) (sorted_row lo hi _ hb6)) Vs.nil) (by rw [← split]; rfl) ⟨_, rfl⟩ (by
          rintro e1 y e2 ρ he ⟨x7, rfl⟩
          have hy : y ∈ List.range' lo k := by rw [he]; simp
          rw [List.mem_range'_1] at hy
          have hs1 : ((List.range' lo k).map (nB (B.drop (j + 1)))).sum = (e1.map (nB (B.drop (j + 1)))).sum + (nB (B.drop (j + 1)) y + (e2.map (nB (B.drop (j + 1)))).sum) := by
            rw [he]; simp
          have lt : cmpD .lt (eN (n - (e1.map (nB (B.drop (j + 1)))).sum)) (eN (nB (B.drop (j + 1)) y)) = some (.bl false) := by
            rw [cN_lt, decide_eq_false (by omega)]
          have lk := look_row (lo := lo) (hi := hi) (r := B.drop (j + 1)) (y := y) (by rw [List.mem_range'_1]; omega)
          refine ⟨_, ⟨_, rfl, .inl (St.seq (St.iteF (notop y _ (by omega) rfl rfl) rfl St.skip) (St.seq (St.iteF (V.cmp (V.slot rfl) (V.idx (V.idx (V.slot rfl) (V.slot rfl) row) (V.slot rfl) lk) lt) rfl St.skip) (St.seq (St.aug (p := ((n - (e1.map (nB (B.drop (j + 1)))).sum : Nat) : Int)) (q := (nB (B.drop (j + 1)) y : Nat)) rfl (V.idx (V.idx (V.slot rfl) (V.slot rfl) row) (V.slot rfl) lk) (sub_N (by omega))) St.skip)))⟩, some (.val (eN y)), ?_⟩
          rw [List.map_append, List.sum_append, List.map_singleton, List.sum_singleton, ← Nat.sub_sub]
          rfl) (by
          rintro ρ ⟨x7, rfl⟩
          have lt : cmpD .lt (eN (n - ((List.range' lo k).map (nB (B.drop (j + 1)))).sum)) (eN (nB (B.drop (j + 1)) (lo + k))) = some (.bl true) := by
            rw [cN_lt, decide_eq_true (by omega)]
          have lk := look_row (lo := lo) (hi := hi) (r := B.drop (j + 1)) (y := lo + k) (by rw [List.mem_range'_1]; omega)
          refine ⟨_, _, rfl, St.seq (St.iteF (notop (lo + k) _ (by omega) rfl rfl) rfl St.skip) (St.bk (St.iteT (V.cmp (V.slot rfl) (V.idx (V.idx (V.slot rfl) (V.slot rfl) row) (V.slot rfl) lk) lt) rfl (St.seq (St.app (V.slot rfl) rfl ?_) (St.bk St.brk)))), some (.val (eN (lo + k))), ?_⟩
          · rw [List.length_map]; unfold LIM; omega
          · rw [List.map_append]
            rfl)
      refine ⟨_, ⟨_, rfl, .inl (St.seq e (St.seq (St.asg (V.idx (V.brw rfl) (V.neg V.cst) last_own) rfl) St.skip))⟩, pre ++ [lo + k], _, some (lo + k), u, _, _, rfl, hu, ?_, ?_⟩
      · rw [hp, List.append_assoc]; rfl
      · rw [List.length_append, hl]; rfl)
  refine St.seq e (St.rt (St.ret ?_))
  have hd : B.drop low.length = [] := List.drop_eq_nil_of_le (by omega)
  rw [hd] at ht
  have : t = [] := by
    have := List.mem_of_getElem? ht
    exact List.mem_singleton.mp this
  rw [hp, this, List.append_nil]
  exact V.prim (Vs.cons (V.brw rfl) Vs.nil) rfl
end Ev

set_option maxHeartbeats 4000000
namespace Ev
theorem InB_iff : ∀ (B : Bd) (top : Option Nat) (t : List Nat), InB B top t ↔ t.length = B.length ∧ t.Pairwise (· ≥ ·) ∧ (∀ T, top = some T → ∀ x ∈ t, x ≤ T) ∧ ∀ i (h : i < B.length) (h2 : i < t.length), B[i].1 ≤ t[i] ∧ t[i] ≤ B[i].2
  | [], top, t => by
    constructor
    · intro h
      cases (show t = [] from h)
      exact ⟨rfl, List.Pairwise.nil, fun _ _ x hx => absurd hx List.not_mem_nil, fun i h => absurd h (Nat.not_lt_zero _)⟩
    · rintro ⟨h, _⟩
      exact List.length_eq_zero_iff.mp h
  | (lo, hi) :: r, top, t => by
    constructor
    · rintro ⟨x, s, rfl, h1, h2, h3⟩
      obtain ⟨a, b, c, d⟩ := (InB_iff r (some x) s).mp h3
      have hx : x ≤ hi := Nat.le_trans h2 (capO_le top hi)
      refine ⟨by rw [List.length_cons, List.length_cons, a], List.pairwise_cons.mpr ⟨fun y hy => c x rfl y hy, b⟩, ?_, ?_⟩
      · rintro T rfl y hy
        have : x ≤ min hi T := h2
        rcases List.mem_cons.mp hy with rfl | hy
        · omega
        · have := c x rfl y hy; omega
      · intro i h h2
        cases i with
        | zero => exact ⟨h1, hx⟩
        | succ i => exact d i (by simpa using h) (by simpa using h2)
    · rintro ⟨a, b, c, d⟩
      cases t with
      | nil => cases a
      | cons x s =>
        have d0 := d 0 (by simp) (by simp)
        rw [List.pairwise_cons] at b
        refine ⟨x, s, rfl, d0.1, ?_, (InB_iff r (some x) s).mpr ⟨by simpa using a, b.2, ?_, fun i h h2 => d (i + 1) (by simpa using h) (by simpa using h2)⟩⟩
        · cases top with
          | none => exact d0.2
          | some T =>
            have := c T rfl x List.mem_cons_self
            have := d0.2
            show x ≤ min hi T
            exact Nat.le_min.mpr ⟨d0.2, c T rfl x List.mem_cons_self⟩
        · rintro T ⟨⟩ y hy
          exact b.1 y hy
theorem mono_at {s : List Nat} (m : s.Pairwise (· ≥ ·)) {i j : Nat} (h : i ≤ j) (hj : j < s.length) : s[j] ≤ s[i] := by
  rcases Nat.lt_or_eq_of_le h with h | rfl
  · exact List.pairwise_iff_getElem.mp m i j (by omega) hj h
  · exact Nat.le_refl _
theorem max_le_iff : ∀ (l : List Nat) (a b : Nat), l.foldl max a ≤ b ↔ a ≤ b ∧ ∀ x ∈ l, x ≤ b
  | [], a, b => by simp
  | y :: l, a, b => by
    rw [List.foldl_cons, max_le_iff l, Nat.max_le]
    simp [and_assoc]
theorem le_min_iff : ∀ (l : List Nat) (a b : Nat), b ≤ l.foldl min a ↔ b ≤ a ∧ ∀ x ∈ l, b ≤ x
  | [], a, b => by simp
  | y :: l, a, b => by
    rw [List.foldl_cons, le_min_iff l, Nat.le_min]
    simp [and_assoc]
def aboutN (h : Nat) (sq : List Sq) : List Nat := (List.range h).map fun i => ((sq.filter fun q => decide (i ≤ q.1)).map fun q => q.2 + 1).foldl max 0
def beforeN (h w : Nat) (sq : List Sq) : List Nat := (List.range h).map fun i => ((sq.filter fun q => decide (q.1 ≤ i)).map fun q => q.2).foldl min w
theorem aboutN_len (h : Nat) (sq : List Sq) : (aboutN h sq).length = h := by simp [aboutN]
theorem beforeN_len (h w : Nat) (sq : List Sq) : (beforeN h w sq).length = h := by simp [beforeN]
theorem about_le {h : Nat} {sq : List Sq} {i b : Nat} (hi : i < (aboutN h sq).length) : (aboutN h sq)[i] ≤ b ↔ ∀ q ∈ sq, i ≤ q.1 → q.2 + 1 ≤ b := by
  have e : (aboutN h sq)[i] = ((sq.filter fun q => decide (i ≤ q.1)).map fun q => q.2 + 1).foldl max 0 := by simp [aboutN]
  rw [e, max_le_iff]
  constructor
  · exact fun ⟨_, h⟩ q hq hi => h _ (List.mem_map.mpr ⟨q, List.mem_filter.mpr ⟨hq, by simpa using hi⟩, rfl⟩)
  · refine fun h => ⟨Nat.zero_le _, fun x hx => ?_⟩
    obtain ⟨q, hq, rfl⟩ := List.mem_map.mp hx
    obtain ⟨h1, h2⟩ := List.mem_filter.mp hq
    exact h q h1 (by simpa using h2)
theorem le_before {h w : Nat} {sq : List Sq} {i b : Nat} (hi : i < (beforeN h w sq).length) : b ≤ (beforeN h w sq)[i] ↔ b ≤ w ∧ ∀ q ∈ sq, q.1 ≤ i → b ≤ q.2 := by
  have e : (beforeN h w sq)[i] = ((sq.filter fun q => decide (q.1 ≤ i)).map fun q => q.2).foldl min w := by simp [beforeN]
  rw [e, le_min_iff]
  refine and_congr Iff.rfl ⟨fun h q hq hi => h _ (List.mem_map.mpr ⟨q, List.mem_filter.mpr ⟨hq, by simpa using hi⟩, rfl⟩), fun h x hx => ?_⟩
  obtain ⟨q, hq, rfl⟩ := List.mem_map.mp hx
  obtain ⟨h1, h2⟩ := List.mem_filter.mp hq
  exact h q h1 (by simpa using h2)
def lowS (f : Fld) (s : List Nat) : List Nat := aboutN f.h (f.r.filter (und s))
def highS (f : Fld) (s : List Nat) : List Nat := beforeN f.h f.w (f.r.filter fun q => !und s q)
def kB (f : Fld) (s : List Nat) : Bd := (lowS f s).zip (highS f s)
def allB (h w : Nat) : Bd := (List.replicate h 0).zip (List.replicate h w)
theorem lowS_len {f : Fld} {s : List Nat} : (lowS f s).length = f.h := aboutN_len _ _
theorem highS_len {f : Fld} {s : List Nat} : (highS f s).length = f.h := beforeN_len _ _ _
theorem kd_len {f : Fld} {s : List Nat} : (kB f s).length = f.h := by unfold kB; rw [List.length_zip, lowS_len, highS_len, Nat.min_self]
theorem allB_len {h w : Nat} : (allB h w).length = h := by simp [allB]
theorem und_at {s : List Nat} {q : Sq} (h : q.1 < s.length) : und s q = decide (q.2 < s[q.1]) := by
  unfold und
  rw [List.getD_eq_getElem?_getD, List.getElem?_eq_getElem h]
  rfl
theorem all_iff {h w : Nat} {t : List Nat} : InB (allB h w) none t ↔ IsSt h w t := by
  rw [InB_iff]
  constructor
  · rintro ⟨a, b, _, d⟩
    rw [allB_len] at a
    refine ⟨a, fun x hx => ?_, b⟩
    obtain ⟨i, hi, rfl⟩ := List.getElem_of_mem hx
    have := (d i (by rw [allB_len]; omega) hi).2
    simpa [allB] using this
  · rintro ⟨a, b, c⟩
    refine ⟨by rw [allB_len]; exact a, c, fun T h => (by cases h), fun i h1 h2 => ?_⟩
    have := b t[i] (List.getElem_mem _)
    simpa [allB] using this
/-- the kind: stairs with the same rocks under them -/
theorem kd_iff {f : Fld} (ok : f.Ok) {s t : List Nat} (hs : IsSt f.h f.w s) : InB (kB f s) none t ↔ IsSt f.h f.w t ∧ ∀ q ∈ f.r, und t q = und s q := by
  rw [InB_iff]
  constructor
  · rintro ⟨a, b, _, d⟩
    rw [kd_len] at a
    have d : ∀ i (h : i < f.h), (lowS f s)[i]'(by rw [lowS_len]; exact h) ≤ t[i] ∧ t[i] ≤ (highS f s)[i]'(by rw [highS_len]; exact h) := fun i h => by
      have := d i (by rw [kd_len]; exact h) (by omega)
      simpa [kB] using this
    refine ⟨⟨a, fun x hx => ?_, b⟩, fun q hq => ?_⟩
    · obtain ⟨i, hi, rfl⟩ := List.getElem_of_mem hx
      exact ((le_before _).mp (d i (by omega)).2).1
    · have hm := ok.mem hq
      rw [und_at (by rw [a]; exact hm.1)]
      cases hu : und s q with
      | true =>
        have := (about_le _).mp (d q.1 hm.1).1 q (List.mem_filter.mpr ⟨hq, hu⟩) (Nat.le_refl _)
        exact decide_eq_true (by omega)
      | false =>
        have := ((le_before _).mp (d q.1 hm.1).2).2 q (List.mem_filter.mpr ⟨hq, by rw [hu]; rfl⟩) (Nat.le_refl _)
        exact decide_eq_false (by omega)
  · rintro ⟨ht, hu⟩
    refine ⟨by rw [kd_len]; exact ht.len, ht.mono, fun T h => (by cases h), fun i h1 h2 => ?_⟩
    rw [kd_len] at h1
    have : (lowS f s)[i]'(by rw [lowS_len]; exact h1) ≤ t[i] ∧ t[i] ≤ (highS f s)[i]'(by rw [highS_len]; exact h1) := by
      constructor
      · refine (about_le _).mpr fun q hq hi => ?_
        obtain ⟨hq, hq2⟩ := List.mem_filter.mp hq
        have hm := ok.mem hq
        have h3 := hu q hq
        rw [hq2, und_at (by rw [ht.len]; exact hm.1)] at h3
        have h3 := of_decide_eq_true h3
        have := mono_at ht.mono hi (by rw [ht.len]; exact hm.1)
        omega
      · refine (le_before _).mpr ⟨ht.le _ (List.getElem_mem _), fun q hq hi => ?_⟩
        obtain ⟨hq, hq2⟩ := List.mem_filter.mp hq
        have hm := ok.mem hq
        have h3 := hu q hq
        have hq2 : und s q = false := by simpa using hq2
        rw [hq2, und_at (by rw [ht.len]; exact hm.1)] at h3
        have h3 := of_decide_eq_false h3
        have := mono_at ht.mono hi h2
        omega
    simpa [kB] using this
/-- the two ends are of the kind -/
theorem low_in {f : Fld} (ok : f.Ok) {s : List Nat} (hs : IsSt f.h f.w s) : InB (kB f s) none (lowS f s) ∧ InB (kB f s) none (highS f s) := by
  have me := ((InB_iff _ _ _).mp ((kd_iff ok hs).mpr ⟨hs, fun _ _ => rfl⟩)).2.2.2
  have lh : ∀ i (h : i < f.h), (lowS f s)[i]'(by rw [lowS_len]; exact h) ≤ (highS f s)[i]'(by rw [highS_len]; exact h) := fun i h => by
    have := me i (by rw [kd_len]; exact h) (by rw [hs.len]; exact h)
    have : (lowS f s)[i]'(by rw [lowS_len]; exact h) ≤ s[i]'(by rw [hs.len]; exact h) ∧ s[i]'(by rw [hs.len]; exact h) ≤ (highS f s)[i]'(by rw [highS_len]; exact h) := by simpa [kB] using this
    omega
  constructor
  · refine (InB_iff _ _ _).mpr ⟨by rw [kd_len, lowS_len], List.pairwise_iff_getElem.mpr fun i j hi hj hij => ?_, fun T h => (by cases h), fun i h1 h2 => ?_⟩
    · refine (about_le _).mpr fun q hq h => ?_
      exact (about_le hi).mp (Nat.le_refl _) q hq (by omega)
    · have := lh i (by rw [kd_len] at h1; exact h1)
      simpa [kB] using this
  · refine (InB_iff _ _ _).mpr ⟨by rw [kd_len, highS_len], List.pairwise_iff_getElem.mpr fun i j hi hj hij => ?_, fun T h => (by cases h), fun i h1 h2 => ?_⟩
    · have := (le_before hj).mp (Nat.le_refl _)
      exact (le_before _).mpr ⟨this.1, fun q hq h => this.2 q hq (by omega)⟩
    · have := lh i (by rw [kd_len] at h1; exact h1)
      simpa [kB] using this
theorem not_lt_of_ge : ∀ (a b : List Nat), a.length = b.length → (∀ i (h : i < a.length) (h2 : i < b.length), b[i] ≤ a[i]) → ¬ ltS a b
  | [], [], _, _, h => h
  | [], _ :: _, e, _, _ => by cases e
  | _ :: _, [], e, _, _ => by cases e
  | x :: a, y :: b, e, g, h => by
    have g0 := g 0 (by simp) (by simp)
    change y ≤ x at g0
    rcases h with h | ⟨rfl, h⟩
    · omega
    · exact not_lt_of_ge a b (by simpa using e) (fun i h h2 => g (i + 1) (by simpa using h) (by simpa using h2)) h
/-- the first and the last of those between -/
theorem first_is {B : Bd} {a : List Nat} (ha : InB B none a) (hl : ∀ i (h : i < B.length) (h2 : i < a.length), a[i] = B[i].1) : (SB B none)[0]? = some a := by
  have hm := (mem_SB B none a).mpr ha
  obtain ⟨j, hj, e⟩ := List.getElem_of_mem hm
  have h0 : 0 < (SB B none).length := by omega
  rw [List.getElem?_eq_getElem h0]
  congr 1
  rcases Nat.eq_zero_or_pos j with rfl | hp
  · exact e
  · have lt := List.pairwise_iff_getElem.mp (SB_sorted B none) 0 j h0 hj hp
    rw [e] at lt
    have hx := (InB_iff _ _ _).mp ((mem_SB B none _).mp (List.getElem_mem h0))
    have hal := ha.len
    refine absurd lt (not_lt_of_ge _ _ (by rw [hx.1, hal]) fun i h h2 => ?_)
    rw [hl i (by omega) h2]
    exact (hx.2.2.2 i (by omega) h).1
theorem last_is {B : Bd} {a : List Nat} (ha : InB B none a) (hl : ∀ i (h : i < B.length) (h2 : i < a.length), a[i] = B[i].2) : (SB B none)[(SB B none).length - 1]? = some a := by
  have hm := (mem_SB B none a).mpr ha
  obtain ⟨j, hj, e⟩ := List.getElem_of_mem hm
  have h0 : (SB B none).length - 1 < (SB B none).length := by omega
  rw [List.getElem?_eq_getElem h0]
  congr 1
  rcases Nat.lt_or_ge j ((SB B none).length - 1) with hp | hp
  · have lt := List.pairwise_iff_getElem.mp (SB_sorted B none) j _ hj h0 hp
    rw [e] at lt
    have hx := (InB_iff _ _ _).mp ((mem_SB B none _).mp (List.getElem_mem h0))
    have hal := ha.len
    refine absurd lt (not_lt_of_ge _ _ (by rw [hx.1, hal]) fun i h h2 => ?_)
    rw [hl i (by omega) h]
    exact (hx.2.2.2 i (by omega) h2).2
  · have : j = (SB B none).length - 1 := by omega
    subst this
    exact e
/-- the kind, out of all stairs -/
theorem kd_filter {f : Fld} (ok : f.Ok) {s : List Nat} (hs : IsSt f.h f.w s) : SB (kB f s) none = (SB (allB f.h f.w) none).filter fun t => decide (f.r.filter (und t) = f.r.filter (und s)) := by
  have same : ∀ t, f.r.filter (und t) = f.r.filter (und s) ↔ ∀ q ∈ f.r, und t q = und s q := fun t => by
    constructor
    · intro h q hq
      rw [Bool.eq_iff_iff]
      constructor
      · intro u
        exact (List.mem_filter.mp (h ▸ List.mem_filter.mpr ⟨hq, u⟩)).2
      · intro u
        exact (List.mem_filter.mp (h.symm ▸ List.mem_filter.mpr ⟨hq, u⟩)).2
    · exact fun h => List.filter_congr h
  refine sorted_ext ltS_irrefl ltS_trans (SB_sorted _ _) ((SB_sorted _ _).filter _) fun t => ?_
  rw [mem_SB, kd_iff ok hs, List.mem_filter, mem_SB, all_iff, decide_eq_true_iff, same]
theorem same_iff {f : Fld} {s t : List Nat} : f.r.filter (und t) = f.r.filter (und s) ↔ ∀ q ∈ f.r, und t q = und s q := by
  constructor
  · intro h q hq
    rw [Bool.eq_iff_iff]
    constructor
    · intro u
      exact (List.mem_filter.mp (h ▸ List.mem_filter.mpr ⟨hq, u⟩)).2
    · intro u
      exact (List.mem_filter.mp (h.symm ▸ List.mem_filter.mpr ⟨hq, u⟩)).2
  · exact fun h => List.filter_congr h
theorem kd_same {f : Fld} {s t : List Nat} (h : f.r.filter (und t) = f.r.filter (und s)) : kB f t = kB f s ∧ lowS f t = lowS f s ∧ highS f t = highS f s := by
  have e1 : lowS f t = lowS f s := by unfold lowS; rw [h]
  have e2 : highS f t = highS f s := by
    unfold highS
    congr 1
    exact List.filter_congr fun q hq => by rw [same_iff.mp h q hq]
  exact ⟨by unfold kB; rw [e1, e2], e1, e2⟩
theorem kd_small {f : Fld} (ok : f.Ok) {s : List Nat} (hs : IsSt f.h f.w s) : Small (lowS f s) (highS f s) := by
  have okh6 := ok.h6; have okw6 := ok.w6
  refine ⟨by rw [lowS_len, highS_len], by rw [lowS_len]; exact okh6, fun x hx => ?_, fun x hx => ?_⟩
  · obtain ⟨i, hi, rfl⟩ := List.getElem_of_mem hx
    exact Nat.le_trans ((le_before hi).mp (Nat.le_refl _)).1 okw6
  · obtain ⟨i, hi, rfl⟩ := List.getElem_of_mem hx
    refine (about_le hi).mpr fun q hq _ => ?_
    have := ok.mem (List.mem_filter.mp hq).1
    omega
theorem all_small {h w : Nat} (h6 : h ≤ 6) (w6 : w ≤ 6) : Small (List.replicate h 0) (List.replicate h w) := by
  refine ⟨by simp, by simpa using h6, fun x hx => ?_, fun x hx => ?_⟩
  · rw [(List.mem_replicate.mp hx).2]; exact w6
  · rw [(List.mem_replicate.mp hx).2]; omega
end Ev

set_option maxHeartbeats 4000000
namespace Ev
open PySem
variable {φ : Phi}
theorem okN (n : Nat) : okD okDep (eN n) = true := okD_N _ n
theorem alk_Ns (l : List Nat) : alkAll (l.map eN) = true := by
  unfold alkAll
  rw [Bool.and_eq_true, List.all_eq_true, List.all_eq_true]
  refine ⟨fun d hd => ?_, fun d hd => ?_⟩
  · obtain ⟨n, _, rfl⟩ := List.mem_map.mp hd
    exact okN n
  · obtain ⟨n, _, rfl⟩ := List.mem_map.mp hd
    rw [List.all_eq_true]
    intro d hd
    obtain ⟨m, _, rfl⟩ := List.mem_map.mp hd
    rfl
theorem maxB_N : ∀ (l : List Nat) (x : Nat), maxB (eN x) (l.map eN) = eN (l.foldl max x)
  | [], x => rfl
  | y :: l, x => by
    show maxB (if ltB (eN x) (eN y) then eN y else eN x) (l.map eN) = _
    have : (if ltB (eN x) (eN y) then eN y else eN x) = eN (max x y) := by
      show (if decide ((x : Int) < y) then eN y else eN x) = _
      by_cases h : x < y
      · rw [if_pos (by simpa using h), Nat.max_eq_right (Nat.le_of_lt h)]
      · rw [if_neg (by simpa using h), Nat.max_eq_left (by omega)]
    rw [this, maxB_N l]
    rfl
theorem minB_N : ∀ (l : List Nat) (x : Nat), minB (eN x) (l.map eN) = eN (l.foldl min x)
  | [], x => rfl
  | y :: l, x => by
    show minB (if ltB (eN y) (eN x) then eN y else eN x) (l.map eN) = _
    have : (if ltB (eN y) (eN x) then eN y else eN x) = eN (min x y) := by
      show (if decide ((y : Int) < x) then eN y else eN x) = _
      by_cases h : y < x
      · rw [if_pos (by simpa using h), Nat.min_eq_right (Nat.le_of_lt h)]
      · rw [if_neg (by simpa using h), Nat.min_eq_left (by omega)]
    rw [this, minB_N l]
    rfl
theorem max_L (x : Nat) (l : List Nat) : primD .max [.lst ([eN x] ++ l.map eN)] = some (eN (l.foldl max x)) := by
  show (if alkAll ((x :: l).map eN) then some (maxB (eN x) (l.map eN)) else none) = _
  rw [alk_Ns, maxB_N]
  rfl
theorem min_L (x : Nat) (l : List Nat) : primD .min [.lst ([eN x] ++ l.map eN)] = some (eN (l.foldl min x)) := by
  show (if alkAll ((x :: l).map eN) then some (minB (eN x) (l.map eN)) else none) = _
  rw [alk_Ns, minB_N]
  rfl
def S_about (φ : Phi) := ∀ (f : Fld) (sq : List Sq) (d : D), f.h ≤ 6 → sq.length ≤ 1000 → itemsD .val [d] = some (sq.map eQ) → To φ 84 [eF f, d] (eS (aboutN f.h sq))
def S_before (φ : Phi) := ∀ (f : Fld) (sq : List Sq) (d : D), f.h ≤ 6 → sq.length ≤ 1000 → itemsD .val [d] = some (sq.map eQ) → To φ 86 [eF f, d] (eS (beforeN f.h f.w sq))
theorem about_run (f : Fld) (sq : List Sq) (d : D) (hh : f.h ≤ 6) (hl : sq.length ≤ 1000) (hd : itemsD .val [d] = some (sq.map eQ)) : Runs φ b_about 5 [eF f, d] (eS (aboutN f.h sq)) := by
  refine Runs.of (St.seq (St.own (V.lst Vs.nil) (by simp [startE])) ?_)
  obtain ⟨ρ', e, x3, rfl⟩ := St.forR (φ := φ) (t := .name 3) (it := .cons (.idx (.slot 0) (.cst (.int 0))) .nil) (n := f.h)
    (ρ := [some (.val (eF f)), some (.val d), some (.own (.lst (([] : List Nat).map eN))), none, none])
    (b := (.seq (.app 2 (.prim .max (.cons (.bin .add (.lst (.cons (.cst (.int 0)) .nil)) (.comp [4] (.name 4) .val (.cons (.slot 1) .nil) (.cmp .ge (.idx (.slot 4) (.cst (.int 0))) (.slot 3)) (.bin .add (.idx (.slot 4) (.cst (.int 1))) (.cst (.int 1))))) .nil)))
      .skip))
    (fun i ρ => ∃ x3, ρ = [some (.val (eF f)), some (.val d), some (.own (.lst ((aboutN i sq).map eN))), x3, none])
    (Vs.cons (V.idx (V.slot rfl) V.cst idx_F0) Vs.nil) (by omega) ⟨_, rfl⟩ (by
      rintro i hi ρ ⟨x3, rfl⟩
      have hf := List.length_filter_le (fun q : Sq => decide (i ≤ q.1)) sq
      refine ⟨_, ⟨_, rfl, .inl (St.seq (St.app (V.prim (d := eN (((sq.filter fun q => decide (i ≤ q.1)).map fun q => q.2 + 1).foldl max 0)) (Vs.cons (V.bin (V.lst (Vs.cons (V.cst (d := eN 0)) Vs.nil)) (V.comp (enc := eQ) (p := fun q => decide (i ≤ q.1)) (g := fun q => eN (q.2 + 1)) sq (Vs.cons (V.slot rfl) Vs.nil) hd (fun x _ => rfl) (fun q _ => V.cmp (V.idx (V.slot rfl) V.cst idx_Q0) (V.slot rfl) (cN_ge _ _)) (fun q _ _ => V.bin (V.idx (V.slot rfl) V.cst idx_Q1) (V.cst (d := eN 1)) (add_N _ _))) (add_L ?_)) Vs.nil) ?_) rfl ?_) St.skip)⟩, some (.val (eN i)), ?_⟩
      · rw [List.length_map]; show 1 + _ ≤ LIM; unfold LIM; omega
      · have := max_L 0 ((sq.filter fun q => decide (i ≤ q.1)).map fun q => q.2 + 1)
        rw [List.map_map] at this
        exact this
      · rw [List.length_map, aboutN_len]; unfold LIM; omega
      · simp [aboutN, List.range_succ, setE])
  exact St.seq e (St.rt (St.ret (V.prim (Vs.cons (V.brw rfl) Vs.nil) rfl)))
theorem before_run (f : Fld) (sq : List Sq) (d : D) (hh : f.h ≤ 6) (hl : sq.length ≤ 1000) (hd : itemsD .val [d] = some (sq.map eQ)) : Runs φ b_before 5 [eF f, d] (eS (beforeN f.h f.w sq)) := by
  refine Runs.of (St.seq (St.own (V.lst Vs.nil) (by simp [startE])) ?_)
  obtain ⟨ρ', e, x3, rfl⟩ := St.forR (φ := φ) (t := .name 3) (it := .cons (.idx (.slot 0) (.cst (.int 0))) .nil) (n := f.h)
    (ρ := [some (.val (eF f)), some (.val d), some (.own (.lst (([] : List Nat).map eN))), none, none])
    (b := (.seq (.app 2 (.prim .min (.cons (.bin .add (.lst (.cons (.idx (.slot 0) (.cst (.int 1))) .nil)) (.comp [4] (.name 4) .val (.cons (.slot 1) .nil) (.cmp .le (.idx (.slot 4) (.cst (.int 0))) (.slot 3)) (.idx (.slot 4) (.cst (.int 1))))) .nil)))
      .skip))
    (fun i ρ => ∃ x3, ρ = [some (.val (eF f)), some (.val d), some (.own (.lst ((beforeN i f.w sq).map eN))), x3, none])
    (Vs.cons (V.idx (V.slot rfl) V.cst idx_F0) Vs.nil) (by omega) ⟨_, rfl⟩ (by
      rintro i hi ρ ⟨x3, rfl⟩
      have hf := List.length_filter_le (fun q : Sq => decide (q.1 ≤ i)) sq
      refine ⟨_, ⟨_, rfl, .inl (St.seq (St.app (V.prim (d := eN (((sq.filter fun q => decide (q.1 ≤ i)).map fun q => q.2).foldl min f.w)) (Vs.cons (V.bin (V.lst (Vs.cons (V.idx (V.slot rfl) V.cst idx_F1) Vs.nil)) (V.comp (enc := eQ) (p := fun q => decide (q.1 ≤ i)) (g := fun q => eN q.2) sq (Vs.cons (V.slot rfl) Vs.nil) hd (fun x _ => rfl) (fun q _ => V.cmp (V.idx (V.slot rfl) V.cst idx_Q0) (V.slot rfl) (cN_le _ _)) (fun q _ _ => V.idx (V.slot rfl) V.cst idx_Q1)) (add_L ?_)) Vs.nil) ?_) rfl ?_) St.skip)⟩, some (.val (eN i)), ?_⟩
      · rw [List.length_map]; show 1 + _ ≤ LIM; unfold LIM; omega
      · have := min_L f.w ((sq.filter fun q => decide (q.1 ≤ i)).map fun q => q.2)
        rw [List.map_map] at this
        exact this
      · rw [List.length_map, beforeN_len]; unfold LIM; omega
      · simp [beforeN, List.range_succ, setE])
  exact St.seq e (St.rt (St.ret (V.prim (Vs.cons (V.brw rfl) Vs.nil) rfl)))
theorem eqDs_Q : ∀ a b : List Sq, eqDs (a.map eQ) (b.map eQ) = decide (a = b)
  | [], [] => rfl
  | [], _ :: _ => rfl
  | _ :: _, [] => rfl
  | x :: a, y :: b => by
    show (eqD (eQ x) (eQ y) && eqDs (a.map eQ) (b.map eQ)) = _
    rw [eqD_Q, eqDs_Q a b, Bool.eq_iff_iff]
    simp [Prod.ext_iff]
theorem eq_QT (a b : List Sq) : cmpD .eq (eQT a) (eQT b) = some (.bl (decide (a = b))) := by
  have h : ∀ l : List Sq, okD okDep (eQT l) = true := fun l => by
    show (l.map eQ).all (okD 11) = true
    rw [List.all_eq_true]
    intro d hd
    obtain ⟨q, _, rfl⟩ := List.mem_map.mp hd
    rfl
  show (if okD okDep (eQT a) && okD okDep (eQT b) then some (D.bl (eqD (eQT a) (eQT b))) else none) = _
  rw [h, h]
  show some (D.bl (eqD (.tup _) (.tup _))) = _
  simp only [eqD]
  rw [eqDs_Q]
def S_rocks (φ : Phi) := ∀ (f : Fld) (s : List Nat), f.Ok → IsSt f.h f.w s → To φ 111 [eF f, eS s] (eQT (f.r.filter (und s)))
def S_low (φ : Phi) := ∀ (f : Fld) (s : List Nat), f.Ok → IsSt f.h f.w s → To φ 112 [eF f, eS s] (eS (lowS f s))
def S_high (φ : Phi) := ∀ (f : Fld) (s : List Nat), f.Ok → IsSt f.h f.w s → To φ 113 [eF f, eS s] (eS (highS f s))
def S_size (φ : Phi) := ∀ (f : Fld) (s : List Nat), f.Ok → IsSt f.h f.w s → To φ 115 [eF f, eS s] (eN (SB (kB f s) none).length)
theorem rocks_of_run (h55 : S_under φ 55) {f : Fld} {s : List Nat} (ok : f.Ok) (hs : IsSt f.h f.w s) : Runs φ b_rocks_of 3 [eF f, eS s] (eQT (f.r.filter (und s))) :=
  Runs.of (St.rt (St.ret (V.prim (Vs.cons (V.comp (enc := eQ) (p := und s) (g := eQ) f.r (Vs.cons (V.idx (V.slot rfl) V.cst idx_F2) Vs.nil) rfl (fun x _ => rfl) (fun q hq => V.call (Vs.cons (V.slot rfl) (Vs.cons (V.slot rfl) Vs.nil)) (h55 s q (by rw [hs.len]; exact (ok.mem hq).1))) (fun q _ _ => V.slot rfl)) Vs.nil) rfl)))
theorem low_of_run (h1 : S_rocks φ) (h2 : S_about φ) {f : Fld} {s : List Nat} (ok : f.Ok) (hs : IsSt f.h f.w s) : Runs φ b_low_of 2 [eF f, eS s] (eS (lowS f s)) := by
  have hl : (f.r.filter (und s)).length ≤ 1000 := by
    have := List.length_filter_le (und s) f.r
    have := ok.len
    omega
  exact Runs.of (St.rt (St.ret (V.call (Vs.cons (V.slot rfl) (Vs.cons (V.call (Vs.cons (V.slot rfl) (Vs.cons (V.slot rfl) Vs.nil)) (h1 f s ok hs)) Vs.nil)) (h2 f _ _ ok.h6 hl rfl))))
theorem high_of_run (h55 : S_under φ 55) (h2 : S_before φ) {f : Fld} {s : List Nat} (ok : f.Ok) (hs : IsSt f.h f.w s) : Runs φ b_high_of 3 [eF f, eS s] (eS (highS f s)) := by
  have hl : (f.r.filter fun q => !und s q).length ≤ 1000 := by
    have := List.length_filter_le (fun q => !und s q) f.r
    have := ok.len
    omega
  exact Runs.of (St.rt (St.ret (V.call (Vs.cons (V.slot rfl) (Vs.cons (V.comp (enc := eQ) (p := fun q => !und s q) (g := eQ) f.r (Vs.cons (V.idx (V.slot rfl) V.cst idx_F2) Vs.nil) rfl (fun x _ => rfl) (fun q hq => V.not (V.call (Vs.cons (V.slot rfl) (Vs.cons (V.slot rfl) Vs.nil)) (h55 s q (by rw [hs.len]; exact (ok.mem hq).1)))) (fun q _ _ => V.slot rfl)) Vs.nil)) (h2 f _ _ ok.h6 hl rfl))))
theorem sum_row (lo hi : Nat) (r : Bd) : primD .sumv [wD (wrow lo hi r)] = some (eN (SB ((lo, hi) :: r) none).length) := by
  rw [sumv_w, len_SB]
  congr 3
  unfold wrow
  rw [List.map_map]
  rfl
theorem sum_first {B : Bd} (h : 0 < B.length) : ∃ d, idxD (.lst ((WL B).map wD)) (eN 0) = some d ∧ primD .sumv [d] = some (eN (SB B none).length) := by
  cases B with
  | nil => cases h
  | cons b r => exact ⟨_, idx_WL (B := b :: r) (i := 0) h, sum_row b.1 b.2 r⟩
section
variable {f : Fld} {s t : List Nat} (ok : f.Ok) (hs : IsSt f.h f.w s)
include ok hs
theorem size_of_run (h1 : S_low φ) (h2 : S_high φ) (h3 : S_ways_below φ) : Runs φ b_size_of 2 [eF f, eS s] (eN (SB (kB f s) none).length) := by
  obtain ⟨d, e1, e2⟩ := sum_first (B := kB f s) (by rw [kd_len]; exact ok.h1)
  exact Runs.of (St.rt (St.ret (V.prim (Vs.cons (V.idx (V.call (Vs.cons (V.call (Vs.cons (V.slot rfl) (Vs.cons (V.slot rfl) Vs.nil)) (h1 f s ok hs)) (Vs.cons (V.call (Vs.cons (V.slot rfl) (Vs.cons (V.slot rfl) Vs.nil)) (h2 f s ok hs)) Vs.nil)) (h3 _ _ (kd_small ok hs) (by rw [lowS_len]; exact ok.h1))) (V.cst (d := eN 0)) e1) Vs.nil) e2)))
variable (n1 : S_need_field φ) (n2 : S_need_stair φ)
include n1 n2
theorem St.needs {ρ : Env} {b : S} {g : Flow} (h0 : ρ[0]? = some (some (.val (eF f)))) (h1 : ρ[1]? = some (some (.val (eS s)))) (h : St φ ρ b g) : St φ ρ (.seq (.expr (.call 8 (.cons (.slot 0) .nil))) (.seq (.expr (.call 54 (.cons (.slot 0) (.cons (.slot 1) .nil)))) b)) g :=
  St.seq (V.need n1 ok (V.slot h0)) (St.seq (St.expr (V.call (Vs.cons (V.slot h0) (Vs.cons (V.slot h1) Vs.nil)) (n2 f s ok hs))) h)
theorem lowest_run (h1 : S_low φ) : Runs φ b_lowest 2 [eF f, eS s] (eS (lowS f s)) :=
  Runs.of (St.needs ok hs n1 n2 rfl rfl (St.rt (St.ret (V.call (Vs.cons (V.slot rfl) (Vs.cons (V.slot rfl) Vs.nil)) (h1 f s ok hs)))))
theorem highest_run (h2 : S_high φ) : Runs φ b_highest 2 [eF f, eS s] (eS (highS f s)) :=
  Runs.of (St.needs ok hs n1 n2 rfl rfl (St.rt (St.ret (V.call (Vs.cons (V.slot rfl) (Vs.cons (V.slot rfl) Vs.nil)) (h2 f s ok hs)))))
theorem count_kind_run (h : S_size φ) : Runs φ b_count_kind 2 [eF f, eS s] (eN (SB (kB f s) none).length) :=
  Runs.of (St.needs ok hs n1 n2 rfl rfl (St.rt (St.ret (V.call (Vs.cons (V.slot rfl) (Vs.cons (V.slot rfl) Vs.nil)) (h f s ok hs)))))
theorem kind_stairs_run (h1 : S_low φ) (h2 : S_high φ) (h : S_stairs_between φ) : Runs φ b_kind_stairs 2 [eF f, eS s] (eSL (SB (kB f s) none)) :=
  Runs.of (St.needs ok hs n1 n2 rfl rfl (St.rt (St.ret (V.call (Vs.cons (V.call (Vs.cons (V.slot rfl) (Vs.cons (V.slot rfl) Vs.nil)) (h1 f s ok hs)) (Vs.cons (V.call (Vs.cons (V.slot rfl) (Vs.cons (V.slot rfl) Vs.nil)) (h2 f s ok hs)) Vs.nil)) (h _ _ (kd_small ok hs))))))
theorem kind_number_run (h1 : S_low φ) (h2 : S_high φ) (h : S_number_between φ) : Runs φ b_kind_number 2 [eF f, eS s] (eN (numB (kB f s) s)) :=
  Runs.of (St.needs ok hs n1 n2 rfl rfl (St.rt (St.ret (V.call (Vs.cons (V.call (Vs.cons (V.slot rfl) (Vs.cons (V.slot rfl) Vs.nil)) (h1 f s ok hs)) (Vs.cons (V.call (Vs.cons (V.slot rfl) (Vs.cons (V.slot rfl) Vs.nil)) (h2 f s ok hs)) (Vs.cons (V.slot rfl) Vs.nil))) (h _ _ s (kd_small ok hs) (by rw [lowS_len]; exact ok.h1) ((kd_iff ok hs).mpr ⟨hs, fun _ _ => rfl⟩))))))
theorem kind_at_run (h1 : S_low φ) (h2 : S_high φ) (h3 : S_size φ) (h4 : S_need_number φ) (h : S_stair_between φ) {i : Nat} {t : List Nat} (ht : (SB (kB f s) none)[i]? = some t) : Runs φ b_kind_at 3 [eF f, eS s, eN i] (eS t) := by
  have hi : i < (SB (kB f s) none).length := (List.getElem?_eq_some_iff.mp ht).1
  exact Runs.of (St.needs ok hs n1 n2 rfl rfl (St.seq (St.expr (V.call (Vs.cons (V.slot rfl) (Vs.cons (V.cst (d := eN 0)) (Vs.cons (V.bin (V.call (Vs.cons (V.slot rfl) (Vs.cons (V.slot rfl) Vs.nil)) (h3 f s ok hs)) (V.cst (d := eN 1)) (sub_N (by omega))) Vs.nil))) (h4 i 0 _ (Nat.zero_le _) (by omega)))) (St.rt (St.ret (V.call (Vs.cons (V.call (Vs.cons (V.slot rfl) (Vs.cons (V.slot rfl) Vs.nil)) (h1 f s ok hs)) (Vs.cons (V.call (Vs.cons (V.slot rfl) (Vs.cons (V.slot rfl) Vs.nil)) (h2 f s ok hs)) (Vs.cons (V.slot rfl) Vs.nil))) (h _ _ i t (kd_small ok hs) (by rw [lowS_len]; exact ok.h1) ht))))))
variable (ht : IsSt f.h f.w t)
include ht
theorem need_two_run : Runs φ b_need_two 3 [eF f, eS s, eS t] .non :=
  Runs.ofN ⟨_, St.needs ok hs n1 n2 rfl rfl (St.seq (St.expr (V.call (Vs.cons (V.slot rfl) (Vs.cons (V.slot rfl) Vs.nil)) (n2 f t ok ht))) St.skip)⟩
omit n1 n2
theorem are_one_run (h74 : To φ 74 [eF f, eS s, eS t] .non) (h1 : S_rocks φ) : Runs φ b_are_one 3 [eF f, eS s, eS t] (.bl (decide (f.r.filter (und s) = f.r.filter (und t)))) :=
  Runs.of (St.seq (St.expr (V.call (Vs.cons (V.slot rfl) (Vs.cons (V.slot rfl) (Vs.cons (V.slot rfl) Vs.nil))) h74)) (St.rt (St.ret (V.cmp (V.call (Vs.cons (V.slot rfl) (Vs.cons (V.slot rfl) Vs.nil)) (h1 f s ok hs)) (V.call (Vs.cons (V.slot rfl) (Vs.cons (V.slot rfl) Vs.nil)) (h1 f t ok ht)) (eq_QT _ _)))))
end
end Ev

set_option maxHeartbeats 4000000
namespace Ev
open PySem
variable {φ : Phi}
section
variable {ns : List Int} {ρ : Env} {es : E} {Q Q' : D → Prop} {P : Env → Prop}
def VDs (φ : Phi) (ns : List Int) (ρ : Env) (es : E) (R : List D → Prop) : Prop := ∀ m, RowIs ns m → ∃ l m', evE φ es ρ m = .ok (.tup l) m' ∧ R l ∧ RowIs ns m'
theorem VDs.nil : VDs φ ns ρ .nil fun l => l = [] := fun m hm => ⟨[], m, rfl, rfl, hm⟩
theorem VDs.cons {a : E} {R : List D → Prop} (ha : VD φ ns ρ a Q) (hb : VDs φ ns ρ es R) : VDs φ ns ρ (.cons a es) fun l => ∃ x r, l = x :: r ∧ Q x ∧ R r := fun m hm => by
  obtain ⟨d, m1, e, q, r⟩ := ha m hm
  obtain ⟨l, m2, e2, q2, r2⟩ := hb m1 r
  refine ⟨d :: l, m2, ?_, ⟨d, l, rfl, q, q2⟩, r2⟩
  show (evE φ a ρ m).bind _ = _
  rw [e]
  show (evE φ es ρ m1).bind _ = _
  rw [e2]
  rfl
theorem SD.par {R : List D → Prop} {fl : List (Nat × Bool)} (h : VDs φ ns ρ es R) (hp : ∀ l, R l → ∃ ρ1, parE fl l ρ = some ρ1 ∧ P ρ1) : SD φ ns ρ (.par fl es) fun f => ∃ ρ1, f = .nx ρ1 ∧ P ρ1 := fun m hm => by
  obtain ⟨l, m', e1, q, r1⟩ := h m hm
  obtain ⟨ρ1, e2, p⟩ := hp _ q
  refine ⟨_, m', ?_, ⟨ρ1, rfl, p⟩, r1⟩
  show (evE φ es ρ m).bind _ = _
  rw [e1]
  show (Out.of m' (parE fl l ρ)).bind _ = _
  rw [e2]; rfl
theorem VD.callT {R : List D → Prop} {i : Nat} (hs : VDs φ ns ρ es R) (h : ∀ l, R l → ∃ x, To φ i l x ∧ Q' x) : VD φ ns ρ (.call i es) Q' := fun m hm => by
  obtain ⟨l, m', e1, q, r1⟩ := hs m hm
  obtain ⟨x, t, q'⟩ := h _ q
  refine ⟨x, m', ?_, q', r1⟩
  show (evE φ es ρ m).bind _ = _
  rw [e1]
  exact t m'
end
instance decLtS : ∀ a b : List Nat, Decidable (ltS a b)
  | [], [] => .isFalse fun h => h
  | [], _ :: _ => .isTrue trivial
  | _ :: _, [] => .isFalse fun h => h
  | x :: a, y :: b => have := decLtS a b; inferInstanceAs (Decidable (x < y ∨ (x = y ∧ ltS a b)))
theorem ltBs_N : ∀ a b : List Nat, ltBs (a.map eN) (b.map eN) = decide (ltS a b)
  | [], [] => rfl
  | [], _ :: _ => rfl
  | _ :: _, [] => rfl
  | x :: a, y :: b => by
    show (if eqD (eN x) (eN y) then ltBs (a.map eN) (b.map eN) else ltB (eN x) (eN y)) = _
    rw [eqD_N, ltBs_N a b]
    show (if decide (x = y) = true then decide (ltS a b) else decide ((x : Int) < y)) = decide (x < y ∨ (x = y ∧ ltS a b))
    by_cases e : x = y
    · subst e
      simp
    · simp [e]
theorem alkDs_N : ∀ a b : List Nat, alkDs (a.map eN) (b.map eN) = true
  | [], [] => rfl
  | [], _ :: _ => rfl
  | _ :: _, [] => rfl
  | x :: a, y :: b => alkDs_N a b
theorem cS_lt (a b : List Nat) : cmpD .lt (eS a) (eS b) = some (.bl (decide (ltS a b))) := by
  show (if okD okDep (eS a) && okD okDep (eS b) && alkD (eS a) (eS b) then some (ltB (eS a) (eS b)) else none).map D.bl = _
  have h1 : alkD (eS a) (eS b) = true := alkDs_N a b
  have h2 : ltB (eS a) (eS b) = decide (ltS a b) := by
    show ltB (.tup _) (.tup _) = _
    simp only [ltB]
    exact ltBs_N a b
  rw [okD_S, okD_S, h1, h2]
  rfl
theorem cS_ne (a b : List Nat) : cmpD .ne (eS a) (eS b) = some (.bl (!decide (a = b))) := by
  show (if okD okDep (eS a) && okD okDep (eS b) then some (D.bl (!eqD (eS a) (eS b))) else none) = _
  rw [okD_S, okD_S, eqD_S]
  rfl
theorem cB_ne (a b : Bool) : cmpD .ne (.bl a) (.bl b) = some (.bl (!decide (a = b))) := by cases a <;> cases b <;> rfl
theorem okD_Sk (k : Nat) (s : List Nat) : okD (k + 1) (eS s) = true := by
  show (s.map eN).all (okD k) = true
  rw [List.all_eq_true]
  intro d hd
  obtain ⟨n, _, rfl⟩ := List.mem_map.mp hd
  exact okD_N _ _
theorem eqDs_S : ∀ a b : List (List Nat), eqDs (a.map eS) (b.map eS) = decide (a = b)
  | [], [] => rfl
  | [], _ :: _ => rfl
  | _ :: _, [] => rfl
  | x :: a, y :: b => by
    show (eqD (eS x) (eS y) && eqDs (a.map eS) (b.map eS)) = _
    rw [eqD_S, eqDs_S a b, Bool.eq_iff_iff]
    simp
theorem cSL_ne (a b : List (List Nat)) : cmpD .ne (eSL a) (eSL b) = some (.bl (!decide (a = b))) := by
  have h : ∀ l : List (List Nat), okD okDep (eSL l) = true := fun l => by
    show (l.map eS).all (okD 11) = true
    rw [List.all_eq_true]
    intro d hd
    obtain ⟨s, _, rfl⟩ := List.mem_map.mp hd
    exact okD_Sk 10 s
  show (if okD okDep (eSL a) && okD okDep (eSL b) then some (D.bl (!eqD (eSL a) (eSL b))) else none) = _
  rw [h, h]
  show some (D.bl (!eqD (.lst _) (.lst _))) = _
  simp only [eqD]
  rw [eqDs_S]
theorem cNL_eq (a b : List Nat) : cmpD .eq (.lst (a.map eN)) (.lst (b.map eN)) = some (.bl (decide (a = b))) := by
  have h : ∀ l : List Nat, okD okDep (.lst (l.map eN)) = true := fun l => by
    show (l.map eN).all (okD 11) = true
    rw [List.all_eq_true]
    intro d hd
    obtain ⟨s, _, rfl⟩ := List.mem_map.mp hd
    rfl
  show (if okD okDep (D.lst (a.map eN)) && okD okDep (D.lst (b.map eN)) then some (D.bl (eqD (D.lst (a.map eN)) (D.lst (b.map eN)))) else none) = _
  rw [h, h]
  show some (D.bl (eqD (.lst _) (.lst _))) = _
  simp only [eqD]
  rw [eqDs_N]
theorem sorted_Ns {l : List Nat} (h : l.Pairwise (· < ·)) : primD .sorted [.lst (l.map eN)] = some (.lst (l.map eN)) := by
  show (if alkAll (l.map eN) && ((l.map eN).all isTupC || (l.map eN).all noTup) then some (sortB (l.map eN)) else none).map D.lst = _
  have h1 : (l.map eN).all noTup = true := by
    rw [List.all_eq_true]
    intro d hd
    obtain ⟨s, _, rfl⟩ := List.mem_map.mp hd
    rfl
  rw [alk_Ns, h1, Bool.or_true]
  have e2 : l.map eN = (l.map fun (n : Nat) => (n : Int)).map D.int := by rw [List.map_map]; rfl
  have h3 : sortB (l.map eN) = l.map eN := by
    rw [e2]
    refine sortB_ints (List.Perm.refl _) ?_
    rw [List.pairwise_map]
    exact h.imp fun h => by omega
  rw [h3]
  rfl
theorem num_of {B : Bd} {i : Nat} {t : List Nat} (h : (SB B none)[i]? = some t) : numB B t = i := by
  obtain ⟨hi, e⟩ := List.getElem?_eq_some_iff.mp h
  have hin := (mem_SB B none t).mp (e ▸ List.getElem_mem hi)
  obtain ⟨hj, e2⟩ := List.getElem?_eq_some_iff.mp (SB_num B none t hin)
  exact (List.getElem_inj (SB_nodup B none)).mp (e2.trans e.symm)
theorem at_lt {B : Bd} {i j : Nat} {s t : List Nat} (hs : (SB B none)[i]? = some s) (ht : (SB B none)[j]? = some t) : decide (ltS s t) = decide (i < j) := by
  obtain ⟨hi, e⟩ := List.getElem?_eq_some_iff.mp hs
  obtain ⟨hj, e2⟩ := List.getElem?_eq_some_iff.mp ht
  have mono := List.pairwise_iff_getElem.mp (SB_sorted B none)
  rw [decide_eq_decide]
  constructor
  · intro h
    rcases Nat.lt_trichotomy i j with q | q | q
    · exact q
    · subst q
      rw [e] at e2
      subst e2
      exact absurd h (ltS_irrefl _)
    · have := mono j i hj hi q
      rw [e, e2] at this
      exact absurd (ltS_trans h this) (ltS_irrefl _)
  · intro h
    have := mono i j hi hj h
    rwa [e, e2] at this
theorem find_at {B : Bd} {i : Nat} {t : List Nat} (h : (SB B none)[i]? = some t) : (SB B none).findIdx? (fun z => decide (z = t)) = some i := by
  obtain ⟨hi, e⟩ := List.getElem?_eq_some_iff.mp h
  refine List.findIdx?_eq_some_iff_getElem.mpr ⟨hi, by rw [e]; simp, fun j hj => ?_⟩
  simp only [decide_eq_true_eq]
  intro q
  have := (List.getElem_inj (SB_nodup B none)).mp (q.trans e.symm)
  omega
end Ev

set_option maxHeartbeats 2000000
namespace Ev
def up (a b : Sq) : Bool := decide (a.1 ≤ b.1) && decide (a.2 ≤ b.2)
theorem up_iff {a b : Sq} : up a b = true ↔ a.1 ≤ b.1 ∧ a.2 ≤ b.2 := by
  unfold up
  rw [Bool.and_eq_true, decide_eq_true_iff, decide_eq_true_iff]
theorem up_refl (a : Sq) : up a a = true := up_iff.mpr ⟨Nat.le_refl _, Nat.le_refl _⟩
theorem up_trans {a b c : Sq} (h : up a b = true) (h2 : up b c = true) : up a c = true := by
  rw [up_iff] at *
  omega
theorem up_ne {a b : Sq} (h : up a b = true) (n : a ≠ b) : ltQ a b := by
  rw [up_iff] at h
  rcases Nat.lt_or_ge a.1 b.1 with q | q
  · exact .inl q
  · refine .inr ⟨by omega, ?_⟩
    rcases Nat.lt_or_ge a.2 b.2 with z | z
    · exact z
    · exact absurd (Prod.ext (show a.1 = b.1 by omega) (show a.2 = b.2 by omega)) n
theorem ltQ_irrefl (a : Sq) : ¬ ltQ a a := fun h => by rcases h with h | h <;> omega
theorem ltQ_trans {a b c : Sq} (h : ltQ a b) (h2 : ltQ b c) : ltQ a c := by
  rcases h with h | h <;> rcases h2 with h2 | h2
  · exact .inl (by omega)
  · exact .inl (by omega)
  · exact .inl (by omega)
  · exact .inr (by omega)
theorem up_not {a b : Sq} (h : ltQ a b) : ¬ up b a = true := fun u => by
  rw [up_iff] at u
  rcases h with h | h <;> omega
def needsN (R : List Sq) (r : Sq) : List Sq := R.filter fun o => !decide (o = r) && up o r
def stepL (R : List Sq) (F : List (List Sq)) (r : Sq) : List (List Sq) := F ++ (F.filter fun L => (needsN R r).all fun o => hasQ o L).map (· ++ [r])
def lotsN (R : List Sq) : List (List Sq) := R.foldl (stepL R) [[]]
/-- closed up and left -/
def Down (R L : List Sq) : Prop := ∀ r ∈ L, ∀ o ∈ R, up o r = true → o ∈ L
instance (R L : List Sq) : Decidable (Down R L) := inferInstanceAs (Decidable (∀ r ∈ L, ∀ o ∈ R, up o r = true → o ∈ L))
def OkL (R P L : List Sq) : Prop := L.Sublist P ∧ Down R L
theorem mem_needs {R : List Sq} {r o : Sq} : o ∈ needsN R r ↔ o ∈ R ∧ o ≠ r ∧ up o r = true := by
  unfold needsN
  rw [List.mem_filter, Bool.and_eq_true, Bool.not_eq_true', decide_eq_false_iff_not]
theorem sub_snoc {L P : List Sq} {r : Sq} : L.Sublist (P ++ [r]) ↔ L.Sublist P ∨ ∃ M, L = M ++ [r] ∧ M.Sublist P := by
  rw [List.sublist_append_iff]
  constructor
  · rintro ⟨a, b, rfl, h1, h2⟩
    rcases List.sublist_cons_iff.mp h2 with h | ⟨c, rfl, h⟩
    · rw [List.sublist_nil] at h
      subst h
      exact .inl (by rw [List.append_nil]; exact h1)
    · rw [List.sublist_nil] at h
      subst h
      exact .inr ⟨a, rfl, h1⟩
  · rintro (h | ⟨M, rfl, h⟩)
    · exact ⟨L, [], by simp, h, List.nil_sublist _⟩
    · exact ⟨M, [r], rfl, h, List.Sublist.refl _⟩
theorem down_snoc {R P S M : List Sq} {r : Sq} (hR : R = P ++ r :: S) (hs : R.Pairwise ltQ) (hM : M.Sublist P) : Down R (M ++ [r]) ↔ Down R M ∧ ∀ o ∈ needsN R r, o ∈ M := by
  have bef : ∀ x ∈ P, ltQ x r := by
    subst hR
    rw [List.pairwise_append] at hs
    exact fun x hx => hs.2.2 x hx r List.mem_cons_self
  constructor
  · intro h
    refine ⟨fun x hx o ho u => ?_, fun o ho => ?_⟩
    · rcases List.mem_append.mp (h x (List.mem_append_left _ hx) o ho u) with q | q
      · exact q
      · rw [List.mem_singleton] at q
        subst q
        exact absurd u (up_not (bef x (hM.subset hx)))
    · obtain ⟨h1, h2, h3⟩ := mem_needs.mp ho
      rcases List.mem_append.mp (h r (by simp) o h1 h3) with q | q
      · exact q
      · exact absurd (List.mem_singleton.mp q) h2
  · rintro ⟨h1, h2⟩ x hx o ho u
    rcases List.mem_append.mp hx with hx | hx
    · exact List.mem_append_left _ (h1 x hx o ho u)
    · rw [List.mem_singleton] at hx
      subst hx
      by_cases e : o = x
      · subst e; simp
      · exact List.mem_append_left _ (h2 o (mem_needs.mpr ⟨ho, e, u⟩))
theorem fold_lots {R : List Sq} (hs : R.Pairwise ltQ) : ∀ (S P : List Sq) (F : List (List Sq)), R = P ++ S → F.Nodup → (∀ L, L ∈ F ↔ OkL R P L) → (S.foldl (stepL R) F).Nodup ∧ ∀ L, L ∈ S.foldl (stepL R) F ↔ OkL R (P ++ S) L
  | [], P, F, _, nd, h => by
    rw [List.append_nil]
    exact ⟨nd, h⟩
  | r :: S, P, F, hR, nd, h => by
    have nr : r ∉ P := by
      subst hR
      rw [List.pairwise_append] at hs
      exact fun q => ltQ_irrefl r (hs.2.2 r q r List.mem_cons_self)
    have key : ∀ L, L ∈ stepL R F r ↔ OkL R (P ++ [r]) L := by
      intro L
      unfold stepL
      rw [List.mem_append, List.mem_map]
      constructor
      · rintro (hL | ⟨M, hM, rfl⟩)
        · obtain ⟨a, b⟩ := (h L).mp hL
          exact ⟨sub_snoc.mpr (.inl a), b⟩
        · obtain ⟨h1, h2⟩ := List.mem_filter.mp hM
          obtain ⟨a, b⟩ := (h M).mp h1
          refine ⟨sub_snoc.mpr (.inr ⟨M, rfl, a⟩), (down_snoc hR hs a).mpr ⟨b, fun o ho => ?_⟩⟩
          exact hasQ_iff.mp (List.all_eq_true.mp h2 o ho)
      · rintro ⟨a, b⟩
        rcases sub_snoc.mp a with a1 | ⟨M, rfl, a1⟩
        · exact .inl ((h L).mpr ⟨a1, b⟩)
        · obtain ⟨b1, b2⟩ := (down_snoc hR hs a1).mp b
          exact .inr ⟨M, List.mem_filter.mpr ⟨(h M).mpr ⟨a1, b1⟩, List.all_eq_true.mpr fun o ho => hasQ_iff.mpr (b2 o ho)⟩, rfl⟩
    have nd2 : (stepL R F r).Nodup := by
      unfold stepL
      rw [List.nodup_append]
      refine ⟨nd, ?_, ?_⟩
      · refine List.pairwise_map.mpr ((nd.filter _).imp fun {a b} ne e => ne (List.append_cancel_right e))
      · intro L hL M hM e
        subst e
        obtain ⟨N, _, rfl⟩ := List.mem_map.mp hM
        exact nr (((h _).mp hL).1.subset (by simp))
    have := fold_lots hs S (P ++ [r]) (stepL R F r) (by rw [hR, List.append_assoc]; rfl) nd2 key
    rw [List.append_assoc] at this
    exact this
theorem mem_lots {R : List Sq} (hs : R.Pairwise ltQ) {L : List Sq} : L ∈ lotsN R ↔ L.Sublist R ∧ Down R L :=
  (fold_lots hs R [] [[]] rfl (by simp) fun L => by
    rw [List.mem_singleton]
    constructor
    · rintro rfl
      exact ⟨List.Sublist.refl _, fun r h => absurd h List.not_mem_nil⟩
    · exact fun h => List.sublist_nil.mp h.1).2 L
theorem nodup_lots {R : List Sq} (hs : R.Pairwise ltQ) : (lotsN R).Nodup :=
  (fold_lots hs R [] [[]] rfl (by simp) fun L => by
    rw [List.mem_singleton]
    constructor
    · rintro rfl
      exact ⟨List.Sublist.refl _, fun r h => absurd h List.not_mem_nil⟩
    · exact fun h => List.sublist_nil.mp h.1).1
theorem nodup_len {α : Type} [DecidableEq α] : ∀ (l m : List α), l.Nodup → (∀ x ∈ l, x ∈ m) → l.length ≤ m.length
  | [], _, _, _ => Nat.zero_le _
  | x :: l, m, nd, h => by
    rw [List.nodup_cons] at nd
    have := nodup_len l (m.erase x) nd.2 fun y hy => (List.mem_erase_of_ne (fun (e : y = x) => nd.1 (by rw [← e]; exact hy))).mpr (h y (List.mem_cons_of_mem _ hy))
    have hx := h x List.mem_cons_self
    rw [List.length_erase_of_mem hx] at this
    have : 0 < m.length := List.length_pos_of_mem hx
    rw [List.length_cons]
    omega
theorem same_len {α : Type} [DecidableEq α] {l m : List α} (nl : l.Nodup) (nm : m.Nodup) (h : ∀ x, x ∈ l ↔ x ∈ m) : l.length = m.length :=
  Nat.le_antisymm (nodup_len l m nl fun x hx => (h x).mp hx) (nodup_len m l nm fun x hx => (h x).mpr hx)
theorem bij_len {α β : Type} [DecidableEq β] {l : List α} {m : List β} (f : α → β) (nl : l.Nodup) (nm : m.Nodup) (inj : ∀ x ∈ l, ∀ y ∈ l, f x = f y → x = y) (h : ∀ y, y ∈ m ↔ ∃ x ∈ l, f x = y) : l.length = m.length := by
  rw [← List.length_map (f := f)]
  refine same_len ?_ nm fun y => ?_
  · rw [List.Nodup, List.pairwise_map]
    exact nl.imp_of_mem fun {a b} ha hb ne e => ne (inj a ha b hb e)
  · rw [List.mem_map, h]
theorem len_split {α : Type} (p : α → Bool) (l : List α) : l.length = (l.filter p).length + (l.filter fun x => !p x).length := by
  induction l with
  | nil => rfl
  | cons x l ih =>
    cases h : p x with
    | true => rw [List.filter_cons_of_pos h, List.filter_cons_of_neg (by simp [h]), List.length_cons, List.length_cons, ih]; omega
    | false => rw [List.filter_cons_of_neg (by simp [h]), List.filter_cons_of_pos (by simp [h]), List.length_cons, List.length_cons, ih]; omega
theorem lot_sorted {R L : List Sq} (hs : R.Pairwise ltQ) (h : L.Sublist R) : L.Pairwise ltQ := hs.sublist h
/-- sublists of ascending lists are told by their members -/
theorem sub_ext {R L M : List Sq} (hs : R.Pairwise ltQ) (hL : L.Sublist R) (hM : M.Sublist R) (h : ∀ x, x ∈ L ↔ x ∈ M) : L = M := sorted_ext ltQ_irrefl ltQ_trans (hs.sublist hL) (hs.sublist hM) h
/-- q is not in the lot, and the lot with q is a lot -/
def joinB (R : List Sq) (q : Sq) (L : List Sq) : Bool := !hasQ q L && (needsN R q).all fun o => hasQ o L
def joinsN (R : List Sq) (q : Sq) : List (List Sq) := (lotsN R).filter (joinB R q)
theorem joinB_iff {R : List Sq} {q : Sq} {L : List Sq} : joinB R q L = true ↔ q ∉ L ∧ ∀ o ∈ R, o ≠ q → up o q = true → o ∈ L := by
  unfold joinB
  rw [Bool.and_eq_true, Bool.not_eq_true', List.all_eq_true]
  refine and_congr ?_ ?_
  · rw [← Bool.not_eq_true, hasQ_iff]
  · exact ⟨fun h o ho ne u => hasQ_iff.mp (h o (mem_needs.mpr ⟨ho, ne, u⟩)), fun h o ho => let ⟨a, b, c⟩ := mem_needs.mp ho; hasQ_iff.mpr (h o a b c)⟩
/-- with a rock less -/
def less (R : List Sq) (q : Sq) : List Sq := R.filter fun o => !decide (o = q)
theorem mem_less {R : List Sq} {q o : Sq} : o ∈ less R q ↔ o ∈ R ∧ o ≠ q := by
  unfold less
  rw [List.mem_filter, Bool.not_eq_true', decide_eq_false_iff_not]
theorem less_sub (R : List Sq) (q : Sq) : (less R q).Sublist R := List.filter_sublist
theorem count_less {R : List Sq} (hs : R.Pairwise ltQ) {q : Sq} (hq : q ∈ R) : (lotsN R).length = (lotsN (less R q)).length + (joinsN R q).length := by
  have hl : (less R q).Pairwise ltQ := hs.sublist (less_sub R q)
  -- the lots without q and with it
  have e1 := len_split (fun L => hasQ q L) (lotsN R)
  -- those of the smaller field: also lots of the greater, or not
  have e2 := len_split (fun M => decide (Down R M)) (lotsN (less R q))
  have a1 : ((lotsN R).filter fun L => !hasQ q L).length = ((lotsN (less R q)).filter fun M => decide (Down R M)).length := by
    refine same_len ((nodup_lots hs).filter _) ((nodup_lots hl).filter _) fun L => ?_
    rw [List.mem_filter, List.mem_filter, mem_lots hs, mem_lots hl, Bool.not_eq_true', ← Bool.not_eq_true, hasQ_iff, decide_eq_true_iff]
    constructor
    · rintro ⟨⟨h1, h2⟩, h3⟩
      refine ⟨⟨?_, fun r hr o ho => h2 r hr o (mem_less.mp ho).1⟩, h2⟩
      have : L.filter (fun o => !decide (o = q)) = L := List.filter_eq_self.mpr fun o ho => by
        rw [Bool.not_eq_true', decide_eq_false_iff_not]
        exact fun e => h3 (e ▸ ho)
      rw [← this]
      exact h1.filter _
    · rintro ⟨⟨h1, _⟩, h2⟩
      exact ⟨⟨h1.trans (less_sub R q), h2⟩, fun h => (mem_less.mp (h1.subset h)).2 rfl⟩
  have a2 : ((lotsN R).filter fun L => hasQ q L).length = (joinsN R q).length + ((lotsN (less R q)).filter fun M => !decide (Down R M)).length := by
    have e3 := len_split (fun L => decide (Down R (less L q))) ((lotsN R).filter fun L => hasQ q L)
    have b1 : (((lotsN R).filter fun L => hasQ q L).filter fun L => decide (Down R (less L q))).length = (joinsN R q).length := by
      refine bij_len (fun L => less L q) (((nodup_lots hs).filter _).filter _) ((nodup_lots hs).filter _) ?_ ?_
      · intro L hL M hM e
        obtain ⟨hL, _⟩ := List.mem_filter.mp hL
        obtain ⟨hM, _⟩ := List.mem_filter.mp hM
        obtain ⟨hL, qL⟩ := List.mem_filter.mp hL
        obtain ⟨hM, qM⟩ := List.mem_filter.mp hM
        refine sub_ext hs ((mem_lots hs).mp hL).1 ((mem_lots hs).mp hM).1 fun x => ?_
        by_cases ex : x = q
        · subst ex
          exact ⟨fun _ => hasQ_iff.mp qM, fun _ => hasQ_iff.mp qL⟩
        · have := congrArg (fun l => x ∈ l) e
          simp only [mem_less, eq_iff_iff] at this
          exact ⟨fun h => (this.mp ⟨h, ex⟩).1, fun h => (this.mpr ⟨h, ex⟩).1⟩
      · intro M
        unfold joinsN
        rw [List.mem_filter, mem_lots hs, joinB_iff]
        constructor
        · rintro ⟨⟨h1, h2⟩, h3, h4⟩
          refine ⟨R.filter fun o => decide (o ∈ M ∨ o = q), ?_, ?_⟩
          · rw [List.mem_filter, List.mem_filter, mem_lots hs, hasQ_iff, decide_eq_true_iff]
            have em : ∀ x, x ∈ (less (R.filter fun o => decide (o ∈ M ∨ o = q)) q) ↔ x ∈ M := fun x => by
              rw [mem_less, List.mem_filter, decide_eq_true_iff]
              constructor
              · rintro ⟨⟨_, h | h⟩, ne⟩
                · exact h
                · exact absurd h ne
              · exact fun h => ⟨⟨h1.subset h, .inl h⟩, fun e => h3 (e ▸ h)⟩
            refine ⟨⟨⟨List.filter_sublist, fun r hr o ho u => ?_⟩, List.mem_filter.mpr ⟨hq, by simp⟩⟩, fun r hr o ho u => (em o).mpr (h2 r ((em r).mp hr) o ho u)⟩
            obtain ⟨hr1, hr2⟩ := List.mem_filter.mp hr
            refine List.mem_filter.mpr ⟨ho, decide_eq_true ?_⟩
            rcases of_decide_eq_true hr2 with hr2 | rfl
            · exact .inl (h2 r hr2 o ho u)
            · by_cases e : o = r
              · exact .inr e
              · exact .inl (h4 o ho e u)
          · refine sub_ext hs ((less_sub _ _).trans List.filter_sublist) h1 fun x => ?_
            rw [mem_less, List.mem_filter, decide_eq_true_iff]
            constructor
            · rintro ⟨⟨_, h | h⟩, ne⟩
              · exact h
              · exact absurd h ne
            · exact fun h => ⟨⟨h1.subset h, .inl h⟩, fun e => h3 (e ▸ h)⟩
        · rintro ⟨L, hL, rfl⟩
          obtain ⟨hL, dL⟩ := List.mem_filter.mp hL
          obtain ⟨hL, qL⟩ := List.mem_filter.mp hL
          obtain ⟨h1, h2⟩ := (mem_lots hs).mp hL
          refine ⟨⟨(less_sub _ _).trans h1, of_decide_eq_true dL⟩, fun h => (mem_less.mp h).2 rfl, fun o ho ne u => ?_⟩
          exact mem_less.mpr ⟨h2 q (hasQ_iff.mp qL) o ho u, ne⟩
    have b2 : (((lotsN R).filter fun L => hasQ q L).filter fun L => !decide (Down R (less L q))).length = ((lotsN (less R q)).filter fun M => !decide (Down R M)).length := by
      refine bij_len (fun L => less L q) (((nodup_lots hs).filter _).filter _) ((nodup_lots hl).filter _) ?_ ?_
      · intro L hL M hM e
        obtain ⟨hL, _⟩ := List.mem_filter.mp hL
        obtain ⟨hM, _⟩ := List.mem_filter.mp hM
        obtain ⟨hL, qL⟩ := List.mem_filter.mp hL
        obtain ⟨hM, qM⟩ := List.mem_filter.mp hM
        refine sub_ext hs ((mem_lots hs).mp hL).1 ((mem_lots hs).mp hM).1 fun x => ?_
        by_cases ex : x = q
        · subst ex
          exact ⟨fun _ => hasQ_iff.mp qM, fun _ => hasQ_iff.mp qL⟩
        · have := congrArg (fun l => x ∈ l) e
          simp only [mem_less, eq_iff_iff] at this
          exact ⟨fun h => (this.mp ⟨h, ex⟩).1, fun h => (this.mpr ⟨h, ex⟩).1⟩
      · intro M
        rw [List.mem_filter, mem_lots hl, Bool.not_eq_true', decide_eq_false_iff_not]
        constructor
        · rintro ⟨⟨h1, h2⟩, h3⟩
          have h1R := h1.trans (less_sub R q)
          have nq : q ∉ M := fun h => (mem_less.mp (h1.subset h)).2 rfl
          -- something of M lies down and right of q
          have hx : ∃ x ∈ M, up q x = true := by
            refine Classical.byContradiction fun hn => h3 fun r hr o ho u => ?_
            by_cases e : o = q
            · subst e
              exact absurd ⟨r, hr, u⟩ hn
            · exact h2 r hr o (mem_less.mpr ⟨ho, e⟩) u
          obtain ⟨x, hx, ux⟩ := hx
          refine ⟨R.filter fun o => decide (o ∈ M ∨ o = q), ?_, ?_⟩
          · have em : ∀ y, y ∈ (less (R.filter fun o => decide (o ∈ M ∨ o = q)) q) ↔ y ∈ M := fun y => by
              rw [mem_less, List.mem_filter, decide_eq_true_iff]
              constructor
              · rintro ⟨⟨_, h | h⟩, ne⟩
                · exact h
                · exact absurd h ne
              · exact fun h => ⟨⟨h1R.subset h, .inl h⟩, fun e => nq (e ▸ h)⟩
            rw [List.mem_filter, List.mem_filter, mem_lots hs, hasQ_iff, Bool.not_eq_true', decide_eq_false_iff_not]
            refine ⟨⟨⟨List.filter_sublist, fun r hr o ho u => ?_⟩, List.mem_filter.mpr ⟨hq, by simp⟩⟩, fun h => h3 fun r hr o ho u => (em o).mp (h r ((em r).mpr hr) o ho u)⟩
            obtain ⟨hr1, hr2⟩ := List.mem_filter.mp hr
            refine List.mem_filter.mpr ⟨ho, decide_eq_true ?_⟩
            by_cases e : o = q
            · exact .inr e
            · rcases of_decide_eq_true hr2 with hr2 | rfl
              · exact .inl (h2 r hr2 o (mem_less.mpr ⟨ho, e⟩) u)
              · exact .inl (h2 x hx o (mem_less.mpr ⟨ho, e⟩) (up_trans u ux))
          · refine sub_ext hs ((less_sub _ _).trans List.filter_sublist) h1R fun y => ?_
            rw [mem_less, List.mem_filter, decide_eq_true_iff]
            constructor
            · rintro ⟨⟨_, h | h⟩, ne⟩
              · exact h
              · exact absurd h ne
            · exact fun h => ⟨⟨h1R.subset h, .inl h⟩, fun e => nq (e ▸ h)⟩
        · rintro ⟨L, hL, rfl⟩
          obtain ⟨hL, dL⟩ := List.mem_filter.mp hL
          obtain ⟨hL, qL⟩ := List.mem_filter.mp hL
          obtain ⟨h1, h2⟩ := (mem_lots hs).mp hL
          refine ⟨⟨h1.filter _, fun r hr o ho u => ?_⟩, by simpa using dL⟩
          obtain ⟨a, b⟩ := mem_less.mp hr
          obtain ⟨c, d⟩ := mem_less.mp ho
          exact mem_less.mpr ⟨h2 r a o c u, d⟩
    rw [b1, b2] at e3
    exact e3
  omega
end Ev

set_option maxHeartbeats 2000000
namespace Ev
theorem up_antisymm {a b : Sq} (h : up a b = true) (h2 : up b a = true) : a = b := by
  rw [up_iff] at h h2
  exact Prod.ext (by omega) (by omega)
theorem nil_lot {R : List Sq} (hs : R.Pairwise ltQ) : [] ∈ lotsN R := (mem_lots hs).mpr ⟨List.nil_sublist _, fun r h => absurd h List.not_mem_nil⟩
theorem lots_pos {R : List Sq} (hs : R.Pairwise ltQ) : 0 < (lotsN R).length := List.length_pos_of_mem (nil_lot hs)
theorem joins_pos {R : List Sq} (hs : R.Pairwise ltQ) (q : Sq) : 0 < (joinsN R q).length := by
  refine List.length_pos_of_mem (a := R.filter fun o => decide (o ≠ q) && up o q) (List.mem_filter.mpr ⟨(mem_lots hs).mpr ⟨List.filter_sublist, fun r hr o ho u => ?_⟩, joinB_iff.mpr ⟨fun h => ?_, fun o ho ne u => ?_⟩⟩)
  · obtain ⟨a, b⟩ := List.mem_filter.mp hr
    rw [Bool.and_eq_true, decide_eq_true_iff] at b
    refine List.mem_filter.mpr ⟨ho, ?_⟩
    rw [Bool.and_eq_true, decide_eq_true_iff]
    refine ⟨fun e => ?_, up_trans u b.2⟩
    subst e
    exact b.1 (up_antisymm b.2 u)
  · have := (List.mem_filter.mp h).2
    simp at this
  · refine List.mem_filter.mpr ⟨ho, ?_⟩
    rw [Bool.and_eq_true, decide_eq_true_iff]
    exact ⟨ne, u⟩
theorem joins_lt {R : List Sq} (hs : R.Pairwise ltQ) {q : Sq} (hq : q ∈ R) : (joinsN R q).length < (lotsN R).length := by
  have := count_less hs hq
  have := lots_pos (hs.sublist (less_sub R q))
  omega
def lowL (h : Nat) (L : List Sq) : List Nat := aboutN h L
def highL (h w : Nat) (R L : List Sq) : List Nat := beforeN h w (R.filter fun o => !hasQ o L)
def zoneB (h w : Nat) (R L : List Sq) (q : Sq) : Bool := decide ((lowL h L).getD q.1 0 ≤ q.2) && decide (q.2 < (highL h w R L).getD q.1 0)
def zoneN (h w : Nat) (R : List Sq) (q : Sq) : Nat := ((lotsN R).filter fun L => zoneB h w R L q).length
theorem getD_at {s : List Nat} {i : Nat} (h : i < s.length) : s.getD i 0 = s[i] := by
  rw [List.getD_eq_getElem?_getD, List.getElem?_eq_getElem h]
  rfl
theorem zoneB_iff {h w : Nat} {R L : List Sq} {q : Sq} (h1 : q.1 < h) (h2 : q.2 < w) : zoneB h w R L q = true ↔ (∀ r ∈ L, ¬ up q r = true) ∧ ∀ r ∈ R, r ∉ L → ¬ up r q = true := by
  unfold zoneB lowL highL
  rw [Bool.and_eq_true, decide_eq_true_iff, decide_eq_true_iff, getD_at (by rw [aboutN_len]; exact h1), getD_at (by rw [beforeN_len]; exact h1), about_le, Nat.lt_iff_add_one_le, le_before]
  refine and_congr ⟨fun g r hr u => ?_, fun g r hr hi => ?_⟩ ⟨fun g r hr nl u => ?_, fun g => ⟨h2, fun r hr hi => ?_⟩⟩
  · rw [up_iff] at u
    have := g r hr u.1
    omega
  · have := g r hr
    rw [up_iff] at this
    omega
  · rw [up_iff] at u
    have := g.2 r (List.mem_filter.mpr ⟨hr, by rw [Bool.not_eq_true', ← Bool.not_eq_true, hasQ_iff]; exact nl⟩) u.1
    omega
  · obtain ⟨a, b⟩ := List.mem_filter.mp hr
    rw [Bool.not_eq_true', ← Bool.not_eq_true, hasQ_iff] at b
    have := g r a b
    rw [up_iff] at this
    omega
theorem zone_rock {h w : Nat} {R : List Sq} {q : Sq} (h1 : q.1 < h) (h2 : q.2 < w) (hq : q ∈ R) : zoneN h w R q = 0 := by
  unfold zoneN
  rw [List.length_eq_zero_iff, List.filter_eq_nil_iff]
  intro L _
  rw [zoneB_iff h1 h2]
  rintro ⟨a, b⟩
  by_cases e : q ∈ L
  · exact a q e (up_refl q)
  · exact b q hq e (up_refl q)
/-- R with q more -/
def IsPut (R : List Sq) (q : Sq) (R' : List Sq) : Prop := R'.Pairwise ltQ ∧ ∀ x, x ∈ R' ↔ x ∈ R ∨ x = q
theorem IsPut.less {R R' : List Sq} {q : Sq} (hs : R.Pairwise ltQ) (hq : q ∉ R) (p : IsPut R q R') : less R' q = R :=
  sorted_ext ltQ_irrefl ltQ_trans (p.1.sublist (less_sub R' q)) hs fun x => by
    rw [mem_less, p.2]
    constructor
    · rintro ⟨h | h, ne⟩
      · exact h
      · exact absurd h ne
    · exact fun h => ⟨.inl h, fun e => hq (e ▸ h)⟩
theorem count_put {R R' : List Sq} {q : Sq} (hs : R.Pairwise ltQ) (hq : q ∉ R) (p : IsPut R q R') : (lotsN R').length = (lotsN R).length + (joinsN R' q).length := by
  have := count_less p.1 ((p.2 q).mpr (.inr rfl))
  rwa [p.less hs hq] at this
theorem zone_free {h w : Nat} {R R' : List Sq} {q : Sq} (h1 : q.1 < h) (h2 : q.2 < w) (hs : R.Pairwise ltQ) (hq : q ∉ R) (p : IsPut R q R') : zoneN h w R q = (joinsN R' q).length := by
  unfold zoneN joinsN
  have sub : R.Sublist R' := by rw [← p.less hs hq]; exact less_sub _ _
  refine same_len ((nodup_lots hs).filter _) ((nodup_lots p.1).filter _) fun L => ?_
  rw [List.mem_filter, List.mem_filter, mem_lots hs, mem_lots p.1, zoneB_iff h1 h2, joinB_iff]
  constructor
  · rintro ⟨⟨a, b⟩, c, d⟩
    refine ⟨⟨a.trans sub, fun r hr o ho u => ?_⟩, fun e => hq (a.subset e), fun o ho ne u => ?_⟩
    · rcases (p.2 o).mp ho with ho | rfl
      · exact b r hr o ho u
      · exact absurd u (c r hr)
    · rcases (p.2 o).mp ho with ho | rfl
      · exact Classical.byContradiction fun nl => d o ho nl u
      · exact absurd rfl ne
  · rintro ⟨⟨a, b⟩, c, d⟩
    refine ⟨⟨?_, fun r hr o ho u => b r hr o (sub.subset ho) u⟩, fun r hr u => c (b r hr q ((p.2 q).mpr (.inr rfl)) u), fun r hr nl u => nl (d r (sub.subset hr) (fun e => hq (e ▸ hr)) u)⟩
    have e : L.filter (fun o => !decide (o = q)) = L := List.filter_eq_self.mpr fun o ho => by
      rw [Bool.not_eq_true', decide_eq_false_iff_not]
      exact fun e => c (e ▸ ho)
    rw [← e, ← p.less hs hq]
    exact a.filter _
theorem about_st {h w : Nat} {L : List Sq} (hL : ∀ q ∈ L, q.2 < w) : IsSt h w (aboutN h L) := by
  refine ⟨aboutN_len h L, fun x hx => ?_, List.pairwise_iff_getElem.mpr fun i j hi hj hij => ?_⟩
  · obtain ⟨i, hi, rfl⟩ := List.getElem_of_mem hx
    exact (about_le hi).mpr fun q hq _ => hL q hq
  · exact (about_le _).mpr fun q hq g => (about_le hi).mp (Nat.le_refl _) q hq (by omega)
/-- what lies under the stair about squares -/
theorem und_about {h : Nat} {L : List Sq} {r : Sq} (hr : r.1 < h) : und (aboutN h L) r = true ↔ ∃ x ∈ L, up r x = true := by
  rw [und_at (by rw [aboutN_len]; exact hr), decide_eq_true_iff]
  constructor
  · intro g
    refine Classical.byContradiction fun n => ?_
    have : (aboutN h L)[r.1]'(by rw [aboutN_len]; exact hr) ≤ r.2 := (about_le _).mpr fun q hq hi => by
      have : ¬ up r q = true := fun u => n ⟨q, hq, u⟩
      rw [up_iff] at this
      omega
    omega
  · rintro ⟨x, hx, u⟩
    rw [up_iff] at u
    have := (about_le (h := h) (sq := L) (i := r.1) (by rw [aboutN_len]; exact hr)).mp (Nat.le_refl _) x hx u.1
    omega
theorem rocks_about {f : Fld} (ok : f.Ok) {L : List Sq} (hL : L ∈ lotsN f.r) : f.r.filter (und (aboutN f.h L)) = L := by
  obtain ⟨a, b⟩ := (mem_lots ok.sorted).mp hL
  refine sub_ext ok.sorted List.filter_sublist a fun x => ?_
  rw [List.mem_filter]
  constructor
  · rintro ⟨hx, u⟩
    obtain ⟨y, hy, u⟩ := (und_about (ok.mem hx).1).mp u
    exact b y hy x hx u
  · exact fun hx => ⟨a.subset hx, (und_about (ok.mem (a.subset hx)).1).mpr ⟨x, hx, up_refl x⟩⟩
theorem lot_in {f : Fld} (ok : f.Ok) {L : List Sq} (hL : L ∈ lotsN f.r) {q : Sq} (hq : q ∈ L) : q.1 < f.h ∧ q.2 < f.w := ok.mem (((mem_lots ok.sorted).mp hL).1.subset hq)
theorem und_mono {h w : Nat} {s : List Nat} (hs : IsSt h w s) {o r : Sq} (hr : r.1 < h) (u : up o r = true) (g : und s r = true) : und s o = true := by
  rw [up_iff] at u
  have hl := hs.len
  rw [und_at (by omega)] at *
  have := mono_at hs.mono u.1 (show r.1 < s.length by omega)
  have := of_decide_eq_true g
  exact decide_eq_true (by omega)
theorem rocks_lot {f : Fld} (ok : f.Ok) {s : List Nat} (hs : IsSt f.h f.w s) : f.r.filter (und s) ∈ lotsN f.r := by
  refine (mem_lots ok.sorted).mpr ⟨List.filter_sublist, fun r hr o ho u => ?_⟩
  obtain ⟨a, b⟩ := List.mem_filter.mp hr
  exact List.mem_filter.mpr ⟨ho, und_mono hs (ok.mem a).1 u b⟩
def allS (f : Fld) : List (List Nat) := SB (allB f.h f.w) none
theorem mem_all {f : Fld} {s : List Nat} : s ∈ allS f ↔ IsSt f.h f.w s := by
  unfold allS
  rw [mem_SB, all_iff]
/-- the two stairs at a square between -/
theorem two_at {f : Fld} (ok : f.Ok) {L : List Sq} (hL : L ∈ lotsN f.r) {q : Sq} (h1 : q.1 < f.h) (h2 : q.2 < f.w) (z : zoneB f.h f.w f.r L q = true) (hq : q ∉ f.r) :
    IsSt f.h f.w (aboutN f.h (q :: L)) ∧ f.r.filter (und (aboutN f.h (q :: L))) = L ∧ (aboutN f.h (q :: L))[q.1]'(by rw [aboutN_len]; exact h1) = q.2 + 1 ∧ (∀ i (hi : i < f.h), q.1 < i → (aboutN f.h (q :: L))[i]'(by rw [aboutN_len]; exact hi) ≤ q.2) := by
  obtain ⟨z1, z2⟩ := (zoneB_iff h1 h2).mp z
  obtain ⟨a, b⟩ := (mem_lots ok.sorted).mp hL
  refine ⟨about_st fun x hx => ?_, ?_, ?_, fun i hi g => ?_⟩
  · rcases List.mem_cons.mp hx with rfl | hx
    · exact h2
    · exact (lot_in ok hL hx).2
  · refine sub_ext ok.sorted List.filter_sublist a fun x => ?_
    rw [List.mem_filter]
    constructor
    · rintro ⟨hx, u⟩
      obtain ⟨y, hy, u2⟩ := (und_about (ok.mem hx).1).mp u
      rcases List.mem_cons.mp hy with e | hy
      · subst e
        exact Classical.byContradiction fun nl => z2 x hx nl u2
      · exact b y hy x hx u2
    · exact fun hx => ⟨a.subset hx, (und_about (ok.mem (a.subset hx)).1).mpr ⟨x, List.mem_cons_of_mem _ hx, up_refl x⟩⟩
  · refine Nat.le_antisymm ((about_le _).mpr fun x hx g => ?_) ((about_le (by rw [aboutN_len]; exact h1)).mp (Nat.le_refl _) q List.mem_cons_self (Nat.le_refl _))
    rcases List.mem_cons.mp hx with rfl | hx
    · exact Nat.le_refl _
    · have := z1 x hx
      rw [up_iff] at this
      omega
  · refine (about_le _).mpr fun x hx g2 => ?_
    rcases List.mem_cons.mp hx with rfl | hx
    · omega
    · have := z1 x hx
      rw [up_iff] at this
      omega
theorem und_pt {s : List Nat} {i c : Nat} (h : i < s.length) : und s (i, c) = decide (c < s[i]) := und_at h
/-- as many kinds as stairs: only where no square is free -/
theorem lots_le {f : Fld} (ok : f.Ok) : (lotsN f.r).length ≤ (allS f).length := by
  rw [← List.length_map (f := aboutN f.h)]
  refine nodup_len _ _ ?_ fun s hs => ?_
  · rw [List.Nodup, List.pairwise_map]
    refine (nodup_lots ok.sorted).imp_of_mem fun {a b} ha hb ne e => ne ?_
    rw [← rocks_about ok ha, ← rocks_about ok hb, e]
  · obtain ⟨L, hL, rfl⟩ := List.mem_map.mp hs
    exact mem_all.mpr (about_st fun q hq => (lot_in ok hL hq).2)
theorem lots_lt {f : Fld} (ok : f.Ok) {q : Sq} (h1 : q.1 < f.h) (h2 : q.2 < f.w) (hq : q ∉ f.r) {L : List Sq} (hL : L ∈ lotsN f.r) (z : zoneB f.h f.w f.r L q = true) : (lotsN f.r).length < (allS f).length := by
  obtain ⟨s1, s2, s3, _⟩ := two_at ok hL h1 h2 z hq
  have : ((aboutN f.h (q :: L)) :: (lotsN f.r).map (aboutN f.h)).length ≤ (allS f).length := by
    refine nodup_len _ _ ?_ fun s hs => ?_
    · rw [List.nodup_cons]
      constructor
      · intro h
        obtain ⟨M, hM, e⟩ := List.mem_map.mp h
        have e2 : M = L := by rw [← rocks_about ok hM, e, s2]
        subst e2
        have hz := ((zoneB_iff h1 h2).mp z).1
        have : (aboutN f.h M)[q.1]'(by rw [aboutN_len]; exact h1) ≤ q.2 := (about_le _).mpr fun x hx g => by
          have := hz x hx
          rw [up_iff] at this
          omega
        have e3 : (aboutN f.h M)[q.1]'(by rw [aboutN_len]; exact h1) = (aboutN f.h (q :: M))[q.1]'(by rw [aboutN_len]; exact h1) := by simp only [e]
        omega
      · rw [List.Nodup, List.pairwise_map]
        refine (nodup_lots ok.sorted).imp_of_mem fun {a b} ha hb ne e => ne ?_
        rw [← rocks_about ok ha, ← rocks_about ok hb, e]
    · rcases List.mem_cons.mp hs with rfl | hs
      · exact mem_all.mpr s1
      · obtain ⟨M, hM, rfl⟩ := List.mem_map.mp hs
        exact mem_all.mpr (about_st fun q hq => (lot_in ok hM hq).2)
  rw [List.length_cons, List.length_map] at this
  omega
theorem lots_eq {f : Fld} (ok : f.Ok) (full : ∀ q : Sq, q.1 < f.h → q.2 < f.w → q ∈ f.r) : (lotsN f.r).length = (allS f).length := by
  refine Nat.le_antisymm (lots_le ok) ?_
  rw [← List.length_map (f := fun s => f.r.filter (und s))]
  refine nodup_len _ _ ?_ fun L hL => ?_
  · rw [List.Nodup, List.pairwise_map]
    refine (SB_nodup _ _).imp_of_mem fun {s t} hs ht ne e => ne ?_
    have hs := mem_all.mp hs
    have ht := mem_all.mp ht
    have same := same_iff.mp e
    refine List.ext_getElem (by rw [hs.len, ht.len]) fun i hi hj => ?_
    rw [hs.len] at hi
    have le : ∀ {s t : List Nat} (hs : IsSt f.h f.w s) (ht : IsSt f.h f.w t), (∀ q ∈ f.r, und s q = und t q) → s[i]'(by rw [hs.len]; exact hi) ≤ t[i]'(by rw [ht.len]; exact hi) := fun {s t} hs ht g => by
      rcases Nat.eq_zero_or_pos (s[i]'(by rw [hs.len]; exact hi)) with z | z
      · omega
      · have hw := hs.le (s[i]'(by rw [hs.len]; exact hi)) (List.getElem_mem _)
        have := g (i, s[i]'(by rw [hs.len]; exact hi) - 1) (full _ hi (by show s[i]'(by rw [hs.len]; exact hi) - 1 < f.w; omega))
        rw [und_pt (s := s) (by rw [hs.len]; exact hi), und_pt (s := t) (by rw [ht.len]; exact hi), decide_eq_true (show s[i]'(by rw [hs.len]; exact hi) - 1 < s[i]'(by rw [hs.len]; exact hi) by omega)] at this
        have := of_decide_eq_true this.symm
        omega
    exact Nat.le_antisymm (le hs ht same) (le ht hs fun q hq => (same q hq).symm)
  · obtain ⟨s, hs, rfl⟩ := List.mem_map.mp hL
    exact rocks_lot ok (mem_all.mp hs)
end Ev

set_option maxHeartbeats 4000000
namespace Ev
open PySem
variable {φ : Phi}
instance (a b : Sq) : Decidable (ltQ a b) := inferInstanceAs (Decidable (_ ∨ _))
def insQ (x : Sq) : List Sq → List Sq
  | [] => [x]
  | y :: r => if ltQ y x then y :: insQ x r else x :: y :: r
def sortQ : List Sq → List Sq
  | [] => []
  | x :: r => insQ x (sortQ r)
theorem insB_Q (x : Sq) : ∀ l : List Sq, insB (eQ x) (l.map eQ) = (insQ x l).map eQ
  | [] => rfl
  | y :: r => by
    show (if ltB (eQ y) (eQ x) then eQ y :: insB (eQ x) (r.map eQ) else eQ x :: eQ y :: r.map eQ) = (if ltQ y x then y :: insQ x r else x :: y :: r).map eQ
    rw [ltB_Q, insB_Q x r]
    by_cases h : ltQ y x
    · rw [if_pos (by simpa using h), if_pos h]; rfl
    · rw [if_neg (by simpa using h), if_neg h]; rfl
theorem sortB_Q : ∀ l : List Sq, sortB (l.map eQ) = (sortQ l).map eQ
  | [] => rfl
  | x :: r => by
    show insB (eQ x) (sortB (r.map eQ)) = _
    rw [sortB_Q r, insB_Q]
    rfl
theorem insQ_perm (x : Sq) : ∀ l : List Sq, (insQ x l).Perm (x :: l)
  | [] => List.Perm.refl _
  | y :: r => by
    show (if ltQ y x then y :: insQ x r else x :: y :: r).Perm _
    split
    · exact ((insQ_perm x r).cons y).trans (List.Perm.swap x y r)
    · exact List.Perm.refl _
theorem sortQ_perm : ∀ l : List Sq, (sortQ l).Perm l
  | [] => List.Perm.refl _
  | x :: r => (insQ_perm x _).trans ((sortQ_perm r).cons x)
theorem ltQ_total {a b : Sq} (h : ¬ ltQ a b) (ne : a ≠ b) : ltQ b a := by
  unfold ltQ at *
  rcases Nat.lt_trichotomy a.1 b.1 with q | q | q
  · exact absurd (.inl q) h
  · rcases Nat.lt_trichotomy a.2 b.2 with z | z | z
    · exact absurd (.inr ⟨q, z⟩) h
    · exact absurd (Prod.ext q z) ne
    · exact .inr ⟨q.symm, z⟩
  · exact .inl q
theorem insQ_sorted (x : Sq) : ∀ l : List Sq, l.Pairwise ltQ → x ∉ l → (insQ x l).Pairwise ltQ
  | [], _, _ => List.pairwise_singleton _ _
  | y :: r, h, nx => by
    rw [List.pairwise_cons] at h
    rw [List.mem_cons, not_or] at nx
    show (if ltQ y x then y :: insQ x r else x :: y :: r).Pairwise ltQ
    split
    · rename_i q
      refine List.pairwise_cons.mpr ⟨fun z hz => ?_, insQ_sorted x r h.2 nx.2⟩
      rcases List.mem_cons.mp ((insQ_perm x r).mem_iff.mp hz) with rfl | hz
      · exact q
      · exact h.1 z hz
    · rename_i q
      have q2 := ltQ_total q fun e => nx.1 e.symm
      refine List.pairwise_cons.mpr ⟨fun z hz => ?_, List.pairwise_cons.mpr h⟩
      rcases List.mem_cons.mp hz with rfl | hz
      · exact q2
      · exact ltQ_trans q2 (h.1 z hz)
theorem sortQ_sorted : ∀ l : List Sq, l.Nodup → (sortQ l).Pairwise ltQ
  | [], _ => List.Pairwise.nil
  | x :: r, h => by
    rw [List.nodup_cons] at h
    exact insQ_sorted x _ (sortQ_sorted r h.2) fun q => h.1 ((sortQ_perm r).mem_iff.mp q)
theorem mem_sortQ {x : Sq} {l : List Sq} : x ∈ sortQ l ↔ x ∈ l := (sortQ_perm l).mem_iff
theorem asc_nodup {R : List Sq} (hs : R.Pairwise ltQ) : R.Nodup := List.Pairwise.imp (S := fun a b => a ≠ b) (fun {a b} h (e : a = b) => ltQ_irrefl b (by rw [e] at h; exact h)) hs
theorem alk_Qs (l : List Sq) : alkAll (l.map eQ) = true := by
  unfold alkAll
  rw [Bool.and_eq_true, List.all_eq_true, List.all_eq_true]
  refine ⟨fun d hd => ?_, fun d hd => ?_⟩
  · obtain ⟨n, _, rfl⟩ := List.mem_map.mp hd
    exact okD_Q n
  · obtain ⟨n, _, rfl⟩ := List.mem_map.mp hd
    rw [List.all_eq_true]
    intro d hd
    obtain ⟨m, _, rfl⟩ := List.mem_map.mp hd
    rfl
theorem sortD_Q (l : List Sq) : sortD (l.map eQ) = some ((sortQ l).map eQ) := by
  unfold sortD
  have h1 : (l.map eQ).all isTupC = true := by
    rw [List.all_eq_true]
    intro d hd
    obtain ⟨s, _, rfl⟩ := List.mem_map.mp hd
    rfl
  rw [alk_Qs, h1, sortB_Q]
  rfl
theorem sorted_QL (l : List Sq) : primD .sorted [eQL l] = some (eQL (sortQ l)) := by
  show (sortD (l.map eQ)).map D.lst = _
  rw [sortD_Q]; rfl
theorem sorted_QT (l : List Sq) : primD .sorted [eQT l] = some (eQL (sortQ l)) := by
  show (sortD (l.map eQ)).map D.lst = _
  rw [sortD_Q]; rfl
theorem put_is {R : List Sq} {q : Sq} (hs : R.Pairwise ltQ) (hq : q ∉ R) : IsPut R q (sortQ (R ++ [q])) := by
  refine ⟨sortQ_sorted _ ?_, fun x => ?_⟩
  · rw [List.nodup_append]
    exact ⟨asc_nodup hs, by simp, fun a ha b hb e => hq (by rw [List.mem_singleton] at hb; subst hb; subst e; exact ha)⟩
  · rw [mem_sortQ, List.mem_append, List.mem_singleton]
theorem sub_put {h w : Nat} {R : List Sq} {q : Sq} (hR : R.Sublist (squares h w)) (h1 : q.1 < h) (h2 : q.2 < w) (hq : q ∉ R) : (sortQ (R ++ [q])).Sublist (squares h w) := by
  have p := put_is ((squares_sorted h w).sublist hR) hq
  have e : sortQ (R ++ [q]) = (squares h w).filter fun x => decide (x ∈ R ∨ x = q) := by
    refine sorted_ext ltQ_irrefl ltQ_trans p.1 ((squares_sorted h w).sublist List.filter_sublist) fun x => ?_
    rw [p.2, List.mem_filter, decide_eq_true_iff]
    constructor
    · rintro (hx | rfl)
      · exact ⟨hR.subset hx, .inl hx⟩
      · exact ⟨mem_squares.mpr ⟨h1, h2⟩, .inr rfl⟩
    · exact fun h => h.2
  rw [e]
  exact List.filter_sublist
/-- a field with a rock more -/
def putF (f : Fld) (q : Sq) : Fld := ⟨f.h, f.w, sortQ (f.r ++ [q])⟩
theorem putF_ok {f : Fld} (ok : f.Ok) {q : Sq} (h1 : q.1 < f.h) (h2 : q.2 < f.w) (hq : q ∉ f.r) : (putF f q).Ok := ⟨ok.h1, ok.h6, ok.w1, ok.w6, sub_put ok.r h1 h2 hq⟩
def lessF (f : Fld) (q : Sq) : Fld := ⟨f.h, f.w, less f.r q⟩
theorem lessF_ok {f : Fld} (ok : f.Ok) (q : Sq) : (lessF f q).Ok := ⟨ok.h1, ok.h6, ok.w1, ok.w6, (less_sub _ _).trans ok.r⟩
theorem all_len {f : Fld} (ok : f.Ok) : (allS f).length ≤ 117649 := by
  unfold allS
  rw [← fold_SB]
  have := fold_len (allB f.h f.w) (fun p hp => ((all_small ok.h6 ok.w6).mem hp).2) [[]]
  have h2 : 7 ^ (allB f.h f.w).length ≤ 7 ^ 6 := Nat.pow_le_pow_right (by omega) (by rw [allB_len]; exact ok.h6)
  simp at this
  omega
theorem fold_ge (R : List Sq) : ∀ (S : List Sq) (F : List (List Sq)), F.length ≤ (S.foldl (stepL R) F).length
  | [], _ => Nat.le_refl _
  | r :: S, F => by
    rw [List.foldl_cons]
    refine Nat.le_trans ?_ (fold_ge R S _)
    unfold stepL
    rw [List.length_append]
    omega
theorem lots_len {f : Fld} (ok : f.Ok) : (lotsN f.r).length ≤ 117649 := Nat.le_trans (lots_le ok) (all_len ok)
def S_up (φ : Phi) := ∀ a b : Sq, To φ 24 [eQ a, eQ b] (.bl (up a b))
theorem up_run (a b : Sq) : Runs φ b_up_left 2 [eQ a, eQ b] (.bl (up a b)) :=
  Runs.of (St.rt (St.ret (V.and (V.cmp (V.idx (V.slot rfl) V.cst idx_Q0) (V.idx (V.slot rfl) V.cst idx_Q0) (cN_le _ _)) fun _ => V.cmp (V.idx (V.slot rfl) V.cst idx_Q1) (V.idx (V.slot rfl) V.cst idx_Q1) (cN_le _ _))))
theorem cQ_ne (a b : Sq) : cmpD .ne (eQ a) (eQ b) = some (.bl (!decide (a = b))) := by
  show (if okD okDep (eQ a) && okD okDep (eQ b) then some (D.bl (!eqD (eQ a) (eQ b))) else none) = _
  rw [okD_Q, okD_Q, eqD_Q]
  show some (D.bl (!(a.1 == b.1 && a.2 == b.2))) = _
  congr 3
  rw [Bool.eq_iff_iff, Bool.and_eq_true, beq_iff_eq, beq_iff_eq, decide_eq_true_iff, Prod.ext_iff]
def eLL (F : List (List Sq)) : D := .lst (F.map eQT)
def S_lots (φ : Phi) := ∀ f : Fld, f.Ok → To φ 142 [eF f] (eLL (lotsN f.r))
theorem lots_of_run (h24 : S_up φ) {f : Fld} (ok : f.Ok) : Runs φ b_lots_of 6 [eF f] (eLL (lotsN f.r)) := by
  have ll := lots_len ok
  have len := ok.len
  refine Runs.of (St.seq (St.asg (V.lst (Vs.cons (V.tup Vs.nil) Vs.nil)) rfl) ?_)
  obtain ⟨ρ', e, x2, x3, rfl⟩ := St.for (φ := φ) (t := .name 2) (k := .val) (it := .cons (.idx (.slot 0) (.cst (.int 2))) .nil) (enc := eQ)
    (ρ := [some (.val (eF f)), some (.val (eLL [[]])), none, none, none, none])
    (b := (.seq (.asg (.name 3) (.comp [4] (.name 4) .val (.cons (.idx (.slot 0) (.cst (.int 2))) .nil) (.and (.cmp .ne (.slot 4) (.slot 2)) (.call 24 (.cons (.slot 4) (.cons (.slot 2) .nil)))) (.slot 4)))
      (.seq (.asg (.name 1) (.bin .add (.slot 1) (.comp [5] (.name 5) .val (.cons (.slot 1) .nil) (.prim .all (.cons (.comp [4] (.name 4) .val (.cons (.slot 3) .nil) (.cst (.bl true)) (.cmp .mem (.slot 4) (.slot 5))) .nil)) (.bin .add (.slot 5) (.tup (.cons (.slot 2) .nil))))))
      .skip)))
    f.r (fun d ρ => ∃ x2 x3, ρ = [some (.val (eF f)), some (.val (eLL (d.foldl (stepL f.r) [[]]))), x2, x3, none, none])
    (Vs.cons (V.idx (V.slot rfl) V.cst idx_F2) Vs.nil) rfl ⟨_, _, rfl⟩ (by
      rintro d1 r d2 ρ hd ⟨x2, x3, rfl⟩
      have lb : (stepL f.r (d1.foldl (stepL f.r) [[]]) r).length ≤ 117649 := by
        refine Nat.le_trans ?_ ll
        have := fold_ge f.r d2 (stepL f.r (d1.foldl (stepL f.r) [[]]) r)
        have e2 : lotsN f.r = d2.foldl (stepL f.r) (stepL f.r (d1.foldl (stepL f.r) [[]]) r) := by
          unfold lotsN
          generalize f.r = R at hd ⊢
          conv => lhs; rw [hd]
          rw [List.foldl_append, List.foldl_cons]
          rw [← hd]
        rw [e2]
        exact this
      have sub : ∀ L ∈ d1.foldl (stepL f.r) [[]], L.length ≤ 36 := fun L hL => by
        have := ((fold_lots ok.sorted d1 [] [[]] (R := f.r)) : _)
        have h2 : ∀ (S : List Sq) (F : List (List Sq)) (n : Nat), (∀ L ∈ F, L.length ≤ n) → ∀ L ∈ S.foldl (stepL f.r) F, L.length ≤ n + S.length := by
          intro S
          induction S with
          | nil => intro F n h L hL; exact h L hL
          | cons x S ih =>
            intro F n h L hL
            have := ih (stepL f.r F x) (n + 1) (fun M hM => by
              unfold stepL at hM
              rcases List.mem_append.mp hM with hM | hM
              · have := h M hM; omega
              · obtain ⟨N, hN, rfl⟩ := List.mem_map.mp hM
                have := h N (List.mem_filter.mp hN).1
                rw [List.length_append]
                simp
                omega) L hL
            rw [List.length_cons]
            omega
        have := h2 d1 [[]] 0 (by simp) L hL
        have h3 := congrArg List.length hd
        rw [List.length_append, List.length_cons] at h3
        omega
      generalize hF : d1.foldl (stepL f.r) [[]] = F at lb sub
      refine ⟨_, ⟨_, rfl, .inl (St.seq (St.asg (V.comp (enc := eQ) (p := fun o => !decide (o = r) && up o r) (g := eQ) f.r (Vs.cons (V.idx (V.slot rfl) V.cst idx_F2) Vs.nil) rfl (fun x _ => rfl) (fun o ho => V.and (V.cmp (V.slot rfl) (V.slot rfl) (cQ_ne o r)) fun _ => V.call (Vs.cons (V.slot rfl) (Vs.cons (V.slot rfl) Vs.nil)) (h24 o r)) (fun o _ _ => V.slot rfl)) rfl)
        (St.seq (St.asg (V.bin (V.slot rfl) (V.comp (enc := eQT) (p := fun L => (needsN f.r r).all fun o => hasQ o L) (g := fun L => eQT (L ++ [r])) F (Vs.cons (V.slot rfl) Vs.nil) rfl (fun x _ => rfl)
          (fun L hL => V.prim (Vs.cons (V.compA (enc := eQ) (g := fun o => .bl (hasQ o L)) (needsN f.r r) (Vs.cons (V.slot rfl) Vs.nil) rfl (fun x _ => rfl) (fun o ho => V.cmp (V.slot rfl) (V.slot rfl) (memT_Qs o L))) Vs.nil) all_bls)
          (fun L hL _ => V.bin (V.slot rfl) (V.tup (Vs.cons (V.slot rfl) Vs.nil)) ?_)) (add_L ?_)) rfl) St.skip))⟩, some (.val (eQ r)), some (.val (eQL (needsN f.r r))), ?_⟩
      · show (if (L.map eQ).length + 1 ≤ LIM then some (D.tup (L.map eQ ++ [eQ r])) else none) = _
        have := sub L hL
        rw [if_pos (by rw [List.length_map]; unfold LIM; omega)]
        simp [eQT]
      · rw [List.length_map, List.length_map]
        unfold stepL at lb
        rw [List.length_append, List.length_map] at lb
        unfold LIM
        omega
      · rw [List.foldl_append, hF]
        simp [eLL, stepL, setE, needsN, eQL, Function.comp_def])
  exact St.seq e (St.rt (St.ret (V.slot rfl)))
end Ev

set_option maxHeartbeats 4000000
namespace Ev
open PySem
variable {φ : Phi}
theorem lenL {α : Type} {enc : α → D} (l : List α) : primD .len [.lst (l.map enc)] = some (eN l.length) := by simp [primD, lenD, eN]
theorem St.frz {ρ : Env} {i : Nat} {d : D} (h : ρ[i]? = some (some (.own d))) : St φ ρ (.frz i) (.nx (setE ρ i (some (.val d)))) := fun m => by simp only [evS, h]
theorem turn_rt {φ : Phi} {t : T} {b : S} {x d : D} {ρ ρ1 : Env} (e1 : putT t x ρ = some ρ1) (e2 : St φ ρ1 b (.rt d)) (r : List D) (m : Mem) : forL (turnG φ t b) [] (x :: r) ρ m = .ok (.rt d) m := by
  show ((Out.of m (putT t x ρ)).bind fun ρ1 m => evS φ b ρ1 m).bind _ = _
  rw [e1]
  show (evS φ b ρ1 m).bind _ = _
  rw [e2 m]; rfl
/-- a for that returns at one of its items -/
theorem St.forRt {φ : Phi} {ρ : Env} {ds : List D} {α : Type} {enc : α → D} {t : T} {k : ItK} {it : E} {b : S} {d : D} (l : List α) (y : α) (l2 : List α) (I : List α → Env → Prop) (hi : Vs φ ρ it ds) (hk : itemsD k ds = some ((l ++ y :: l2).map enc)) (h0 : I [] ρ)
    (st : ∀ (d1 : List α) x d2 ρ, l = d1 ++ x :: d2 → I d1 ρ → ∃ ρ', Goes φ t b (enc x) ρ ρ' ∧ I (d1 ++ [x]) ρ') (sb : ∀ ρ, I l ρ → ∃ ρ1, putT t (enc y) ρ = some ρ1 ∧ St φ ρ1 b (.rt d)) : St φ ρ (.for [] t k it b) (.rt d) := by
  obtain ⟨ρ2, e, h⟩ := forL_app (φ := φ) (t := t) (b := b) (enc := enc) I l [] ρ h0 st
  obtain ⟨ρ1, e1, e2⟩ := sb ρ2 h
  intro m
  show (evE φ it ρ m).bind _ = _
  rw [hi m]
  show (Out.of m (itemsD k ds)).bind _ = _
  rw [hk, List.map_append, List.map_cons]
  refine (e m _).trans ?_
  exact turn_rt e1 e2 _ m
theorem split_first {α : Type} (p : α → Bool) : ∀ l : List α, (∃ x ∈ l, p x = true) → ∃ l1 y l2, l = l1 ++ y :: l2 ∧ (∀ x ∈ l1, p x = false) ∧ p y = true
  | [], h => by obtain ⟨x, hx, _⟩ := h; cases hx
  | x :: l, h => by
    cases hp : p x with
    | true => exact ⟨[], x, l, rfl, fun _ h => (by cases h), hp⟩
    | false =>
      obtain ⟨l1, y, l2, e, a, b⟩ := split_first p l (by
        obtain ⟨z, hz, h2⟩ := h
        rcases List.mem_cons.mp hz with rfl | hz
        · rw [hp] at h2; cases h2
        · exact ⟨z, hz, h2⟩)
      exact ⟨x :: l1, y, l2, by rw [e]; rfl, fun z hz => by
        rcases List.mem_cons.mp hz with rfl | hz
        · exact hp
        · exact a z hz, b⟩
/-- a rock up and left of x that is not in the list -/
def badB (R l : List Sq) (x : Sq) : Bool := R.any fun o => up o x && !hasQ o l
theorem down_bad {R l : List Sq} : Down R l ↔ ∀ x ∈ l, badB R l x = false := by
  unfold Down badB
  refine ⟨fun h x hx => ?_, fun h x hx o ho u => ?_⟩
  · rw [List.any_eq_false]
    intro o ho
    rw [Bool.and_eq_true, Bool.not_eq_true', ← Bool.not_eq_true, hasQ_iff]
    exact fun g => g.2 (h x hx o ho g.1)
  · have := h x hx
    rw [List.any_eq_false] at this
    have := this o ho
    rw [Bool.and_eq_true, Bool.not_eq_true', ← Bool.not_eq_true, hasQ_iff] at this
    exact Classical.byContradiction fun n => this ⟨u, n⟩
def S_is_lot (φ : Phi) := ∀ (f : Fld) (l : List Sq), (∀ x ∈ l, x ∈ f.r) → To φ 146 [eF f, eQT l] (.bl (decide (Down f.r l)))
theorem any_bls {α : Type} {l : List α} {p : α → Bool} : primD .any [.lst (l.map fun x => D.bl (p x))] = some (.bl (l.any p)) := by
  have : ∀ l : List α, blsOf (l.map fun x => D.bl (p x)) = some (l.map p) := by
    intro l
    induction l with
    | nil => rfl
    | cons x l ih =>
      show (blsOf (l.map fun x => D.bl (p x))).map (p x :: ·) = _
      rw [ih]; rfl
  show (blsOf (l.map fun x => D.bl (p x))).map (fun bs => D.bl (bs.any id)) = _
  rw [this]
  show some (D.bl ((l.map p).any id)) = _
  rw [List.any_map]
  rfl
theorem is_lot_of_run (h24 : S_up φ) (f : Fld) (l : List Sq) (hl : ∀ x ∈ l, x ∈ f.r) : Runs φ b_is_lot_of 4 [eF f, eQT l] (.bl (decide (Down f.r l))) := by
  have bad : ∀ (ρ : Env) (x : Sq), ρ[0]? = some (some (.val (eF f))) → ρ[1]? = some (some (.val (eQT l))) → ρ[2]? = some (some (.val (eQ x))) → ρ.length = 4 →
      V φ ρ (.prim .any (.cons (.comp [3] (.name 3) .val (.cons (.idx (.slot 0) (.cst (.int 2))) .nil) (.cst (.bl true)) (.and (.call 24 (.cons (.slot 3) (.cons (.slot 2) .nil))) (.cmp .nmem (.slot 3) (.slot 1)))) .nil)) (.bl (badB f.r l x)) := by
    intro ρ x h0 h1 h2 hlen
    obtain ⟨a, b, c, d, rfl⟩ : ∃ a b c d, ρ = [a, b, c, d] := by
      match ρ, hlen with
      | [a, b, c, d], _ => exact ⟨a, b, c, d, rfl⟩
    cases h0; cases h1; cases h2
    exact V.prim (Vs.cons (V.compA (enc := eQ) (g := fun o => .bl (up o x && !hasQ o l)) f.r (Vs.cons (V.idx (V.slot rfl) V.cst idx_F2) Vs.nil) rfl (fun x _ => rfl) (fun o ho => V.and (V.call (Vs.cons (V.slot rfl) (Vs.cons (V.slot rfl) Vs.nil)) (h24 o x)) fun _ => V.cmp (V.slot rfl) (V.slot rfl) (nmemT_Qs o l))) Vs.nil) any_bls
  refine Runs.of (St.seq (St.iteF (x := .bl false) (V.not (t := true) (V.prim (Vs.cons (V.compA (enc := eQ) (g := fun x => .bl (hasQ x f.r)) l (Vs.cons (V.slot rfl) Vs.nil) rfl (fun x _ => rfl) (fun x hx => V.cmp (V.slot rfl) (V.idx (V.slot rfl) V.cst idx_F2) (memT_Qs x f.r))) Vs.nil) ?_)) rfl St.skip) ?_)
  · have := all_bls (l := l) (p := fun x => hasQ x f.r)
    rw [this]
    have e : l.all (fun x => hasQ x f.r) = true := List.all_eq_true.mpr fun x hx => hasQ_iff.mpr (hl x hx)
    rw [e]
  · by_cases h : Down f.r l
    · rw [decide_eq_true h]
      have hb := down_bad.mp h
      obtain ⟨ρ', e, x2, rfl⟩ := St.for (φ := φ) (t := .name 2) (k := .val) (it := .cons (.slot 1) .nil) (enc := eQ) (ρ := [some (.val (eF f)), some (.val (eQT l)), none, none])
        (b := (.seq (.ite (.prim .any (.cons (.comp [3] (.name 3) .val (.cons (.idx (.slot 0) (.cst (.int 2))) .nil) (.cst (.bl true)) (.and (.call 24 (.cons (.slot 3) (.cons (.slot 2) .nil))) (.cmp .nmem (.slot 3) (.slot 1)))) .nil)) (.seq (.ret (.cst (.bl false)))
          .skip) .skip)
          .skip))
        l (fun d ρ => ∃ x2, ρ = [some (.val (eF f)), some (.val (eQT l)), x2, none]) (Vs.cons (V.slot rfl) Vs.nil) rfl ⟨_, rfl⟩ (by
          rintro d1 x d2 ρ hd ⟨x2, rfl⟩
          have := bad [some (.val (eF f)), some (.val (eQT l)), some (.val (eQ x)), none] x rfl rfl rfl rfl
          rw [hb x (by rw [hd]; simp)] at this
          exact ⟨_, ⟨_, rfl, .inl (St.seq (St.iteF this rfl St.skip) St.skip)⟩, _, rfl⟩)
      exact St.seq e (St.rt (St.ret V.cst))
    · rw [decide_eq_false h]
      have hb : ∃ x ∈ l, badB f.r l x = true := by
        refine Classical.byContradiction fun n => h (down_bad.mpr fun x hx => ?_)
        cases q : badB f.r l x with
        | false => rfl
        | true => exact absurd ⟨x, hx, q⟩ n
      obtain ⟨l1, y, l2, e, g1, g2⟩ := split_first _ l hb
      refine St.rt (St.forRt (enc := eQ) l1 y l2 (fun d ρ => ∃ x2, ρ = [some (.val (eF f)), some (.val (eQT l)), x2, none]) (Vs.cons (V.slot rfl) Vs.nil) (by rw [← e]; rfl) ⟨_, rfl⟩ (by
          rintro d1 x d2 ρ hd ⟨x2, rfl⟩
          have := bad [some (.val (eF f)), some (.val (eQT l)), some (.val (eQ x)), none] x rfl rfl rfl rfl
          rw [g1 x (by rw [hd]; simp)] at this
          exact ⟨_, ⟨_, rfl, .inl (St.seq (St.iteF this rfl St.skip) St.skip)⟩, _, rfl⟩) (by
          rintro ρ ⟨x2, rfl⟩
          have := bad [some (.val (eF f)), some (.val (eQT l)), some (.val (eQ y)), none] y rfl rfl rfl rfl
          rw [g2] at this
          exact ⟨_, rfl, St.rt (St.iteT this rfl (St.rt (St.ret V.cst)))⟩))
def insLL (x : List Sq) : List (List Sq) → List (List Sq)
  | [] => [x]
  | y :: r => if ltB (eQT y) (eQT x) then y :: insLL x r else x :: y :: r
def sortLL : List (List Sq) → List (List Sq)
  | [] => []
  | x :: r => insLL x (sortLL r)
theorem insB_LL (x : List Sq) : ∀ l : List (List Sq), insB (eQT x) (l.map eQT) = (insLL x l).map eQT
  | [] => rfl
  | y :: r => by
    show (if ltB (eQT y) (eQT x) then eQT y :: insB (eQT x) (r.map eQT) else eQT x :: eQT y :: r.map eQT) = (if ltB (eQT y) (eQT x) then y :: insLL x r else x :: y :: r).map eQT
    rw [insB_LL x r]
    split <;> rfl
theorem sortB_LL : ∀ l : List (List Sq), sortB (l.map eQT) = (sortLL l).map eQT
  | [] => rfl
  | x :: r => by
    show insB (eQT x) (sortB (r.map eQT)) = _
    rw [sortB_LL r, insB_LL]
    rfl
theorem insLL_perm (x : List Sq) : ∀ l, (insLL x l).Perm (x :: l)
  | [] => List.Perm.refl _
  | y :: r => by
    show (if ltB (eQT y) (eQT x) then y :: insLL x r else x :: y :: r).Perm _
    split
    · exact ((insLL_perm x r).cons y).trans (List.Perm.swap x y r)
    · exact List.Perm.refl _
theorem sortLL_perm : ∀ l, (sortLL l).Perm l
  | [] => List.Perm.refl _
  | x :: r => (insLL_perm x _).trans ((sortLL_perm r).cons x)
theorem alkDs_Q : ∀ a b : List Sq, alkDs (a.map eQ) (b.map eQ) = true
  | [], [] => rfl
  | [], _ :: _ => rfl
  | _ :: _, [] => rfl
  | x :: a, y :: b => alkDs_Q a b
theorem okD_QT (l : List Sq) : okD okDep (eQT l) = true := by
  show (l.map eQ).all (okD 11) = true
  rw [List.all_eq_true]
  intro d hd
  obtain ⟨q, _, rfl⟩ := List.mem_map.mp hd
  rfl
theorem sorted_LL (F : List (List Sq)) : primD .sorted [eLL F] = some (eLL (sortLL F)) := by
  show (if alkAll (F.map eQT) && ((F.map eQT).all isTupC || (F.map eQT).all noTup) then some (sortB (F.map eQT)) else none).map D.lst = _
  have h1 : alkAll (F.map eQT) = true := by
    unfold alkAll
    rw [Bool.and_eq_true, List.all_eq_true, List.all_eq_true]
    refine ⟨fun d hd => ?_, fun d hd => ?_⟩
    · obtain ⟨n, _, rfl⟩ := List.mem_map.mp hd
      exact okD_QT n
    · obtain ⟨n, _, rfl⟩ := List.mem_map.mp hd
      rw [List.all_eq_true]
      intro d hd
      obtain ⟨m, _, rfl⟩ := List.mem_map.mp hd
      exact alkDs_Q n m
  have h2 : (F.map eQT).all isTupC = true := by
    rw [List.all_eq_true]
    intro d hd
    obtain ⟨n, _, rfl⟩ := List.mem_map.mp hd
    rfl
  rw [h1, h2, sortB_LL]
  rfl
theorem snoc_Q {l : List Sq} {q : Sq} (h : l.length ≤ 1000) : binD .add (eQT l) (.tup [eQ q]) = some (eQT (l ++ [q])) := by
  show (if (l.map eQ).length + 1 ≤ LIM then some (D.tup (l.map eQ ++ [eQ q])) else none) = _
  rw [if_pos (by rw [List.length_map]; unfold LIM; omega)]
  simp [eQT]
def JL (R : List Sq) (q : Sq) : List (List Sq) := (sortLL (lotsN R)).filter (joinB R q)
theorem JL_len (R : List Sq) (q : Sq) : (JL R q).length = (joinsN R q).length := ((sortLL_perm (lotsN R)).filter _).length_eq
def eJ (q : Sq) (L : List Sq) : D := .tup [eQT L, eQT (sortQ (L ++ [q]))]
theorem join_down {R : List Sq} (hs : R.Pairwise ltQ) {q : Sq} (hq : q ∈ R) {L : List Sq} (hL : L ∈ lotsN R) (nq : q ∉ L) : decide (Down R (sortQ (L ++ [q]))) = joinB R q L := by
  obtain ⟨a, b⟩ := (mem_lots hs).mp hL
  rw [Bool.eq_iff_iff, decide_eq_true_iff, joinB_iff]
  constructor
  · refine fun h => ⟨nq, fun o ho ne u => ?_⟩
    have := h q (mem_sortQ.mpr (by simp)) o ho u
    rw [mem_sortQ, List.mem_append, List.mem_singleton] at this
    exact this.resolve_right ne
  · rintro ⟨_, h⟩ x hx o ho u
    rw [mem_sortQ, List.mem_append, List.mem_singleton] at *
    rcases hx with hx | rfl
    · exact .inl (b x hx o ho u)
    · by_cases e : o = x
      · exact .inr e
      · exact .inl (h o ho e u)
def S_joins (φ : Phi) := ∀ (f : Fld) (q : Sq), f.Ok → q ∈ f.r → To φ 207 [eF f, eQ q] (.lst ((JL f.r q).map (eJ q)))
theorem joins_of_run (h1 : S_lots φ) (h2 : S_is_lot φ) {f : Fld} {q : Sq} (ok : f.Ok) (hq : q ∈ f.r) : Runs φ b_joins_of 5 [eF f, eQ q] (.lst ((JL f.r q).map (eJ q))) := by
  have ll := lots_len ok
  have len := ok.len
  have sl := (sortLL_perm (lotsN f.r)).length_eq
  refine Runs.of (St.seq (St.own (V.lst Vs.nil) (by simp [startE])) ?_)
  obtain ⟨ρ', e, x3, x4, rfl⟩ := St.for (φ := φ) (t := .name 3) (k := .val) (it := .cons (.prim .sorted (.cons (.call 142 (.cons (.slot 0) .nil)) .nil)) .nil) (enc := eQT)
    (ρ := [some (.val (eF f)), some (.val (eQ q)), some (.own (.lst (([] : List (List Sq)).map (eJ q)))), none, none])
    (b := (.seq (.ite (.cmp .nmem (.slot 1) (.slot 3)) (.seq (.asg (.name 4) (.prim .tuple (.cons (.prim .sorted (.cons (.bin .add (.slot 3) (.tup (.cons (.slot 1) .nil))) .nil)) .nil)))
      (.seq (.ite (.call 146 (.cons (.slot 0) (.cons (.slot 4) .nil))) (.seq (.app 2 (.tup (.cons (.slot 3) (.cons (.slot 4) .nil))))
      .skip) .skip)
      .skip)) .skip)
      .skip))
    (sortLL (lotsN f.r)) (fun d ρ => ∃ x3 x4, ρ = [some (.val (eF f)), some (.val (eQ q)), some (.own (.lst ((d.filter (joinB f.r q)).map (eJ q)))), x3, x4])
    (Vs.cons (V.prim (Vs.cons (V.call (Vs.cons (V.slot rfl) Vs.nil) (h1 f ok)) Vs.nil) (sorted_LL _)) Vs.nil) rfl ⟨_, _, rfl⟩ (by
      rintro d1 L d2 ρ hd ⟨x3, x4, rfl⟩
      have hL : L ∈ lotsN f.r := (sortLL_perm _).mem_iff.mp (by rw [hd]; simp)
      have hsub := ((mem_lots ok.sorted).mp hL).1
      have hLl := hsub.length_le
      have dl : (d1.filter (joinB f.r q)).length ≤ 117649 := by
        have a := List.length_filter_le (joinB f.r q) d1
        have b := congrArg List.length hd
        rw [List.length_append] at b
        omega
      by_cases nq : q ∈ L
      · refine ⟨_, ⟨_, rfl, .inl (St.seq (St.iteF (V.cmp (V.slot rfl) (V.slot rfl) (nmemT_Qs q L)) (by rw [hasQ_iff.mpr nq]; rfl) St.skip) St.skip)⟩, some (.val (eQT L)), x4, ?_⟩
        rw [List.filter_append, List.filter_cons_of_neg (by rw [joinB_iff]; exact fun g => g.1 nq)]
        simp [setE]
      · have hn : hasQ q L = false := by rw [← Bool.not_eq_true, hasQ_iff]; exact nq
        have il := h2 f (sortQ (L ++ [q])) (fun x hx => by
          rw [mem_sortQ, List.mem_append, List.mem_singleton] at hx
          rcases hx with hx | rfl
          · exact hsub.subset hx
          · exact hq)
        rw [join_down ok.sorted hq hL nq] at il
        have c1 := nmemT_Qs q L
        rw [hn] at c1
        have va : ∀ (ρ : Env), ρ[3]? = some (some (.val (eQT L))) → ρ[1]? = some (some (.val (eQ q))) → V φ ρ (.prim .tuple (.cons (.prim .sorted (.cons (.bin .add (.slot 3) (.tup (.cons (.slot 1) .nil))) .nil)) .nil)) (eQT (sortQ (L ++ [q]))) := fun ρ g3 g1 =>
          V.prim (Vs.cons (V.prim (Vs.cons (V.bin (V.slot g3) (V.tup (Vs.cons (V.slot g1) Vs.nil)) (snoc_Q (by omega))) Vs.nil) (sorted_QT _)) Vs.nil) rfl
        cases hj : joinB f.r q L with
        | true =>
          rw [hj] at il
          refine ⟨_, ⟨_, rfl, .inl (St.seq (St.iteT (V.cmp (V.slot rfl) (V.slot rfl) c1) rfl (St.seq (St.asg (va _ rfl rfl) rfl) (St.seq (St.iteT (V.call (Vs.cons (V.slot rfl) (Vs.cons (V.slot rfl) Vs.nil)) il) rfl (St.seq (St.app (V.tup (Vs.cons (V.slot rfl) (Vs.cons (V.slot rfl) Vs.nil))) rfl ?_) St.skip)) St.skip))) St.skip)⟩, some (.val (eQT L)), some (.val (eQT (sortQ (L ++ [q])))), ?_⟩
          · rw [List.length_map]; unfold LIM; omega
          · rw [List.filter_append, List.filter_cons_of_pos hj]
            simp [setE, eJ]
        | false =>
          rw [hj] at il
          refine ⟨_, ⟨_, rfl, .inl (St.seq (St.iteT (V.cmp (V.slot rfl) (V.slot rfl) c1) rfl (St.seq (St.asg (va _ rfl rfl) rfl) (St.seq (St.iteF (V.call (Vs.cons (V.slot rfl) (Vs.cons (V.slot rfl) Vs.nil)) il) rfl St.skip) St.skip))) St.skip)⟩, some (.val (eQT L)), some (.val (eQT (sortQ (L ++ [q])))), ?_⟩
          rw [List.filter_append, List.filter_cons_of_neg (by rw [hj]; simp)]
          simp [setE])
  exact St.seq e (St.seq (St.frz rfl) (St.rt (St.ret (V.slot rfl))))
def S_free (φ : Phi) := ∀ f : Fld, f.Ok → To φ 13 [eF f] (eQL ((squares f.h f.w).filter fun q => !hasQ q f.r))
theorem free_of_run (h12 : S_squares φ 12) {f : Fld} (ok : f.Ok) : Runs φ b_free_of 2 [eF f] (eQL ((squares f.h f.w).filter fun q => !hasQ q f.r)) := by
  have okh6 := ok.h6; have okw6 := ok.w6
  exact Runs.of (St.rt (St.ret (V.comp (enc := eQ) (p := fun q => !hasQ q f.r) (g := eQ) (squares f.h f.w) (Vs.cons (V.call (Vs.cons (V.idx (V.slot rfl) V.cst idx_F0) (Vs.cons (V.idx (V.slot rfl) V.cst idx_F1) Vs.nil)) (h12 _ _ (by omega) (by omega))) Vs.nil) rfl (fun x _ => rfl) (fun q _ => V.cmp (V.slot rfl) (V.idx (V.slot rfl) V.cst idx_F2) (nmemT_Qs q f.r)) (fun q _ _ => V.slot rfl))))
theorem free_squares_run (n1 : S_need_field φ) (h : S_free φ) {f : Fld} (ok : f.Ok) : Runs φ b_free_squares 1 [eF f] (eQL ((squares f.h f.w).filter fun q => !hasQ q f.r)) :=
  Runs.of (St.seq (V.need n1 ok (V.slot rfl)) (St.rt (St.ret (V.call (Vs.cons (V.slot rfl) Vs.nil) (h f ok)))))
theorem count_kinds_run (n1 : S_need_field φ) (h : S_lots φ) {f : Fld} (ok : f.Ok) : Runs φ b_count_kinds 1 [eF f] (eN (lotsN f.r).length) :=
  Runs.of (St.seq (V.need n1 ok (V.slot rfl)) (St.rt (St.ret (V.prim (Vs.cons (V.call (Vs.cons (V.slot rfl) Vs.nil) (h f ok)) Vs.nil) (lenL _)))))
def S_put (φ : Phi) := ∀ (f : Fld) (q : Sq), f.Ok → To φ 213 [eF f, eQ q] (eF (putF f q))
theorem put_of_run {f : Fld} {q : Sq} (ok : f.Ok) : Runs φ b_put_of 2 [eF f, eQ q] (eF (putF f q)) := by
  have len := ok.len
  exact Runs.of (St.rt (St.ret (V.tup (Vs.cons (V.idx (V.slot rfl) V.cst idx_F0) (Vs.cons (V.idx (V.slot rfl) V.cst idx_F1) (Vs.cons (V.prim (Vs.cons (V.prim (Vs.cons (V.bin (V.idx (V.slot rfl) V.cst idx_F2) (V.tup (Vs.cons (V.slot rfl) Vs.nil)) (snoc_Q (by omega))) Vs.nil) (sorted_QT _)) Vs.nil) rfl) Vs.nil))))))
def gain (f : Fld) (q : Sq) : Nat := (joinsN (putF f q).r q).length
def fall (f : Fld) (q : Sq) : Nat := (joinsN f.r q).length
theorem len_J (f : Fld) (q : Sq) : primD .len [.lst ((JL f.r q).map (eJ q))] = some (eN (joinsN f.r q).length) := by rw [lenL, JL_len]
section
variable {f : Fld} {q : Sq} (n1 : S_need_field φ) (ok : f.Ok) (n3 : S_need_square φ) (h1 : q.1 < f.h) (h2 : q.2 < f.w)
include n1 ok n3 h1 h2
theorem St.needq {ρ : Env} {b : S} {g : Flow} (g0 : ρ[0]? = some (some (.val (eF f)))) (g1 : ρ[1]? = some (some (.val (eQ q)))) (h : St φ ρ b g) : St φ ρ (.seq (.expr (.call 8 (.cons (.slot 0) .nil))) (.seq (.expr (.call 18 (.cons (.slot 0) (.cons (.slot 1) .nil)))) b)) g :=
  St.seq (V.need n1 ok (V.slot g0)) (St.seq (St.expr (V.call (Vs.cons (V.slot g0) (Vs.cons (V.slot g1) Vs.nil)) (n3 f q ok h1 h2))) h)
theorem count_new_run (hq : q ∉ f.r) (hp : S_put φ) (hj : S_joins φ) : Runs φ b_count_new 2 [eF f, eQ q] (eN (gain f q)) := by
  have c := memT_Qs q f.r
  rw [show hasQ q f.r = false by rw [← Bool.not_eq_true, hasQ_iff]; exact hq] at c
  exact Runs.of (St.needq n1 ok n3 h1 h2 rfl rfl (St.seq (St.iteF (V.cmp (V.slot rfl) (V.idx (V.slot rfl) V.cst idx_F2) c) rfl St.skip) (St.rt (St.ret (V.prim (Vs.cons (V.call (Vs.cons (V.call (Vs.cons (V.slot rfl) (Vs.cons (V.slot rfl) Vs.nil)) (hp f q ok)) (Vs.cons (V.slot rfl) Vs.nil)) (hj (putF f q) q (putF_ok ok h1 h2 hq) ((put_is ok.sorted hq).2 q |>.mpr (.inr rfl)))) Vs.nil) (len_J _ _))))))
theorem put_run (hq : q ∉ f.r) (hp : S_put φ) : Runs φ b_put 2 [eF f, eQ q] (eF (putF f q)) := by
  have c := memT_Qs q f.r
  rw [show hasQ q f.r = false by rw [← Bool.not_eq_true, hasQ_iff]; exact hq] at c
  exact Runs.of (St.needq n1 ok n3 h1 h2 rfl rfl (St.seq (St.iteF (V.cmp (V.slot rfl) (V.idx (V.slot rfl) V.cst idx_F2) c) rfl St.skip) (St.rt (St.ret (V.call (Vs.cons (V.slot rfl) (Vs.cons (V.slot rfl) Vs.nil)) (hp f q ok))))))
theorem joins_run (hq : q ∈ f.r) (hj : S_joins φ) : Runs φ b_joins 2 [eF f, eQ q] (.lst ((JL f.r q).map (eJ q))) := by
  have c := nmemT_Qs q f.r
  rw [hasQ_iff.mpr hq] at c
  exact Runs.of (St.needq n1 ok n3 h1 h2 rfl rfl (St.seq (St.iteF (V.cmp (V.slot rfl) (V.idx (V.slot rfl) V.cst idx_F2) c) rfl St.skip) (St.rt (St.ret (V.call (Vs.cons (V.slot rfl) (Vs.cons (V.slot rfl) Vs.nil)) (hj f q ok hq))))))
theorem taken2_run (hq : q ∈ f.r) (ht : To φ 219 [eF f, eQ q] (eF (lessF f q))) : Runs φ b_taken 2 [eF f, eQ q] (eF (lessF f q)) := by
  have c := nmemT_Qs q f.r
  rw [hasQ_iff.mpr hq] at c
  exact Runs.of (St.needq n1 ok n3 h1 h2 rfl rfl (St.seq (St.iteF (V.cmp (V.slot rfl) (V.idx (V.slot rfl) V.cst idx_F2) c) rfl St.skip) (St.rt (St.ret (V.call (Vs.cons (V.slot rfl) (Vs.cons (V.slot rfl) Vs.nil)) ht)))))
end
theorem count_joined_run {f : Fld} {q : Sq} (h : To φ 208 [eF f, eQ q] (.lst ((JL f.r q).map (eJ q)))) : Runs φ b_count_joined 2 [eF f, eQ q] (eN (fall f q)) :=
  Runs.of (St.rt (St.ret (V.prim (Vs.cons (V.call (Vs.cons (V.slot rfl) (Vs.cons (V.slot rfl) Vs.nil)) h) Vs.nil) (len_J f q))))
theorem taken_of_run {f : Fld} {q : Sq} : Runs φ b_taken_of 3 [eF f, eQ q] (eF (lessF f q)) :=
  Runs.of (St.rt (St.ret (V.tup (Vs.cons (V.idx (V.slot rfl) V.cst idx_F0) (Vs.cons (V.idx (V.slot rfl) V.cst idx_F1) (Vs.cons (V.prim (Vs.cons (V.comp (enc := eQ) (p := fun o => !decide (o = q)) (g := eQ) f.r (Vs.cons (V.idx (V.slot rfl) V.cst idx_F2) Vs.nil) rfl (fun x _ => rfl) (fun o _ => V.cmp (V.slot rfl) (V.slot rfl) (cQ_ne o q)) (fun o _ _ => V.slot rfl)) Vs.nil) rfl) Vs.nil))))))
end Ev

set_option maxHeartbeats 4000000
namespace Ev
open PySem
variable {φ : Phi}
def eB (f : Fld) (L : List Sq) : D := .tup [eS (lowL f.h L), eS (highL f.h f.w f.r L)]
def S_bounds (φ : Phi) := ∀ f : Fld, f.Ok → To φ 314 [eF f] (.lst ((lotsN f.r).map (eB f)))
theorem bounds_run (h1 : S_lots φ) (h2 : S_about φ) (h3 : S_before φ) {f : Fld} (ok : f.Ok) : Runs φ b_bounds 4 [eF f] (.lst ((lotsN f.r).map (eB f))) := by
  have ll := lots_len ok
  have len := ok.len
  refine Runs.of (St.seq (St.own (V.lst Vs.nil) (by simp [startE])) ?_)
  obtain ⟨ρ', e, x2, rfl⟩ := St.for (φ := φ) (t := .name 2) (k := .val) (it := .cons (.call 142 (.cons (.slot 0) .nil)) .nil) (enc := eQT)
    (ρ := [some (.val (eF f)), some (.own (.lst (([] : List (List Sq)).map (eB f)))), none, none])
    (b := (.seq (.app 1 (.tup (.cons (.call 84 (.cons (.slot 0) (.cons (.slot 2) .nil))) (.cons (.call 86 (.cons (.slot 0) (.cons (.comp [3] (.name 3) .val (.cons (.idx (.slot 0) (.cst (.int 2))) .nil) (.cmp .nmem (.slot 3) (.slot 2)) (.slot 3)) .nil))) .nil))))
      .skip))
    (lotsN f.r) (fun d ρ => ∃ x2, ρ = [some (.val (eF f)), some (.own (.lst (d.map (eB f)))), x2, none])
    (Vs.cons (V.call (Vs.cons (V.slot rfl) Vs.nil) (h1 f ok)) Vs.nil) rfl ⟨_, rfl⟩ (by
      rintro d1 L d2 ρ hd ⟨x2, rfl⟩
      have hL : L ∈ lotsN f.r := by rw [hd]; simp
      have hLl := ((mem_lots ok.sorted).mp hL).1.length_le
      have hf := List.length_filter_le (fun o => !hasQ o L) f.r
      refine ⟨_, ⟨_, rfl, .inl (St.seq (St.app (V.tup (Vs.cons (V.call (Vs.cons (V.slot rfl) (Vs.cons (V.slot rfl) Vs.nil)) (h2 f L (eQT L) ok.h6 (by omega) rfl)) (Vs.cons (V.call (Vs.cons (V.slot rfl) (Vs.cons (V.comp (enc := eQ) (p := fun o => !hasQ o L) (g := eQ) f.r (Vs.cons (V.idx (V.slot rfl) V.cst idx_F2) Vs.nil) rfl (fun x _ => rfl) (fun o _ => V.cmp (V.slot rfl) (V.slot rfl) (nmemT_Qs o L)) (fun o _ _ => V.slot rfl)) Vs.nil)) (h3 f _ _ ok.h6 (by omega) rfl)) Vs.nil))) rfl ?_) St.skip)⟩, some (.val (eQT L)), ?_⟩
      · have b := congrArg List.length hd
        rw [List.length_append] at b
        rw [List.length_map]; unfold LIM; omega
      · simp [setE, eB, lowL, highL])
  exact St.seq e (St.seq (St.frz rfl) (St.rt (St.ret (V.slot rfl))))
theorem V.zone {ρ : Env} {A I B C : E} {h w : Nat} {R L : List Sq} {q : Sq} (hA : V φ ρ A (eS (lowL h L))) (hI : V φ ρ I (eN q.1)) (hB : V φ ρ B (eN q.2)) (hC : V φ ρ C (eS (highL h w R L))) (hq : q.1 < h) : V φ ρ (.chn .le .lt (.idx A I) B (.idx C I)) (.bl (zoneB h w R L q)) := by
  have l1 : q.1 < (lowL h L).length := by unfold lowL; rw [aboutN_len]; exact hq
  have l2 : q.1 < (highL h w R L).length := by unfold highL; rw [beforeN_len]; exact hq
  unfold zoneB
  rw [getD_at l1, getD_at l2]
  exact V.chn (V.idx hA hI (idx_S l1)) hB (cN_le _ _) (V.idx hC hI (idx_S l2)) (cN_lt _ _)
def zF (f : Fld) (q : Sq) : Nat := zoneN f.h f.w f.r q
theorem len_ones (f : Fld) (q : Sq) : primD .len [.lst (((lotsN f.r).filter fun L => zoneB f.h f.w f.r L q).map fun _ => eN 1)] = some (eN (zF f q)) := lenL (enc := fun _ => eN 1) _
theorem kinds_about_run (n1 : S_need_field φ) (n3 : S_need_square φ) (hb : S_bounds φ) {f : Fld} {q : Sq} (ok : f.Ok) (h1 : q.1 < f.h) (h2 : q.2 < f.w) : Runs φ b_kinds_about 4 [eF f, eQ q] (eN (zF f q)) :=
  Runs.of (St.needq n1 ok n3 h1 h2 rfl rfl (St.rt (St.ret (V.prim (Vs.cons (V.comp (enc := eB f) (p := fun L => zoneB f.h f.w f.r L q) (g := fun _ => eN 1) (lotsN f.r) (Vs.cons (V.call (Vs.cons (V.slot rfl) Vs.nil) (hb f ok)) Vs.nil) rfl (fun x _ => rfl)
    (fun L _ => V.zone (V.slot rfl) (V.idx (V.slot rfl) V.cst idx_Q0) (V.idx (V.slot rfl) V.cst idx_Q1) (V.slot rfl) h1) (fun L _ _ => V.cst)) Vs.nil) (len_ones f q)))))
def zrow (f : Fld) (i : Nat) : List Nat := (List.range f.w).map fun c => zF f (i, c)
theorem zone_map_run (n1 : S_need_field φ) (hb : S_bounds φ) {f : Fld} (ok : f.Ok) : Runs φ b_zone_map 8 [eF f] (.tup ((List.range f.h).map fun i => eS (zrow f i))) := by
  have okh6 := ok.h6; have okw6 := ok.w6
  refine Runs.of (St.seq (V.need n1 ok (V.slot rfl)) (St.seq (St.asg (V.call (Vs.cons (V.slot rfl) Vs.nil) (hb f ok)) rfl) (St.seq (St.own (V.lst Vs.nil) (by simp [startE, setE])) ?_)))
  obtain ⟨ρ', e, x3, x4, x5, rfl⟩ := St.forR (φ := φ) (t := .name 3) (it := .cons (.idx (.slot 0) (.cst (.int 0))) .nil) (n := f.h)
    (ρ := [some (.val (eF f)), some (.val (.lst ((lotsN f.r).map (eB f)))), some (.own (.lst [])), none, none, none, none, none])
    (b := (.seq (.own 4 (.lst .nil))
      (.seq (.for [] (.name 5) .rng (.cons (.idx (.slot 0) (.cst (.int 1))) .nil) (.seq (.app 4 (.prim .len (.cons (.comp [6, 7] (.tup (.cons (.name 6) (.cons (.name 7) .nil))) .val (.cons (.slot 1) .nil) (.chn .le .lt (.idx (.slot 6) (.slot 3)) (.slot 5) (.idx (.slot 7) (.slot 3))) (.cst (.int 1))) .nil)))
      .skip))
      (.seq (.app 2 (.prim .tuple (.cons (.brw 4) .nil)))
      .skip))))
    (fun i ρ => ∃ x3 x4 x5, ρ = [some (.val (eF f)), some (.val (.lst ((lotsN f.r).map (eB f)))), some (.own (.lst ((List.range i).map fun i => eS (zrow f i)))), x3, x4, x5, none, none])
    (Vs.cons (V.idx (V.slot rfl) V.cst idx_F0) Vs.nil) (by omega) ⟨_, _, _, rfl⟩ (by
      rintro i hi ρ ⟨x3, x4, x5, rfl⟩
      obtain ⟨ρ', e, x5', rfl⟩ := St.forR (φ := φ) (t := .name 5) (it := .cons (.idx (.slot 0) (.cst (.int 1))) .nil) (n := f.w)
        (ρ := [some (.val (eF f)), some (.val (.lst ((lotsN f.r).map (eB f)))), some (.own (.lst ((List.range i).map fun i => eS (zrow f i)))), some (.val (eN i)), some (.own (.lst [])), x5, none, none])
        (b := (.seq (.app 4 (.prim .len (.cons (.comp [6, 7] (.tup (.cons (.name 6) (.cons (.name 7) .nil))) .val (.cons (.slot 1) .nil) (.chn .le .lt (.idx (.slot 6) (.slot 3)) (.slot 5) (.idx (.slot 7) (.slot 3))) (.cst (.int 1))) .nil)))
          .skip))
        (fun c ρ => ∃ x5, ρ = [some (.val (eF f)), some (.val (.lst ((lotsN f.r).map (eB f)))), some (.own (.lst ((List.range i).map fun i => eS (zrow f i)))), some (.val (eN i)), some (.own (.lst ((List.range c).map fun c => eN (zF f (i, c))))), x5, none, none])
        (Vs.cons (V.idx (V.slot rfl) V.cst idx_F1) Vs.nil) (by omega) ⟨_, rfl⟩ (by
          rintro c hc ρ ⟨x5, rfl⟩
          refine ⟨_, ⟨_, rfl, .inl (St.seq (St.app (V.prim (d := eN (zF f (i, c))) (Vs.cons (V.comp (enc := eB f) (p := fun L => zoneB f.h f.w f.r L (i, c)) (g := fun _ => eN 1) (lotsN f.r) (Vs.cons (V.slot rfl) Vs.nil) rfl (fun x _ => rfl)
            (fun L _ => V.zone (q := (i, c)) (V.slot rfl) (V.slot rfl) (V.slot rfl) (V.slot rfl) hi) (fun L _ _ => V.cst)) Vs.nil) (len_ones f (i, c))) rfl ?_) St.skip)⟩, some (.val (eN c)), ?_⟩
          · rw [List.length_map, List.length_range]; unfold LIM; omega
          · simp [setE, List.range_succ])
      refine ⟨_, ⟨_, rfl, .inl (St.seq (St.own (V.lst Vs.nil) (by simp [setE])) (St.seq e (St.seq (St.app (V.prim (d := eS (zrow f i)) (Vs.cons (V.brw rfl) Vs.nil) (by simp [primD, tupP, eS, zrow])) rfl ?_) St.skip)))⟩, some (.val (eN i)), some (.own (.lst ((List.range f.w).map fun c => eN (zF f (i, c))))), x5', ?_⟩
      · rw [List.length_map, List.length_range]; unfold LIM; omega
      · simp [setE, List.range_succ])
  exact St.seq e (St.rt (St.ret (V.prim (Vs.cons (V.brw rfl) Vs.nil) rfl)))
def eP : Option (Nat × Sq) → D
  | none => .non
  | some p => .tup [eN p.1, eQ p.2]
def upd1 (z : Sq → Nat) (b : Option (Nat × Sq)) (q : Sq) : Option (Nat × Sq) := match b with
  | none => some (z q, q)
  | some p => if p.1 < z q then some (z q, q) else some p
def bestU (z : Sq → Nat) (l : List Sq) : Option (Nat × Sq) := l.foldl (upd1 z) none
theorem busiest_run (n1 : S_need_field φ) (h12 : S_squares φ 12) (hb : S_bounds φ) {f : Fld} (ok : f.Ok) : Runs φ b_busiest 7 [eF f] (eP (bestU (zF f) (squares f.h f.w))) := by
  have okh6 := ok.h6; have okw6 := ok.w6
  refine Runs.of (St.seq (V.need n1 ok (V.slot rfl)) (St.seq (St.asg (V.call (Vs.cons (V.slot rfl) Vs.nil) (hb f ok)) rfl) (St.seq (St.asg V.cst rfl) ?_)))
  obtain ⟨ρ', e, x3, x4, rfl⟩ := St.for (φ := φ) (t := .name 3) (k := .val) (it := .cons (.call 12 (.cons (.idx (.slot 0) (.cst (.int 0))) (.cons (.idx (.slot 0) (.cst (.int 1))) .nil))) .nil) (enc := eQ)
    (ρ := [some (.val (eF f)), some (.val (.lst ((lotsN f.r).map (eB f)))), some (.val (eP none)), none, none, none, none])
    (b := (.seq (.asg (.name 4) (.prim .len (.cons (.comp [5, 6] (.tup (.cons (.name 5) (.cons (.name 6) .nil))) .val (.cons (.slot 1) .nil) (.chn .le .lt (.idx (.slot 5) (.idx (.slot 3) (.cst (.int 0)))) (.idx (.slot 3) (.cst (.int 1))) (.idx (.slot 6) (.idx (.slot 3) (.cst (.int 0))))) (.cst (.int 1))) .nil)))
      (.seq (.ite (.or (.cmp .is (.slot 2) (.cst .non)) (.cmp .gt (.slot 4) (.idx (.slot 2) (.cst (.int 0))))) (.seq (.asg (.name 2) (.tup (.cons (.slot 4) (.cons (.slot 3) .nil))))
      .skip) .skip)
      .skip)))
    (squares f.h f.w) (fun d ρ => ∃ x3 x4, ρ = [some (.val (eF f)), some (.val (.lst ((lotsN f.r).map (eB f)))), some (.val (eP (bestU (zF f) d))), x3, x4, none, none])
    (Vs.cons (V.call (Vs.cons (V.idx (V.slot rfl) V.cst idx_F0) (Vs.cons (V.idx (V.slot rfl) V.cst idx_F1) Vs.nil)) (h12 _ _ (by omega) (by omega))) Vs.nil) rfl ⟨_, _, rfl⟩ (by
      rintro d1 q d2 ρ hd ⟨x3, x4, rfl⟩
      have hq : q ∈ squares f.h f.w := by rw [hd]; simp
      have h1 := (mem_squares.mp hq).1
      have e3 : bestU (zF f) (d1 ++ [q]) = upd1 (zF f) (bestU (zF f) d1) q := by unfold bestU; rw [List.foldl_append]; rfl
      rw [e3]
      generalize bestU (zF f) d1 = b
      have many : ∀ ρ : Env, ρ.length = 7 → ρ[1]? = some (some (.val (.lst ((lotsN f.r).map (eB f))))) → ρ[3]? = some (some (.val (eQ q))) →
          V φ ρ (.prim .len (.cons (.comp [5, 6] (.tup (.cons (.name 5) (.cons (.name 6) .nil))) .val (.cons (.slot 1) .nil) (.chn .le .lt (.idx (.slot 5) (.idx (.slot 3) (.cst (.int 0)))) (.idx (.slot 3) (.cst (.int 1))) (.idx (.slot 6) (.idx (.slot 3) (.cst (.int 0))))) (.cst (.int 1))) .nil)) (eN (zF f q)) := by
        intro ρ hl g1 g3
        match ρ, hl with
        | [a0, a1, a2, a3, a4, a5, a6], _ =>
          cases g1; cases g3
          exact V.prim (Vs.cons (V.comp (enc := eB f) (p := fun L => zoneB f.h f.w f.r L q) (g := fun _ => eN 1) (lotsN f.r) (Vs.cons (V.slot rfl) Vs.nil) rfl (fun x _ => rfl)
            (fun L _ => V.zone (V.slot rfl) (V.idx (V.slot rfl) V.cst idx_Q0) (V.idx (V.slot rfl) V.cst idx_Q1) (V.slot rfl) h1) (fun L _ _ => V.cst)) Vs.nil) (len_ones f q)
      cases b with
      | none =>
        exact ⟨_, ⟨_, rfl, .inl (St.seq (St.asg (many _ rfl rfl rfl) rfl) (St.seq (St.iteT (V.or (t := true) (u := true) (V.cmp (V.slot rfl) V.cst rfl) fun h => by cases h) rfl (St.seq (St.asg (V.tup (Vs.cons (V.slot rfl) (Vs.cons (V.slot rfl) Vs.nil))) rfl) St.skip)) St.skip))⟩, some (.val (eQ q)), some (.val (eN (zF f q))), rfl⟩
      | some p =>
        have ix : idxD (eP (some p)) (.int 0) = some (eN p.1) := rfl
        by_cases lt : p.1 < zF f q
        · have e4 : upd1 (zF f) (some p) q = some (zF f q, q) := if_pos lt
          rw [e4]
          exact ⟨_, ⟨_, rfl, .inl (St.seq (St.asg (many _ rfl rfl rfl) rfl) (St.seq (St.iteT (V.or (t := false) (u := true) (V.cmp (V.slot rfl) V.cst rfl) fun _ => V.cmp (V.slot rfl) (V.idx (V.slot rfl) V.cst ix) (by rw [cN_gt, decide_eq_true lt])) rfl (St.seq (St.asg (V.tup (Vs.cons (V.slot rfl) (Vs.cons (V.slot rfl) Vs.nil))) rfl) St.skip)) St.skip))⟩, some (.val (eQ q)), some (.val (eN (zF f q))), rfl⟩
        · have e4 : upd1 (zF f) (some p) q = some p := if_neg lt
          rw [e4]
          exact ⟨_, ⟨_, rfl, .inl (St.seq (St.asg (many _ rfl rfl rfl) rfl) (St.seq (St.iteF (V.or (t := false) (u := false) (V.cmp (V.slot rfl) V.cst rfl) fun _ => V.cmp (V.slot rfl) (V.idx (V.slot rfl) V.cst ix) (by rw [cN_gt, decide_eq_false lt])) rfl St.skip) St.skip))⟩, some (.val (eQ q)), some (.val (eN (zF f q))), rfl⟩)
  exact St.seq e (St.rt (St.ret (V.slot rfl)))
theorem dead_run (n1 : S_need_field φ) (h12 : S_squares φ 12) (hb : S_bounds φ) {f : Fld} (ok : f.Ok) : Runs φ b_dead_squares 7 [eF f] (eQL ((squares f.h f.w).filter fun q => !hasQ q f.r && decide (zF f q = 0))) := by
  have okh6 := ok.h6; have okw6 := ok.w6
  refine Runs.of (St.seq (V.need n1 ok (V.slot rfl)) (St.seq (St.asg (V.call (Vs.cons (V.slot rfl) Vs.nil) (hb f ok)) rfl) (St.seq (St.own (V.lst Vs.nil) (by simp [startE, setE])) ?_)))
  obtain ⟨ρ', e, x3, x4, rfl⟩ := St.for (φ := φ) (t := .name 3) (k := .val) (it := .cons (.call 12 (.cons (.idx (.slot 0) (.cst (.int 0))) (.cons (.idx (.slot 0) (.cst (.int 1))) .nil))) .nil) (enc := eQ)
    (ρ := [some (.val (eF f)), some (.val (.lst ((lotsN f.r).map (eB f)))), some (.own (.lst (([] : List Sq).map eQ))), none, none, none, none])
    (b := (.seq (.asg (.name 4) (.prim .len (.cons (.comp [5, 6] (.tup (.cons (.name 5) (.cons (.name 6) .nil))) .val (.cons (.slot 1) .nil) (.chn .le .lt (.idx (.slot 5) (.idx (.slot 3) (.cst (.int 0)))) (.idx (.slot 3) (.cst (.int 1))) (.idx (.slot 6) (.idx (.slot 3) (.cst (.int 0))))) (.cst (.int 1))) .nil)))
      (.seq (.ite (.and (.cmp .nmem (.slot 3) (.idx (.slot 0) (.cst (.int 2)))) (.cmp .eq (.slot 4) (.cst (.int 0)))) (.seq (.app 2 (.slot 3))
      .skip) .skip)
      .skip)))
    (squares f.h f.w) (fun d ρ => ∃ x3 x4, ρ = [some (.val (eF f)), some (.val (.lst ((lotsN f.r).map (eB f)))), some (.own (.lst ((d.filter fun q => !hasQ q f.r && decide (zF f q = 0)).map eQ))), x3, x4, none, none])
    (Vs.cons (V.call (Vs.cons (V.idx (V.slot rfl) V.cst idx_F0) (Vs.cons (V.idx (V.slot rfl) V.cst idx_F1) Vs.nil)) (h12 _ _ (by omega) (by omega))) Vs.nil) rfl ⟨_, _, rfl⟩ (by
      rintro d1 q d2 ρ hd ⟨x3, x4, rfl⟩
      have hq : q ∈ squares f.h f.w := by rw [hd]; simp
      have h1 := (mem_squares.mp hq).1
      have dl : d1.length ≤ 36 := by
        have := congrArg List.length hd
        rw [squares_len, List.length_append] at this
        have := Nat.mul_le_mul okh6 okw6
        omega
      have many : ∀ ρ : Env, ρ.length = 7 → ρ[1]? = some (some (.val (.lst ((lotsN f.r).map (eB f))))) → ρ[3]? = some (some (.val (eQ q))) →
          V φ ρ (.prim .len (.cons (.comp [5, 6] (.tup (.cons (.name 5) (.cons (.name 6) .nil))) .val (.cons (.slot 1) .nil) (.chn .le .lt (.idx (.slot 5) (.idx (.slot 3) (.cst (.int 0)))) (.idx (.slot 3) (.cst (.int 1))) (.idx (.slot 6) (.idx (.slot 3) (.cst (.int 0))))) (.cst (.int 1))) .nil)) (eN (zF f q)) := by
        intro ρ hl g1 g3
        match ρ, hl with
        | [a0, a1, a2, a3, a4, a5, a6], _ =>
          cases g1; cases g3
          exact V.prim (Vs.cons (V.comp (enc := eB f) (p := fun L => zoneB f.h f.w f.r L q) (g := fun _ => eN 1) (lotsN f.r) (Vs.cons (V.slot rfl) Vs.nil) rfl (fun x _ => rfl)
            (fun L _ => V.zone (V.slot rfl) (V.idx (V.slot rfl) V.cst idx_Q0) (V.idx (V.slot rfl) V.cst idx_Q1) (V.slot rfl) h1) (fun L _ _ => V.cst)) Vs.nil) (len_ones f q)
      have cnd : ∀ ρ : Env, ρ[0]? = some (some (.val (eF f))) → ρ[3]? = some (some (.val (eQ q))) → ρ[4]? = some (some (.val (eN (zF f q)))) → V φ ρ (.and (.cmp .nmem (.slot 3) (.idx (.slot 0) (.cst (.int 2)))) (.cmp .eq (.slot 4) (.cst (.int 0)))) (.bl (!hasQ q f.r && decide (zF f q = 0))) :=
        fun ρ g0 g3 g4 => V.and (V.cmp (V.slot g3) (V.idx (V.slot g0) V.cst idx_F2) (nmemT_Qs q f.r)) fun _ => V.cmp (V.slot g4) (V.cst (d := eN 0)) (cN_eq _ _)
      have fl := List.length_filter_le (fun q => !hasQ q f.r && decide (zF f q = 0)) d1
      cases hc : (!hasQ q f.r && decide (zF f q = 0)) with
      | true =>
        rw [hc] at cnd
        refine ⟨_, ⟨_, rfl, .inl (St.seq (St.asg (many _ rfl rfl rfl) rfl) (St.seq (St.iteT (cnd _ rfl rfl rfl) rfl (St.seq (St.app (V.slot rfl) rfl ?_) St.skip)) St.skip))⟩, some (.val (eQ q)), some (.val (eN (zF f q))), ?_⟩
        · rw [List.length_map]; unfold LIM; omega
        · rw [List.filter_append, List.filter_cons_of_pos (p := fun q => !hasQ q f.r && decide (zF f q = 0)) hc]
          simp [setE]
      | false =>
        rw [hc] at cnd
        refine ⟨_, ⟨_, rfl, .inl (St.seq (St.asg (many _ rfl rfl rfl) rfl) (St.seq (St.iteF (cnd _ rfl rfl rfl) rfl St.skip) St.skip))⟩, some (.val (eQ q)), some (.val (eN (zF f q))), ?_⟩
        rw [List.filter_append, List.filter_cons_of_neg (p := fun q => !hasQ q f.r && decide (zF f q = 0)) (by rw [hc]; simp)]
        simp [setE])
  exact St.seq e (St.seq (St.frz rfl) (St.rt (St.ret (V.slot rfl))))
end Ev

set_option maxHeartbeats 4000000
namespace Ev
open PySem
variable {φ : Phi}
theorem fold_min {α : Type} {lt : α → α → Prop} [DecidableRel lt] (ir : ∀ a, ¬ lt a a) (tr : ∀ {a b c}, lt a b → lt b c → lt a c) (tot : ∀ {a b}, ¬ lt a b → a = b ∨ lt b a) : ∀ (l : List α) (x : α),
    l.foldl (fun b y => if lt y b then y else b) x ∈ x :: l ∧ ∀ y ∈ x :: l, ¬ lt y (l.foldl (fun b y => if lt y b then y else b) x)
  | [], x => ⟨List.mem_singleton.mpr rfl, fun y hy => by rw [List.mem_singleton.mp hy]; exact ir x⟩
  | z :: l, x => by
    rw [List.foldl_cons]
    obtain ⟨h1, h2⟩ := fold_min ir tr tot l (if lt z x then z else x)
    generalize hr : l.foldl (fun b y => if lt y b then y else b) (if lt z x then z else x) = r at h1 h2
    have h3 := h2 _ List.mem_cons_self
    constructor
    · rcases List.mem_cons.mp h1 with e | h
      · rw [e]; split
        · exact List.mem_cons_of_mem _ List.mem_cons_self
        · exact List.mem_cons_self
      · exact List.mem_cons_of_mem _ (List.mem_cons_of_mem _ h)
    · intro y hy
      rcases List.mem_cons.mp hy with rfl | hy
      · split at h3
        · rename_i q
          exact fun g => h3 (tr q g)
        · exact h3
      · rcases List.mem_cons.mp hy with rfl | hy
        · split at h3
          · exact h3
          · rename_i q
            intro g
            rcases tot h3 with e | g2
            · exact q (e ▸ g)
            · exact q (tr g g2)
        · exact h2 y (List.mem_cons_of_mem _ hy)
theorem minB_enc {α : Type} {enc : α → D} {lt : α → α → Prop} [DecidableRel lt] (h : ∀ a b, ltB (enc a) (enc b) = decide (lt a b)) : ∀ (l : List α) (x : α), minB (enc x) (l.map enc) = enc (l.foldl (fun b y => if lt y b then y else b) x)
  | [], x => rfl
  | y :: l, x => by
    show minB (if ltB (enc y) (enc x) then enc y else enc x) (l.map enc) = _
    rw [List.foldl_cons, ← minB_enc h l]
    congr 1
    rw [h]
    by_cases g : lt y x
    · rw [if_pos (by simpa using g), if_pos g]
    · rw [if_neg (by simpa using g), if_neg g]
theorem min_enc {α : Type} {enc : α → D} {lt : α → α → Prop} [DecidableRel lt] (h : ∀ a b, ltB (enc a) (enc b) = decide (lt a b)) (ok : ∀ a, okD okDep (enc a) = true) (alk : ∀ a b, alkD (enc a) (enc b) = true) (l : List α) (x : α) : primD .min [.lst ((x :: l).map enc)] = some (enc (l.foldl (fun b y => if lt y b then y else b) x)) := by
  show (if alkAll ((x :: l).map enc) then some (minB (enc x) (l.map enc)) else none) = _
  have h1 : alkAll ((x :: l).map enc) = true := by
    unfold alkAll
    rw [Bool.and_eq_true, List.all_eq_true, List.all_eq_true]
    refine ⟨fun d hd => ?_, fun d hd => ?_⟩
    · obtain ⟨n, _, rfl⟩ := List.mem_map.mp hd
      exact ok n
    · obtain ⟨n, _, rfl⟩ := List.mem_map.mp hd
      rw [List.all_eq_true]
      intro d hd
      obtain ⟨m, _, rfl⟩ := List.mem_map.mp hd
      exact alk n m
  rw [h1, minB_enc h]
  rfl
theorem ne_nil {α : Type} {enc : α → D} (ok : ∀ a, okD 11 (enc a) = true) (l : List α) : cmpD .ne (.lst (l.map enc)) (.lst []) = some (.bl (!l.isEmpty)) := by
  have h : okD okDep (.lst (l.map enc)) = true := by
    show (l.map enc).all (okD 11) = true
    rw [List.all_eq_true]
    intro d hd
    obtain ⟨n, _, rfl⟩ := List.mem_map.mp hd
    exact ok n
  show (if okD okDep (D.lst (l.map enc)) && okD okDep (.lst []) then some (D.bl (!eqD (.lst (l.map enc)) (.lst []))) else none) = _
  rw [h]
  cases l <;> rfl
theorem eq_nil {α : Type} {enc : α → D} (ok : ∀ a, okD 11 (enc a) = true) (l : List α) : cmpD .eq (.lst (l.map enc)) (.lst []) = some (.bl l.isEmpty) := by
  have h : okD okDep (.lst (l.map enc)) = true := by
    show (l.map enc).all (okD 11) = true
    rw [List.all_eq_true]
    intro d hd
    obtain ⟨n, _, rfl⟩ := List.mem_map.mp hd
    exact ok n
  show (if okD okDep (D.lst (l.map enc)) && okD okDep (.lst []) then some (D.bl (eqD (.lst (l.map enc)) (.lst []))) else none) = _
  rw [h]
  cases l <;> rfl
def encM (p : Nat × Sq) : D := .tup [.int (-(p.1 : Int)), eQ p.2]
def encW (p : Nat × Sq) : D := .tup [eN p.1, eQ p.2]
def ltM (a b : Nat × Sq) : Prop := b.1 < a.1 ∨ (a.1 = b.1 ∧ ltQ a.2 b.2)
def ltW (a b : Nat × Sq) : Prop := a.1 < b.1 ∨ (a.1 = b.1 ∧ ltQ a.2 b.2)
instance : DecidableRel ltM := fun a b => inferInstanceAs (Decidable (_ ∨ _))
instance : DecidableRel ltW := fun a b => inferInstanceAs (Decidable (_ ∨ _))
theorem eqD_I (i j : Int) : eqD (.int i) (.int j) = decide (i = j) := by
  show (i == j) = _
  rw [Bool.eq_iff_iff]; simp
theorem ltB_2 (i j : Int) (a b : Sq) : ltB (.tup [.int i, eQ a]) (.tup [.int j, eQ b]) = decide (i < j ∨ (i = j ∧ ltQ a b)) := by
  have : ltB (.tup [.int i, eQ a]) (.tup [.int j, eQ b]) = (if eqD (.int i) (.int j) then (if eqD (eQ a) (eQ b) then false else ltB (eQ a) (eQ b)) else ltB (.int i) (.int j)) := by
    simp only [ltB, ltBs]
  rw [this, eqD_I, eqD_Q, ltB_Q]
  by_cases e : i = j
  · subst e
    rw [if_pos (by simp)]
    by_cases e2 : (a.1 == b.1 && a.2 == b.2) = true
    · rw [if_pos e2]
      rw [Bool.and_eq_true, beq_iff_eq, beq_iff_eq] at e2
      have : a = b := Prod.ext e2.1 e2.2
      subst this
      simp [ltQ_irrefl]
    · rw [if_neg e2]
      simp
  · rw [if_neg (by simpa using e)]
    show decide (i < j) = _
    simp [e]
theorem ltB_M (a b : Nat × Sq) : ltB (encM a) (encM b) = decide (ltM a b) := by
  unfold encM
  rw [ltB_2, decide_eq_decide]
  unfold ltM
  refine or_congr (by omega) (and_congr (by omega) Iff.rfl)
theorem ltB_W (a b : Nat × Sq) : ltB (encW a) (encW b) = decide (ltW a b) := by
  unfold encW eN
  rw [ltB_2, decide_eq_decide]
  unfold ltW
  refine or_congr (by omega) (and_congr (by omega) Iff.rfl)
theorem ltM_ir (a : Nat × Sq) : ¬ ltM a a := fun h => by rcases h with h | h; omega; exact ltQ_irrefl _ h.2
theorem ltW_ir (a : Nat × Sq) : ¬ ltW a a := fun h => by rcases h with h | h; omega; exact ltQ_irrefl _ h.2
theorem ltM_tr {a b c : Nat × Sq} (h : ltM a b) (h2 : ltM b c) : ltM a c := by
  rcases h with h | h <;> rcases h2 with h2 | h2
  · exact .inl (by omega)
  · exact .inl (by omega)
  · exact .inl (by omega)
  · exact .inr ⟨by omega, ltQ_trans h.2 h2.2⟩
theorem ltW_tr {a b c : Nat × Sq} (h : ltW a b) (h2 : ltW b c) : ltW a c := by
  rcases h with h | h <;> rcases h2 with h2 | h2
  · exact .inl (by omega)
  · exact .inl (by omega)
  · exact .inl (by omega)
  · exact .inr ⟨by omega, ltQ_trans h.2 h2.2⟩
theorem ltM_tot {a b : Nat × Sq} (h : ¬ ltM a b) : a = b ∨ ltM b a := by
  unfold ltM at *
  rcases Nat.lt_trichotomy a.1 b.1 with q | q | q
  · exact .inr (.inl q)
  · by_cases e : a.2 = b.2
    · exact .inl (Prod.ext q e)
    · exact .inr (.inr ⟨q.symm, ltQ_total (fun g => h (.inr ⟨q, g⟩)) e⟩)
  · exact absurd (.inl q) h
theorem ltW_tot {a b : Nat × Sq} (h : ¬ ltW a b) : a = b ∨ ltW b a := by
  unfold ltW at *
  rcases Nat.lt_trichotomy a.1 b.1 with q | q | q
  · exact absurd (.inl q) h
  · by_cases e : a.2 = b.2
    · exact .inl (Prod.ext q e)
    · exact .inr (.inr ⟨q.symm, ltQ_total (fun g => h (.inr ⟨q, g⟩)) e⟩)
  · exact .inr (.inl q)
/-- the greatest, the first of such -/
def IsMax (z : Sq → Nat) (l : List Sq) (p : Nat × Sq) : Prop := p.2 ∈ l ∧ p.1 = z p.2 ∧ ∀ x ∈ l, z x ≤ p.1 ∧ (z x = p.1 → ¬ ltQ x p.2)
def IsMin (z : Sq → Nat) (l : List Sq) (p : Nat × Sq) : Prop := p.2 ∈ l ∧ p.1 = z p.2 ∧ ∀ x ∈ l, p.1 ≤ z x ∧ (z x = p.1 → ¬ ltQ x p.2)
theorem IsMax.one {z : Sq → Nat} {l : List Sq} {p p' : Nat × Sq} (h : IsMax z l p) (h' : IsMax z l p') : p = p' := by
  have a := h.2.2 p'.2 h'.1
  have b := h'.2.2 p.2 h.1
  have e : p.1 = p'.1 := by have := h.2.1; have := h'.2.1; omega
  refine Prod.ext e (Classical.byContradiction fun ne => ?_)
  exact a.2 (by have := h'.2.1; omega) (ltQ_total (b.2 (by have := h.2.1; omega)) ne)
theorem IsMin.one {z : Sq → Nat} {l : List Sq} {p p' : Nat × Sq} (h : IsMin z l p) (h' : IsMin z l p') : p = p' := by
  have a := h.2.2 p'.2 h'.1
  have b := h'.2.2 p.2 h.1
  have e : p.1 = p'.1 := by have := h.2.1; have := h'.2.1; omega
  refine Prod.ext e (Classical.byContradiction fun ne => ?_)
  exact a.2 (by have := h'.2.1; omega) (ltQ_total (b.2 (by have := h.2.1; omega)) ne)
def bestM (z : Sq → Nat) : List Sq → Option (Nat × Sq)
  | [] => none
  | q :: l => some ((l.map fun q => (z q, q)).foldl (fun b y => if ltM y b then y else b) (z q, q))
def bestW (z : Sq → Nat) : List Sq → Option (Nat × Sq)
  | [] => none
  | q :: l => some ((l.map fun q => (z q, q)).foldl (fun b y => if ltW y b then y else b) (z q, q))
theorem bestM_is {z : Sq → Nat} {l : List Sq} {p : Nat × Sq} (h : bestM z l = some p) : IsMax z l p := by
  cases l with
  | nil => cases h
  | cons q l =>
    have h : some _ = some p := h
    obtain ⟨a, b⟩ := fold_min ltM_ir ltM_tr ltM_tot (l.map fun q => (z q, q)) (z q, q)
    rw [Option.some.inj h] at a b
    have mem : ∀ x ∈ q :: l, (z x, x) ∈ (z q, q) :: l.map fun q => (z q, q) := fun x hx => by
      rcases List.mem_cons.mp hx with rfl | hx
      · exact List.mem_cons_self
      · exact List.mem_cons_of_mem _ (List.mem_map.mpr ⟨x, hx, rfl⟩)
    have hp : ∃ x ∈ q :: l, p = (z x, x) := by
      rcases List.mem_cons.mp a with e | e
      · exact ⟨q, List.mem_cons_self, e⟩
      · obtain ⟨x, hx, e⟩ := List.mem_map.mp e
        exact ⟨x, List.mem_cons_of_mem _ hx, e.symm⟩
    obtain ⟨x, hx, rfl⟩ := hp
    refine ⟨hx, rfl, fun y hy => ?_⟩
    have := b _ (mem y hy)
    unfold ltM at this
    exact ⟨by show z y ≤ z x; exact Nat.le_of_not_lt fun g => this (.inl g), fun e g => this (.inr ⟨e, g⟩)⟩
theorem bestW_is {z : Sq → Nat} {l : List Sq} {p : Nat × Sq} (h : bestW z l = some p) : IsMin z l p := by
  cases l with
  | nil => cases h
  | cons q l =>
    have h : some _ = some p := h
    obtain ⟨a, b⟩ := fold_min ltW_ir ltW_tr ltW_tot (l.map fun q => (z q, q)) (z q, q)
    rw [Option.some.inj h] at a b
    have mem : ∀ x ∈ q :: l, (z x, x) ∈ (z q, q) :: l.map fun q => (z q, q) := fun x hx => by
      rcases List.mem_cons.mp hx with rfl | hx
      · exact List.mem_cons_self
      · exact List.mem_cons_of_mem _ (List.mem_map.mpr ⟨x, hx, rfl⟩)
    have hp : ∃ x ∈ q :: l, p = (z x, x) := by
      rcases List.mem_cons.mp a with e | e
      · exact ⟨q, List.mem_cons_self, e⟩
      · obtain ⟨x, hx, e⟩ := List.mem_map.mp e
        exact ⟨x, List.mem_cons_of_mem _ hx, e.symm⟩
    obtain ⟨x, hx, rfl⟩ := hp
    refine ⟨hx, rfl, fun y hy => ?_⟩
    have := b _ (mem y hy)
    unfold ltW at this
    exact ⟨by show z x ≤ z y; exact Nat.le_of_not_lt fun g => this (.inl g), fun e g => this (.inr ⟨e, g⟩)⟩
theorem bestU_is {z : Sq → Nat} : ∀ {l : List Sq}, l.Pairwise ltQ → l ≠ [] → ∃ p, bestU z l = some p ∧ IsMax z l p := by
  have key : ∀ (l d : List Sq) (p : Nat × Sq), (d ++ l).Pairwise ltQ → IsMax z d p → ∃ p', l.foldl (upd1 z) (some p) = some p' ∧ IsMax z (d ++ l) p' := by
    intro l
    induction l with
    | nil => intro d p _ h; exact ⟨p, rfl, by rw [List.append_nil]; exact h⟩
    | cons q l ih =>
      intro d p hs h
      rw [List.foldl_cons]
      have e : d ++ q :: l = (d ++ [q]) ++ l := by simp
      rw [e] at hs ⊢
      have hb : ∀ x ∈ d, ltQ x q := by
        have := (List.pairwise_append.mp hs).1
        exact fun x hx => (List.pairwise_append.mp this).2.2 x hx q (by simp)
      by_cases g : p.1 < z q
      · have e2 : upd1 z (some p) q = some (z q, q) := if_pos g
        rw [e2]
        refine ih (d ++ [q]) (z q, q) hs ⟨by simp, rfl, fun x hx => ?_⟩
        rcases List.mem_append.mp hx with hx | hx
        · have := (h.2.2 x hx).1
          exact ⟨by show z x ≤ z q; omega, fun e => by have e : z x = z q := e; omega⟩
        · rw [List.mem_singleton] at hx
          subst hx
          exact ⟨Nat.le_refl _, fun _ => ltQ_irrefl _⟩
      · have e2 : upd1 z (some p) q = some p := if_neg g
        rw [e2]
        refine ih (d ++ [q]) p hs ⟨List.mem_append_left _ h.1, h.2.1, fun x hx => ?_⟩
        rcases List.mem_append.mp hx with hx | hx
        · exact h.2.2 x hx
        · rw [List.mem_singleton] at hx
          subst hx
          exact ⟨by omega, fun _ g2 => ltQ_irrefl _ (ltQ_trans g2 (hb p.2 h.1))⟩
  intro l hs ne
  cases l with
  | nil => exact absurd rfl ne
  | cons q l =>
    exact key l [q] (z q, q) hs ⟨by simp, rfl, fun x hx => by rw [List.mem_singleton] at hx; subst hx; exact ⟨Nat.le_refl _, fun _ => ltQ_irrefl _⟩⟩
theorem eP_M {z : Sq → Nat} {q : Sq} {l : List Sq} {ρ : Env} {i : Nat} (h : ρ[i]? = some (some (.val (.lst ((q :: l).map fun q => encM (z q, q)))))) :
    V φ ρ (.ite (.cmp .ne (.slot i) (.lst .nil)) (.tup (.cons (.neg (.idx (.prim .min (.cons (.slot i) .nil)) (.cst (.int 0)))) (.cons (.idx (.prim .min (.cons (.slot i) .nil)) (.cst (.int 1))) .nil))) (.cst .non)) (eP (bestM z (q :: l))) := by
  have mn := min_enc (enc := encM) ltB_M (fun _ => rfl) (fun _ _ => rfl) (l.map fun q => (z q, q)) (z q, q)
  have e : (((z q, q) :: l.map fun q => (z q, q)).map encM) = (q :: l).map fun q => encM (z q, q) := by simp
  rw [e] at mn
  have hn := ne_nil (enc := fun q => encM (z q, q)) (fun _ => rfl) (q :: l)
  refine V.ite (t := true) (y := .non) (V.cmp (V.slot h) (V.lst Vs.nil) hn) (fun _ => ?_) fun g => by cases g
  have := V.tup (φ := φ) (Vs.cons (V.neg (V.idx (V.prim (Vs.cons (V.slot h) Vs.nil) mn) (V.cst (d := .int 0)) rfl)) (Vs.cons (V.idx (V.prim (Vs.cons (V.slot h) Vs.nil) mn) (V.cst (d := .int 1)) rfl) Vs.nil))
  rw [Int.neg_neg] at this
  exact this
theorem best_square_run (n1 : S_need_field φ) (hf : S_free φ) (hp : S_put φ) (hj : S_joins φ) {f : Fld} (ok : f.Ok) : Runs φ b_best_square 3 [eF f] (eP (bestM (gain f) ((squares f.h f.w).filter fun q => !hasQ q f.r))) := by
  refine Runs.of (St.seq (V.need n1 ok (V.slot rfl)) (St.seq (St.asg (V.compA (enc := eQ) (g := fun q => encM (gain f q, q)) ((squares f.h f.w).filter fun q => !hasQ q f.r) (Vs.cons (V.call (Vs.cons (V.slot rfl) Vs.nil) (hf f ok)) Vs.nil) rfl (fun x _ => rfl) (fun q hq => ?_)) rfl) (St.rt (St.ret ?_))))
  · obtain ⟨hm, hn⟩ := List.mem_filter.mp hq
    have nq : q ∉ f.r := fun g => by rw [hasQ_iff.mpr g] at hn; cases hn
    obtain ⟨h1, h2⟩ := mem_squares.mp hm
    exact V.tup (Vs.cons (V.neg (V.prim (Vs.cons (V.call (Vs.cons (V.call (Vs.cons (V.slot rfl) (Vs.cons (V.slot rfl) Vs.nil)) (hp f q ok)) (Vs.cons (V.slot rfl) Vs.nil)) (hj (putF f q) q (putF_ok ok h1 h2 nq) ((put_is ok.sorted nq).2 q |>.mpr (.inr rfl)))) Vs.nil) (len_J _ _))) (Vs.cons (V.slot rfl) Vs.nil))
  · generalize ((squares f.h f.w).filter fun q => !hasQ q f.r) = l
    cases l with
    | nil => exact V.ite (t := false) (x := .non) (V.cmp (V.slot rfl) (V.lst Vs.nil) rfl) (fun g => by cases g) fun _ => V.cst
    | cons q l => exact eP_M rfl
theorem strongest_run (n1 : S_need_field φ) (hj : S_joins φ) {f : Fld} (ok : f.Ok) : Runs φ b_strongest_rock 3 [eF f] (eP (bestM (fall f) f.r)) := by
  refine Runs.of (St.seq (V.need n1 ok (V.slot rfl)) (St.seq (St.asg (V.compA (enc := eQ) (g := fun q => encM (fall f q, q)) f.r (Vs.cons (V.idx (V.slot rfl) V.cst idx_F2) Vs.nil) rfl (fun x _ => rfl) (fun q hq => ?_)) rfl) (St.rt (St.ret ?_))))
  · exact V.tup (Vs.cons (V.neg (V.prim (Vs.cons (V.call (Vs.cons (V.slot rfl) (Vs.cons (V.slot rfl) Vs.nil)) (hj f q ok hq)) Vs.nil) (len_J _ _))) (Vs.cons (V.slot rfl) Vs.nil))
  · generalize fall f = z
    generalize f.r = l
    cases l with
    | nil => exact V.ite (t := false) (x := .non) (V.cmp (V.slot rfl) (V.lst Vs.nil) rfl) (fun g => by cases g) fun _ => V.cst
    | cons q l => exact eP_M rfl
theorem weakest_run (n1 : S_need_field φ) (hj : S_joins φ) {f : Fld} (ok : f.Ok) : Runs φ b_weakest_rock 3 [eF f] (eP (bestW (fall f) f.r)) := by
  refine Runs.of (St.seq (V.need n1 ok (V.slot rfl)) (St.seq (St.asg (V.compA (enc := eQ) (g := fun q => encW (fall f q, q)) f.r (Vs.cons (V.idx (V.slot rfl) V.cst idx_F2) Vs.nil) rfl (fun x _ => rfl) (fun q hq => ?_)) rfl) (St.rt (St.ret ?_))))
  · exact V.tup (Vs.cons (V.prim (Vs.cons (V.call (Vs.cons (V.slot rfl) (Vs.cons (V.slot rfl) Vs.nil)) (hj f q ok hq)) Vs.nil) (len_J _ _)) (Vs.cons (V.slot rfl) Vs.nil))
  · generalize fall f = z
    generalize f.r = l
    cases l with
    | nil => exact V.ite (t := false) (x := .non) (V.cmp (V.slot rfl) (V.lst Vs.nil) rfl) (fun g => by cases g) fun _ => V.cst
    | cons q l =>
      have mn := min_enc (enc := encW) ltB_W (fun _ => rfl) (fun _ _ => rfl) (l.map fun q => (z q, q)) (z q, q)
      have e : (((z q, q) :: l.map fun q => (z q, q)).map encW) = (q :: l).map fun q => encW (z q, q) := by simp
      rw [e] at mn
      exact V.ite (t := true) (y := .non) (V.cmp (V.slot rfl) (V.lst Vs.nil) (ne_nil (enc := fun q => encW (z q, q)) (fun _ => rfl) (q :: l))) (fun _ => V.prim (Vs.cons (V.slot rfl) Vs.nil) mn) fun g => by cases g
end Ev

set_option maxHeartbeats 4000000
namespace Ev
open PySem
variable {φ : Phi}
def innQ (s : List Nat) : List Sq := (s.zipIdx.filter fun p => decide ((s.tail ++ [0]).getD p.2 0 < p.1)).map fun p => (p.2, p.1 - 1)
def outQ (w : Nat) (s : List Nat) : List Sq := (s.zipIdx.filter fun p => decide (p.1 < (w :: s.dropLast).getD p.2 0)).map fun p => (p.2, p.1)
theorem slc_tail (s : List Nat) : slcG false true (eS s) (.int 1) .non = some (eS s.tail) := by
  show ((cutI (s.map eN).length 0 (.int 1)).bind fun a => (cutI (s.map eN).length (s.map eN).length .non).map fun b => ((s.map eN).drop a).take (b - a)).map D.tup = _
  show some (D.tup (((s.map eN).drop (min (1 : Int).toNat (s.map eN).length)).take ((s.map eN).length - min (1 : Int).toNat (s.map eN).length))) = _
  cases s with
  | nil => rfl
  | cons x t =>
    simp only [List.map_cons, List.length_cons]
    have : min (1 : Int).toNat ((t.map eN).length + 1) = 1 := by
      show min 1 _ = 1
      omega
    rw [this, List.drop_succ_cons, List.drop_zero, Nat.add_sub_cancel, List.take_length]
    rfl
theorem slc_init (s : List Nat) : slcG true false (eS s) .non (.int (-1)) = some (eS s.dropLast) := by
  show some (D.tup (((s.map eN).drop 0).take (((-1 : Int) + ((s.map eN).length : Nat)).toNat - 0))) = _
  rw [List.drop_zero, List.length_map, show (((-1 : Int) + (s.length : Nat)).toNat - 0) = s.length - 1 by omega, ← List.map_take, ← List.dropLast_eq_take]
  rfl
theorem zip_mem {s : List Nat} {p : Nat × Nat} (h : p ∈ s.zipIdx) : ∃ h : p.2 < s.length, s[p.2] = p.1 := by
  obtain ⟨a, b, c⟩ := List.mem_zipIdx (x := p.1) (i := p.2) (k := 0) (xs := s) (by simpa using h)
  exact ⟨by omega, by simpa using c.symm⟩
theorem mem_zip {s : List Nat} {i : Nat} (h : i < s.length) : (s[i], i) ∈ s.zipIdx := by
  have := List.getElem_mem (l := s.zipIdx) (n := i) (by simpa using h)
  simpa using this
theorem inner_of_run {s : List Nat} (h0 : 0 < s.length) (h6 : s.length ≤ 1000) : Runs φ b_inner_of 4 [eS s] (eQL (innQ s)) := by
  have el : (s.tail ++ [0]).length = s.length := by simp; omega
  have ls : primD .list [eS s.tail] = some (.lst (s.tail.map eN)) := rfl
  refine Runs.of (St.seq (St.asg (V.bin (V.prim (Vs.cons (V.slc (V.slot rfl) (V.cst (d := .int 1)) V.skip (slc_tail s)) Vs.nil) ls) (V.lst (Vs.cons (V.cst (d := eN 0)) Vs.nil)) (add_L (a := s.tail.map eN) (b := [eN 0]) (by simp [LIM]; omega))) rfl) (St.rt (St.ret ?_)))
  have en : s.tail.map eN ++ [eN 0] = (s.tail ++ [0]).map eN := by simp
  rw [en]
  have := V.comp (φ := φ) (ρ := [some (.val (eS s)), some (.val (.lst ((s.tail ++ [0]).map eN))), none, none]) (own := [2, 3]) (t := .tup (.cons (.name 2) (.cons (.name 3) .nil))) (k := .enum) (it := .cons (.slot 0) .nil) (ifs := .cmp .gt (.slot 3) (.idx (.slot 1) (.slot 2))) (elt := .tup (.cons (.slot 2) (.cons (.bin .sub (.slot 3) (.cst (.int 1))) .nil)))
    (enc := fun p : Nat × Nat => D.tup [eN p.2, eN p.1]) (p := fun p => decide ((s.tail ++ [0]).getD p.2 0 < p.1)) (g := fun p => eQ (p.2, p.1 - 1)) s.zipIdx (Vs.cons (V.slot rfl) Vs.nil) (congrArg some (enum_map s 0)) (fun p _ => rfl)
    (fun p hp => by
      obtain ⟨h, _⟩ := zip_mem hp
      have ix := idx_L (enc := eN) (l := s.tail ++ [0]) (i := p.2) (by omega)
      rw [getD_at (by omega)]
      exact V.cmp (V.slot rfl) (V.idx (V.slot rfl) (V.slot rfl) ix) (cN_gt _ _))
    (fun p hp hc => by
      have hc := of_decide_eq_true hc
      exact V.tup (Vs.cons (V.slot rfl) (Vs.cons (V.bin (V.slot rfl) (V.cst (d := eN 1)) (sub_N (by omega))) Vs.nil)))
  have e : (.lst ((s.zipIdx.filter fun p => decide ((s.tail ++ [0]).getD p.2 0 < p.1)).map fun p => eQ (p.2, p.1 - 1)) : D) = eQL (innQ s) := by
    unfold eQL innQ
    rw [List.map_map]
    rfl
  rw [← e]
  exact this
theorem outer_of_run {f : Fld} {s : List Nat} (h0 : 0 < s.length) (h6 : s.length ≤ 1000) : Runs φ b_outer_of 5 [eF f, eS s] (eQL (outQ f.w s)) := by
  have el : (f.w :: s.dropLast).length = s.length := by simp; omega
  have ls : primD .list [eS s.dropLast] = some (.lst (s.dropLast.map eN)) := rfl
  refine Runs.of (St.seq (St.asg (V.bin (V.lst (Vs.cons (V.idx (V.slot rfl) V.cst idx_F1) Vs.nil)) (V.prim (Vs.cons (V.slc (V.slot rfl) V.skip (V.neg V.cst) (slc_init s)) Vs.nil) ls) (add_L (a := [eN f.w]) (b := s.dropLast.map eN) (by simp [LIM]; omega))) rfl) (St.rt (St.ret ?_)))
  have en : [eN f.w] ++ s.dropLast.map eN = (f.w :: s.dropLast).map eN := by simp
  rw [en]
  have := V.comp (φ := φ) (ρ := [some (.val (eF f)), some (.val (eS s)), some (.val (.lst ((f.w :: s.dropLast).map eN))), none, none]) (own := [3, 4]) (t := .tup (.cons (.name 3) (.cons (.name 4) .nil))) (k := .enum) (it := .cons (.slot 1) .nil) (ifs := .cmp .lt (.slot 4) (.idx (.slot 2) (.slot 3))) (elt := .tup (.cons (.slot 3) (.cons (.slot 4) .nil)))
    (enc := fun p : Nat × Nat => D.tup [eN p.2, eN p.1]) (p := fun p => decide (p.1 < (f.w :: s.dropLast).getD p.2 0)) (g := fun p => eQ (p.2, p.1)) s.zipIdx (Vs.cons (V.slot rfl) Vs.nil) (congrArg some (enum_map s 0)) (fun p _ => rfl)
    (fun p hp => by
      obtain ⟨h, _⟩ := zip_mem hp
      have ix := idx_L (enc := eN) (l := f.w :: s.dropLast) (i := p.2) (by omega)
      rw [getD_at (by omega)]
      exact V.cmp (V.slot rfl) (V.idx (V.slot rfl) (V.slot rfl) ix) (cN_lt _ _))
    (fun p hp hc => V.tup (Vs.cons (V.slot rfl) (Vs.cons (V.slot rfl) Vs.nil)))
  have e : (.lst ((s.zipIdx.filter fun p => decide (p.1 < (f.w :: s.dropLast).getD p.2 0)).map fun p => eQ (p.2, p.1)) : D) = eQL (outQ f.w s) := by
    unfold eQL outQ
    rw [List.map_map]
    rfl
  rw [← e]
  exact this
theorem inn_mem {s : List Nat} {i c : Nat} (h : i < s.length) (e : s[i] = c + 1) (nx : ∀ h2 : i + 1 < s.length, s[i + 1] ≤ c) : (i, c) ∈ innQ s := by
  refine List.mem_map.mpr ⟨(s[i], i), List.mem_filter.mpr ⟨mem_zip h, decide_eq_true ?_⟩, by rw [e]; rfl⟩
  show (s.tail ++ [0]).getD i 0 < s[i]
  by_cases h2 : i + 1 < s.length
  · have := nx h2
    have e3 : (s.tail ++ [0]).getD i 0 = s[i + 1] := by
      rw [getD_at (by simp; omega), List.getElem_append_left (by simp; omega), List.getElem_tail]
    omega
  · have e3 : (s.tail ++ [0]).getD i 0 = 0 := by
      rw [getD_at (by simp; omega), List.getElem_append_right (by simp; omega)]
      simp
    omega
theorem out_mem {w : Nat} {s : List Nat} {i c : Nat} (h : i < s.length) (e : s[i] = c) (z : i = 0 → c < w) (pv : ∀ h2 : 0 < i, c < s[i - 1]) : (i, c) ∈ outQ w s := by
  refine List.mem_map.mpr ⟨(s[i], i), List.mem_filter.mpr ⟨mem_zip h, decide_eq_true ?_⟩, by rw [e]⟩
  show s[i] < (w :: s.dropLast).getD i 0
  cases i with
  | zero => rw [e]; exact z rfl
  | succ j =>
    have := pv (Nat.succ_pos j)
    have e3 : (w :: s.dropLast).getD (j + 1) 0 = s[j] := by
      rw [getD_at (by simp; omega), List.getElem_cons_succ, List.getElem_dropLast]
    rw [e3, e]
    exact this
def turnQ (f : Fld) (s : List Nat) : List Sq := sortQ ((innQ s ++ outQ f.w s).filter fun x => !hasQ x f.r)
def turnsF (f : Fld) (q : Sq) : Nat := ((allS f).filter fun s => hasQ q (turnQ f s)).length
theorem turn_has {f : Fld} {s : List Nat} {q : Sq} : hasQ q (turnQ f s) = true ↔ (q ∈ innQ s ∨ q ∈ outQ f.w s) ∧ q ∉ f.r := by
  unfold turnQ
  rw [hasQ_iff, mem_sortQ, List.mem_filter, List.mem_append, Bool.not_eq_true', ← Bool.not_eq_true, hasQ_iff]
theorem turns_rock {f : Fld} {q : Sq} (h : q ∈ f.r) : turnsF f q = 0 := by
  unfold turnsF
  rw [List.length_eq_zero_iff, List.filter_eq_nil_iff]
  intro s _ g
  exact (turn_has.mp g).2 h
theorem two_ex {f : Fld} (ok : f.Ok) {L : List Sq} (hL : L ∈ lotsN f.r) {q : Sq} (h1 : q.1 < f.h) (h2 : q.2 < f.w) (z : zoneB f.h f.w f.r L q = true) (hq : q ∉ f.r) :
    ∃ s, aboutN f.h (q :: L) = s ∧ IsSt f.h f.w s ∧ f.r.filter (und s) = L ∧ s.getD q.1 0 = q.2 + 1 ∧ ∀ i, q.1 < i → i < f.h → s.getD i 0 ≤ q.2 := by
  obtain ⟨s1, s2, s3, s4⟩ := two_at ok hL h1 h2 z hq
  refine ⟨_, rfl, s1, s2, ?_, fun i g hi => ?_⟩
  · rw [getD_at (by rw [aboutN_len]; exact h1)]; exact s3
  · rw [getD_at (by rw [aboutN_len]; exact hi)]; exact s4 i hi g
theorem turns_ge {f : Fld} (ok : f.Ok) {q : Sq} (h1 : q.1 < f.h) (h2 : q.2 < f.w) (hq : q ∉ f.r) : 2 * zF f q ≤ turnsF f q := by
  have e := len_split (fun s => und s q) ((allS f).filter fun s => hasQ q (turnQ f s))
  have zl : ∀ L ∈ (lotsN f.r).filter fun L => zoneB f.h f.w f.r L q, L ∈ lotsN f.r ∧ zoneB f.h f.w f.r L q = true := fun L h => List.mem_filter.mp h
  have a : zF f q ≤ (((allS f).filter fun s => hasQ q (turnQ f s)).filter fun s => und s q).length := by
    unfold zF zoneN
    rw [← List.length_map (f := fun L => aboutN f.h (q :: L))]
    refine nodup_len _ _ ?_ fun s hs => ?_
    · rw [List.Nodup, List.pairwise_map]
      refine ((nodup_lots ok.sorted).filter _).imp_of_mem fun {L M} hL hM ne e => ne ?_
      obtain ⟨l1, l2⟩ := zl L hL
      obtain ⟨m1, m2⟩ := zl M hM
      rw [← (two_at ok l1 h1 h2 l2 hq).2.1, ← (two_at ok m1 h1 h2 m2 hq).2.1, e]
    · obtain ⟨L, hL, rfl⟩ := List.mem_map.mp hs
      obtain ⟨l1, l2⟩ := zl L hL
      obtain ⟨s1, s2, s3, s4⟩ := two_at ok l1 h1 h2 l2 hq
      have sl := s1.len
      refine List.mem_filter.mpr ⟨List.mem_filter.mpr ⟨mem_all.mpr s1, turn_has.mpr ⟨.inl ?_, hq⟩⟩, ?_⟩
      · exact inn_mem (by rw [sl]; exact h1) s3 fun g => s4 (q.1 + 1) (by omega) (Nat.lt_succ_self _)
      · rw [und_at (by rw [sl]; exact h1), s3]
        exact decide_eq_true (Nat.lt_succ_self _)
  have b : zF f q ≤ (((allS f).filter fun s => hasQ q (turnQ f s)).filter fun s => !und s q).length := by
    unfold zF zoneN
    have st : ∀ L, L ∈ lotsN f.r → zoneB f.h f.w f.r L q = true → IsSt f.h f.w ((aboutN f.h (q :: L)).set q.1 q.2) ∧ f.r.filter (und ((aboutN f.h (q :: L)).set q.1 q.2)) = L := by
      intro L l1 l2
      obtain ⟨s, es, s1, s2, s3, s4⟩ := two_ex ok l1 h1 h2 l2 hq
      rw [es]
      have sl := s1.len
      rw [getD_at (by rw [sl]; exact h1)] at s3
      have s4 : ∀ i (hi : i < f.h), q.1 < i → s[i]'(by rw [sl]; exact hi) ≤ q.2 := fun i hi g => by
        have := s4 i g hi
        rwa [getD_at (by rw [sl]; exact hi)] at this
      have gs : ∀ i (h : i < s.length), (s.set q.1 q.2)[i]'(by rw [List.length_set]; exact h) = if q.1 = i then q.2 else s[i] := fun i h => List.getElem_set ..
      refine ⟨⟨by rw [List.length_set, sl], fun x hx => ?_, List.pairwise_iff_getElem.mpr fun i j hi hj hij => ?_⟩, ?_⟩
      · obtain ⟨i, hi, rfl⟩ := List.getElem_of_mem hx
        rw [List.length_set] at hi
        rw [gs i hi]
        split
        · omega
        · exact s1.le _ (List.getElem_mem _)
      · rw [List.length_set] at hi hj
        rw [gs i hi, gs j hj]
        have mn := mono_at s1.mono (Nat.le_of_lt hij) hj
        show (if q.1 = j then q.2 else s[j]) ≤ (if q.1 = i then q.2 else s[i])
        by_cases e1 : q.1 = i
        · subst e1
          rw [if_pos rfl, if_neg (by omega)]
          exact s4 j (by omega) hij
        · rw [if_neg e1]
          by_cases e2 : q.1 = j
          · subst e2
            rw [if_pos rfl]
            omega
          · rw [if_neg e2]
            exact mn
      · rw [← s2]
        refine List.filter_congr fun r hr => ?_
        have hm := ok.mem hr
        rw [und_at (by rw [List.length_set, sl]; exact hm.1), und_at (by rw [sl]; exact hm.1), gs r.1 (by rw [sl]; exact hm.1), decide_eq_decide]
        by_cases e1 : q.1 = r.1
        · rw [if_pos e1]
          have e4 : s[r.1]'(by rw [sl]; exact hm.1) = q.2 + 1 := by
            rw [← s3]
            simp only [e1]
          rw [e4]
          have : r.2 ≠ q.2 := fun e => hq (by rw [show q = r from Prod.ext e1 e.symm]; exact hr)
          omega
        · rw [if_neg e1]
    rw [← List.length_map (f := fun L => (aboutN f.h (q :: L)).set q.1 q.2)]
    refine nodup_len _ _ ?_ fun s hs => ?_
    · rw [List.Nodup, List.pairwise_map]
      refine ((nodup_lots ok.sorted).filter _).imp_of_mem fun {L M} hL hM ne e => ne ?_
      obtain ⟨l1, l2⟩ := zl L hL
      obtain ⟨m1, m2⟩ := zl M hM
      rw [← (st L l1 l2).2, ← (st M m1 m2).2, e]
    · obtain ⟨L, hL, rfl⟩ := List.mem_map.mp hs
      obtain ⟨l1, l2⟩ := zl L hL
      obtain ⟨t1, _⟩ := st L l1 l2
      obtain ⟨s, es, s1, s2, s3, s4⟩ := two_ex ok l1 h1 h2 l2 hq
      rw [es] at t1
      show (aboutN f.h (q :: L)).set q.1 q.2 ∈ _
      rw [es]
      have sl := s1.len
      rw [getD_at (by rw [sl]; exact h1)] at s3
      have gq : (s.set q.1 q.2)[q.1]'(by rw [List.length_set, sl]; exact h1) = q.2 := List.getElem_set_self ..
      refine List.mem_filter.mpr ⟨List.mem_filter.mpr ⟨mem_all.mpr t1, turn_has.mpr ⟨.inr ?_, hq⟩⟩, ?_⟩
      · refine out_mem (by rw [List.length_set, sl]; exact h1) gq (fun _ => h2) fun g => ?_
        rw [List.getElem_set_ne (by omega)]
        have := mono_at s1.mono (show q.1 - 1 ≤ q.1 by omega) (by rw [sl]; exact h1)
        omega
      · rw [Bool.not_eq_true', und_at (by rw [List.length_set, sl]; exact h1), gq]
        exact decide_eq_false (Nat.lt_irrefl _)
  unfold turnsF
  omega
def S_inner (φ : Phi) := ∀ s : List Nat, 0 < s.length → s.length ≤ 6 → To φ 61 [eS s] (eQL (innQ s))
def S_outer (φ : Phi) := ∀ (f : Fld) (s : List Nat), 0 < s.length → s.length ≤ 6 → To φ 63 [eF f, eS s] (eQL (outQ f.w s))
def S_turn (φ : Phi) := ∀ (f : Fld) (s : List Nat), f.Ok → IsSt f.h f.w s → To φ 97 [eF f, eS s] (eQL (turnQ f s))
theorem turnable_of_run (h1 : S_inner φ) (h2 : S_outer φ) {f : Fld} {s : List Nat} (ok : f.Ok) (hs : IsSt f.h f.w s) : Runs φ b_turnable_of 3 [eF f, eS s] (eQL (turnQ f s)) := by
  have sl := hs.len; have o1 := ok.h1; have o6 := ok.h6
  have l1 : (innQ s).length ≤ 6 := by
    have := List.length_filter_le (fun p => decide ((s.tail ++ [0]).getD p.2 0 < p.1)) s.zipIdx
    unfold innQ
    rw [List.length_map]
    rw [List.length_zipIdx] at this
    omega
  have l2 : (outQ f.w s).length ≤ 6 := by
    have := List.length_filter_le (fun p => decide (p.1 < (f.w :: s.dropLast).getD p.2 0)) s.zipIdx
    unfold outQ
    rw [List.length_map]
    rw [List.length_zipIdx] at this
    omega
  have ad : binD .add (eQL (innQ s)) (eQL (outQ f.w s)) = some (eQL (innQ s ++ outQ f.w s)) := by
    have := add_L (a := (innQ s).map eQ) (b := (outQ f.w s).map eQ) (by rw [List.length_map, List.length_map]; unfold LIM; omega)
    rw [← List.map_append] at this
    exact this
  exact Runs.of (St.rt (St.ret (V.prim (Vs.cons (V.comp (enc := eQ) (p := fun x => !hasQ x f.r) (g := eQ) (innQ s ++ outQ f.w s) (Vs.cons (V.bin (V.call (Vs.cons (V.slot rfl) Vs.nil) (h1 s (by omega) (by omega))) (V.call (Vs.cons (V.slot rfl) (Vs.cons (V.slot rfl) Vs.nil)) (h2 f s (by omega) (by omega))) ad) Vs.nil) rfl (fun x _ => rfl) (fun x _ => V.cmp (V.slot rfl) (V.idx (V.slot rfl) V.cst idx_F2) (nmemT_Qs x f.r)) (fun x _ _ => V.slot rfl)) Vs.nil) (sorted_QL _))))
theorem turns_about_run (n1 : S_need_field φ) (n3 : S_need_square φ) (ha : ∀ f : Fld, f.Ok → To φ 48 [eF f] (eSL (allS f))) (ht : S_turn φ) {f : Fld} {q : Sq} (ok : f.Ok) (h1 : q.1 < f.h) (h2 : q.2 < f.w) : Runs φ b_turns_about 3 [eF f, eQ q] (eN (turnsF f q)) :=
  Runs.of (St.needq n1 ok n3 h1 h2 rfl rfl (St.rt (St.ret (V.prim (Vs.cons (V.comp (enc := eS) (p := fun s => hasQ q (turnQ f s)) (g := eS) (allS f) (Vs.cons (V.call (Vs.cons (V.slot rfl) Vs.nil) (ha f ok)) Vs.nil) rfl (fun x _ => rfl) (fun s hs => V.cmp (V.slot rfl) (V.call (Vs.cons (V.slot rfl) (Vs.cons (V.slot rfl) Vs.nil)) (ht f s ok (mem_all.mp hs))) (mem_Qs _ _)) (fun s _ _ => V.slot rfl)) Vs.nil) (lenL _)))))
theorem St.for1 {ρ ρ' : Env} {ds : List D} {t : T} {k : ItK} {it : E} {b : S} {x : D} (hi : Vs φ ρ it ds) (hk : itemsD k ds = some [x]) (h : Goes φ t b x ρ ρ') : St φ ρ (.for [] t k it b) (.nx ρ') := fun m => by
  show (evE φ it ρ m).bind _ = _
  rw [hi m]
  show (Out.of m (itemsD k ds)).bind _ = _
  rw [hk]
  exact turn_go h [] m
theorem need_one_run (h6 : S_tuple_of φ) (h7 : S_is_square_of φ) {f : Fld} {q : Sq} (ok : f.Ok) (h1 : q.1 < f.h) (h2 : q.2 < f.w) : Runs φ b_need_squares 4 [eF f, eQT [q]] .non := by
  have t6 := h6 [eQ q] 0 36
  have t7 := h7 q f.h f.w ok.h1 ok.w1
  rw [decide_eq_true h1, decide_eq_true h2] at t7
  exact Runs.ofN ⟨_, St.seq (St.iteF (x := .bl false) (V.not (t := true) (V.call (Vs.cons (V.slot rfl) (Vs.cons (V.cst (d := eN 0)) (Vs.cons (V.bin (V.cst (d := eN 6)) (V.cst (d := eN 6)) (by rfl)) Vs.nil))) t6)) rfl St.skip)
    (St.seq (St.for1 (x := .tup [eN 0, eQ q]) (Vs.cons (V.slot rfl) Vs.nil) rfl ⟨_, rfl, .inl (St.seq (St.iteF (x := .bl false) (V.or (t := false) (u := false) (V.not (t := true) (V.call (Vs.cons (V.slot rfl) (Vs.cons (V.idx (V.slot rfl) V.cst idx_F0) (Vs.cons (V.idx (V.slot rfl) V.cst idx_F1) Vs.nil))) t7)) fun _ => V.and (t := false) (u := false) (V.cmp (V.slot rfl) (V.cst (d := eN 0)) (cN_gt 0 0)) fun g => by cases g) rfl St.skip) St.skip)⟩) St.skip)⟩
theorem numbers_put_run (n1 : S_need_field φ) (hn : ∀ {f : Fld} {q : Sq}, f.Ok → q.1 < f.h → q.2 < f.w → To φ 83 [eF f, eQT [q]] .non) (hl : S_lots φ) (hp : S_put φ) {f : Fld} {q : Sq} (ok : f.Ok) (h1 : q.1 < f.h) (h2 : q.2 < f.w) (hq : q ∉ f.r) :
    Runs φ b_numbers_put 5 [eF f, eQT [q]] (eS [(lotsN f.r).length, (lotsN (putF f q).r).length]) := by
  have c := memT_Qs q f.r
  rw [show hasQ q f.r = false by rw [← Bool.not_eq_true, hasQ_iff]; exact hq] at c
  refine Runs.of (St.seq (V.need n1 ok (V.slot rfl)) (St.seq (St.expr (V.call (Vs.cons (V.slot rfl) (Vs.cons (V.slot rfl) Vs.nil)) (hn ok h1 h2))) (St.seq (St.for1 (x := .tup [eN 0, eQ q]) (Vs.cons (V.slot rfl) Vs.nil) rfl ⟨_, rfl, .inl (St.seq (St.iteF (V.cmp (V.slot rfl) (V.idx (V.slot rfl) V.cst idx_F2) c) rfl St.skip) St.skip)⟩)
    (St.seq (St.own (V.lst (Vs.cons (V.prim (Vs.cons (V.call (Vs.cons (V.slot rfl) Vs.nil) (hl f ok)) Vs.nil) (lenL _)) Vs.nil)) (by simp [setE, startE])) (St.seq (St.for1 (x := eQ q) (Vs.cons (V.slot rfl) Vs.nil) rfl ⟨_, rfl, .inl (St.seq (St.asg (V.call (Vs.cons (V.slot rfl) (Vs.cons (V.slot rfl) Vs.nil)) (hp f q ok)) rfl) (St.seq (St.app (V.prim (Vs.cons (V.call (Vs.cons (V.slot rfl) Vs.nil) (hl (putF f q) (putF_ok ok h1 h2 hq))) Vs.nil) (lenL _)) rfl ?_) St.skip))⟩) (St.rt (St.ret (V.prim (Vs.cons (V.brw rfl) Vs.nil) rfl))))))))
  show 1 < LIM
  unfold LIM
  omega
def szL (f : Fld) (L : List Sq) : Nat := (SB ((lowL f.h L).zip (highL f.h f.w f.r L)) none).length
theorem lot_small {f : Fld} (ok : f.Ok) {L : List Sq} (hL : L ∈ lotsN f.r) : Small (lowL f.h L) (highL f.h f.w f.r L) := by
  have okh6 := ok.h6; have okw6 := ok.w6
  refine ⟨by unfold lowL highL; rw [aboutN_len, beforeN_len], by unfold lowL; rw [aboutN_len]; exact okh6, fun x hx => ?_, fun x hx => ?_⟩
  · obtain ⟨i, hi, rfl⟩ := List.getElem_of_mem hx
    exact Nat.le_trans ((le_before hi).mp (Nat.le_refl _)).1 okw6
  · obtain ⟨i, hi, rfl⟩ := List.getElem_of_mem hx
    refine (about_le hi).mpr fun q hq _ => ?_
    have := lot_in ok hL hq
    omega
def S_lot_size (φ : Phi) := ∀ (f : Fld) (L : List Sq), f.Ok → L ∈ lotsN f.r → To φ 150 [eF f, eQT L] (eN (szL f L))
theorem lot_size_run (h1 : S_about φ) (h2 : S_before φ) (h3 : S_ways_below φ) {f : Fld} {L : List Sq} (ok : f.Ok) (hL : L ∈ lotsN f.r) : Runs φ b_lot_size_of 4 [eF f, eQT L] (eN (szL f L)) := by
  have len := ok.len
  have hLl := ((mem_lots ok.sorted).mp hL).1.length_le
  have hf := List.length_filter_le (fun o => !hasQ o L) f.r
  have h0 : 0 < (lowL f.h L).length := by unfold lowL; rw [aboutN_len]; exact ok.h1
  obtain ⟨d, e1, e2⟩ := sum_first (B := (lowL f.h L).zip (highL f.h f.w f.r L)) (by rw [(lot_small ok hL).zip]; exact h0)
  exact Runs.of (St.seq (St.asg (V.call (Vs.cons (V.slot rfl) (Vs.cons (V.comp (enc := eQ) (p := fun o => !hasQ o L) (g := eQ) f.r (Vs.cons (V.idx (V.slot rfl) V.cst idx_F2) Vs.nil) rfl (fun x _ => rfl) (fun o _ => V.cmp (V.slot rfl) (V.slot rfl) (nmemT_Qs o L)) (fun o _ _ => V.slot rfl)) Vs.nil)) (h2 f _ _ ok.h6 (by omega) rfl)) rfl)
    (St.rt (St.ret (V.prim (Vs.cons (V.idx (V.call (Vs.cons (V.call (Vs.cons (V.slot rfl) (Vs.cons (V.slot rfl) Vs.nil)) (h1 f L (eQT L) ok.h6 (by omega) rfl)) (Vs.cons (V.slot rfl) Vs.nil)) (h3 _ _ (lot_small ok hL) h0)) (V.cst (d := eN 0)) e1) Vs.nil) e2))))
def insN (x : Nat) : List Nat → List Nat
  | [] => [x]
  | y :: r => if y < x then y :: insN x r else x :: y :: r
def sortN : List Nat → List Nat
  | [] => []
  | x :: r => insN x (sortN r)
theorem insN_perm (x : Nat) : ∀ l, (insN x l).Perm (x :: l)
  | [] => List.Perm.refl _
  | y :: r => by
    show (if y < x then y :: insN x r else x :: y :: r).Perm _
    split
    · exact ((insN_perm x r).cons y).trans (List.Perm.swap x y r)
    · exact List.Perm.refl _
theorem sortN_perm : ∀ l, (sortN l).Perm l
  | [] => List.Perm.refl _
  | x :: r => (insN_perm x _).trans ((sortN_perm r).cons x)
theorem insN_asc (x : Nat) : ∀ l : List Nat, l.Pairwise (· ≤ ·) → (insN x l).Pairwise (· ≤ ·)
  | [], _ => List.pairwise_singleton _ _
  | y :: r, h => by
    rw [List.pairwise_cons] at h
    show (if y < x then y :: insN x r else x :: y :: r).Pairwise (· ≤ ·)
    split
    · refine List.pairwise_cons.mpr ⟨fun z hz => ?_, insN_asc x r h.2⟩
      rcases List.mem_cons.mp ((insN_perm x r).mem_iff.mp hz) with rfl | hz
      · omega
      · exact h.1 z hz
    · refine List.pairwise_cons.mpr ⟨fun z hz => ?_, List.pairwise_cons.mpr h⟩
      rcases List.mem_cons.mp hz with rfl | hz
      · omega
      · have := h.1 z hz; omega
theorem sortN_asc : ∀ l : List Nat, (sortN l).Pairwise (· ≤ ·)
  | [] => List.Pairwise.nil
  | x :: r => insN_asc x _ (sortN_asc r)
theorem sorted_N (l : List Nat) : primD .sorted [.lst (l.map eN)] = some (.lst ((sortN l).map eN)) := by
  show (if alkAll (l.map eN) && ((l.map eN).all isTupC || (l.map eN).all noTup) then some (sortB (l.map eN)) else none).map D.lst = _
  have h1 : (l.map eN).all noTup = true := by
    rw [List.all_eq_true]
    intro d hd
    obtain ⟨s, _, rfl⟩ := List.mem_map.mp hd
    rfl
  rw [alk_Ns, h1, Bool.or_true]
  have e2 : ∀ l : List Nat, l.map eN = (l.map fun (n : Nat) => (n : Int)).map D.int := fun l => by rw [List.map_map]; rfl
  have h3 : sortB (l.map eN) = (sortN l).map eN := by
    rw [e2, e2]
    refine sortB_ints ((sortN_perm l).map _) ?_
    rw [List.pairwise_map]
    exact (sortN_asc l).imp fun h => by omega
  rw [h3]
  rfl
theorem sizes_run (n1 : S_need_field φ) (hl : S_lots φ) (hs : S_lot_size φ) {f : Fld} (ok : f.Ok) : Runs φ b_sizes 2 [eF f] (.lst ((sortN ((lotsN f.r).map (szL f))).map eN)) := by
  have := sorted_N ((lotsN f.r).map (szL f))
  rw [List.map_map] at this
  exact Runs.of (St.seq (V.need n1 ok (V.slot rfl)) (St.rt (St.ret (V.prim (Vs.cons (V.compA (enc := eQT) (g := fun L => eN (szL f L)) (lotsN f.r) (Vs.cons (V.call (Vs.cons (V.slot rfl) Vs.nil) (hl f ok)) Vs.nil) rfl (fun x _ => rfl) (fun L hL => V.call (Vs.cons (V.slot rfl) (Vs.cons (V.slot rfl) Vs.nil)) (hs f L ok hL))) Vs.nil) this))))
def encG (f : Fld) (L : List Sq) : D := .tup [.int (-(szL f L : Int)), eN L.length, eQT L]
theorem ltB_G (f : Fld) (a b : List Sq) : (ltB (encG f a) (encG f b) = true → szL f b ≤ szL f a) ∧ (ltB (encG f a) (encG f b) = false → szL f a ≤ szL f b) := by
  have e : ltB (encG f a) (encG f b) = (if eqD (.int (-(szL f a : Int))) (.int (-(szL f b : Int))) then ltBs [eN a.length, eQT a] [eN b.length, eQT b] else ltB (.int (-(szL f a : Int))) (.int (-(szL f b : Int)))) := by
    have h1 : ∀ xs ys, ltB (.tup xs) (.tup ys) = ltBs xs ys := fun xs ys => by simp only [ltB]
    have h2 : ∀ x xs y ys, ltBs (x :: xs) (y :: ys) = if eqD x y then ltBs xs ys else ltB x y := fun x xs y ys => by simp only [ltBs]
    unfold encG
    rw [h1, h2]
  rw [e, eqD_I]
  by_cases g : (-(szL f a : Int)) = -(szL f b : Int)
  · rw [if_pos (by simpa using g)]
    exact ⟨fun _ => by omega, fun _ => by omega⟩
  · rw [if_neg (by simpa using g)]
    show (decide ((-(szL f a : Int)) < -(szL f b : Int)) = true → _) ∧ (decide ((-(szL f a : Int)) < -(szL f b : Int)) = false → _)
    exact ⟨fun h => by have := of_decide_eq_true h; omega, fun h => by have := of_decide_eq_false h; omega⟩
theorem minB_G (f : Fld) : ∀ (l : List (List Sq)) (x : List Sq), ∃ r ∈ x :: l, minB (encG f x) (l.map (encG f)) = encG f r ∧ ∀ y ∈ x :: l, szL f y ≤ szL f r
  | [], x => ⟨x, List.mem_cons_self, rfl, fun y hy => by rw [List.mem_singleton.mp hy]; exact Nat.le_refl _⟩
  | z :: l, x => by
    have key := ltB_G f z x
    cases hc : ltB (encG f z) (encG f x) with
    | true =>
      obtain ⟨r, h1, h2, h3⟩ := minB_G f l z
      refine ⟨r, List.mem_cons_of_mem _ h1, ?_, fun y hy => ?_⟩
      · show minB (if ltB (encG f z) (encG f x) then encG f z else encG f x) (l.map (encG f)) = _
        rw [hc]; exact h2
      · rcases List.mem_cons.mp hy with rfl | hy
        · exact Nat.le_trans (key.1 hc) (h3 z List.mem_cons_self)
        · exact h3 y hy
    | false =>
      obtain ⟨r, h1, h2, h3⟩ := minB_G f l x
      refine ⟨r, ?_, ?_, fun y hy => ?_⟩
      · rcases List.mem_cons.mp h1 with rfl | h1
        · exact List.mem_cons_self
        · exact List.mem_cons_of_mem _ (List.mem_cons_of_mem _ h1)
      · show minB (if ltB (encG f z) (encG f x) then encG f z else encG f x) (l.map (encG f)) = _
        rw [hc]; exact h2
      · rcases List.mem_cons.mp hy with rfl | hy
        · exact h3 y List.mem_cons_self
        · rcases List.mem_cons.mp hy with rfl | hy
          · exact Nat.le_trans (key.2 hc) (h3 x List.mem_cons_self)
          · exact h3 y (List.mem_cons_of_mem _ hy)
theorem greatest_run (n1 : S_need_field φ) (hl : S_lots φ) (hs : S_lot_size φ) {f : Fld} (ok : f.Ok) : ∃ L ∈ lotsN f.r, (∀ M ∈ lotsN f.r, szL f M ≤ szL f L) ∧ Runs φ b_greatest_kind 3 [eF f] (.tup [eN (szL f L), eQT L]) := by
  obtain ⟨x, l, hx⟩ : ∃ x l, lotsN f.r = x :: l := by
    cases h : lotsN f.r with
    | nil => have := lots_pos ok.sorted; rw [h] at this; exact absurd this (Nat.lt_irrefl 0)
    | cons x l => exact ⟨x, l, rfl⟩
  obtain ⟨r, h1, h2, h3⟩ := minB_G f l x
  have okG : ∀ L : List Sq, okD okDep (encG f L) = true := fun L => by
    show ([D.int _, eN L.length, eQT L].all (okD 11)) = true
    simp only [List.all_cons, List.all_nil, Bool.and_true]
    have : okD 11 (eQT L) = true := by
      show (L.map eQ).all (okD 10) = true
      rw [List.all_eq_true]
      intro d hd
      obtain ⟨q, _, rfl⟩ := List.mem_map.mp hd
      rfl
    rw [this]
    rfl
  have mn : primD .min [.lst ((x :: l).map (encG f))] = some (encG f r) := by
    show (if alkAll ((x :: l).map (encG f)) then some (minB (encG f x) (l.map (encG f))) else none) = _
    have ha : alkAll ((x :: l).map (encG f)) = true := by
      unfold alkAll
      rw [Bool.and_eq_true, List.all_eq_true, List.all_eq_true]
      refine ⟨fun d hd => ?_, fun d hd => ?_⟩
      · obtain ⟨n, _, rfl⟩ := List.mem_map.mp hd
        exact okG n
      · obtain ⟨n, _, rfl⟩ := List.mem_map.mp hd
        rw [List.all_eq_true]
        intro d hd
        obtain ⟨m, _, rfl⟩ := List.mem_map.mp hd
        show (true && (true && (alkDs (n.map eQ) (m.map eQ) && true))) = true
        rw [alkDs_Q]
        rfl
    rw [ha, h2]
    rfl
  rw [hx]
  refine ⟨r, h1, h3, Runs.of (St.seq (V.need n1 ok (V.slot rfl)) (St.seq (St.asg (V.prim (Vs.cons (V.compA (enc := eQT) (g := encG f) (lotsN f.r) (Vs.cons (V.call (Vs.cons (V.slot rfl) Vs.nil) (hl f ok)) Vs.nil) rfl (fun x _ => rfl) (fun L hL => V.tup (Vs.cons (V.neg (V.call (Vs.cons (V.slot rfl) (Vs.cons (V.slot rfl) Vs.nil)) (hs f L ok hL))) (Vs.cons (V.prim (d := eN L.length) (Vs.cons (V.slot rfl) Vs.nil) (by simp [primD, lenD, eQT, eN])) (Vs.cons (V.slot rfl) Vs.nil))))) Vs.nil) (by rw [hx]; exact mn)) rfl) (St.rt (St.ret ?_))))⟩
  have := V.tup (φ := φ) (ρ := [some (.val (eF f)), some (.val (encG f r)), none]) (Vs.cons (V.neg (V.idx (V.slot (i := 1) rfl) (V.cst (d := .int 0)) (show idxD (encG f r) (.int 0) = some (.int (-(szL f r : Int))) from rfl))) (Vs.cons (V.idx (V.slot (i := 1) rfl) (V.cst (d := .int 2)) (show idxD (encG f r) (.int 2) = some (eQT r) from rfl)) Vs.nil))
  rw [Int.neg_neg] at this
  exact this
end Ev

set_option maxHeartbeats 4000000
namespace Ev
open PySem
theorem sum_flat {α : Type} (f : α → List Nat) : ∀ l : List α, (l.flatMap f).sum = (l.map fun x => (f x).sum).sum
  | [] => rfl
  | x :: l => by rw [List.flatMap_cons, List.sum_append, List.map_cons, List.sum_cons, sum_flat f l]
theorem sum_filter {α : Type} (z : α → Nat) (p : α → Bool) : ∀ l : List α, (∀ x ∈ l, p x = false → z x = 0) → (l.map z).sum = ((l.filter p).map z).sum
  | [], _ => rfl
  | x :: l, h => by
    rw [List.map_cons, List.sum_cons, sum_filter z p l fun y hy => h y (List.mem_cons_of_mem _ hy)]
    cases hp : p x with
    | true => rw [List.filter_cons_of_pos hp, List.map_cons, List.sum_cons]
    | false => rw [List.filter_cons_of_neg (by rw [hp]; simp), h x List.mem_cons_self hp, Nat.zero_add]
theorem sum_squares (z : Sq → Nat) (h w : Nat) : ((squares h w).map z).sum = ((List.range h).map fun i => ((List.range w).map fun c => z (i, c)).sum).sum := by
  unfold squares
  rw [List.map_flatMap, sum_flat]
  congr 1
  refine List.map_congr_left fun i _ => ?_
  rw [List.map_map]
  rfl
theorem index_N {l : List Nat} {m i : Nat} (h : l.findIdx? (fun z => decide (z = m)) = some i) : methD .index (.lst (l.map eN)) [eN m] = some (eN i) := by
  have ha : (l.map eN).all (okD okDep) = true := by
    rw [List.all_eq_true]
    intro d hd
    obtain ⟨z, _, rfl⟩ := List.mem_map.mp hd
    rfl
  show (if okD okDep (eN m) && (l.map eN).all (okD okDep) then ((l.map eN).findIdx? fun z => eqD z (eN m)).map (fun (j : Nat) => D.int j) else none) = _
  rw [show okD okDep (eN m) = true from rfl, ha]
  show ((l.map eN).findIdx? fun z => eqD z (eN m)).map (fun (j : Nat) => D.int j) = _
  have : (l.map eN).findIdx? (fun z => eqD z (eN m)) = l.findIdx? fun z => decide (z = m) := by
    rw [List.findIdx?_map]
    exact congrArg (fun f => l.findIdx? f) (funext fun z => eqD_N z m)
  rw [this, h]
  rfl
theorem find_first {l : List Nat} {m : Nat} (h : m ∈ l) : ∃ i, ∃ hi : i < l.length, l.findIdx? (fun z => decide (z = m)) = some i ∧ l[i] = m ∧ ∀ j (hj : j < i), l[j] ≠ m := by
  cases e : l.findIdx? (fun z => decide (z = m)) with
  | none =>
    rw [List.findIdx?_eq_none_iff] at e
    have := e m h
    simp at this
  | some i =>
    obtain ⟨hi, h1, h2⟩ := List.findIdx?_eq_some_iff_getElem.mp e
    refine ⟨i, hi, rfl, of_decide_eq_true h1, fun j hj => ?_⟩
    have := h2 j hj
    simpa using this
theorem foldl_max_mem : ∀ (l : List Nat) (a : Nat), l.foldl max a ∈ a :: l
  | [], a => List.mem_cons_self
  | x :: l, a => by
    rw [List.foldl_cons]
    rcases List.mem_cons.mp (foldl_max_mem l (max a x)) with e | e
    · rw [e]
      rcases Nat.le_total a x with g | g
      · rw [Nat.max_eq_right g]; simp
      · rw [Nat.max_eq_left g]; simp
    · simp [e]
theorem foldl_min_mem : ∀ (l : List Nat) (a : Nat), l.foldl min a ∈ a :: l
  | [], a => List.mem_cons_self
  | x :: l, a => by
    rw [List.foldl_cons]
    rcases List.mem_cons.mp (foldl_min_mem l (min a x)) with e | e
    · rw [e]
      rcases Nat.le_total a x with g | g
      · rw [Nat.min_eq_left g]; simp
      · rw [Nat.min_eq_right g]; simp
    · simp [e]
theorem max_at {z : Sq → Nat} {l : List Sq} (hs : l.Pairwise ltQ) (ne : l ≠ []) : ∃ M i, ∃ hi : i < l.length, primD .max [.lst (l.map fun q => eN (z q))] = some (eN M) ∧ methD .index (.lst (l.map fun q => eN (z q))) [eN M] = some (eN i) ∧ IsMax z l (M, l[i]) := by
  cases l with
  | nil => exact absurd rfl ne
  | cons q l =>
    have e : ((q :: l).map fun q => eN (z q)) = ((q :: l).map z).map eN := by rw [List.map_map]; rfl
    have mx := max_L (z q) (l.map z)
    have mem : (l.map z).foldl max (z q) ∈ (q :: l).map z := foldl_max_mem (l.map z) (z q)
    have le := (max_le_iff (l.map z) (z q) ((l.map z).foldl max (z q))).mp (Nat.le_refl _)
    generalize (l.map z).foldl max (z q) = M at mx mem le
    obtain ⟨i, hi, f1, f2, f3⟩ := find_first mem
    rw [List.length_map] at hi
    rw [List.getElem_map] at f2
    refine ⟨M, i, hi, ?_, by rw [e]; exact index_N f1, List.getElem_mem hi, f2.symm, fun x hx => ⟨?_, fun ex g => ?_⟩⟩
    · rw [e]; exact mx
    · rcases List.mem_cons.mp hx with rfl | hx
      · exact le.1
      · exact le.2 _ (List.mem_map.mpr ⟨x, hx, rfl⟩)
    · obtain ⟨j, hj, rfl⟩ := List.getElem_of_mem hx
      have g : ltQ (q :: l)[j] (q :: l)[i] := g
      rcases Nat.lt_trichotomy j i with t | t | t
      · have := f3 j t
        rw [List.getElem_map] at this
        exact this ex
      · subst t
        exact ltQ_irrefl _ g
      · exact ltQ_irrefl _ (ltQ_trans g (List.pairwise_iff_getElem.mp hs i j hi hj t))
theorem min_at {z : Sq → Nat} {l : List Sq} (hs : l.Pairwise ltQ) (ne : l ≠ []) : ∃ M i, ∃ hi : i < l.length, primD .min [.lst (l.map fun q => eN (z q))] = some (eN M) ∧ methD .index (.lst (l.map fun q => eN (z q))) [eN M] = some (eN i) ∧ IsMin z l (M, l[i]) := by
  cases l with
  | nil => exact absurd rfl ne
  | cons q l =>
    have e : ((q :: l).map fun q => eN (z q)) = ((q :: l).map z).map eN := by rw [List.map_map]; rfl
    have mx := min_L (z q) (l.map z)
    have mem : (l.map z).foldl min (z q) ∈ (q :: l).map z := foldl_min_mem (l.map z) (z q)
    have le := (le_min_iff (l.map z) (z q) ((l.map z).foldl min (z q))).mp (Nat.le_refl _)
    generalize (l.map z).foldl min (z q) = M at mx mem le
    obtain ⟨i, hi, f1, f2, f3⟩ := find_first mem
    rw [List.length_map] at hi
    rw [List.getElem_map] at f2
    refine ⟨M, i, hi, ?_, by rw [e]; exact index_N f1, List.getElem_mem hi, f2.symm, fun x hx => ⟨?_, fun ex g => ?_⟩⟩
    · rw [e]; exact mx
    · rcases List.mem_cons.mp hx with rfl | hx
      · exact le.1
      · exact le.2 _ (List.mem_map.mpr ⟨x, hx, rfl⟩)
    · obtain ⟨j, hj, rfl⟩ := List.getElem_of_mem hx
      have g : ltQ (q :: l)[j] (q :: l)[i] := g
      rcases Nat.lt_trichotomy j i with t | t | t
      · have := f3 j t
        rw [List.getElem_map] at this
        exact this ex
      · subst t
        exact ltQ_irrefl _ g
      · exact ltQ_irrefl _ (ltQ_trans g (List.pairwise_iff_getElem.mp hs i j hi hj t))
theorem cP_ne (p : Nat × Sq) : cmpD .ne (eP (some p)) (eP (some p)) = some (.bl false) := by
  show (if okD okDep (eP (some p)) && okD okDep (eP (some p)) then some (D.bl (!eqD (eP (some p)) (eP (some p)))) else none) = _
  have h1 : okD okDep (eP (some p)) = true := rfl
  have h2 : eqD (eP (some p)) (eP (some p)) = true := by
    have : eqD (eP (some p)) (eP (some p)) = (eqD (eN p.1) (eN p.1) && (eqD (eQ p.2) (eQ p.2) && true)) := by
      simp only [eP, eqD, eqDs]
    rw [this, eqD_N, eqD_Q]
    simp
  rw [h1, h2]
  rfl
theorem cP_is (o : Option (Nat × Sq)) : cmpD .is (eP o) .non = some (.bl o.isNone) := by cases o <;> rfl
theorem cP_isnot (o : Option (Nat × Sq)) : cmpD .isnot (eP o) .non = some (.bl o.isSome) := by cases o <;> rfl
theorem bestM_none (z : Sq → Nat) (l : List Sq) : (bestM z l).isNone = l.isEmpty := by cases l <;> rfl
theorem bestW_none (z : Sq → Nat) (l : List Sq) : (bestW z l).isNone = l.isEmpty := by cases l <;> rfl
theorem cQ_ne1 (a : Sq) : cmpD .ne (eQ a) (eQ a) = some (.bl false) := by rw [cQ_ne, decide_eq_true rfl]; rfl
theorem cB_eq (a b : Bool) : cmpD .eq (.bl a) (.bl b) = some (.bl (decide (a = b))) := by cases a <;> cases b <;> rfl
theorem mul2_N (a : Nat) : binD .mul (.int 2) (eN a) = some (eN (2 * a)) := by
  show (if mulOk 2 (a : Int) then some (D.int (2 * (a : Int))) else none) = _
  have : mulOk 2 (a : Int) = true := by
    unfold mulOk
    rw [show (decide (-(2 ^ 64 : Int) < 2) && decide ((2 : Int) < 2 ^ 64)) = true by decide]
    rfl
  rw [if_pos this]
  unfold eN
  rw [Int.natCast_mul]
  rfl
theorem last_N {l : List Nat} {x : Nat} (h : l.getLast? = some x) : idxD (.lst (l.map eN)) (.int (-1)) = some (eN x) := last_S h
theorem last_max {l : List Nat} {M : Nat} (h : M ∈ l) (hm : ∀ x ∈ l, x ≤ M) : idxD (.lst ((sortN l).map eN)) (.int (-1)) = some (eN M) := by
  refine last_N ?_
  have hM : M ∈ sortN l := (sortN_perm l).mem_iff.mpr h
  have hne : sortN l ≠ [] := fun e => by rw [e] at hM; cases hM
  rw [List.getLast?_eq_some_getLast hne]
  congr 1
  have h1 : (sortN l).getLast hne ≤ M := hm _ ((sortN_perm l).mem_iff.mp (List.getLast_mem hne))
  obtain ⟨i, hi, e⟩ := List.getElem_of_mem hM
  have h2 : M ≤ (sortN l).getLast hne := by
    rw [List.getLast_eq_getElem, ← e]
    rcases Nat.lt_or_eq_of_le (show i ≤ (sortN l).length - 1 by omega) with g | g
    · exact List.pairwise_iff_getElem.mp (sortN_asc l) i _ hi (by omega) g
    · simp only [g]
      exact Nat.le_refl _
  omega
end Ev

set_option maxHeartbeats 0
namespace Ev
open PySem
abbrev Φ52 : Tab := tabOf K52.es
theorem no_tells {Φ : Tab} : Tells (fun _ _ => none) Φ := fun f ds d h => by cases h
def okE (x : Out D) (d : D) : Bool := match x with
  | .ok y [] => sameD y d
  | _ => false
theorem okE_to {Φ : Tab} {n f k : Nat} {ds : List D} {d : D} (hk : n ≤ k) (h : okE (callO (fun _ _ => none) Φ n f ds []) d = true) : To (callK Φ k) f ds d := by
  unfold okE at h
  split at h
  · rename_i y e
    obtain ⟨j, rfl⟩ : ∃ j, k = n + j := ⟨k - n, by omega⟩
    obtain ⟨_, h2⟩ := callO_upj (Φ := Φ) no_tells j n f ds _ _ e
    intro m
    obtain ⟨a', e2, r⟩ := h2 m
    rw [e2, ← r, sameD_eq _ _ h]
  · cases h
def ckC (h w : Nat) : Bool := okE (callO (fun _ _ => none) Φ52 2 50 [eN (h + w), eN h] []) (eN (SB (allB h w) none).length)
theorem ckC_all : ∀ h ∈ [1, 2, 3, 4, 5, 6], ∀ w ∈ [1, 2, 3, 4, 5, 6], ckC h w = true := by decide +kernel
theorem in6 {n : Nat} (h1 : 1 ≤ n) (h6 : n ≤ 6) : n ∈ [1, 2, 3, 4, 5, 6] := by
  simp only [List.mem_cons, List.not_mem_nil, or_false]
  omega
theorem T_choose {k : Nat} (h : 2 ≤ k) {f : Fld} (ok : f.Ok) : To (callK Φ52 k) 50 [eN (f.h + f.w), eN f.h] (eN (SB (allB f.h f.w) none).length) := okE_to h (ckC_all f.h (in6 ok.h1 ok.h6) f.w (in6 ok.w1 ok.w6))
theorem T_whole {k : Nat} (h : 1 ≤ k) : S_whole (callK Φ52 k) := fun n => by
  obtain ⟨k, rfl⟩ : ∃ j, k = j + 1 := ⟨k - 1, by omega⟩
  exact To.of K52.f_whole rfl (whole_run n)
theorem T_within {k : Nat} (h : 2 ≤ k) : S_within (callK Φ52 k) := fun n a b => by
  obtain ⟨k, rfl⟩ : ∃ j, k = j + 1 := ⟨k - 1, by omega⟩
  exact To.of K52.f_within rfl (within_run (T_whole (by omega)) n a b)
theorem T_tuple_of {k : Nat} (h : 1 ≤ k) : S_tuple_of (callK Φ52 k) := fun n a b => by
  obtain ⟨k, rfl⟩ : ∃ j, k = j + 1 := ⟨k - 1, by omega⟩
  exact To.of K52.f_tuple_of rfl (tuple_of_run n a b)
theorem T_is_square_of {k : Nat} (h : 3 ≤ k) : S_is_square_of (callK Φ52 k) := fun q a b h1 h2 => by
  obtain ⟨k, rfl⟩ : ∃ j, k = j + 1 := ⟨k - 1, by omega⟩
  exact To.of K52.f_is_square_of rfl (is_square_of_run (T_tuple_of (by omega)) (T_within (by omega)) q a b h1 h2)
theorem T_need_field {k : Nat} (h : 4 ≤ k) : S_need_field (callK Φ52 k) := fun f ok => by
  obtain ⟨k, rfl⟩ : ∃ j, k = j + 1 := ⟨k - 1, by omega⟩
  exact To.of K52.f_need_field rfl (need_field_run (T_tuple_of (by omega)) (T_within (by omega)) (T_is_square_of (by omega)) f ok)
theorem T_need_square {k : Nat} (h : 4 ≤ k) : S_need_square (callK Φ52 k) := fun f q ok h1 h2 => by
  obtain ⟨k, rfl⟩ : ∃ j, k = j + 1 := ⟨k - 1, by omega⟩
  exact To.of K52.f_need_square rfl (need_square_run (T_is_square_of (by omega)) f q ok h1 h2)
theorem T_squares_of {k : Nat} (h : 1 ≤ k) : S_squares (callK Φ52 k) 12 := fun a b h1 h2 => by
  obtain ⟨k, rfl⟩ : ∃ j, k = j + 1 := ⟨k - 1, by omega⟩
  exact To.of K52.f_squares_of rfl (squares_run h1 h2)
theorem T_law_squares {k : Nat} (h : 1 ≤ k) : S_squares (callK Φ52 k) 1 := fun a b h1 h2 => by
  obtain ⟨k, rfl⟩ : ∃ j, k = j + 1 := ⟨k - 1, by omega⟩
  exact To.of K52.f_law_squares rfl (squares_run h1 h2)
theorem T_stairs_between {k : Nat} (h : 1 ≤ k) : S_stairs_between (callK Φ52 k) := fun low high sm => by
  obtain ⟨k, rfl⟩ : ∃ j, k = j + 1 := ⟨k - 1, by omega⟩
  exact To.of K52.f_stairs_between rfl (stairs_between_run sm)
theorem T_ways_below {k : Nat} (h : 1 ≤ k) : S_ways_below (callK Φ52 k) := fun low high sm h0 => by
  obtain ⟨k, rfl⟩ : ∃ j, k = j + 1 := ⟨k - 1, by omega⟩
  exact To.of K52.f_ways_below rfl (ways_below_run sm h0)
theorem T_about {k : Nat} (h : 1 ≤ k) : S_about (callK Φ52 k) := fun f sq d hh hl hd => by
  obtain ⟨k, rfl⟩ : ∃ j, k = j + 1 := ⟨k - 1, by omega⟩
  exact To.of K52.f_about rfl (about_run f sq d hh hl hd)
theorem T_before {k : Nat} (h : 1 ≤ k) : S_before (callK Φ52 k) := fun f sq d hh hl hd => by
  obtain ⟨k, rfl⟩ : ∃ j, k = j + 1 := ⟨k - 1, by omega⟩
  exact To.of K52.f_before rfl (before_run f sq d hh hl hd)
theorem T_all_stairs_of {k : Nat} (h : 2 ≤ k) : ∀ {f : Fld}, f.Ok → To (callK Φ52 k) 48 [eF f] (eSL (SB (allB f.h f.w) none)) := fun {f} ok => by
  obtain ⟨k, rfl⟩ : ∃ j, k = j + 1 := ⟨k - 1, by omega⟩
  exact To.of K52.f_all_stairs_of rfl (all_stairs_of_run ok (T_stairs_between (by omega) _ _ (all_small ok.h6 ok.w6)))
theorem T_count_stairs {k : Nat} (h : 5 ≤ k) : ∀ {f : Fld}, f.Ok → To (callK Φ52 k) 51 [eF f] (eN (SB (allB f.h f.w) none).length) := fun {f} ok => by
  obtain ⟨k, rfl⟩ : ∃ j, k = j + 1 := ⟨k - 1, by omega⟩
  exact To.of K52.f_count_stairs rfl (count_stairs_run (T_need_field (by omega)) ok (T_choose (by omega) ok))
theorem T_up {k : Nat} (h : 1 ≤ k) : S_up (callK Φ52 k) := fun a b => by
  obtain ⟨k, rfl⟩ : ∃ j, k = j + 1 := ⟨k - 1, by omega⟩
  exact To.of K52.f_up_left rfl (up_run a b)
theorem T_free_of {k : Nat} (h : 2 ≤ k) : S_free (callK Φ52 k) := fun f ok => by
  obtain ⟨k, rfl⟩ : ∃ j, k = j + 1 := ⟨k - 1, by omega⟩
  exact To.of K52.f_free_of rfl (free_of_run (T_squares_of (by omega)) ok)
theorem T_lots_of {k : Nat} (h : 2 ≤ k) : S_lots (callK Φ52 k) := fun f ok => by
  obtain ⟨k, rfl⟩ : ∃ j, k = j + 1 := ⟨k - 1, by omega⟩
  exact To.of K52.f_lots_of rfl (lots_of_run (T_up (by omega)) ok)
theorem T_is_lot_of {k : Nat} (h : 2 ≤ k) : S_is_lot (callK Φ52 k) := fun f l hl => by
  obtain ⟨k, rfl⟩ : ∃ j, k = j + 1 := ⟨k - 1, by omega⟩
  exact To.of K52.f_is_lot_of rfl (is_lot_of_run (T_up (by omega)) f l hl)
theorem T_joins_of {k : Nat} (h : 3 ≤ k) : S_joins (callK Φ52 k) := fun f q ok hq => by
  obtain ⟨k, rfl⟩ : ∃ j, k = j + 1 := ⟨k - 1, by omega⟩
  exact To.of K52.f_joins_of rfl (joins_of_run (T_lots_of (by omega)) (T_is_lot_of (by omega)) ok hq)
theorem T_put_of {k : Nat} (h : 1 ≤ k) : S_put (callK Φ52 k) := fun f q ok => by
  obtain ⟨k, rfl⟩ : ∃ j, k = j + 1 := ⟨k - 1, by omega⟩
  exact To.of K52.f_put_of rfl (put_of_run ok)
theorem T_bounds {k : Nat} (h : 3 ≤ k) : S_bounds (callK Φ52 k) := fun f ok => by
  obtain ⟨k, rfl⟩ : ∃ j, k = j + 1 := ⟨k - 1, by omega⟩
  exact To.of K52.f_bounds rfl (bounds_run (T_lots_of (by omega)) (T_about (by omega)) (T_before (by omega)) ok)
theorem T_inner_of {k : Nat} (h : 1 ≤ k) : S_inner (callK Φ52 k) := fun s h0 h6 => by
  obtain ⟨k, rfl⟩ : ∃ j, k = j + 1 := ⟨k - 1, by omega⟩
  exact To.of K52.f_inner_of rfl (inner_of_run h0 (by omega))
theorem T_outer_of {k : Nat} (h : 1 ≤ k) : S_outer (callK Φ52 k) := fun f s h0 h6 => by
  obtain ⟨k, rfl⟩ : ∃ j, k = j + 1 := ⟨k - 1, by omega⟩
  exact To.of K52.f_outer_of rfl (outer_of_run h0 (by omega))
theorem T_turnable_of {k : Nat} (h : 2 ≤ k) : S_turn (callK Φ52 k) := fun f s ok hs => by
  obtain ⟨k, rfl⟩ : ∃ j, k = j + 1 := ⟨k - 1, by omega⟩
  exact To.of K52.f_turnable_of rfl (turnable_of_run (T_inner_of (by omega)) (T_outer_of (by omega)) ok hs)
theorem T_lot_size_of {k : Nat} (h : 2 ≤ k) : S_lot_size (callK Φ52 k) := fun f L ok hL => by
  obtain ⟨k, rfl⟩ : ∃ j, k = j + 1 := ⟨k - 1, by omega⟩
  exact To.of K52.f_lot_size_of rfl (lot_size_run (T_about (by omega)) (T_before (by omega)) (T_ways_below (by omega)) ok hL)
theorem T_free_squares {k : Nat} (h : 5 ≤ k) : ∀ {f : Fld}, f.Ok → To (callK Φ52 k) 14 [eF f] (eQL ((squares f.h f.w).filter fun q => !hasQ q f.r)) := fun {f} ok => by
  obtain ⟨k, rfl⟩ : ∃ j, k = j + 1 := ⟨k - 1, by omega⟩
  exact To.of K52.f_free_squares rfl (free_squares_run (T_need_field (by omega)) (T_free_of (by omega)) ok)
theorem T_count_kinds {k : Nat} (h : 5 ≤ k) : ∀ {f : Fld}, f.Ok → To (callK Φ52 k) 143 [eF f] (eN (lotsN f.r).length) := fun {f} ok => by
  obtain ⟨k, rfl⟩ : ∃ j, k = j + 1 := ⟨k - 1, by omega⟩
  exact To.of K52.f_count_kinds rfl (count_kinds_run (T_need_field (by omega)) (T_lots_of (by omega)) ok)
theorem T_best_square {k : Nat} (h : 5 ≤ k) : ∀ {f : Fld}, f.Ok → To (callK Φ52 k) 216 [eF f] (eP (bestM (gain f) ((squares f.h f.w).filter fun q => !hasQ q f.r))) := fun {f} ok => by
  obtain ⟨k, rfl⟩ : ∃ j, k = j + 1 := ⟨k - 1, by omega⟩
  exact To.of K52.f_best_square rfl (best_square_run (T_need_field (by omega)) (T_free_of (by omega)) (T_put_of (by omega)) (T_joins_of (by omega)) ok)
theorem T_weakest {k : Nat} (h : 5 ≤ k) : ∀ {f : Fld}, f.Ok → To (callK Φ52 k) 217 [eF f] (eP (bestW (fall f) f.r)) := fun {f} ok => by
  obtain ⟨k, rfl⟩ : ∃ j, k = j + 1 := ⟨k - 1, by omega⟩
  exact To.of K52.f_weakest_rock rfl (weakest_run (T_need_field (by omega)) (T_joins_of (by omega)) ok)
theorem T_strongest {k : Nat} (h : 5 ≤ k) : ∀ {f : Fld}, f.Ok → To (callK Φ52 k) 218 [eF f] (eP (bestM (fall f) f.r)) := fun {f} ok => by
  obtain ⟨k, rfl⟩ : ∃ j, k = j + 1 := ⟨k - 1, by omega⟩
  exact To.of K52.f_strongest_rock rfl (strongest_run (T_need_field (by omega)) (T_joins_of (by omega)) ok)
theorem T_zone_map {k : Nat} (h : 5 ≤ k) : ∀ {f : Fld}, f.Ok → To (callK Φ52 k) 318 [eF f] (.tup ((List.range f.h).map fun i => eS (zrow f i))) := fun {f} ok => by
  obtain ⟨k, rfl⟩ : ∃ j, k = j + 1 := ⟨k - 1, by omega⟩
  exact To.of K52.f_zone_map rfl (zone_map_run (T_need_field (by omega)) (T_bounds (by omega)) ok)
theorem T_busiest {k : Nat} (h : 5 ≤ k) : ∀ {f : Fld}, f.Ok → To (callK Φ52 k) 319 [eF f] (eP (bestU (zF f) (squares f.h f.w))) := fun {f} ok => by
  obtain ⟨k, rfl⟩ : ∃ j, k = j + 1 := ⟨k - 1, by omega⟩
  exact To.of K52.f_busiest rfl (busiest_run (T_need_field (by omega)) (T_squares_of (by omega)) (T_bounds (by omega)) ok)
theorem T_dead {k : Nat} (h : 5 ≤ k) : ∀ {f : Fld}, f.Ok → To (callK Φ52 k) 320 [eF f] (eQL ((squares f.h f.w).filter fun q => !hasQ q f.r && decide (zF f q = 0))) := fun {f} ok => by
  obtain ⟨k, rfl⟩ : ∃ j, k = j + 1 := ⟨k - 1, by omega⟩
  exact To.of K52.f_dead_squares rfl (dead_run (T_need_field (by omega)) (T_squares_of (by omega)) (T_bounds (by omega)) ok)
theorem T_count_new {k : Nat} (h : 5 ≤ k) : ∀ {f : Fld} {q : Sq}, f.Ok → q.1 < f.h → q.2 < f.w → q ∉ f.r → To (callK Φ52 k) 214 [eF f, eQ q] (eN (gain f q)) := fun {f q} ok h1 h2 hq => by
  obtain ⟨k, rfl⟩ : ∃ j, k = j + 1 := ⟨k - 1, by omega⟩
  exact To.of K52.f_count_new rfl (count_new_run (T_need_field (by omega)) ok (T_need_square (by omega)) h1 h2 hq (T_put_of (by omega)) (T_joins_of (by omega)))
theorem T_put {k : Nat} (h : 5 ≤ k) : ∀ {f : Fld} {q : Sq}, f.Ok → q.1 < f.h → q.2 < f.w → q ∉ f.r → To (callK Φ52 k) 398 [eF f, eQ q] (eF (putF f q)) := fun {f q} ok h1 h2 hq => by
  obtain ⟨k, rfl⟩ : ∃ j, k = j + 1 := ⟨k - 1, by omega⟩
  exact To.of K52.f_put rfl (put_run (T_need_field (by omega)) ok (T_need_square (by omega)) h1 h2 hq (T_put_of (by omega)))
theorem T_joins {k : Nat} (h : 5 ≤ k) : ∀ {f : Fld} {q : Sq}, f.Ok → q.1 < f.h → q.2 < f.w → q ∈ f.r → To (callK Φ52 k) 208 [eF f, eQ q] (.lst ((JL f.r q).map (eJ q))) := fun {f q} ok h1 h2 hq => by
  obtain ⟨k, rfl⟩ : ∃ j, k = j + 1 := ⟨k - 1, by omega⟩
  exact To.of K52.f_joins rfl (joins_run (T_need_field (by omega)) ok (T_need_square (by omega)) h1 h2 hq (T_joins_of (by omega)))
theorem T_count_joined {k : Nat} (h : 6 ≤ k) : ∀ {f : Fld} {q : Sq}, f.Ok → q.1 < f.h → q.2 < f.w → q ∈ f.r → To (callK Φ52 k) 209 [eF f, eQ q] (eN (fall f q)) := fun {f q} ok h1 h2 hq => by
  obtain ⟨k, rfl⟩ : ∃ j, k = j + 1 := ⟨k - 1, by omega⟩
  exact To.of K52.f_count_joined rfl (count_joined_run (T_joins (by omega) ok h1 h2 hq))
theorem T_taken_of {k : Nat} (h : 1 ≤ k) : ∀ (f : Fld) (q : Sq), To (callK Φ52 k) 219 [eF f, eQ q] (eF (lessF f q)) := fun f q => by
  obtain ⟨k, rfl⟩ : ∃ j, k = j + 1 := ⟨k - 1, by omega⟩
  exact To.of K52.f_taken_of rfl (taken_of_run)
theorem T_ptaken {k : Nat} (h : 5 ≤ k) : ∀ {f : Fld} {q : Sq}, f.Ok → q.1 < f.h → q.2 < f.w → q ∈ f.r → To (callK Φ52 k) 397 [eF f, eQ q] (eF (lessF f q)) := fun {f q} ok h1 h2 hq => by
  obtain ⟨k, rfl⟩ : ∃ j, k = j + 1 := ⟨k - 1, by omega⟩
  exact To.of K52.f_taken rfl (taken2_run (T_need_field (by omega)) ok (T_need_square (by omega)) h1 h2 hq (T_taken_of (by omega) f q))
theorem T_kinds_about {k : Nat} (h : 5 ≤ k) : ∀ {f : Fld} {q : Sq}, f.Ok → q.1 < f.h → q.2 < f.w → To (callK Φ52 k) 315 [eF f, eQ q] (eN (zF f q)) := fun {f q} ok h1 h2 => by
  obtain ⟨k, rfl⟩ : ∃ j, k = j + 1 := ⟨k - 1, by omega⟩
  exact To.of K52.f_kinds_about rfl (kinds_about_run (T_need_field (by omega)) (T_need_square (by omega)) (T_bounds (by omega)) ok h1 h2)
theorem T_turns_about {k : Nat} (h : 5 ≤ k) : ∀ {f : Fld} {q : Sq}, f.Ok → q.1 < f.h → q.2 < f.w → To (callK Φ52 k) 109 [eF f, eQ q] (eN (turnsF f q)) := fun {f q} ok h1 h2 => by
  obtain ⟨k, rfl⟩ : ∃ j, k = j + 1 := ⟨k - 1, by omega⟩
  exact To.of K52.f_turns_about rfl (turns_about_run (T_need_field (by omega)) (T_need_square (by omega)) (fun f ok => T_all_stairs_of (by omega) ok) (T_turnable_of (by omega)) ok h1 h2)
theorem T_need_one {k : Nat} (h : 4 ≤ k) : ∀ {f : Fld} {q : Sq}, f.Ok → q.1 < f.h → q.2 < f.w → To (callK Φ52 k) 83 [eF f, eQT [q]] .non := fun {f q} ok h1 h2 => by
  obtain ⟨k, rfl⟩ : ∃ j, k = j + 1 := ⟨k - 1, by omega⟩
  exact To.of K52.f_need_squares rfl (need_one_run (T_tuple_of (by omega)) (T_is_square_of (by omega)) ok h1 h2)
theorem T_numbers_put {k : Nat} (h : 5 ≤ k) : ∀ {f : Fld} {q : Sq}, f.Ok → q.1 < f.h → q.2 < f.w → q ∉ f.r → To (callK Φ52 k) 221 [eF f, eQT [q]] (eS [(lotsN f.r).length, (lotsN (putF f q).r).length]) := fun {f q} ok h1 h2 hq => by
  obtain ⟨k, rfl⟩ : ∃ j, k = j + 1 := ⟨k - 1, by omega⟩
  exact To.of K52.f_numbers_put rfl (numbers_put_run (T_need_field (by omega)) (T_need_one (by omega)) (T_lots_of (by omega)) (T_put_of (by omega)) ok h1 h2 hq)
theorem T_sizes {k : Nat} (h : 5 ≤ k) : ∀ {f : Fld}, f.Ok → To (callK Φ52 k) 154 [eF f] (.lst ((sortN ((lotsN f.r).map (szL f))).map eN)) := fun {f} ok => by
  obtain ⟨k, rfl⟩ : ∃ j, k = j + 1 := ⟨k - 1, by omega⟩
  exact To.of K52.f_sizes rfl (sizes_run (T_need_field (by omega)) (T_lots_of (by omega)) (T_lot_size_of (by omega)) ok)
theorem T_greatest {k : Nat} (h : 5 ≤ k) {f : Fld} (ok : f.Ok) : ∃ L ∈ lotsN f.r, (∀ M ∈ lotsN f.r, szL f M ≤ szL f L) ∧ To (callK Φ52 k) 155 [eF f] (.tup [eN (szL f L), eQT L]) := by
  obtain ⟨k, rfl⟩ : ∃ j, k = j + 1 := ⟨k - 1, by omega⟩
  obtain ⟨L, h1, h2, h3⟩ := greatest_run (φ := callK Φ52 k) (T_need_field (by omega)) (T_lots_of (by omega)) (T_lot_size_of (by omega)) ok
  exact ⟨L, h1, h2, To.of K52.f_greatest_kind rfl h3⟩
theorem T_taken {k : Nat} (h : 1 ≤ k) (ns : List Int) : S_taken (callK Φ52 k) ns := fun many h1 h2 => by
  obtain ⟨k, rfl⟩ : ∃ j, k = j + 1 := ⟨k - 1, by omega⟩
  exact Draws.of K52.f_law_taken rfl fun m hm => taken_dr h1 h2 hm
theorem T_field {k : Nat} (h : 2 ≤ k) (ns : List Int) {a b : Nat} (ha : 0 < a) (ha6 : a ≤ 6) (hb : 0 < b) (hb6 : b ≤ 6) : Draws (callK Φ52 k) ns 29 [.ref 0, eN a, eN b] fun d => ∃ F : Fld, F.Ok ∧ F.h ≤ a ∧ F.w ≤ b ∧ d = eF F := by
  obtain ⟨k, rfl⟩ : ∃ j, k = j + 1 := ⟨k - 1, by omega⟩
  exact Draws.of K52.f_law_field_2 rfl fun m hm => field_dr (T_taken (by omega) ns) (T_law_squares (by omega)) ha ha6 hb hb6 hm
end Ev

set_option maxHeartbeats 8000000
namespace Ev
open PySem
abbrev ψ52 : Phi := callK Φ52 12
theorem St.pass {φ : Phi} {ρ : Env} {e : E} {s : S} (h : V φ ρ e (.bl false)) : St φ ρ (.ite e s .skip) (.nx ρ) := St.iteF h rfl St.skip
theorem ne_NN {a b : Nat} (h : a = b) : cmpD .ne (eN a) (eN b) = some (.bl false) := by rw [cN_ne, decide_eq_true h]; rfl
theorem ne_SS {a b : List Nat} (h : a = b) : cmpD .ne (eS a) (eS b) = some (.bl false) := by rw [cS_ne, decide_eq_true h]; rfl
theorem ne_BB {a b : Bool} (h : a = b) : cmpD .ne (.bl a) (.bl b) = some (.bl false) := by rw [cB_ne, decide_eq_true h]; rfl
theorem SD.seqE {φ : Phi} {ns : List Int} {ρ : Env} {s r : S} {R : Flow → Prop} {P : Env → Prop} (h : ∃ ρ1, St φ ρ s (.nx ρ1) ∧ P ρ1) (h2 : ∀ ρ1, P ρ1 → SD φ ns ρ1 r R) : SD φ ns ρ (.seq s r) R := by
  obtain ⟨ρ1, a, b⟩ := h
  exact SD.seqS a (h2 ρ1 b)
theorem law52 (ns : List Int) : ∃ m', evS ψ52 K52.law.body (envL (K52.law.N.length - 2) ns) [rowD ns K52.law.seed] = .ok (.rt (.bl true)) m' := by
  have hr0 : RowIs ns [rowD ns K52.law.seed] := ⟨0, _, 0, by omega, rfl⟩
  have main : SD ψ52 ns (envL (K52.law.N.length - 2) ns) K52.b_law fun f => ∃ d, f = .rt d ∧ d = .bl true := by
    refine SD.seq (SD.asg (VD.call (Vs.cons (V.slot rfl) (Vs.cons (V.cst (d := eN 4)) (Vs.cons (V.cst (d := eN 4)) Vs.nil))) (T_field (k := 12) (by omega) ns (a := 4) (b := 4) (by omega) (by omega) (by omega) (by omega)))
      (P := fun ρ => ∃ F : Fld, F.Ok ∧ ρ = [some (.val (intsD ns)), some (.val (.ref 0)), some (.val (eF F)), none, none, none, none, none, none, none, none, none, none, none, none]) ?_) ?_
    · rintro _ ⟨F, h1, h2, h3, rfl⟩
      exact ⟨_, rfl, F, h1, rfl⟩
    rintro _ ⟨F, ok, rfl⟩
    have okh := ok.h1; have okw := ok.w1; have okh6 := ok.h6; have okw6 := ok.w6
    have hs := ok.sorted
    have t14 := T_free_squares (k := 12) (by omega) ok
    have t143 := fun {f : Fld} (ok : f.Ok) => T_count_kinds (k := 12) (by omega) ok
    have t216 := T_best_square (k := 12) (by omega) ok
    have t217 := T_weakest (k := 12) (by omega) ok
    have t218 := T_strongest (k := 12) (by omega) ok
    have t318 := T_zone_map (k := 12) (by omega) ok
    have t319 := T_busiest (k := 12) (by omega) ok
    have t320 := T_dead (k := 12) (by omega) ok
    have t154 := T_sizes (k := 12) (by omega) ok
    have t51 : To ψ52 51 [eF F] (eN (allS F).length) := T_count_stairs (k := 12) (by omega) ok
    obtain ⟨LG, hLG, mxG, t155⟩ := T_greatest (k := 12) (by omega) ok
    have t214 := fun {q : Sq} h1 h2 hq => T_count_new (k := 12) (by omega) (q := q) ok h1 h2 hq
    have t398 := fun {q : Sq} h1 h2 hq => T_put (k := 12) (by omega) (q := q) ok h1 h2 hq
    have t209 := fun {q : Sq} h1 h2 hq => T_count_joined (k := 12) (by omega) (q := q) ok h1 h2 hq
    have t397 := fun {q : Sq} h1 h2 hq => T_ptaken (k := 12) (by omega) (q := q) ok h1 h2 hq
    have t315 := fun {q : Sq} h1 h2 => T_kinds_about (k := 12) (by omega) (q := q) ok h1 h2
    have t109 := fun {q : Sq} h1 h2 => T_turns_about (k := 12) (by omega) (q := q) ok h1 h2
    have t221 := fun {q : Sq} h1 h2 hq => T_numbers_put (k := 12) (by omega) (q := q) ok h1 h2 hq
    -- plain facts
    have hfree : ∀ q, q ∈ (squares F.h F.w).filter (fun q => !hasQ q F.r) ↔ (q.1 < F.h ∧ q.2 < F.w) ∧ q ∉ F.r := fun q => by
      rw [List.mem_filter, mem_squares, Bool.not_eq_true', ← Bool.not_eq_true, hasQ_iff]
    have sfree : ((squares F.h F.w).filter fun q => !hasQ q F.r).Pairwise ltQ := (squares_sorted F.h F.w).sublist List.filter_sublist
    have zfree : ∀ q, q.1 < F.h → q.2 < F.w → q ∉ F.r → zF F q = gain F q := fun q h1 h2 hq => zone_free h1 h2 hs hq (put_is hs hq)
    have gpos : ∀ q, q.1 < F.h → q.2 < F.w → q ∉ F.r → 1 ≤ gain F q := fun q h1 h2 hq => joins_pos (put_is hs hq).1 q
    have zrock : ∀ q ∈ F.r, zF F q = 0 := fun q hq => zone_rock (ok.mem hq).1 (ok.mem hq).2 hq
    have fpos : ∀ q ∈ F.r, 1 ≤ fall F q := fun q hq => joins_pos hs q
    have dead0 : ((squares F.h F.w).filter fun q => !hasQ q F.r && decide (zF F q = 0)) = [] := by
      rw [List.filter_eq_nil_iff]
      intro q hq g
      rw [Bool.and_eq_true, Bool.not_eq_true', ← Bool.not_eq_true, hasQ_iff, decide_eq_true_iff] at g
      obtain ⟨h1, h2⟩ := mem_squares.mp hq
      have := zfree q h1 h2 g.1
      have := gpos q h1 h2 g.1
      omega
    have sums : (((squares F.h F.w).filter fun q => !hasQ q F.r).map (gain F)).sum = ((List.range F.h).map fun i => (zrow F i).sum).sum := by
      have e1 := sum_squares (zF F) F.h F.w
      have e2 := sum_filter (zF F) (fun q => !hasQ q F.r) (squares F.h F.w) fun q hq g => zrock q (by
        rw [Bool.not_eq_false'] at g
        exact hasQ_iff.mp g)
      have e3 : (((squares F.h F.w).filter fun q => !hasQ q F.r).map (zF F)) = (((squares F.h F.w).filter fun q => !hasQ q F.r).map (gain F)) := List.map_congr_left fun q hq => by
        obtain ⟨⟨h1, h2⟩, h3⟩ := (hfree q).mp hq
        exact zfree q h1 h2 h3
      rw [← e3, ← e2, e1]
      rfl
    have allfull : ((squares F.h F.w).filter fun q => !hasQ q F.r) = [] → ∀ q : Sq, q.1 < F.h → q.2 < F.w → q ∈ F.r := fun e q h1 h2 => Classical.byContradiction fun n => by
      have := (hfree q).mpr ⟨⟨h1, h2⟩, n⟩
      rw [e] at this
      cases this
    have bU : ∃ p, bestU (zF F) (squares F.h F.w) = some p ∧ IsMax (zF F) (squares F.h F.w) p := bestU_is (squares_sorted F.h F.w) fun e => by
      have := congrArg List.length e
      rw [squares_len] at this
      have := Nat.mul_pos okh okw
      simp at *
      omega
    have hcount : decide ((lotsN F.r).length = (allS F).length) = ((squares F.h F.w).filter fun q => !hasQ q F.r).isEmpty := by
      by_cases e : ((squares F.h F.w).filter fun q => !hasQ q F.r) = []
      · rw [decide_eq_true (lots_eq ok (allfull e)), e]; rfl
      · obtain ⟨q, hq⟩ := List.exists_mem_of_ne_nil _ e
        obtain ⟨⟨h1, h2⟩, h3⟩ := (hfree q).mp hq
        have g := gpos q h1 h2 h3
        rw [← zfree q h1 h2 h3] at g
        have : ∃ L, L ∈ (lotsN F.r).filter fun L => zoneB F.h F.w F.r L q := List.exists_mem_of_length_pos g
        obtain ⟨L, hL⟩ := this
        obtain ⟨a, b⟩ := List.mem_filter.mp hL
        have lt := lots_lt ok h1 h2 h3 a b
        have : (lotsN F.r).length ≠ (allS F).length := Nat.ne_of_lt lt
        rw [decide_eq_false this]
        cases hh : ((squares F.h F.w).filter fun q => !hasQ q F.r) with
        | nil => exact absurd hh e
        | cons x l => rfl
    have bF : ∀ p, bestM (gain F) ((squares F.h F.w).filter fun q => !hasQ q F.r) = some p → bestU (zF F) (squares F.h F.w) = some p := fun p e => by
      have hp := bestM_is e
      obtain ⟨p', e', hp'⟩ := bU
      rw [e']
      congr 1
      obtain ⟨⟨h1, h2⟩, h3⟩ := (hfree p.2).mp hp.1
      refine (IsMax.one (z := zF F) (l := squares F.h F.w) ⟨mem_squares.mpr ⟨h1, h2⟩, by rw [zfree _ h1 h2 h3]; exact hp.2.1, fun x hx => ?_⟩ hp').symm
      obtain ⟨x1, x2⟩ := mem_squares.mp hx
      by_cases xr : x ∈ F.r
      · rw [zrock x xr]
        refine ⟨Nat.zero_le _, fun g => ?_⟩
        have := gpos _ h1 h2 h3
        have := hp.2.1
        omega
      · rw [zfree x x1 x2 xr]
        exact hp.2.2 x ((hfree x).mpr ⟨⟨x1, x2⟩, xr⟩)
    generalize hFR : ((squares F.h F.w).filter fun q => !hasQ q F.r) = FR at hfree sfree sums allfull hcount bF t14 t216
    refine SD.seqS (St.par (Vs.cons (V.call (Vs.cons (V.slot rfl) Vs.nil) t14) (Vs.cons (V.prim (d := eQL F.r) (Vs.cons (V.idx (V.slot rfl) V.cst idx_F2) Vs.nil) rfl) (Vs.cons (V.call (Vs.cons (V.slot rfl) Vs.nil) (t143 ok)) Vs.nil))) rfl) ?_
    have bMe := bestM_none (gain F) FR
    have bMi : ∀ p, bestM (gain F) FR = some p → IsMax (gain F) FR p := fun p e => bestM_is e
    generalize hfd : bestM (gain F) FR = fd at t216 bMe bMi bF
    refine SD.seqS (St.asg (V.call (Vs.cons (V.slot rfl) Vs.nil) t216) rfl) ?_
    have okQ : ∀ a : Sq, okD 11 (eQ a) = true := fun _ => rfl
    have at0 : ∀ p : Nat × Sq, idxD (eP (some p)) (.int 0) = some (eN p.1) := fun _ => rfl
    have at1 : ∀ p : Nat × Sq, idxD (eP (some p)) (.int 1) = some (eQ p.2) := fun _ => rfl
    refine SD.seqS (St.pass (V.cmp (V.cmp (V.slot rfl) V.cst (cP_is fd)) (V.cmp (V.slot rfl) (V.lst Vs.nil) (eq_nil (enc := eQ) okQ FR)) (ne_BB bMe))) ?_
    refine SD.seqS (St.pass ?_) ?_
    · cases fd with
      | none => exact V.and (t := false) (u := false) (V.cmp (V.slot rfl) V.cst (cP_isnot none)) fun h => by cases h
      | some p =>
        have hp := bMi p rfl
        obtain ⟨⟨h1, h2⟩, h3⟩ := (hfree p.2).mp hp.1
        rw [bF p rfl] at t319
        exact V.and (t := true) (u := false) (V.cmp (V.slot rfl) V.cst (cP_isnot (some p))) fun _ => V.or (t := false) (u := false) (V.cmp (V.call (Vs.cons (V.slot rfl) (Vs.cons (V.idx (V.slot rfl) V.cst (at1 p)) Vs.nil)) (t214 h1 h2 h3)) (V.idx (V.slot rfl) V.cst (at0 p)) (ne_NN hp.2.1.symm)) fun _ => V.cmp (V.call (Vs.cons (V.slot rfl) Vs.nil) t319) (V.slot rfl) (cP_ne p)
    refine SD.seqS (St.pass (V.or (t := false) (u := false) ?_ fun _ => V.cmp (V.call (Vs.cons (V.slot rfl) Vs.nil) (by rw [dead0] at t320; exact t320)) (V.lst Vs.nil) rfl)) ?_
    · cases fd with
      | some p => exact V.and (t := false) (u := false) (V.cmp (V.slot rfl) V.cst (cP_is (some p))) fun h => by cases h
      | none =>
        obtain ⟨p, e, hp⟩ := bU
        rw [e] at t319
        have em : FR = [] := by
          cases FR with
          | nil => rfl
          | cons x l => cases bMe
        obtain ⟨h1, h2⟩ := mem_squares.mp hp.1
        have z0 : p.1 = 0 := by rw [hp.2.1]; exact zrock _ (allfull em _ h1 h2)
        exact V.and (t := true) (u := false) (V.cmp (V.slot rfl) V.cst (cP_is none)) fun _ => V.cmp (V.idx (V.call (Vs.cons (V.slot rfl) Vs.nil) t319) V.cst (at0 p)) (V.cst (d := eN 0)) (ne_NN z0)
    refine SD.seqS (St.asg (V.compA (enc := eQ) (g := fun q => eN (gain F q)) FR (Vs.cons (V.slot rfl) Vs.nil) rfl (fun x _ => rfl) fun q hq => by
      obtain ⟨⟨h1, h2⟩, h3⟩ := (hfree q).mp hq
      exact V.call (Vs.cons (V.slot rfl) (Vs.cons (V.slot rfl) Vs.nil)) (t214 h1 h2 h3)) rfl) ?_
    refine SD.seqS (St.pass ?_) ?_
    · cases fd with
      | none => exact V.and (t := false) (u := false) (V.cmp (V.slot rfl) V.cst (cP_isnot none)) fun h => by cases h
      | some p =>
        have ne : FR ≠ [] := fun e => by rw [e] at hfd; cases hfd
        obtain ⟨M, i, hi, m1, m2, m3⟩ := max_at (z := gain F) sfree ne
        obtain ⟨m, j, hj, n1, n2, n3⟩ := min_at (z := gain F) sfree ne
        have e := IsMax.one (bMi p rfl) m3
        obtain ⟨⟨h1, h2⟩, h3⟩ := (hfree FR[j]).mp (List.getElem_mem hj)
        have g := gpos _ h1 h2 h3
        have g2 : m = gain F FR[j] := n3.2.1
        exact V.and (t := true) (u := false) (V.cmp (V.slot rfl) V.cst (cP_isnot (some p))) fun _ => V.or (t := false) (u := false) (V.cmp (V.prim (Vs.cons (V.slot rfl) Vs.nil) m1) (V.idx (V.slot rfl) V.cst (at0 p)) (ne_NN (by rw [e]))) fun _ =>
          V.or (t := false) (u := false) (V.cmp (V.idx (V.slot rfl) (V.meth (V.slot rfl) (Vs.cons (V.prim (Vs.cons (V.slot rfl) Vs.nil) m1) Vs.nil) m2) (idx_L (enc := eQ) hi)) (V.idx (V.slot rfl) V.cst (at1 p)) (by rw [e]; exact cQ_ne1 _)) fun _ => V.cmp (V.prim (Vs.cons (V.slot rfl) Vs.nil) n1) (V.cst (d := eN 1)) (by rw [cN_lt, decide_eq_false (by omega)])
    refine SD.seqS (St.pass (V.cmp (V.prim (d := eN ((List.range F.h).map fun i => (zrow F i).sum).sum) (Vs.cons (V.compA (enc := fun i => eS (zrow F i)) (g := fun i => eN (zrow F i).sum) (List.range F.h) (Vs.cons (V.call (Vs.cons (V.slot rfl) Vs.nil) t318) Vs.nil) rfl (fun x _ => rfl) fun i _ => V.prim (Vs.cons (V.slot rfl) Vs.nil) (sum_S _)) Vs.nil) ?_) (V.prim (d := eN (FR.map (gain F)).sum) (Vs.cons (V.slot rfl) Vs.nil) ?_) (ne_NN sums.symm))) ?_
    · have := sum_L ((List.range F.h).map fun i => (zrow F i).sum)
      rw [List.map_map] at this
      exact this
    · have := sum_L (FR.map (gain F))
      rw [List.map_map] at this
      exact this
    have bWe := bestW_none (fall F) F.r
    have bSe := bestM_none (fall F) F.r
    have bWi : ∀ p, bestW (fall F) F.r = some p → IsMin (fall F) F.r p := fun p e => bestW_is e
    have bSi : ∀ p, bestM (fall F) F.r = some p → IsMax (fall F) F.r p := fun p e => bestM_is e
    generalize bestW (fall F) F.r = wk at t217 bWe bWi
    generalize bestM (fall F) F.r = sg at t218 bSe bSi
    refine SD.seqS (St.pass (V.or (t := false) (u := false) (V.cmp (V.cmp (V.call (Vs.cons (V.slot rfl) Vs.nil) t217) V.cst (cP_is wk)) (V.cmp (V.slot rfl) (V.lst Vs.nil) (eq_nil (enc := eQ) okQ F.r)) (ne_BB bWe)) fun _ => V.cmp (V.cmp (V.call (Vs.cons (V.slot rfl) Vs.nil) t218) V.cst (cP_is sg)) (V.cmp (V.slot rfl) (V.lst Vs.nil) (eq_nil (enc := eQ) okQ F.r)) (ne_BB bSe))) ?_
    -- the rocks
    have nilQ : ∀ l : List Sq, l = [] → cmpD .ne (.lst (l.map eQ)) (.lst []) = some (.bl false) := fun l e => by rw [e]; rfl
    have fF : ∀ l : List Sq, l.filter (fun _ => false) = [] := fun l => by simp
    refine SD.seqE (P := fun ρ => ∃ x10 x11 x12, ρ = [some (.val (intsD ns)), some (.val (.ref 0)), some (.val (eF F)), some (.val (eQL FR)), some (.val (eQL F.r)), some (.val (eN (lotsN F.r).length)), some (.val (eP fd)), some (.val (.lst (FR.map fun q => eN (gain F q)))), none, none, x10, x11, x12, none, none]) ?_ ?_
    · by_cases e : F.r = []
      · exact ⟨_, St.iteF (x := .bl false) (V.cmp (V.slot rfl) (V.lst Vs.nil) (nilQ _ e)) rfl St.skip, none, none, none, rfl⟩
      · have hne : cmpD .ne (eQL F.r) (.lst []) = some (.bl true) := by
          have := ne_nil (enc := eQ) okQ F.r
          cases hh : F.r with
          | nil => exact absurd hh e
          | cons x l => rw [hh] at this; exact this
        have hem : F.r.isEmpty = false := by
          cases hh : F.r with
          | nil => exact absurd hh e
          | cons x l => rfl
        rw [hem] at bWe bSe
        obtain ⟨M, i, hi, m1, m2, m3⟩ := max_at (z := fall F) hs e
        obtain ⟨m, j, hj, n1, n2, n3⟩ := min_at (z := fall F) hs e
        cases wk with
        | none => cases bWe
        | some pw =>
        cases sg with
        | none => cases bSe
        | some ps =>
        have epw := IsMin.one (bWi pw rfl) n3
        have eps := IsMax.one (bSi ps rfl) m3
        subst epw
        subst eps
        have qi : F.r[i] ∈ F.r := List.getElem_mem hi
        have hM : M = fall F F.r[i] := m3.2.1
        have hm : m = fall F F.r[j] := n3.2.1
        have hm1 := fpos _ (List.getElem_mem hj)
        have cl := count_less hs qi
        have jl := joins_lt hs qi
        have hf : fall F F.r[i] = (joinsN F.r F.r[i]).length := rfl
        refine ⟨_, St.iteT (V.cmp (V.slot rfl) (V.lst Vs.nil) hne) rfl (St.seq (St.asg (V.compA (enc := eQ) (g := fun q => eN (fall F q)) F.r (Vs.cons (V.slot rfl) Vs.nil) rfl (fun x _ => rfl) fun q hq => V.call (Vs.cons (V.slot rfl) (Vs.cons (V.slot rfl) Vs.nil)) (t209 (ok.mem hq).1 (ok.mem hq).2 hq)) rfl)
          (St.seq (St.par (Vs.cons (V.call (Vs.cons (V.slot rfl) Vs.nil) t217) (Vs.cons (V.call (Vs.cons (V.slot rfl) Vs.nil) t218) Vs.nil)) rfl)
          (St.seq (St.pass (V.cmp (V.slot rfl) (V.tup (Vs.cons (V.prim (Vs.cons (V.slot rfl) Vs.nil) n1) (Vs.cons (V.idx (V.slot rfl) (V.meth (V.slot rfl) (Vs.cons (V.prim (Vs.cons (V.slot rfl) Vs.nil) n1) Vs.nil) n2) (idx_L (enc := eQ) hj)) Vs.nil))) (cP_ne (m, F.r[j]))))
          (St.seq (St.pass (V.or (t := false) (u := false) (V.cmp (V.slot rfl) (V.tup (Vs.cons (V.prim (Vs.cons (V.slot rfl) Vs.nil) m1) (Vs.cons (V.idx (V.slot rfl) (V.meth (V.slot rfl) (Vs.cons (V.prim (Vs.cons (V.slot rfl) Vs.nil) m1) Vs.nil) m2) (idx_L (enc := eQ) hi)) Vs.nil))) (cP_ne (M, F.r[i]))) fun _ => V.cmp (V.idx (V.slot rfl) V.cst (at0 _)) (V.cst (d := eN 1)) (by rw [cN_lt, decide_eq_false (by show ¬ m < 1; omega)])))
          (St.seq (St.pass (V.or (t := false) (u := false) (V.cmp (V.call (Vs.cons (V.call (Vs.cons (V.slot rfl) (Vs.cons (V.idx (V.slot rfl) V.cst (at1 _)) Vs.nil)) (t397 (ok.mem qi).1 (ok.mem qi).2 qi)) Vs.nil) (t143 (lessF_ok ok F.r[i]))) (V.bin (V.slot rfl) (V.idx (V.slot rfl) V.cst (at0 _)) (sub_N (by show M ≤ _; omega))) (ne_NN (by show (lotsN (less F.r F.r[i])).length = (lotsN F.r).length - M; omega))) fun _ =>
            V.cmp (V.bin (V.cst (d := .int 2)) (V.prim (Vs.cons (V.slot rfl) Vs.nil) m1) (mul2_N M)) (V.bin (V.bin (V.slot rfl) (V.slot rfl) (add_N _ _)) (V.cst (d := eN 1)) (sub_N (by omega))) (by rw [cN_gt, decide_eq_false (by omega)])))
          (St.seq (St.pass (V.cmp (V.comp (enc := eQ) (p := fun _ => false) (g := eQ) F.r (Vs.cons (V.slot rfl) Vs.nil) rfl (fun x _ => rfl) (fun q hq => V.or (t := false) (u := false) (V.cmp (V.call (Vs.cons (V.slot rfl) (Vs.cons (V.slot rfl) Vs.nil)) (t109 (ok.mem hq).1 (ok.mem hq).2)) (V.cst (d := eN 0)) (ne_NN (turns_rock hq))) fun _ => V.cmp (V.call (Vs.cons (V.slot rfl) (Vs.cons (V.slot rfl) Vs.nil)) (t315 (ok.mem hq).1 (ok.mem hq).2)) (V.cst (d := eN 0)) (ne_NN (zrock q hq))) (fun q _ h => by cases h)) (V.lst Vs.nil) (nilQ _ (fF _)))) St.skip)))))), _, _, _, rfl⟩
    rintro _ ⟨x10, x11, x12, rfl⟩
    refine SD.seqE (P := fun ρ => ∃ x14, ρ = [some (.val (intsD ns)), some (.val (.ref 0)), some (.val (eF F)), some (.val (eQL FR)), some (.val (eQL F.r)), some (.val (eN (lotsN F.r).length)), some (.val (eP fd)), some (.val (.lst (FR.map fun q => eN (gain F q)))), none, none, x10, x11, x12, none, x14]) ?_ ?_
    · cases fd with
      | none => exact ⟨_, St.iteF (V.cmp (V.slot rfl) V.cst (cP_isnot none)) rfl St.skip, none, rfl⟩
      | some p =>
        have hp := bMi p rfl
        obtain ⟨⟨h1, h2⟩, h3⟩ := (hfree p.2).mp hp.1
        have cp := count_put hs h3 (put_is hs h3)
        have hg : p.1 = (joinsN (sortQ (F.r ++ [p.2])) p.2).length := hp.2.1
        exact ⟨_, St.iteT (V.cmp (V.slot rfl) V.cst (cP_isnot (some p))) rfl (St.seq (St.asg (V.call (Vs.cons (V.slot rfl) (Vs.cons (V.idx (V.slot rfl) V.cst (at1 p)) Vs.nil)) (t398 h1 h2 h3)) rfl)
          (St.seq (St.pass (V.or (t := false) (u := false) (V.cmp (V.call (Vs.cons (V.slot rfl) Vs.nil) (t143 (putF_ok ok h1 h2 h3))) (V.bin (V.slot rfl) (V.idx (V.slot rfl) V.cst (at0 p)) (add_N _ _)) (ne_NN (by show (lotsN (sortQ (F.r ++ [p.2]))).length = _; omega))) fun _ =>
            V.cmp (V.call (Vs.cons (V.slot rfl) (Vs.cons (V.tup (Vs.cons (V.idx (V.slot rfl) V.cst (at1 p)) Vs.nil)) Vs.nil)) (t221 h1 h2 h3)) (V.tup (Vs.cons (V.slot rfl) (Vs.cons (V.bin (V.slot rfl) (V.idx (V.slot rfl) V.cst (at0 p)) (add_N _ _)) Vs.nil))) (ne_SS (a := [(lotsN F.r).length, (lotsN (putF F p.2).r).length]) (b := [(lotsN F.r).length, (lotsN F.r).length + p.1]) (by
              have : (lotsN (putF F p.2).r).length = (lotsN F.r).length + p.1 := by show (lotsN (sortQ (F.r ++ [p.2]))).length = _; omega
              rw [this]))))
          (St.seq (St.pass (V.cmp (V.comp (enc := eQ) (p := fun _ => false) (g := eQ) FR (Vs.cons (V.slot rfl) Vs.nil) rfl (fun x _ => rfl) (fun q hq => by
            obtain ⟨⟨q1, q2⟩, q3⟩ := (hfree q).mp hq
            have := turns_ge ok q1 q2 q3
            exact V.cmp (V.call (Vs.cons (V.slot rfl) (Vs.cons (V.slot rfl) Vs.nil)) (t109 q1 q2)) (V.bin (V.cst (d := .int 2)) (V.call (Vs.cons (V.slot rfl) (Vs.cons (V.slot rfl) Vs.nil)) (t315 q1 q2)) (mul2_N _)) (by rw [cN_lt, decide_eq_false (by omega)])) (fun q _ h => by cases h)) (V.lst Vs.nil) (nilQ _ (fF _)))) St.skip))), _, rfl⟩
    rintro _ ⟨x14, rfl⟩
    have lm := last_max (l := (lotsN F.r).map (szL F)) (M := szL F LG) (List.mem_map.mpr ⟨LG, hLG, rfl⟩) fun x hx => by
      obtain ⟨K, hK, rfl⟩ := List.mem_map.mp hx
      exact mxG K hK
    refine St.sd (St.rt (St.ret (V.and (t := true) (u := true) (V.cmp (V.idx (V.call (Vs.cons (V.slot rfl) Vs.nil) t154) (V.neg V.cst) lm) (V.idx (V.call (Vs.cons (V.slot rfl) Vs.nil) t155) (V.cst (d := .int 0)) rfl) (by rw [cN_eq, decide_eq_true rfl])) fun _ =>
      V.cmp (V.cmp (V.slot rfl) (V.call (Vs.cons (V.slot rfl) Vs.nil) t51) (cN_eq _ _)) (V.cmp (V.slot rfl) (V.lst Vs.nil) (eq_nil (enc := eQ) okQ FR)) (by rw [cB_eq, decide_eq_true hcount])))) ⟨_, rfl, rfl⟩
  obtain ⟨_, m', e, ⟨_, rfl, rfl⟩, _⟩ := main _ hr0
  exact ⟨m', e⟩
end Ev

set_option maxHeartbeats 0
namespace K52
open PySem PySem.Spec PyProof.Rows L2 Ev
theorem bd__law_taken : BindB e__law_taken.d e__law_taken.ps := fun _ _ _ _ _ _ us hl => match us, hl with
  | [_, _], _ => rfl
theorem bd__law_squares : BindB e__law_squares.d e__law_squares.ps := fun _ _ _ _ _ _ us hl => match us, hl with
  | [_, _], _ => rfl
theorem bd__law_field : BindB e__law_field.d e__law_field.ps := fun _ _ _ _ _ _ us hl => match us, hl with
  | [_, _, _], _ => rfl
theorem bd_whole : BindB e_whole.d e_whole.ps := fun _ _ _ _ _ _ us hl => match us, hl with
  | [_], _ => rfl
theorem bd_within : BindB e_within.d e_within.ps := fun _ _ _ _ _ _ us hl => match us, hl with
  | [_, _, _], _ => rfl
theorem bd_tuple_of : BindB e_tuple_of.d e_tuple_of.ps := fun _ _ _ _ _ _ us hl => match us, hl with
  | [_, _, _], _ => rfl
theorem bd_is_square_of : BindB e_is_square_of.d e_is_square_of.ps := fun _ _ _ _ _ _ us hl => match us, hl with
  | [_, _, _], _ => rfl
theorem bd_need_field : BindB e_need_field.d e_need_field.ps := fun _ _ _ _ _ _ us hl => match us, hl with
  | [_], _ => rfl
theorem bd_squares_of : BindB e_squares_of.d e_squares_of.ps := fun _ _ _ _ _ _ us hl => match us, hl with
  | [_, _], _ => rfl
theorem bd_free_of : BindB e_free_of.d e_free_of.ps := fun _ _ _ _ _ _ us hl => match us, hl with
  | [_], _ => rfl
theorem bd_free_squares : BindB e_free_squares.d e_free_squares.ps := fun _ _ _ _ _ _ us hl => match us, hl with
  | [_], _ => rfl
theorem bd_up_left : BindB e_up_left.d e_up_left.ps := fun _ _ _ _ _ _ us hl => match us, hl with
  | [_, _], _ => rfl
theorem bd_lots_of : BindB e_lots_of.d e_lots_of.ps := fun _ _ _ _ _ _ us hl => match us, hl with
  | [_], _ => rfl
theorem bd_count_kinds : BindB e_count_kinds.d e_count_kinds.ps := fun _ _ _ _ _ _ us hl => match us, hl with
  | [_], _ => rfl
theorem bd_is_lot_of : BindB e_is_lot_of.d e_is_lot_of.ps := fun _ _ _ _ _ _ us hl => match us, hl with
  | [_, _], _ => rfl
theorem bd_joins_of : BindB e_joins_of.d e_joins_of.ps := fun _ _ _ _ _ _ us hl => match us, hl with
  | [_, _], _ => rfl
theorem bd_put_of : BindB e_put_of.d e_put_of.ps := fun _ _ _ _ _ _ us hl => match us, hl with
  | [_, _], _ => rfl
theorem bd_best_square : BindB e_best_square.d e_best_square.ps := fun _ _ _ _ _ _ us hl => match us, hl with
  | [_], _ => rfl
theorem bd_about : BindB e_about.d e_about.ps := fun _ _ _ _ _ _ us hl => match us, hl with
  | [_, _], _ => rfl
theorem bd_before : BindB e_before.d e_before.ps := fun _ _ _ _ _ _ us hl => match us, hl with
  | [_, _], _ => rfl
theorem bd_bounds : BindB e_bounds.d e_bounds.ps := fun _ _ _ _ _ _ us hl => match us, hl with
  | [_], _ => rfl
theorem bd_busiest : BindB e_busiest.d e_busiest.ps := fun _ _ _ _ _ _ us hl => match us, hl with
  | [_], _ => rfl
theorem bd_need_square : BindB e_need_square.d e_need_square.ps := fun _ _ _ _ _ _ us hl => match us, hl with
  | [_, _], _ => rfl
theorem bd_count_new : BindB e_count_new.d e_count_new.ps := fun _ _ _ _ _ _ us hl => match us, hl with
  | [_, _], _ => rfl
theorem bd_dead_squares : BindB e_dead_squares.d e_dead_squares.ps := fun _ _ _ _ _ _ us hl => match us, hl with
  | [_], _ => rfl
theorem bd_zone_map : BindB e_zone_map.d e_zone_map.ps := fun _ _ _ _ _ _ us hl => match us, hl with
  | [_], _ => rfl
theorem bd_strongest_rock : BindB e_strongest_rock.d e_strongest_rock.ps := fun _ _ _ _ _ _ us hl => match us, hl with
  | [_], _ => rfl
theorem bd_weakest_rock : BindB e_weakest_rock.d e_weakest_rock.ps := fun _ _ _ _ _ _ us hl => match us, hl with
  | [_], _ => rfl
theorem bd_joins : BindB e_joins.d e_joins.ps := fun _ _ _ _ _ _ us hl => match us, hl with
  | [_, _], _ => rfl
theorem bd_count_joined : BindB e_count_joined.d e_count_joined.ps := fun _ _ _ _ _ _ us hl => match us, hl with
  | [_, _], _ => rfl
theorem bd_taken_of : BindB e_taken_of.d e_taken_of.ps := fun _ _ _ _ _ _ us hl => match us, hl with
  | [_, _], _ => rfl
theorem bd_taken : BindB e_taken.d e_taken.ps := fun _ _ _ _ _ _ us hl => match us, hl with
  | [_, _], _ => rfl
theorem bd_kinds_about : BindB e_kinds_about.d e_kinds_about.ps := fun _ _ _ _ _ _ us hl => match us, hl with
  | [_, _], _ => rfl
theorem bd_stairs_between : BindB e_stairs_between.d e_stairs_between.ps := fun _ _ _ _ _ _ us hl => match us, hl with
  | [_, _], _ => rfl
theorem bd_all_stairs_of : BindB e_all_stairs_of.d e_all_stairs_of.ps := fun _ _ _ _ _ _ us hl => match us, hl with
  | [_], _ => rfl
theorem bd_inner_of : BindB e_inner_of.d e_inner_of.ps := fun _ _ _ _ _ _ us hl => match us, hl with
  | [_], _ => rfl
theorem bd_outer_of : BindB e_outer_of.d e_outer_of.ps := fun _ _ _ _ _ _ us hl => match us, hl with
  | [_, _], _ => rfl
theorem bd_turnable_of : BindB e_turnable_of.d e_turnable_of.ps := fun _ _ _ _ _ _ us hl => match us, hl with
  | [_, _], _ => rfl
theorem bd_turns_about : BindB e_turns_about.d e_turns_about.ps := fun _ _ _ _ _ _ us hl => match us, hl with
  | [_, _], _ => rfl
theorem bd_put : BindB e_put.d e_put.ps := fun _ _ _ _ _ _ us hl => match us, hl with
  | [_, _], _ => rfl
theorem bd_need_squares : BindB e_need_squares.d e_need_squares.ps := fun _ _ _ _ _ _ us hl => match us, hl with
  | [_, _], _ => rfl
theorem bd_numbers_put : BindB e_numbers_put.d e_numbers_put.ps := fun _ _ _ _ _ _ us hl => match us, hl with
  | [_, _], _ => rfl
theorem bd_choose : BindB e_choose.d e_choose.ps := fun _ _ _ _ _ _ us hl => match us, hl with
  | [_, _], _ => rfl
theorem bd_count_stairs : BindB e_count_stairs.d e_count_stairs.ps := fun _ _ _ _ _ _ us hl => match us, hl with
  | [_], _ => rfl
theorem bd_ways_below : BindB e_ways_below.d e_ways_below.ps := fun _ _ _ _ _ _ us hl => match us, hl with
  | [_, _], _ => rfl
theorem bd_lot_size_of : BindB e_lot_size_of.d e_lot_size_of.ps := fun _ _ _ _ _ _ us hl => match us, hl with
  | [_, _], _ => rfl
theorem bd_sizes : BindB e_sizes.d e_sizes.ps := fun _ _ _ _ _ _ us hl => match us, hl with
  | [_], _ => rfl
theorem bd_greatest_kind : BindB e_greatest_kind.d e_greatest_kind.ps := fun _ _ _ _ _ _ us hl => match us, hl with
  | [_], _ => rfl
theorem bd_all : ∀ e ∈ es, BindB e.d e.ps := by
  unfold es
  refine List.forall_mem_cons.mpr ⟨bd__law_taken, ?_⟩
  refine List.forall_mem_cons.mpr ⟨bd__law_squares, ?_⟩
  refine List.forall_mem_cons.mpr ⟨bd__law_field, ?_⟩
  refine List.forall_mem_cons.mpr ⟨bd_whole, ?_⟩
  refine List.forall_mem_cons.mpr ⟨bd_within, ?_⟩
  refine List.forall_mem_cons.mpr ⟨bd_tuple_of, ?_⟩
  refine List.forall_mem_cons.mpr ⟨bd_is_square_of, ?_⟩
  refine List.forall_mem_cons.mpr ⟨bd_need_field, ?_⟩
  refine List.forall_mem_cons.mpr ⟨bd_squares_of, ?_⟩
  refine List.forall_mem_cons.mpr ⟨bd_free_of, ?_⟩
  refine List.forall_mem_cons.mpr ⟨bd_free_squares, ?_⟩
  refine List.forall_mem_cons.mpr ⟨bd_up_left, ?_⟩
  refine List.forall_mem_cons.mpr ⟨bd_lots_of, ?_⟩
  refine List.forall_mem_cons.mpr ⟨bd_count_kinds, ?_⟩
  refine List.forall_mem_cons.mpr ⟨bd_is_lot_of, ?_⟩
  refine List.forall_mem_cons.mpr ⟨bd_joins_of, ?_⟩
  refine List.forall_mem_cons.mpr ⟨bd_put_of, ?_⟩
  refine List.forall_mem_cons.mpr ⟨bd_best_square, ?_⟩
  refine List.forall_mem_cons.mpr ⟨bd_about, ?_⟩
  refine List.forall_mem_cons.mpr ⟨bd_before, ?_⟩
  refine List.forall_mem_cons.mpr ⟨bd_bounds, ?_⟩
  refine List.forall_mem_cons.mpr ⟨bd_busiest, ?_⟩
  refine List.forall_mem_cons.mpr ⟨bd_need_square, ?_⟩
  refine List.forall_mem_cons.mpr ⟨bd_count_new, ?_⟩
  refine List.forall_mem_cons.mpr ⟨bd_dead_squares, ?_⟩
  refine List.forall_mem_cons.mpr ⟨bd_zone_map, ?_⟩
  refine List.forall_mem_cons.mpr ⟨bd_strongest_rock, ?_⟩
  refine List.forall_mem_cons.mpr ⟨bd_weakest_rock, ?_⟩
  refine List.forall_mem_cons.mpr ⟨bd_joins, ?_⟩
  refine List.forall_mem_cons.mpr ⟨bd_count_joined, ?_⟩
  refine List.forall_mem_cons.mpr ⟨bd_taken_of, ?_⟩
  refine List.forall_mem_cons.mpr ⟨bd_taken, ?_⟩
  refine List.forall_mem_cons.mpr ⟨bd_kinds_about, ?_⟩
  refine List.forall_mem_cons.mpr ⟨bd_stairs_between, ?_⟩
  refine List.forall_mem_cons.mpr ⟨bd_all_stairs_of, ?_⟩
  refine List.forall_mem_cons.mpr ⟨bd_inner_of, ?_⟩
  refine List.forall_mem_cons.mpr ⟨bd_outer_of, ?_⟩
  refine List.forall_mem_cons.mpr ⟨bd_turnable_of, ?_⟩
  refine List.forall_mem_cons.mpr ⟨bd_turns_about, ?_⟩
  refine List.forall_mem_cons.mpr ⟨bd_put, ?_⟩
  refine List.forall_mem_cons.mpr ⟨bd_need_squares, ?_⟩
  refine List.forall_mem_cons.mpr ⟨bd_numbers_put, ?_⟩
  refine List.forall_mem_cons.mpr ⟨bd_choose, ?_⟩
  refine List.forall_mem_cons.mpr ⟨bd_count_stairs, ?_⟩
  refine List.forall_mem_cons.mpr ⟨bd_ways_below, ?_⟩
  refine List.forall_mem_cons.mpr ⟨bd_lot_size_of, ?_⟩
  refine List.forall_mem_cons.mpr ⟨bd_sizes, ?_⟩
  refine List.forall_mem_cons.mpr ⟨bd_greatest_kind, ?_⟩
  exact fun e h => absurd h List.not_mem_nil
theorem bd_law : BindB law.d (law.N.take 1) := fun _ _ _ _ _ _ us hl => match us, hl with
  | [_], _ => rfl
abbrev RR : PySem.W.OpenRow := PySem.W.OpenLaw.row PySem.Challenge.rw_rockystairs_k52_across_best_squares
abbrev hk : PySem.W.Hook := hookH 4 nms.gcds (faOf nms es law) (fnOfE es law)
def ob (s : PySem.W.SharedT) : He.AlD := obsHG 4 nms.gcds (faOf nms es law) (fnOfE es law) (HandSHeadRun.getT s)
theorem ob_is (s : PySem.W.SharedT) : ob s = hk.obs s.abs := obsHG_eq (HandSHeadRun.getT_eq s)
def loose : List Str := [Str.ofString "StairError", Str.ofString "BadField", Str.ofString "BadSquare", Str.ofString "BadSquares", Str.ofString "NotRock", Str.ofString "NotFree", Str.ofString "MOST_SIDE", Str.ofString "whole", Str.ofString "within", Str.ofString "tuple_of", Str.ofString "is_square_of", Str.ofString "need_field", Str.ofString "need_square", Str.ofString "need_squares", Str.ofString "choose", Str.ofString "squares_of", Str.ofString "free_of", Str.ofString "free_squares", Str.ofString "put_of", Str.ofString "taken_of", Str.ofString "put", Str.ofString "taken", Str.ofString "up_left", Str.ofString "about", Str.ofString "before", Str.ofString "inner_of", Str.ofString "outer_of", Str.ofString "count_stairs", Str.ofString "stairs_between", Str.ofString "all_stairs_of", Str.ofString "ways_below", Str.ofString "lots_of", Str.ofString "count_kinds", Str.ofString "is_lot_of", Str.ofString "lot_size_of", Str.ofString "greatest_kind", Str.ofString "sizes", Str.ofString "joins", Str.ofString "joins_of", Str.ofString "count_joined", Str.ofString "count_new", Str.ofString "best_square", Str.ofString "weakest_rock", Str.ofString "strongest_rock", Str.ofString "numbers_put", Str.ofString "turnable_of", Str.ofString "bounds", Str.ofString "kinds_about", Str.ofString "zone_map", Str.ofString "dead_squares", Str.ofString "busiest", Str.ofString "turns_about", Str.ofString "_law_taken", Str.ofString "_law_squares", Str.ofString "_law_field"]
theorem run (w : World) : HandSHeadRun.RunEq RR (PySem.W.view RR.prog [64]) hk ob 6000 loose w := by
  intro os
  kernel_rfl
theorem chk_all : es.all (entB (gcOf nms es)) = true := by kernel_rfl
theorem chk_plain : es.all (fun e => plainD e.d) = true := by kernel_rfl
theorem chk_nd : (es.map (·.id)).Nodup := by decide +kernel
theorem chk_law : lawB (gcOf nms es) law = true := by kernel_rfl
end K52
open PySem PySem.W PySem.Calls PyProof.Rows
theorem PySem.Challenge.cw_rockystairs_k52_across_best_squares_holds : PySem.Challenge.rw_rockystairs_k52_across_best_squares.Holds := by
  w_on
  o_law
  refine HandSHeadRun.head_any (r := K52.RR) (q := view K52.RR.prog [64]) (H := K52.hk) (ob := K52.ob) (M := 6000) (loose := K52.loose) (d := HandSHeadRun.topDef K52.RR.prog 64)
    (kwd := []) K52.ob_is (by kernel_rfl) (fun s => by kernel_rfl) K52.run (by kernel_rfl) (by kernel_rfl) (by kernel_rfl) (by rfl) (by first | assumption | decide +kernel) (by decide +kernel)
    ⟨rfl, rfl, rfl, rfl, rfl, by decide +kernel⟩ ?hw ?hc
  case hw => w_witness2
  case hc =>
    refine L2.walk_ofE (l := PySem.Challenge.rw_rockystairs_k52_across_best_squares) (n := 63) (k := 13) (x := "_law_script") (CX := L2.CX0) rfl (by decide) (by kernel_rfl) ⟨rfl, by decide, by decide⟩ ?F (fun _ _ _ _ z => z)
    intro w mg fa h Y G hmg
    obtain ⟨K, KX, c⟩ := Y
    have e0 : (HandSHeadRun.topDef K52.RR.prog 64).name = K52.law.d.at_.1 := by kernel_rfl
    have hmg' : mg K52.law.d.at_.1 = some (.ref fa) := by
      rw [← e0]
      exact hmg
    obtain ⟨fd, hb, hF⟩ := Ev.law_facts (P := PySem.Challenge.rw_rockystairs_k52_across_best_squares.prog) (w := w) (l := K52.law) KX G hmg' c K52.bd_all K52.chk_plain K52.chk_all K52.chk_nd (by rfl) K52.chk_law K52.bd_law (x := "_law_script") (by rfl) 12 fun ns _ => Ev.law52 ns
    exact ⟨K, fd, Ev.spLaw K, KX, hb, fun H a ns hl _ hS => ⟨a, ns, rfl, hl, hS, fun _ => rfl⟩, fun base _ _ => hF base⟩

