import PyProof.Rows.All
import Wide.All
import OpenK.AllK
import Wide.FinOn
import HandS.ForMost
import HandS.TupAny
import HandS.TupMul
import HandS.TupLe
import HandS.Wide
import KE.SortData
import KE.DataMinMax
import KE.DataCmp
import KE.DataFind
import KE.DataAny
import KE.DataIsa
import HandS.ExcOwn
import HandS.ExcValue
import HandS.IsInst
import HandS.Gcd
import HandS.Style
import HandS.Flow
import HandS.Walk
import HandS.Codes
import HandS.Zip
import KE.GoesEnum
import HandS.DictComp
import HandS.ListItems
import HandS.ForExc
import HandS.Defaults
import HandS.Head2
import HandS.HeadEnd
import HandS.HeadHook2
import HandS.Head3
import PySem.Challenge.RW_rockystairs_k54_across_sums_over_fields
set_option Elab.async false
set_option linter.all false
set_option maxRecDepth 100000
namespace Ev
open PySem

/-- values; dic: its entries, each a tuple of key and value; ref: a changeable cell; clo: a lambda with what it holds -/
inductive D where
  | non | bl (b : Bool) | int (i : Int) | str (s : Str)
  | tup (l : List D) | lst (l : List D) | dic (l : List D)
  | ref (n : Nat) | clo (f : Nat) (l : List D) | exc (c : Nat) (l : List D)
  deriving Inhabited

abbrev Mem := List D
inductive Out (α : Type) where
  | ok (a : α) (m : Mem)
  | exc (c : Nat) (l : List D) (m : Mem)
  | no
def Out.bind {α β : Type} : Out α → (α → Mem → Out β) → Out β
  | .ok a m, f => f a m
  | .exc c l m, _ => .exc c l m
  | .no, _ => .no
@[simp] theorem bind_ok {α β : Type} (a : α) (m : Mem) (f : α → Mem → Out β) : (Out.ok a m).bind f = f a m := rfl
@[simp] theorem bind_exc {α β : Type} (c : Nat) (l : List D) (m : Mem) (f : α → Mem → Out β) : (Out.exc c l m : Out α).bind f = .exc c l m := rfl
@[simp] theorem bind_no {α β : Type} (f : α → Mem → Out β) : (Out.no : Out α).bind f = .no := rfl
/-- a pure step -/
def Out.of {α : Type} (m : Mem) : Option α → Out α
  | some a => .ok a m
  | none => .no
@[simp] theorem of_some {α : Type} (m : Mem) (a : α) : Out.of m (some a) = .ok a m := rfl
@[simp] theorem of_none {α : Type} (m : Mem) : Out.of m (none : Option α) = .no := rfl
theorem bind_eq_ok {α β : Type} {o : Out α} {f : α → Mem → Out β} {b : β} {m : Mem} (h : o.bind f = .ok b m) : ∃ a m1, o = .ok a m1 ∧ f a m1 = .ok b m := by
  cases o with
  | ok a m1 => exact ⟨a, m1, rfl, h⟩
  | exc c l m1 => cases h
  | no => cases h
theorem of_eq_ok {α : Type} {m m' : Mem} {o : Option α} {a : α} (h : Out.of m o = .ok a m') : o = some a ∧ m = m' := by
  cases o with
  | some x => cases h; exact ⟨rfl, rfl⟩
  | none => cases h

inductive Sl where
  | val (d : D) | own (d : D)
abbrev Env := List (Option Sl)

inductive BOp where
  | add | sub | mul | fdiv | mod | pow | shl
  deriving DecidableEq
inductive COp where
  | eq | ne | lt | le | gt | ge | is | isnot | mem | nmem
  deriving DecidableEq
/-- built-in functions -/
inductive Prim where
  | len | sum | min | max | min2 | max2 | sorted | all | any | list | tuple | int | abs | range1 | range2
  | isInt | isBool | isTup | isLst | isTupLst | isStr | gcd
  deriving DecidableEq
/-- methods of built-in types -/
inductive Meth where
  | get1 | get2 | count | index
  deriving DecidableEq
/-- what a loop walks -/
inductive ItK where
  | val | rng | enum | zip | items | vals
  deriving DecidableEq
/-- targets -/
inductive T where
  | name (i : Nat) | tup (t : T) | nil | cons (t ts : T)
inductive E where
  | slot (i : Nat) | brw (i : Nat) | idxc (i : Nat) (e : E) | cst (d : D)
  | nil | cons (e es : E)
  | tup (es : E) | lst (es : E) | dsp (es : E)
  | bin (op : BOp) (a b : E) | neg (a : E)
  | cmp (op : COp) (a b : E) | chn (o p : COp) (a b c : E)
  | and (a b : E) | or (a b : E) | not (a : E) | ite (c a b : E)
  | idx (a i : E) | slc (a lo hi : E) | skipE | rev (a : E)
  | call (f : Nat) (es : E) | callv (i : Nat)
  | prim (p : Prim) (es : E)
  | meth (m : Meth) (o es : E)
  | comp (own : List Nat) (t : T) (k : ItK) (it ifs elt : E)
  | dcomp (own : List Nat) (t : T) (k : ItK) (it ifs key val : E)
  | sitems (a : E)
  | fld (i : Nat) (n : Nat)
def isSkip : E → Bool
  | .skipE => true
  | _ => false
inductive S where
  | skip | seq (s r : S)
  | expr (e : E) | asg (t : T) (e : E) | own (i : Nat) (e : E)
  | par (fl : List (Nat × Bool)) (es : E)
  | app (i : Nat) (e : E) | sub (i : Nat) (k v : E) | subc (i : Nat) (k v : E) | pop (i j : Nat)
  | aug (i : Nat) (op : BOp) (e : E)
  | frz (i : Nat)
  | ite (c : E) (a b : S)
  | for (w : List Nat) (t : T) (k : ItK) (it : E) (b : S)
  | whl (n : Nat) (w : List Nat) (c : E) (b : S)
  | ret (e : E) | brk | cnt
  | rais (c : Nat) (es : E)

mutual
/-- python's == of plain data -/
def eqD : D → D → Bool
  | .non, .non => true
  | .bl a, .bl b => a == b
  | .bl a, .int j => (if a then 1 else 0) == j
  | .int i, .bl b => i == (if b then 1 else 0)
  | .int i, .int j => i == j
  | .str x, .str y => x == y
  | .lst xs, .lst ys => eqDs xs ys
  | .tup xs, .tup ys => eqDs xs ys
  | _, _ => false
def eqDs : List D → List D → Bool
  | [], [] => true
  | x :: xs, y :: ys => eqD x y && eqDs xs ys
  | _, _ => false
end
/-- plain data of at most this depth -/
def okD : Nat → D → Bool
  | _, .non => true
  | _, .bl _ => true
  | _, .int _ => true
  | _, .str s => PyData.strOk s
  | n + 1, .tup l => l.all (okD n)
  | n + 1, .lst l => l.all (okD n)
  | _, _ => false
abbrev okDep : Nat := 12
def LIM : Nat := 16777216
mutual
/-- the two compare place by place -/
def alkD : D → D → Bool
  | .bl _, .bl _ => true
  | .int _, .int _ => true
  | .lst xs, .lst ys => alkDs xs ys
  | .tup xs, .tup ys => alkDs xs ys
  | _, _ => false
def alkDs : List D → List D → Bool
  | x :: xs, y :: ys => alkD x y && alkDs xs ys
  | _, _ => true
end
mutual
/-- < of such -/
def ltB : D → D → Bool
  | .bl a, .bl b => !a && b
  | .int i, .int j => decide (i < j)
  | .lst xs, .lst ys => ltBs xs ys
  | .tup xs, .tup ys => ltBs xs ys
  | _, _ => false
def ltBs : List D → List D → Bool
  | x :: xs, y :: ys => if eqD x y then ltBs xs ys else ltB x y
  | [], _ :: _ => true
  | _, _ => false
end
def ordB : COp → D → D → Bool
  | .lt, x, y => ltB x y
  | .gt, x, y => ltB y x
  | .le, x, y => !ltB y x
  | .ge, x, y => !ltB x y
  | _, _, _ => false
/-- <, <=, >, >= -/
def ordD (op : COp) (x y : D) : Option Bool := if okD okDep x && okD okDep y && alkD x y then some (ordB op x y) else none
def isNone : D → Bool
  | .non => true
  | _ => false
def seqOf : D → Option (List D)
  | .tup l => some l
  | .lst l => some l
  | _ => none
def keysOf : List D → Option (List D)
  | [] => some []
  | .tup [k, _] :: r => (keysOf r).map (k :: ·)
  | _ => none
/-- in, of a tuple, a list -/
def memD (x : D) (y : D) : Option Bool :=
  match y with
  | .tup l => if okD okDep x && l.all (okD okDep) then some (l.any fun z => eqD z x) else none
  | .lst l => if okD okDep x && l.all (okD okDep) then some (l.any fun z => eqD z x) else none
  | _ => none
def cmpD : COp → D → D → Option D
  | .eq, x, y => if okD okDep x && okD okDep y then some (.bl (eqD x y)) else none
  | .ne, x, y => if okD okDep x && okD okDep y then some (.bl (!eqD x y)) else none
  | .is, x, y => if isNone y then some (.bl (isNone x)) else none
  | .isnot, x, y => if isNone y then some (.bl (!isNone x)) else none
  | .mem, x, y => (memD x y).map .bl
  | .nmem, x, y => (memD x y).map fun b => .bl (!b)
  | op, x, y => (ordD op x y).map .bl
def mulOk (i j : Int) : Bool := (decide (-(2 ^ 64) < i) && decide (i < 2 ^ 64)) || (decide (-(2 ^ 64) < j) && decide (j < 2 ^ 64))
def addD : D → D → Option D
  | .int i, .int j => some (.int (i + j))
  | .tup l, .tup m => if l.length + m.length ≤ LIM then some (.tup (l ++ m)) else none
  | .lst l, .lst m => if l.length + m.length ≤ LIM then some (.lst (l ++ m)) else none
  | _, _ => none
def subD : D → D → Option D
  | .int i, .int j => some (.int (i - j))
  | _, _ => none
def mulD : D → D → Option D
  | .int i, .int j => if mulOk i j then some (.int (i * j)) else none
  | .tup l, .int k => if decide (1 ≤ k) && decide (k ≤ 1000) && decide (l.length ≤ 1000) then some (.tup (List.replicate k.toNat l).flatten) else none
  | .lst l, .int k => if decide (0 ≤ k) && decide (k ≤ 1000) && decide (l.length ≤ 1000) then some (.lst (List.replicate k.toNat l).flatten) else none
  | _, _ => none
def fdivD : D → D → Option D
  | .int i, .int j => if decide (0 < j) && (decide (j < 1073741824) || decide (j.natAbs.log2 < 9000)) then some (.int (i / j)) else none
  | _, _ => none
def shlD : D → D → Option D
  | .int i, .int j => if decide (0 ≤ j) && decide (j ≤ 1000) && decide (i.natAbs < 1000000) then some (.int (i * 2 ^ j.toNat)) else none
  | _, _ => none
def modD : D → D → Option D
  | .int i, .int j => if decide (0 < j) then some (.int (i % j)) else none
  | _, _ => none
def powD : D → D → Option D
  | .int i, .int j => if decide (0 ≤ j) && decide (j ≤ 1000) && decide (i.natAbs < 1000000) then some (.int (i ^ j.toNat)) else none
  | _, _ => none
def binD : BOp → D → D → Option D
  | .add => addD
  | .sub => subD
  | .mul => mulD
  | .fdiv => fdivD
  | .mod => modD
  | .pow => powD
  | .shl => shlD
def truD : D → Option Bool
  | .non => some false
  | .bl b => some b
  | .int i => some (i != 0)
  | .tup l => some (!l.isEmpty)
  | .lst l => some (!l.isEmpty)
  | _ => none
/-- python's place i in n things -/
def ixD (n : Nat) (i : Int) : Option Nat := if 0 ≤ i then (if i < n then some i.toNat else none) else if -(n : Int) ≤ i then some (i + n).toNat else none
def lookD (k : D) : List D → Option D
  | [] => none
  | .tup [q, v] :: r => if eqD q k then some v else lookD k r
  | _ :: _ => none
def idxD : D → D → Option D
  | .tup l, .int i => (ixD l.length i).bind fun j => l[j]?
  | .lst l, .int i => (ixD l.length i).bind fun j => l[j]?
  | _, _ => none
def cutI (n d : Nat) : D → Option Nat
  | .non => some d
  | .int i => some (if i < 0 then (i + n).toNat else min i.toNat n)
  | _ => none
def cutL (l : List D) (lo hi : D) : Option (List D) :=
  (cutI l.length 0 lo).bind fun a => (cutI l.length l.length hi).map fun b => (l.drop a).take (b - a)
def slcD : D → D → D → Option D
  | .tup l, lo, hi => (cutL l lo hi).map .tup
  | .lst l, lo, hi => (cutL l lo hi).map .lst
  | _, _, _ => none
def slcG (s t : Bool) (x y z : D) : Option D := if (s || !isNone y) && (t || !isNone z) then slcD x y z else none
def revD : D → Option D
  | .lst l => some (.lst l.reverse)
  | _ => none
def intsOf : List D → Option (List Int)
  | [] => some []
  | .int i :: r => (intsOf r).map (i :: ·)
  | _ => none
def blsOf : List D → Option (List Bool)
  | [] => some []
  | .bl i :: r => (blsOf r).map (i :: ·)
  | _ => none
/-- any two compare -/
def alkAll (l : List D) : Bool := l.all (okD okDep) && l.all fun x => l.all fun y => alkD x y
/-- the least, the greatest of things, the first of equal ones -/
def minB (x : D) (r : List D) : D := r.foldl (fun b y => if ltB y b then y else b) x
def maxB (x : D) (r : List D) : D := r.foldl (fun b y => if ltB b y then y else b) x
def minD : List D → Option D
  | [] => none
  | x :: r => if alkAll (x :: r) then some (minB x r) else none
def maxD : List D → Option D
  | [] => none
  | x :: r => if alkAll (x :: r) then some (maxB x r) else none
/-- put in order, equal ones as they stood -/
def insB (x : D) : List D → List D
  | [] => [x]
  | y :: r => if ltB y x then y :: insB x r else x :: y :: r
def sortB : List D → List D
  | [] => []
  | x :: r => insB x (sortB r)
def isTupC : D → Bool
  | .tup (_ :: _) => true
  | _ => false
def noTup : D → Bool
  | .tup _ => false
  | .non => false
  | _ => true
def sortD (l : List D) : Option (List D) := if alkAll l && (l.all isTupC || l.all noTup) then some (sortB l) else none
def rngD (a b : Int) : Option (List D) := if decide (-1000000 ≤ a) && decide (a ≤ 1000000) && decide (b ≤ 1000000) && decide (-1000000 ≤ b) then some ((List.range (b - a).toNat).map fun (i : Nat) => .int (a + i)) else none
def lenD : List D → Option D
  | [.tup l] => some (.int l.length)
  | [.lst l] => some (.int l.length)
  | _ => none
def sumD : List D → Option D
  | [.lst l] => (intsOf l).map fun ns => .int ns.sum
  | [.tup l] => (intsOf l).map fun ns => .int ns.sum
  | _ => none
def allD : List D → Option D
  | [.lst l] => (blsOf l).map fun bs => .bl (bs.all id)
  | _ => none
def anyD : List D → Option D
  | [.lst l] => (blsOf l).map fun bs => .bl (bs.any id)
  | _ => none
def minP : List D → Option D
  | [.lst l] => minD l
  | [.tup l] => minD l
  | _ => none
def maxP : List D → Option D
  | [.lst l] => maxD l
  | [.tup l] => maxD l
  | _ => none
def min2D : List D → Option D
  | [.int i, .int j] => some (.int (if j < i then j else i))
  | _ => none
def max2D : List D → Option D
  | [.int i, .int j] => some (.int (if j > i then j else i))
  | _ => none
def sortP : List D → Option D
  | [.lst l] => (sortD l).map .lst
  | [.tup l] => (sortD l).map .lst
  | _ => none
def listP : List D → Option D
  | [.lst l] => some (.lst l)
  | [.tup l] => some (.lst l)
  | _ => none
def tupP : List D → Option D
  | [.lst l] => some (.tup l)
  | [.tup l] => some (.tup l)
  | _ => none
def intP : List D → Option D
  | [.int i] => some (.int i)
  | _ => none
def absP : List D → Option D
  | [.int i] => some (.int (if i < 0 then -i else i))
  | _ => none
/-- a value's type, by a number -/
def tyD : D → Option Nat
  | .non => some 0
  | .bl _ => some 1
  | .int _ => some 2
  | .str _ => some 3
  | .tup _ => some 4
  | .lst _ => some 5
  | _ => none
def tyIs : Prim → Nat → Bool
  | .isInt, n => n == 1 || n == 2
  | .isBool, n => n == 1
  | .isStr, n => n == 3
  | .isTup, n => n == 4
  | .isLst, n => n == 5
  | .isTupLst, n => n == 4 || n == 5
  | _, _ => false
def isP (p : Prim) : List D → Option D
  | [x] => (tyD x).map fun n => .bl (tyIs p n)
  | _ => none
def gcdP : List D → Option D
  | [.int i, .int j] => some (.int ((Nat.gcd i.natAbs j.natAbs : Nat) : Int))
  | _ => none
def primD : Prim → List D → Option D
  | .len => lenD
  | .sum => sumD
  | .all => allD
  | .any => anyD
  | .min => minP
  | .max => maxP
  | .min2 => min2D
  | .max2 => max2D
  | .sorted => sortP
  | .list => listP
  | .tuple => tupP
  | .int => intP
  | .abs => absP
  | .isInt => isP .isInt
  | .isBool => isP .isBool
  | .isTup => isP .isTup
  | .isLst => isP .isLst
  | .isStr => isP .isStr
  | .isTupLst => isP .isTupLst
  | .gcd => gcdP
  | .range1 => fun _ => none
  | .range2 => fun _ => none
def methD : Meth → D → List D → Option D
  | .count, .lst l, [x] => if okD okDep x && l.all (okD okDep) then some (.int (l.countP fun z => eqD z x)) else none
  | .count, .tup l, [x] => if okD okDep x && l.all (okD okDep) then some (.int (l.countP fun z => eqD z x)) else none
  | .index, .lst l, [x] => if okD okDep x && l.all (okD okDep) then (l.findIdx? fun z => eqD z x).map fun j => .int j else none
  | _, _, _ => none
def enumFrom (i : Nat) : List D → List D
  | [] => []
  | x :: r => .tup [.int i, x] :: enumFrom (i + 1) r
def zip2 : List D → List D → List D
  | x :: r, y :: s => .tup [x, y] :: zip2 r s
  | _, _ => []
def zip3 : List D → List D → List D → List D
  | x :: r, y :: s, z :: t => .tup [x, y, z] :: zip3 r s t
  | _, _, _ => []
/-- the items of a walk -/
def itemsD : ItK → List D → Option (List D)
  | .val, [.lst l] => some l
  | .val, [.tup l] => some l
  | .rng, [.int j] => rngD 0 j
  | .rng, [.int i, .int j] => rngD i j
  | .enum, [.lst l] => some (enumFrom 0 l)
  | .enum, [.tup l] => some (enumFrom 0 l)
  | .zip, [x, y] => (seqOf x).bind fun l => (seqOf y).map fun m => zip2 l m
  | .zip, [x, y, z] => (seqOf x).bind fun l => (seqOf y).bind fun m => (seqOf z).map fun n => zip3 l m n
  | _, _ => none

def keyIsD : D → D → Bool
  | .int i, .int j => decide (i = j)
  | .str s, .str t => decide (s = t)
  | _, _ => false
def isKeyD : D → Bool
  | .int _ => true
  | .str _ => true
  | _ => false
def hasD (k : D) : List D → Bool
  | [] => false
  | .tup [q, _] :: r => keyIsD q k || hasD k r
  | _ :: r => hasD k r
def repD (k v : D) : List D → List D
  | [] => []
  | .tup [q, w] :: r => .tup [q, if keyIsD q k then v else w] :: repD k v r
  | x :: r => x :: repD k v r
/-- k: v in its place, or at the end -/
def dputD (k v : D) (l : List D) : List D := if hasD k l then repD k v l else l ++ [.tup [k, v]]
def sitD : D → Option D
  | .dic l => (sortD l).map .lst
  | _ => none

def setE (ρ : Env) (i : Nat) (x : Option Sl) : Env := List.set ρ i x
def wipeE (ρ : Env) : List Nat → Env
  | [] => ρ
  | v :: vs => setE (wipeE ρ vs) v none
def putT : T → D → Env → Option Env
  | .name i, d, ρ => if i < ρ.length then some (setE ρ i (some (.val d))) else none
  | .tup ts, .tup l, ρ => putT ts (.tup l) ρ
  | .nil, .tup [], ρ => some ρ
  | .cons t ts, .tup (x :: r), ρ => (putT t x ρ).bind fun ρ1 => putT ts (.tup r) ρ1
  | _, _, _ => none
def consD (x : D) : D → Option D
  | .tup xs => some (.tup (x :: xs))
  | _ => none

abbrev Phi := Nat → List D → Mem → Out D
/-- a comprehension's turns -/
def compL (g : D → Mem → Out (Option D)) : List D → List D → Mem → Out D
  | [], acc, m => .ok (.lst acc) m
  | x :: r, acc, m => (g x m).bind fun y m => match y with
    | some y => compL g r (acc ++ [y]) m
    | none => compL g r acc m
/-- a dict comprehension's turns -/
def dcompL (g : D → Mem → Out (Option (D × D))) : List D → List D → Mem → Out D
  | [], acc, m => .ok (.dic acc) m
  | x :: r, acc, m => (g x m).bind fun y m => match y with
    | some (k, v) => if isKeyD k then dcompL g r (dputD k v acc) m else .no
    | none => dcompL g r acc m
def argsOf : D → List D
  | .tup l => l
  | _ => []
def evE (φ : Phi) : E → Env → Mem → Out D
  | .slot i, ρ, m => match ρ[i]? with
    | some (some (.val d)) => .ok d m
    | _ => .no
  | .brw i, ρ, m => match ρ[i]? with
    | some (some (.own d)) => .ok d m
    | _ => .no
  | .idxc i e, ρ, m => match ρ[i]? with
    | some (some (.val (.ref n))) => (evE φ e ρ m).bind fun y m => (Out.of m m[n]?).bind fun x m => Out.of m (idxD x y)
    | _ => .no
  | .cst d, _, m => .ok d m
  | .nil, _, m => .ok (.tup []) m
  | .cons e es, ρ, m => (evE φ e ρ m).bind fun x m => (evE φ es ρ m).bind fun r m => Out.of m (consD x r)
  | .tup es, ρ, m => evE φ es ρ m
  | .lst es, ρ, m => (evE φ es ρ m).bind fun r m => .ok (.lst (argsOf r)) m
  | .dsp _, _, _ => .no
  | .bin op a b, ρ, m => (evE φ a ρ m).bind fun x m => (evE φ b ρ m).bind fun y m => Out.of m (binD op x y)
  | .neg a, ρ, m => (evE φ a ρ m).bind fun x m => match x with
    | .int i => .ok (.int (-i)) m
    | _ => .no
  | .cmp op a b, ρ, m => (evE φ a ρ m).bind fun x m => (evE φ b ρ m).bind fun y m => Out.of m (cmpD op x y)
  | .chn o p a b c, ρ, m => (evE φ a ρ m).bind fun x m => (evE φ b ρ m).bind fun y m => (Out.of m (cmpD o x y)).bind fun r m => match r with
    | .bl true => (evE φ c ρ m).bind fun z m => Out.of m (cmpD p y z)
    | .bl false => .ok (.bl false) m
    | _ => .no
  | .and a b, ρ, m => (evE φ a ρ m).bind fun x m => match truD x with
    | some true => evE φ b ρ m
    | some false => .ok x m
    | none => .no
  | .or a b, ρ, m => (evE φ a ρ m).bind fun x m => match truD x with
    | some true => .ok x m
    | some false => evE φ b ρ m
    | none => .no
  | .not a, ρ, m => (evE φ a ρ m).bind fun x m => match truD x with
    | some t => .ok (.bl (!t)) m
    | none => .no
  | .ite c a b, ρ, m => (evE φ c ρ m).bind fun x m => match truD x with
    | some true => evE φ a ρ m
    | some false => evE φ b ρ m
    | none => .no
  | .idx a i, ρ, m => (evE φ a ρ m).bind fun x m => (evE φ i ρ m).bind fun y m => Out.of m (idxD x y)
  | .slc a lo hi, ρ, m => (evE φ a ρ m).bind fun x m => (evE φ lo ρ m).bind fun y m => (evE φ hi ρ m).bind fun z m => Out.of m (slcG (isSkip lo) (isSkip hi) x y z)
  | .skipE, _, m => .ok .non m
  | .rev a, ρ, m => (evE φ a ρ m).bind fun x m => Out.of m (revD x)
  | .call f es, ρ, m => (evE φ es ρ m).bind fun r m => φ f (argsOf r) m
  | .callv i, ρ, m => match ρ[i]? with
    | some (some (.val (.clo f l))) => φ f l m
    | _ => .no
  | .prim p es, ρ, m => (evE φ es ρ m).bind fun r m => Out.of m (primD p (argsOf r))
  | .meth q o es, ρ, m => (evE φ o ρ m).bind fun x m => (evE φ es ρ m).bind fun r m => Out.of m (methD q x (argsOf r))
  | .comp own t k it ifs elt, ρ, m => (evE φ it ρ m).bind fun r m => (Out.of m (itemsD k (argsOf r))).bind fun xs m =>
      compL (fun x m => match putT t x (wipeE ρ own) with
        | some ρ1 => (evE φ ifs ρ1 m).bind fun c m => match truD c with
          | some true => (evE φ elt ρ1 m).bind fun y m => .ok (some y) m
          | some false => .ok none m
          | none => .no
        | none => .no) xs [] m
  | .dcomp own t k it ifs key val, ρ, m => (evE φ it ρ m).bind fun r m => (Out.of m (itemsD k (argsOf r))).bind fun xs m =>
      dcompL (fun x m => match putT t x (wipeE ρ own) with
        | some ρ1 => (evE φ ifs ρ1 m).bind fun c m => match truD c with
          | some true => (evE φ key ρ1 m).bind fun y m => (evE φ val ρ1 m).bind fun z m => .ok (some (y, z)) m
          | some false => .ok none m
          | none => .no
        | none => .no) xs [] m
  | .sitems a, ρ, m => (evE φ a ρ m).bind fun x m => Out.of m (sitD x)
  | .fld i n, ρ, m => match ρ[i]? with
    | some (some (.val (.exc _ l))) => Out.of m l[n]?
    | _ => .no
inductive Flow where
  | nx (ρ : Env) | bk (ρ : Env) | ct (ρ : Env) | rt (d : D)
/-- a for's turns -/
def forL (g : D → Env → Mem → Out Flow) (w : List Nat) : List D → Env → Mem → Out Flow
  | [], ρ, m => .ok (.nx ρ) m
  | x :: r, ρ, m => (g x ρ m).bind fun f m => match f with
    | .nx ρ1 => forL g w r (wipeE ρ1 w) m
    | .ct ρ1 => forL g w r (wipeE ρ1 w) m
    | .bk ρ1 => .ok (.nx (wipeE ρ1 w)) m
    | .rt d => .ok (.rt d) m
def whlL (c : Env → Mem → Out D) (g : Env → Mem → Out Flow) (w : List Nat) : Nat → Env → Mem → Out Flow
  | 0, _, _ => .no
  | n + 1, ρ, m => (c ρ m).bind fun x m => match truD x with
    | some true => (g ρ m).bind fun f m => match f with
      | .nx ρ1 => whlL c g w n (wipeE ρ1 w) m
      | .ct ρ1 => whlL c g w n (wipeE ρ1 w) m
      | .bk ρ1 => .ok (.nx (wipeE ρ1 w)) m
      | .rt d => .ok (.rt d) m
    | some false => .ok (.nx ρ) m
    | none => .no
def parE : List (Nat × Bool) → List D → Env → Option Env
  | [], [], ρ => some ρ
  | (i, b) :: r, x :: xs, ρ => if i < ρ.length then parE r xs (setE ρ i (some (if b then .own x else .val x))) else none
  | _, _, _ => none
def isOwnable : D → Bool
  | .lst _ => true
  | _ => false
def putL (l : List D) (k v : D) : Option D := match k with
  | .int i => (ixD l.length i).map fun j => .lst (l.set j v)
  | _ => none
def evS (φ : Phi) : S → Env → Mem → Out Flow
  | .skip, ρ, m => .ok (.nx ρ) m
  | .seq s r, ρ, m => (evS φ s ρ m).bind fun f m => match f with
    | .nx ρ1 => evS φ r ρ1 m
    | f => .ok f m
  | .expr e, ρ, m => (evE φ e ρ m).bind fun _ m => .ok (.nx ρ) m
  | .asg t e, ρ, m => (evE φ e ρ m).bind fun x m => (Out.of m (putT t x ρ)).bind fun ρ1 m => .ok (.nx ρ1) m
  | .own i e, ρ, m => (evE φ e ρ m).bind fun x m => if isOwnable x && decide (i < ρ.length) then .ok (.nx (setE ρ i (some (.own x)))) m else .no
  | .par fl es, ρ, m => (evE φ es ρ m).bind fun r m => (Out.of m (parE fl (argsOf r) ρ)).bind fun ρ1 m => .ok (.nx ρ1) m
  | .app i e, ρ, m => (evE φ e ρ m).bind fun x m => match ρ[i]? with
    | some (some (.own (.lst l))) => if l.length < LIM then .ok (.nx (setE ρ i (some (.own (.lst (l ++ [x])))))) m else .no
    | _ => .no
  | .sub i k v, ρ, m => (evE φ v ρ m).bind fun x m => (evE φ k ρ m).bind fun y m => match ρ[i]? with
    | some (some (.own (.lst l))) => (Out.of m (putL l y x)).bind fun d m => .ok (.nx (setE ρ i (some (.own d)))) m
    | _ => .no
  | .subc i k v, ρ, m => (evE φ v ρ m).bind fun x m => (evE φ k ρ m).bind fun y m => match ρ[i]? with
    | some (some (.val (.ref n))) => match m[n]? with
      | some (.lst l) => (Out.of m (putL l y x)).bind fun d m => .ok (.nx ρ) (m.set n d)
      | _ => .no
    | _ => .no
  | .pop _ _, _, _ => .no
  | .aug i op e, ρ, m => match ρ[i]? with
    | some (some (.val x)) => (evE φ e ρ m).bind fun y m => (match x, y with
      | .int a, .int b => Out.of m (binD op (.int a) (.int b))
      | _, _ => .no).bind fun z m => .ok (.nx (setE ρ i (some (.val z)))) m
    | _ => .no
  | .frz i, ρ, m => match ρ[i]? with
    | some (some (.own d)) => .ok (.nx (setE ρ i (some (.val d)))) m
    | _ => .no
  | .ite c a b, ρ, m => (evE φ c ρ m).bind fun x m => match truD x with
    | some true => evS φ a ρ m
    | some false => evS φ b ρ m
    | none => .no
  | .for w t k it b, ρ, m => (evE φ it ρ m).bind fun r m => (Out.of m (itemsD k (argsOf r))).bind fun xs m =>
      forL (fun x ρ m => (Out.of m (putT t x ρ)).bind fun ρ1 m => evS φ b ρ1 m) w xs (wipeE ρ w) m
  | .whl n w c b, ρ, m => whlL (evE φ c) (evS φ b) w n (wipeE ρ w) m
  | .ret e, ρ, m => (evE φ e ρ m).bind fun x m => .ok (.rt x) m
  | .brk, ρ, m => .ok (.bk ρ) m
  | .cnt, ρ, m => .ok (.ct ρ) m
  | .rais c es, ρ, m => (evE φ es ρ m).bind fun r m => .exc c (argsOf r) m

/-- a def: its name, parameters, all names by slot, body -/
structure Fn where
  name : Str
  ps : List Str
  N : List Str
  body : S
abbrev Tab := Nat → Option Fn
def startE (n : Nat) (ds : List D) : Env := ds.map (fun d => some (.val d)) ++ List.replicate (n - ds.length) none
mutual
def noRef : D → Bool
  | .ref _ => false
  | .clo _ l => noRefs l
  | .tup l => noRefs l
  | .lst l => noRefs l
  | .dic l => noRefs l
  | .exc _ l => noRefs l
  | _ => true
def noRefs : List D → Bool
  | [] => true
  | x :: r => noRef x && noRefs r
end
def finD (m m' : Mem) (d : D) : Out D := if m'.length = m.length then .ok d m' else if noRef d && decide (m.length ≤ m'.length) then .ok d (m'.take m.length) else .no
def fin (m : Mem) : Out Flow → Out D
  | .ok (.rt d) m' => finD m m' d
  | .ok (.nx _) m' => finD m m' .non
  | .exc c l m' => .exc c l (m'.take m.length)
  | _ => .no
def callK (Φ : Tab) : Nat → Phi
  | 0, _, _, _ => .no
  | k + 1, f, ds, m => match Φ f with
    | some fn => if ds.length = fn.ps.length then fin m (evS (callK Φ k) fn.body (startE fn.N.length ds) m) else .no
    | none => .no
end Ev

set_option maxHeartbeats 2000000
namespace Ev
open PySem PySem.Spec PyProof.Rows L2
abbrev Frag := PySem.W.Frag
abbrev SSt := L2.St
theorem lim_line : LIM = sizeLine := by rw [sizeLine_eq]; rfl
/-- a list to be read outside O, or one of the written part -/
def SqO (K : Frag) (O : List Addr) (H : Hp) (a : Addr) (xs : List V) : Prop := (Rd H a (.lst xs) ∧ a ∉ O) ∨ SqL K (fun _ => none) a xs
theorem SqO.sq {K : Frag} {O : List Addr} {H : Hp} {a : Addr} {xs : List V} (h : SqO K O H a xs) : SqL K H a xs := by
  rcases h with ⟨h, _⟩ | ((h | ⟨o, h⟩) | h)
  · exact .inl h
  · cases h
  · cases h
  · exact .inr h
/-- a key as a value -/
def keyD : Key → D
  | .inl i => .int i
  | .inr s => .str s
def entsK : List (Key × V) → List D → List D
  | p :: r, d :: ds => .tup [keyD p.1, d] :: entsK r ds
  | _, _ => []
mutual
/-- a value lies at v: its lists stand outside O, its cells are told by C -/
inductive Rp (K : Frag) (O C : List Addr) (H : Hp) : D → V → Prop
  | non : Rp K O C H .non .non
  | bl (b : Bool) : Rp K O C H (.bl b) (.bl b)
  | int (i : Int) : Rp K O C H (.int i) (.int i)
  | str (s : Str) : Rp K O C H (.str s) (.str s)
  | tup {a : Addr} {xs : List V} {ds : List D} : SqT K H a xs → xs.length ≤ sizeLine → RpAll K O C H ds xs → Rp K O C H (.tup ds) (.ref a)
  | lst {a : Addr} {xs : List V} {ds : List D} : SqO K O H a xs → xs.length ≤ sizeLine → RpAll K O C H ds xs → Rp K O C H (.lst ds) (.ref a)
  | ref {n : Nat} {a : Addr} : C[n]? = some a → Rp K O C H (.ref n) (.ref a)
  | dic {a : Addr} {kvs : List (Key × V)} {ds l : List D} : H a = some (.dK kvs) → a ∉ O → kvs.length ≤ sizeLine → l = entsK kvs ds → RpAll K O C H ds (kvs.map (·.2)) → Rp K O C H (.dic l) (.ref a)
inductive RpAll (K : Frag) (O C : List Addr) (H : Hp) : List D → List V → Prop
  | nil : RpAll K O C H [] []
  | cons {d : D} {v : V} {ds : List D} {vs : List V} : Rp K O C H d v → RpAll K O C H ds vs → RpAll K O C H (d :: ds) (v :: vs)
end
/-- what is not at Z is kept; tuples and locked things always -/
structure Keep (Z : List Addr) (H H' : Hp) : Prop where
  ob : ∀ a o, H a = some o → a ∉ Z → H' a = some o
  tp : ∀ a xs, H a = some (.tup xs) → H' a = some (.tup xs)
  fz : ∀ a o u, H a = some (.frz o u) → H' a = some (.frz o u)
section
variable {K : Frag} {O O' C C' Z Z' : List Addr} {H H' H2 : Hp}
theorem Keep.refl : Keep Z H H := ⟨fun _ _ e _ => e, fun _ _ e => e, fun _ _ _ e => e⟩
theorem Keep.trans (a : Keep Z H H') (b : Keep Z H' H2) : Keep Z H H2 :=
  ⟨fun x o e n => b.ob x o (a.ob x o e n) n, fun x xs e => b.tp x xs (a.tp x xs e), fun x o u e => b.fz x o u (a.fz x o u e)⟩
theorem Keep.mono (a : Keep Z H H') (h : ∀ x ∈ Z, x ∈ Z') : Keep Z' H H' := ⟨fun x o e n => a.ob x o e fun z => n (h x z), a.tp, a.fz⟩
/-- a new object -/
theorem Keep.new {p : Addr} {o : HO} (h : H p = none) : Keep Z H (upd H p o) :=
  ⟨fun x u e _ => by rw [upd_ne (ne_of_none e h)]; exact e, fun x u e => by rw [upd_ne (ne_of_none e h)]; exact e, fun x u w e => by rw [upd_ne (ne_of_none e h)]; exact e⟩
/-- a list is written -/
theorem Keep.put {p : Addr} {xs : List V} {o : HO} (h : H p = some (.lst xs)) (z : p ∈ Z) : Keep Z H (upd H p o) := by
  refine ⟨fun x u e n => ?_, fun x u e => ?_, fun x u w e => ?_⟩
  · rw [upd_ne (fun q => n (by rw [q]; exact z))]; exact e
  · rw [upd_ne (fun q => by subst q; rw [h] at e; cases e)]; exact e
  · rw [upd_ne (fun q => by subst q; rw [h] at e; cases e)]; exact e
theorem sqT_keep {a : Addr} {xs : List V} (k : Keep Z H H') (h : SqT K H a xs) : SqT K H' a xs := by
  rcases h with (h | ⟨o, h⟩) | h
  · exact .inl (.inl (k.tp a xs h))
  · exact .inl (.inr ⟨o, k.fz a o _ h⟩)
  · exact .inr h
theorem sqO_keep {a : Addr} {xs : List V} (k : Keep Z H H') (hZ : ∀ a ∈ Z, a ∈ O) (hO : ∀ a, a ∉ O → a ∉ O') (h : SqO K O H a xs) : SqO K O' H' a xs := by
  rcases h with ⟨h | ⟨o, h⟩, n⟩ | h
  · exact .inl ⟨.inl (k.ob a _ h fun q => n (hZ _ q)), hO _ n⟩
  · exact .inl ⟨.inr ⟨o, k.fz a o _ h⟩, hO _ n⟩
  · exact .inr h
mutual
/-- over a change at Z, Z within O; O may shrink, C may grow -/
theorem Rp.move (hZ : ∀ a ∈ Z, a ∈ O) (k : Keep Z H H') (hO : ∀ a, a ∉ O → a ∉ O') (hC : ∀ (n : Nat) a, C[n]? = some a → C'[n]? = some a) : ∀ {d : D} {v : V}, Rp K O C H d v → Rp K O' C' H' d v
  | _, _, .non => .non
  | _, _, .bl b => .bl b
  | _, _, .int i => .int i
  | _, _, .str s => .str s
  | _, _, .tup h z r => .tup (sqT_keep k h) z (RpAll.move hZ k hO hC r)
  | _, _, .lst h z r => .lst (sqO_keep k hZ hO h) z (RpAll.move hZ k hO hC r)
  | _, _, .ref h => .ref (hC _ _ h)
  | _, _, .dic h n z e r => .dic (k.ob _ _ h fun q => n (hZ _ q)) (hO _ n) z e (RpAll.move hZ k hO hC r)
theorem RpAll.move (hZ : ∀ a ∈ Z, a ∈ O) (k : Keep Z H H') (hO : ∀ a, a ∉ O → a ∉ O') (hC : ∀ (n : Nat) a, C[n]? = some a → C'[n]? = some a) : ∀ {ds : List D} {vs : List V}, RpAll K O C H ds vs → RpAll K O' C' H' ds vs
  | _, _, .nil => .nil
  | _, _, .cons h r => .cons (Rp.move hZ k hO hC h) (RpAll.move hZ k hO hC r)
end
theorem Rp.keep (hZ : ∀ a ∈ Z, a ∈ O) (k : Keep Z H H') {d : D} {v : V} (h : Rp K O C H d v) : Rp K O C H' d v := h.move hZ k (fun _ n => n) fun _ _ e => e
theorem RpAll.keep (hZ : ∀ a ∈ Z, a ∈ O) (k : Keep Z H H') {d : List D} {v : List V} (h : RpAll K O C H d v) : RpAll K O C H' d v := h.move hZ k (fun _ n => n) fun _ _ e => e
theorem RpAll.length : ∀ {ds : List D} {vs : List V}, RpAll K O C H ds vs → ds.length = vs.length
  | _, _, .nil => rfl
  | _, _, .cons _ r => congrArg (· + 1) r.length
theorem RpAll.append : ∀ {ds es : List D} {vs ws : List V}, RpAll K O C H ds vs → RpAll K O C H es ws → RpAll K O C H (ds ++ es) (vs ++ ws)
  | _, _, _, _, .nil, s => s
  | _, _, _, _, .cons h r, s => .cons h (r.append s)
theorem RpAll.get : ∀ {ds : List D} {vs : List V} {i : Nat} {d : D}, RpAll K O C H ds vs → ds[i]? = some d → ∃ v, vs[i]? = some v ∧ Rp K O C H d v
  | _, _, _, _, .nil, e => by simp at e
  | _, _, 0, _, .cons h _, e => by simp at e; subst e; exact ⟨_, rfl, h⟩
  | _, _, i + 1, d, .cons _ r, e => by
    obtain ⟨v, h1, h2⟩ := RpAll.get (i := i) (d := d) r (by simpa using e)
    exact ⟨v, by simpa using h1, h2⟩
theorem RpAll.get' : ∀ {ds : List D} {vs : List V} {i : Nat} {v : V}, RpAll K O C H ds vs → vs[i]? = some v → ∃ d, ds[i]? = some d ∧ Rp K O C H d v
  | _, _, _, _, .nil, e => by simp at e
  | _, _, 0, _, .cons h _, e => by simp at e; subst e; exact ⟨_, rfl, h⟩
  | _, _, i + 1, d, .cons _ r, e => by
    obtain ⟨v, h1, h2⟩ := RpAll.get' (i := i) (v := d) r (by simpa using e)
    exact ⟨v, by simpa using h1, h2⟩
theorem RpAll.take : ∀ {ds : List D} {vs : List V} (n : Nat), RpAll K O C H ds vs → RpAll K O C H (ds.take n) (vs.take n)
  | _, _, 0, _ => .nil
  | _, _, _ + 1, .nil => .nil
  | _, _, n + 1, .cons h r => .cons h (r.take n)
theorem RpAll.drop : ∀ {ds : List D} {vs : List V} (n : Nat), RpAll K O C H ds vs → RpAll K O C H (ds.drop n) (vs.drop n)
  | _, _, 0, r => r
  | _, _, _ + 1, .nil => .nil
  | _, _, n + 1, .cons h r => r.drop n
theorem RpAll.set {d : D} {v : V} (h : Rp K O C H d v) : ∀ {ds : List D} {vs : List V} (i : Nat), RpAll K O C H ds vs → RpAll K O C H (ds.set i d) (vs.set i v)
  | _, _, _, .nil => .nil
  | _, _, 0, .cons _ r => .cons h r
  | _, _, i + 1, .cons g r => .cons g (RpAll.set h i r)
theorem RpAll.rev {ds : List D} {vs : List V} (h : RpAll K O C H ds vs) : RpAll K O C H ds.reverse vs.reverse := by
  suffices ∀ {ds : List D} {vs : List V}, RpAll K O C H ds vs → ∀ {es : List D} {ws : List V}, RpAll K O C H es ws → RpAll K O C H (ds.reverseAux es) (vs.reverseAux ws) from this h .nil
  intro ds
  induction ds with
  | nil => intro vs h es ws g; cases h; exact g
  | cons d r ih => intro vs h es ws g; cases h with | cons a b => exact ih b (.cons a g)
theorem RpAll.rep {ds : List D} {vs : List V} (h : RpAll K O C H ds vs) : ∀ k : Nat, RpAll K O C H (List.replicate k ds).flatten (List.replicate k vs).flatten
  | 0 => .nil
  | k + 1 => by
    rw [List.replicate_succ, List.replicate_succ, List.flatten_cons, List.flatten_cons]
    exact h.append (h.rep k)
end

/-- a changeable list at a -/
def OwnAt (K : Frag) (O C : List Addr) (H : Hp) (a : Addr) : D → Prop
  | .lst ds => ∃ xs, H a = some (.lst xs) ∧ xs.length ≤ sizeLine ∧ RpAll K O C H ds xs
  | _ => False
structure EnvOk (K : Frag) (O C : List Addr) (H : Hp) (ρ : Env) (σ : SSt) : Prop where
  len : ρ.length = σ.length
  val : ∀ (i : Nat) d, ρ[i]? = some (some (.val d)) → ∃ v, σ[i]? = some (some v) ∧ Rp K O C H d v
  own : ∀ (i : Nat) d, ρ[i]? = some (some (.own d)) → ∃ a, σ[i]? = some (some (V.ref a)) ∧ a ∈ O ∧ a ∉ C ∧ OwnAt K O C H a d
  inj : ∀ (i j : Nat) d e a, i ≠ j → ρ[i]? = some (some (.own d)) → ρ[j]? = some (some (.own e)) → σ[i]? = some (some (V.ref a)) → σ[j]? ≠ some (some (V.ref a))
structure MemOk (K : Frag) (O C : List Addr) (H : Hp) (m : Mem) : Prop where
  len : m.length = C.length
  at_ : ∀ (n : Nat) a d, C[n]? = some a → m[n]? = some d → OwnAt K O C H a d
  sub : ∀ a ∈ C, a ∈ O
  nd : C.Nodup
  al : ∀ a ∈ O, ∃ o, H a = some o
section
variable {K : Frag} {O O' C C' Z Z' : List Addr} {H H' H2 : Hp} {ρ : Env} {σ : SSt} {m : Mem}
theorem OwnAt.move (hZ : ∀ a ∈ Z, a ∈ O) (k : Keep Z H H') (hO : ∀ a, a ∉ O → a ∉ O') (hC : ∀ (n : Nat) a, C[n]? = some a → C'[n]? = some a) {a : Addr} (n : a ∉ Z) : ∀ {d : D}, OwnAt K O C H a d → OwnAt K O' C' H' a d
  | .lst _, ⟨xs, e, z, r⟩ => ⟨xs, k.ob a _ e n, z, r.move hZ k hO hC⟩
/-- the slots are kept over a change of cells -/
theorem EnvOk.keep (h : EnvOk K O C H ρ σ) (hC : ∀ a ∈ C, a ∈ O) (k : Keep C H H') : EnvOk K O C H' ρ σ :=
  ⟨h.len, fun i d e => let ⟨v, e1, r⟩ := h.val i d e; ⟨v, e1, r.keep hC k⟩, fun i d e => let ⟨a, e1, i1, i2, r⟩ := h.own i d e; ⟨a, e1, i1, i2, r.move hC k (fun _ n => n) (fun _ _ e => e) i2⟩, h.inj⟩
theorem MemOk.grow (h : MemOk K O C H m) (k : ∀ Z, Keep Z H H') : MemOk K O C H' m :=
  ⟨h.len, fun n a d e1 e2 => (h.at_ n a d e1 e2).move (Z := []) (by simp) (k []) (fun _ n => n) (fun _ _ e => e) (by simp), h.sub, h.nd, fun a ha => let ⟨o, e⟩ := h.al a ha; ⟨o, (k []).ob a o e (by simp)⟩⟩
end
/-- how a result lies: plainly; perhaps read in place; made anew -/
inductive Kd where
  | pl | br | fr
/-- read in place -/
def Rb (K : Frag) (O C : List Addr) (H : Hp) : D → V → Prop
  | .lst ds, v => ∃ a xs, v = .ref a ∧ SqO K C H a xs ∧ xs.length ≤ sizeLine ∧ RpAll K O C H ds xs
  | d, v => Rp K O C H d v
def Rv (k : Kd) (K : Frag) (O C : List Addr) (H0 H : Hp) (d : D) (v : V) : Prop := match k, d with
  | .br, d => Rb K O C H d v
  | .fr, .lst ds => ∃ p xs, v = .ref p ∧ H0 p = none ∧ H p = some (.lst xs) ∧ xs.length ≤ sizeLine ∧ RpAll K (p :: O) C H ds xs
  | _, d => Rp K O C H d v
section
variable {K : Frag} {O C : List Addr} {H0 H : Hp} {d : D} {v : V} {m : Mem}
theorem SqO.mono {O' : List Addr} {a : Addr} {xs : List V} (h : SqO K O H a xs) (s : ∀ b, b ∉ O → b ∉ O') : SqO K O' H a xs := h.elim (fun x => .inl ⟨x.1, s _ x.2⟩) .inr
theorem SqO.more {p a : Addr} {xs : List V} (hp : H p = none) (h : SqO K O H a xs) : SqO K (p :: O) H a xs := by
  rcases h with ⟨h | ⟨o, h⟩, n⟩ | h
  · exact .inl ⟨.inl h, by rw [List.mem_cons, not_or]; exact ⟨ne_of_none h hp, n⟩⟩
  · exact .inl ⟨.inr ⟨o, h⟩, by rw [List.mem_cons, not_or]; exact ⟨ne_of_none h hp, n⟩⟩
  · exact .inr h
theorem Rp.rb (hC : ∀ a ∈ C, a ∈ O) (h : Rp K O C H d v) : Rb K O C H d v := by
  cases h with
  | lst h z r => exact ⟨_, _, rfl, h.mono fun b n q => n (hC _ q), z, r⟩
  | non => exact .non
  | bl b => exact .bl b
  | int i => exact .int i
  | str s => exact .str s
  | tup h z r => exact .tup h z r
  | ref h => exact .ref h
  | dic h n z e r => exact .dic h n z e r
theorem RpAll.less {p : Addr} {ds : List D} {vs : List V} (h : RpAll K (p :: O) C H ds vs) : RpAll K O C H ds vs :=
  h.move (Z := []) (by simp) Keep.refl (fun a n q => n (List.mem_cons_of_mem _ q)) fun _ _ e => e
mutual
theorem Rp.more {p : Addr} (hp : H p = none) : ∀ {d : D} {v : V}, Rp K O C H d v → Rp K (p :: O) C H d v
  | _, _, .non => .non
  | _, _, .bl b => .bl b
  | _, _, .int i => .int i
  | _, _, .str s => .str s
  | _, _, .tup h z r => .tup h z (RpAll.more hp r)
  | _, _, .lst h z r => .lst (h.more hp) z (RpAll.more hp r)
  | _, _, .ref h => .ref h
  | _, _, .dic h n z e r => .dic h (by rw [List.mem_cons, not_or]; exact ⟨ne_of_none h hp, n⟩) z e (RpAll.more hp r)
theorem RpAll.more {p : Addr} (hp : H p = none) : ∀ {ds : List D} {vs : List V}, RpAll K O C H ds vs → RpAll K (p :: O) C H ds vs
  | _, _, .nil => .nil
  | _, _, .cons h r => .cons (Rp.more hp h) (RpAll.more hp r)
end
/-- a new list, p: told -/
theorem Rv.fr_new {p : Addr} {ds : List D} {xs : List V} (hp : H p = none) (z : xs.length ≤ sizeLine) (r : RpAll K O C H ds xs) : Rv .fr K O C H (upd H p (.lst xs)) (.lst ds) (.ref p) :=
  ⟨p, xs, rfl, hp, upd_same, z, (r.more hp).move (Z := []) (by simp) (Keep.new hp) (fun _ n => n) fun _ _ e => e⟩
theorem Rp.tup_new {p : Addr} {ds : List D} {xs : List V} (hp : H p = none) (z : xs.length ≤ sizeLine) (r : RpAll K O C H ds xs) : Rp K O C (upd H p (.tup xs)) (.tup ds) (.ref p) :=
  .tup (.inl (.inl upd_same)) z (r.move (Z := []) (by simp) (Keep.new hp) (fun _ n => n) fun _ _ e => e)
/-- a new thing is a thing -/
theorem Rv.pl_of (h : Rv .fr K O C H0 H d v) (al : ∀ a ∈ O, ∃ o, H0 a = some o) : Rp K O C H d v := by
  cases d with
  | lst ds =>
    obtain ⟨p, xs, rfl, hp, e, z, r⟩ := h
    exact .lst (.inl ⟨.inl e, fun q => by obtain ⟨o, e'⟩ := al _ q; rw [hp] at e'; cases e'⟩) z r.less
  | _ => exact h
theorem Rv.fr_pl {i : D} (h : Rp K O C H i v) (n : ∀ l, i ≠ .lst l) : Rv .fr K O C H0 H i v := by
  cases i with
  | lst l => exact absurd rfl (n l)
  | _ => exact h
theorem Rb.int {i : Int} (h : Rb K O C H (.int i) v) : v = .int i := by cases (show Rp K O C H (.int i) v from h); rfl
theorem Rb.bl {i : Bool} (h : Rb K O C H (.bl i) v) : v = .bl i := by cases (show Rp K O C H (.bl i) v from h); rfl
theorem Rb.non (h : Rb K O C H .non v) : v = .non := by cases (show Rp K O C H .non v from h); rfl
theorem Rb.str {i : Str} (h : Rb K O C H (.str i) v) : v = .str i := by cases (show Rp K O C H (.str i) v from h); rfl
theorem Rb.tup {ds : List D} (h : Rb K O C H (.tup ds) v) : ∃ a xs, v = .ref a ∧ SqT K H a xs ∧ xs.length ≤ sizeLine ∧ RpAll K O C H ds xs := by
  cases (show Rp K O C H (.tup ds) v from h) with
  | tup h1 z r => exact ⟨_, _, rfl, h1, z, r⟩
theorem Rb.lst {ds : List D} (h : Rb K O C H (.lst ds) v) : ∃ a xs, v = .ref a ∧ SqL K H a xs ∧ xs.length ≤ sizeLine ∧ RpAll K O C H ds xs := by
  obtain ⟨a, xs, e, h, z, r⟩ := h
  exact ⟨a, xs, e, h.sq, z, r⟩
theorem Rb.keep {H' : Hp} (hC : ∀ a ∈ C, a ∈ O) (k : Keep C H H') (h : Rb K O C H d v) : Rb K O C H' d v := by
  cases d with
  | lst ds =>
    obtain ⟨a, xs, e, h, z, r⟩ := h
    exact ⟨a, xs, e, sqO_keep k (fun _ q => q) (fun _ q => q) h, z, r.keep hC k⟩
  | _ => exact Rp.keep hC k h
end
end Ev

set_option maxHeartbeats 4000000
namespace Ev
open PySem PySem.Spec PyProof.Rows L2
/-- two values and what f says of them -/
def rOp (K : Frag) (k : Kd) (f : D → D → Option D) : R2 := fun x y H Q => ∃ O C d1 d2 r, (∀ a ∈ C, a ∈ O) ∧ Rb K O C H d1 x ∧ Rb K O C H d2 y ∧ f d1 d2 = some r ∧
  ∀ v H', (∀ Z, Keep Z H H') → Rv k K O C H H' r v → Q v H'
section
variable {X : Cx}
theorem mulOk_ok {i j : Int} (h : mulOk i j = true) : IntMulOk i j := by
  unfold mulOk at h
  simp only [Bool.or_eq_true, Bool.and_eq_true, decide_eq_true_eq] at h
  exact CMul.ok h
theorem op_addE : OpR X (binaryOp .Add) (rOp X.K .fr addD) := by
  intro pins s σ H x y v u Q I rx ry h
  obtain ⟨O, C, d1, d2, r, hC, b1, b2, e, q⟩ := h
  unfold addD at e
  split at e
  · rename_i i j
    cases e
    cases b1.int
    cases b2.int
    exact op_add pins s σ H _ _ v u Q I rx ry ⟨i, j, rfl, rfl, q _ _ (fun _ => Keep.refl) (Rp.int _)⟩
  · rename_i l m
    split at e
    · rename_i hz
      cases e
      obtain ⟨a, xs, rfl, h1, z1, r1⟩ := b1.tup
      obtain ⟨b, ys, rfl, h2, z2, r2⟩ := b2.tup
      rw [lim_line, r1.length, r2.length] at hz
      refine op_catA pins s σ H _ _ v u Q I rx ry ⟨a, b, xs, ys, rfl, rfl, h1, h2, hz, fun e0 => ?_, fun _ e0 => ?_, fun _ _ p hp => ?_⟩
      · subst e0
        cases r1
        exact q _ _ (fun _ => Keep.refl) (Rp.tup h2 z2 r2)
      · subst e0
        cases r2
        rw [List.append_nil] at q
        exact q _ _ (fun _ => Keep.refl) (Rp.tup h1 z1 r1)
      · exact q _ _ (fun _ => Keep.new hp) (Rp.tup_new hp (by rw [List.length_append]; exact hz) (r1.append r2))
    · cases e
  · rename_i l m
    split at e
    · rename_i hz
      cases e
      obtain ⟨a, xs, rfl, h1, z1, r1⟩ := b1.lst
      obtain ⟨b, ys, rfl, h2, z2, r2⟩ := b2.lst
      rw [lim_line, r1.length, r2.length] at hz
      cases rx
      cases ry
      obtain ⟨its, g1, p1, _⟩ := I.list h1
      obtain ⟨its2, g2, p2, _⟩ := I.list h2
      obtain ⟨⟨cls, dd, data, sl⟩, ho, hc, n, hd⟩ := id p1.isList
      obtain ⟨⟨cls2, dd2, data2, sl2⟩, ho2, hc2, n2, hd2⟩ := id p2.isList
      simp only at hc hd hc2 hd2
      subst hc hd hc2 hd2
      have e1 : its.toArray ++ its2.toArray = (its ++ its2).toArray := by simp
      refine PySem.concat_meets ⟨_, ho, rfl⟩ ⟨_, ho2, rfl⟩ noFill_list_add seq_list_add PySem.F.slot_list_add PySem.F.entry_list_add (PySem.F.args_list_add_2 _ _) (list_addW a b its.toArray its2.toArray n n2 dd dd2 sl sl2 (by rw [List.size_toArray, List.size_toArray, ← g1.length, ← g2.length]; exact hz)) ⟨ho, ho2, ?_⟩
      rw [e1]
      exact ⟨.ref _, _, I.lnew (t' := s.toks) (g1.append g2) (by rw [List.length_append]; exact hz), rfl, q _ _ (fun _ => Keep.new I.fresh) (Rv.fr_new I.fresh (by rw [List.length_append]; exact hz) (r1.append r2))⟩
    · cases e
  · cases e
theorem op_subE : OpR X (binaryOp .Sub) (rOp X.K .fr subD) := by
  intro pins s σ H x y v u Q I rx ry h
  obtain ⟨O, C, d1, d2, r, hC, b1, b2, e, q⟩ := h
  unfold subD at e
  split at e
  · rename_i i j
    cases e
    cases b1.int
    cases b2.int
    exact op_sub pins s σ H _ _ v u Q I rx ry ⟨i, j, rfl, rfl, q _ _ (fun _ => Keep.refl) (Rp.int _)⟩
  · cases e
theorem op_modE : OpR X (binaryOp .Mod) (rOp X.K .fr modD) := by
  intro pins s σ H x y v u Q I rx ry h
  obtain ⟨O, C, d1, d2, r, hC, b1, b2, e, q⟩ := h
  unfold modD at e
  split at e
  · rename_i i j
    split at e
    · rename_i hz
      cases e
      cases b1.int
      cases b2.int
      exact op_mod pins s σ H _ _ v u Q I rx ry ⟨i, j, rfl, rfl, of_decide_eq_true hz, q _ _ (fun _ => Keep.refl) (Rp.int _)⟩
    · cases e
  · cases e
theorem op_fdivE : OpR X (binaryOp .FloorDiv) (rOp X.K .fr fdivD) := by
  intro pins s σ H x y v u Q I rx ry h
  obtain ⟨O, C, d1, d2, r, hC, b1, b2, e, q⟩ := h
  unfold fdivD at e
  split at e
  · rename_i i j
    split at e
    · rename_i hz
      simp only [Bool.and_eq_true, Bool.or_eq_true, decide_eq_true_eq] at hz
      cases e
      cases b1.int
      cases b2.int
      rcases hz.2 with h2 | h2
      · exact op_fdiv pins s σ H _ _ v u Q I rx ry ⟨i, j, rfl, rfl, ⟨hz.1, h2⟩, q _ _ (fun _ => Keep.refl) (Rp.int _)⟩
      · exact op_fdivW pins s σ H _ _ v u Q I rx ry ⟨i, j, rfl, rfl, ⟨hz.1, h2⟩, q _ _ (fun _ => Keep.refl) (Rp.int _)⟩
    · cases e
  · cases e
theorem op_shlE : OpR X (binaryOp .LShift) (rOp X.K .fr shlD) := by
  intro pins s σ H x y v u Q I rx ry h
  obtain ⟨O, C, d1, d2, r, hC, b1, b2, e, q⟩ := h
  unfold shlD at e
  split at e
  · rename_i i j
    split at e
    · rename_i hz
      simp only [Bool.and_eq_true, decide_eq_true_eq] at hz
      cases e
      cases b1.int
      cases b2.int
      exact op_shl pins s σ H _ _ v u Q I rx ry ⟨i, j, rfl, rfl, ⟨hz.1.1, by omega, by omega⟩, q _ _ (fun _ => Keep.refl) (Rp.int _)⟩
    · cases e
  · cases e
theorem op_powE : OpR X (binaryOp .Pow) (rOp X.K .fr powD) := by
  intro pins s σ H x y v u Q I rx ry h
  obtain ⟨O, C, d1, d2, r, hC, b1, b2, e, q⟩ := h
  unfold powD at e
  split at e
  · rename_i i j
    split at e
    · rename_i hz
      simp only [Bool.and_eq_true, decide_eq_true_eq] at hz
      cases e
      cases b1.int
      cases b2.int
      exact op_pow pins s σ H _ _ v u Q I rx ry ⟨i, j, rfl, rfl, ⟨hz.1.1, by omega, by omega⟩, q _ _ (fun _ => Keep.refl) (Rp.int _)⟩
    · cases e
  · cases e
theorem tuple_mulS (l : Addr) (items : Array Value) (n : Nat) (dd : Option Addr) (sl : Array (Option Value)) (x : Int) (u : Tok) (c0 : (decide (x < -(2 ^ 63)) || decide (x ≥ 2 ^ 63)) = false) (c1 : (items.isEmpty || x == 1) = true) :
    Meets (Builtin.«tuple.__mul__» ⟨[.ref l, .int x u], []⟩) (fun _ R s => s.heap.get? l = some { cls := .type "tuple", dict := dd, data := .seq items n, slots := sl } ∧
      R (.ok (.ret (Value.ref l))) s) :=
  .of_wp fun prog w A R s h => by
    obtain ⟨hp, g, d, tk, os⟩ := s
    obtain ⟨hl, h⟩ := h
    have f1 := AutoSeq1.idx_int
    have f2 := AutoSeq1.sub_tuple_tuple
    wp_walk using wpAny_loadPart' hl
    repeat (first
      | (refine wpAny_ite_false (decide_eq_false (by rw [c0]; exact Bool.false_ne_true)) ?_; wp_walk using wpAny_loadPart' hl)
      | (refine wpAny_ite_true (decide_eq_true (by rw [c1])) ?_; wp_walk using wpAny_loadPart' hl))
    exact ⟨_, rfl, h⟩
end
end Ev

set_option maxHeartbeats 4000000
namespace Ev
open PySem PySem.Spec PyProof.Rows L2
mutual
def toPy : D → PyData
  | .bl b => .bool b
  | .int i => .int i
  | .str s => .str s
  | .tup l => .tuple (toPys l)
  | .lst l => .list (toPys l)
  | _ => .none
def toPys : List D → List PyData
  | [] => []
  | x :: r => toPy x :: toPys r
end
theorem okD_py : ∀ (n : Nat) (d : D), okD n d = true → (toPy d).canLay0 = true ∧ (toPy d).depth ≤ n
  | 0, .non, _ => ⟨rfl, Nat.zero_le _⟩
  | 0, .bl _, _ => ⟨rfl, Nat.zero_le _⟩
  | 0, .int _, _ => ⟨rfl, Nat.zero_le _⟩
  | 0, .str s, h => ⟨h, Nat.zero_le _⟩
  | 0, .tup _, h => by cases h
  | 0, .lst _, h => by cases h
  | 0, .dic _, h => by cases h
  | 0, .ref _, h => by cases h
  | 0, .clo _ _, h => by cases h
  | 0, .exc _ _, h => by cases h
  | n + 1, .non, _ => ⟨rfl, Nat.zero_le _⟩
  | n + 1, .bl _, _ => ⟨rfl, Nat.zero_le _⟩
  | n + 1, .int _, _ => ⟨rfl, Nat.zero_le _⟩
  | n + 1, .str s, h => ⟨h, Nat.zero_le _⟩
  | n + 1, .dic _, h => by cases h
  | n + 1, .ref _, h => by cases h
  | n + 1, .clo _ _, h => by cases h
  | n + 1, .exc _ _, h => by cases h
  | n + 1, .tup l, h => by
    have a := all_py n l h
    exact ⟨a.1, Nat.succ_le_succ a.2⟩
  | n + 1, .lst l, h => by
    have a := all_py n l h
    exact ⟨a.1, Nat.succ_le_succ a.2⟩
where
  all_py (n : Nat) : ∀ l : List D, l.all (okD n) = true → PyData.canLayAll0 (toPys l) = true ∧ PyData.depthAll (toPys l) ≤ n
  | [], _ => ⟨rfl, Nat.zero_le _⟩
  | x :: r, h => by
    rw [List.all_cons, Bool.and_eq_true] at h
    have a := okD_py n x h.1
    have b := all_py n r h.2
    refine ⟨?_, Nat.max_le.mpr ⟨a.2, b.2⟩⟩
    show ((toPy x).canLay0 && PyData.canLayAll0 (toPys r)) = true
    rw [a.1, b.1] <;> rfl
theorem okD_shaped {n : Nat} (hn : n ≤ 64) {d : D} (h : okD n d = true) : SeqAt.shaped (toPy d) = true := by
  have a := okD_py n d h
  unfold SeqAt.shaped
  rw [a.1, decide_eq_true (Nat.le_trans a.2 hn)] <;> rfl
mutual
theorem eqD_py : ∀ (n : Nat) (x y : D), okD n x = true → okD n y = true → PyData.eqv (toPy x) (toPy y) = eqD x y
  | 0, x, y, hx, hy => by
    cases x <;> cases y <;> first | (cases hx; done) | (cases hy; done) | rfl
  | n + 1, .tup l, y, hx, hy => by
    cases y <;> first | (cases hy; done) | rfl | exact eqDs_py n l _ hx hy
  | n + 1, .lst l, y, hx, hy => by
    cases y <;> first | (cases hy; done) | rfl | exact eqDs_py n l _ hx hy
  | n + 1, .non, y, hx, hy => by cases y <;> first | (cases hy; done) | rfl
  | n + 1, .bl _, y, hx, hy => by cases y <;> first | (cases hy; done) | rfl
  | n + 1, .int _, y, hx, hy => by cases y <;> first | (cases hy; done) | rfl
  | n + 1, .str _, y, hx, hy => by cases y <;> first | (cases hy; done) | rfl
  | n + 1, .dic _, y, hx, hy => by cases hx
  | n + 1, .ref _, y, hx, hy => by cases hx
  | n + 1, .clo _ _, y, hx, hy => by cases hx
  | n + 1, .exc _ _, y, hx, hy => by cases hx
theorem eqDs_py : ∀ (n : Nat) (x y : List D), x.all (okD n) = true → y.all (okD n) = true → PyData.eqvAll (toPys x) (toPys y) = eqDs x y
  | n, [], [], _, _ => rfl
  | n, [], _ :: _, _, _ => rfl
  | n, _ :: _, [], _, _ => rfl
  | n, x :: xs, y :: ys, hx, hy => by
    rw [List.all_cons, Bool.and_eq_true] at hx hy
    show (PyData.eqv (toPy x) (toPy y) && PyData.eqvAll (toPys xs) (toPys ys)) = (eqD x y && eqDs xs ys)
    rw [eqD_py n x y hx.1 hy.1, eqDs_py n xs ys hx.2 hy.2]
end
section
variable {K : Frag} {O C : List Addr} {H : Hp}
theorem rp_dp : ∀ (n : Nat) {d : D} {v : V}, okD n d = true → Rp K O C H d v → Dp K H v (toPy d)
  | _, _, _, _, .non => .non
  | _, _, _, _, .bl b => .bl b
  | _, _, _, _, .int i => .int i
  | _, _, _, _, .str s => .str s
  | 0, _, _, h, .tup .. => by cases h
  | 0, _, _, h, .lst .. => by cases h
  | n + 1, _, _, h, .tup q _ r => .tup q (all n r h)
  | n + 1, _, _, h, .lst q _ r => .lst q.sq (all n r h)
  | 0, _, _, h, .ref _ => by cases h
  | n + 1, _, _, h, .ref _ => by cases h
  | 0, _, _, h, .dic _ _ _ _ _ => by cases h
  | n + 1, _, _, h, .dic _ _ _ _ _ => by cases h
where
  all (n : Nat) : ∀ {ds : List D} {vs : List V}, RpAll K O C H ds vs → ds.all (okD n) = true → DpAll K H vs (toPys ds)
  | _, _, .nil, _ => .nil
  | _, _, .cons h r, e => by
    rw [List.all_cons, Bool.and_eq_true] at e
    exact .cons (rp_dp n e.1 h) (all n r e.2)
theorem rb_dp {n : Nat} {d : D} {v : V} (h : okD n d = true) (b : Rb K O C H d v) : Dp K H v (toPy d) := by
  cases d with
  | lst ds =>
    obtain ⟨a, xs, rfl, q, z, r⟩ := b
    cases n with
    | zero => cases h
    | succ n => exact .lst q.sq (rp_dp.all n r h)
  | _ => exact rp_dp n h b
end
section
variable {X : Cx}
theorem op_eqE (hu : X.A.units + 80 < cLine) : OpR X (compareOp .Eq) (rOp X.K .fr (cmpD .eq)) := by
  intro pins s σ H x y v u Q I rx ry h
  obtain ⟨O, C, d1, d2, r, hC, b1, b2, e, q⟩ := h
  unfold cmpD at e
  simp only at e
  split at e
  · rename_i hz
    rw [Bool.and_eq_true] at hz
    cases e
    refine op_eqD (by omega) pins s σ H x y v u Q I rx ry ⟨_, _, rb_dp hz.1 b1, rb_dp hz.2 b2, okD_shaped (by decide) hz.1, okD_shaped (by decide) hz.2, ?_⟩
    rw [eqD_py _ _ _ hz.1 hz.2]
    exact q _ _ (fun _ => Keep.refl) (Rp.bl _)
  · cases e
theorem op_neE (hu : X.A.units + 80 < cLine) : OpR X (compareOp .NotEq) (rOp X.K .fr (cmpD .ne)) := by
  intro pins s σ H x y v u Q I rx ry h
  obtain ⟨O, C, d1, d2, r, hC, b1, b2, e, q⟩ := h
  unfold cmpD at e
  simp only at e
  split at e
  · rename_i hz
    rw [Bool.and_eq_true] at hz
    cases e
    refine op_neD (by omega) pins s σ H x y v u Q I rx ry ⟨_, _, rb_dp hz.1 b1, rb_dp hz.2 b2, okD_shaped (by decide) hz.1, okD_shaped (by decide) hz.2, ?_⟩
    rw [eqD_py _ _ _ hz.1 hz.2]
    exact q _ _ (fun _ => Keep.refl) (Rp.bl _)
  · cases e
theorem rb_isNone {K : Frag} {O C : List Addr} {H : Hp} {d : D} {v : V} (b : Rb K O C H d v) : decide (v = V.non) = isNone d := by
  cases d with
  | lst ds => obtain ⟨a, xs, rfl, _⟩ := b; rfl
  | _ => cases (show Rp K O C H _ v from b) <;> rfl
theorem op_isE : OpR X (compareOp .Is) (rOp X.K .fr (cmpD .is)) := by
  intro pins s σ H x y v u Q I rx ry h
  obtain ⟨O, C, d1, d2, r, hC, b1, b2, e, q⟩ := h
  unfold cmpD at e
  simp only at e
  split at e
  · rename_i hz
    cases e
    have e2 : y = .non := by rw [← rb_isNone b2] at hz; exact of_decide_eq_true hz
    refine op_isN pins s σ H x y v u Q I rx ry ⟨e2, ?_⟩
    rw [rb_isNone b1]
    exact q _ _ (fun _ => Keep.refl) (Rp.bl _)
  · cases e
theorem op_isnotE : OpR X (compareOp .IsNot) (rOp X.K .fr (cmpD .isnot)) := by
  intro pins s σ H x y v u Q I rx ry h
  obtain ⟨O, C, d1, d2, r, hC, b1, b2, e, q⟩ := h
  unfold cmpD at e
  simp only at e
  split at e
  · rename_i hz
    cases e
    have e2 : y = .non := by rw [← rb_isNone b2] at hz; exact of_decide_eq_true hz
    refine op_notN pins s σ H x y v u Q I rx ry ⟨e2, ?_⟩
    rw [rb_isNone b1]
    exact q _ _ (fun _ => Keep.refl) (Rp.bl _)
  · cases e
theorem anyPy {n : Nat} {x : D} (hx : okD n x = true) : ∀ {l : List D}, l.all (okD n) = true → ((toPys l).any fun z => PyData.eqv z (toPy x)) = l.any fun z => eqD z x
  | [], _ => rfl
  | y :: r, h => by
    rw [List.all_cons, Bool.and_eq_true] at h
    show (PyData.eqv (toPy y) (toPy x) || (toPys r).any _) = (eqD y x || r.any _)
    rw [eqD_py n y x h.1 hx, anyPy hx h.2]
/-- in: the truth k (not in: its other), by what the model's rules say -/
theorem memE {op : CmpOp} {neg : Bool → Bool} (hu : X.A.units + 80 < cLine)
    (hl : ∀ {s : Shared} {a b : Value} {xs : List PyData} {d : PyData} {as bs : List Addr} {Q : Value → Shared → Prop}, Reads s.heap b (.list xs) bs → Reads s.heap a d as → (PyData.list xs).canLay0 = true → d.canLay0 = true → X.A.units + d.depth + 1 < cLine → Q (.bool (neg (xs.any fun z => PyData.eqv z d))) s → wpAny (model X.prog X.w) X.A (compareOp op a b) Q X.xe s)
    (ht : ∀ {s : Shared} {a b : Value} {xs : List PyData} {d : PyData} {as bs : List Addr} {Q : Value → Shared → Prop}, Reads s.heap b (.tuple xs) bs → Reads s.heap a d as → (PyData.tuple xs).canLay0 = true → d.canLay0 = true → X.A.units + d.depth + 1 < cLine → Q (.bool (neg (xs.any fun z => PyData.eqv z d))) s → wpAny (model X.prog X.w) X.A (compareOp op a b) Q X.xe s) :
    OpR X (compareOp op) (rOp X.K .fr fun x y => (memD x y).map fun b => .bl (neg b)) := by
  intro pins s σ H x y v u Q I rx ry h
  obtain ⟨O, C, d1, d2, r, hC, b1, b2, e, q⟩ := h
  obtain ⟨b, eb, e⟩ := Option.map_eq_some_iff.mp e
  cases e
  unfold memD at eb
  split at eb
  · split at eb
    · rename_i l hz
      rw [Bool.and_eq_true] at hz
      cases eb
      have hy : okD (okDep + 1) (D.tup l) = true := hz.2
      obtain ⟨as, g1⟩ := Dp.reads I _ x v (rb_dp hz.1 b1) rx
      obtain ⟨bs, g2⟩ := Dp.reads I _ y u (rb_dp hy b2) ry
      have p1 := okD_py _ _ hz.1
      refine ht g2 g1 (okD_py _ _ hy).1 p1.1 (by have := p1.2; have e12 : okDep = 12 := rfl; omega) ⟨.bl _, H, I, rfl, ?_⟩
      rw [anyPy hz.1 hz.2]
      exact q _ _ (fun _ => Keep.refl) (Rp.bl _)
    · cases eb
  · split at eb
    · rename_i l hz
      rw [Bool.and_eq_true] at hz
      cases eb
      have hy : okD (okDep + 1) (D.lst l) = true := hz.2
      obtain ⟨as, g1⟩ := Dp.reads I _ x v (rb_dp hz.1 b1) rx
      obtain ⟨bs, g2⟩ := Dp.reads I _ y u (rb_dp hy b2) ry
      have p1 := okD_py _ _ hz.1
      refine hl g2 g1 (okD_py _ _ hy).1 p1.1 (by have := p1.2; have e12 : okDep = 12 := rfl; omega) ⟨.bl _, H, I, rfl, ?_⟩
      rw [anyPy hz.1 hz.2]
      exact q _ _ (fun _ => Keep.refl) (Rp.bl _)
    · cases eb
  · cases eb
theorem op_memE (hu : X.A.units + 80 < cLine) : OpR X (compareOp .In) (rOp X.K .fr (cmpD .mem)) :=
  memE (neg := fun b => b) hu (fun r1 r2 c1 c2 z q => SeqAt.in_list_reads r1 r2 c1 c2 (by omega) q) (fun r1 r2 c1 c2 z q => SeqAt.in_tuple_reads r1 r2 c1 c2 (by omega) q)
theorem op_nmemE (hu : X.A.units + 80 < cLine) : OpR X (compareOp .NotIn) (rOp X.K .fr (cmpD .nmem)) :=
  memE (neg := fun b => !b) hu (fun r1 r2 c1 c2 z q => SeqAt.notIn_list_reads r1 r2 c1 c2 (by omega) q) (fun r1 r2 c1 c2 z q => SeqAt.notIn_tuple_reads r1 r2 c1 c2 (by omega) q)
end

def pyC : COp → CmpOp
  | .lt => .Lt
  | .le => .LtE
  | .gt => .Gt
  | .ge => .GtE
  | .eq => .Eq
  | .ne => .NotEq
  | .is => .Is
  | .isnot => .IsNot
  | .mem => .In
  | .nmem => .NotIn
def isOrd : COp → Bool
  | .lt | .le | .gt | .ge => true
  | _ => false
mutual
theorem alk_py : ∀ x y : D, alkD x y = true → PySem.W.alike (toPy x) (toPy y) = true
  | .bl _, .bl _, _ => rfl
  | .int _, .int _, _ => rfl
  | .lst xs, .lst ys, h => alks_py xs ys h
  | .tup xs, .tup ys, h => alks_py xs ys h
  | .non, _, h => by cases h
  | .str _, _, h => by cases h
  | .dic _, _, h => by cases h
  | .ref _, _, h => by cases h
  | .clo _ _, _, h => by cases h
  | .exc _ _, _, h => by cases h
theorem alks_py : ∀ x y : List D, alkDs x y = true → PySem.W.alikeAll (toPys x) (toPys y) = true
  | [], _, _ => by cases ‹List D› <;> rfl
  | _ :: _, [], _ => rfl
  | x :: xs, y :: ys, h => by
    have h : (alkD x y && alkDs xs ys) = true := h
    rw [Bool.and_eq_true] at h
    show (PySem.W.alike (toPy x) (toPy y) && PySem.W.alikeAll (toPys xs) (toPys ys)) = true
    rw [alk_py x y h.1, alks_py xs ys h.2] <;> rfl
end
theorem alk_nn {x y : D} (h : alkD x y = true) : toPy x ≠ .none := by
  cases x <;> first | (cases h; done) | (intro z; cases z)
theorem lt_int_tok (i j : Int) : PySem.W.dataLt (.int i) (.int j) = decide (i < j) := by
  show PyProof.Rows.lexLt PyProof.Rows.itemOrd [.inl i] [.inl j] = _
  by_cases e : i = j
  · subst e
    rw [PyProof.Rows.lex_self, decide_eq_false (Int.lt_irrefl _)]
    rfl
  · rw [PyProof.Rows.lex_diff (fun z => e (Sum.inl.inj z))]
    rfl
theorem toks_inj {x y : D} (n : Nat) (hx : okD n x = true) (hy : okD n y = true) (h : alkD x y = true) :
    (eqD x y = true → PySem.W.keyToks (toPy x) = PySem.W.keyToks (toPy y)) ∧ (eqD x y = false → ∀ l m, PyProof.Rows.lexLt PyProof.Rows.itemOrd (PySem.W.keyToks (toPy x) ++ l) (PySem.W.keyToks (toPy y) ++ m) = PySem.W.dataLt (toPy x) (toPy y)) := by
  have q := PySem.W.toks_eqv (toPy x) (toPy y) (alk_py x y h)
  rw [eqD_py n x y hx hy] at q
  exact q
mutual
theorem ltB_py : ∀ (n : Nat) (x y : D), okD n x = true → okD n y = true → alkD x y = true → PySem.W.dataLt (toPy x) (toPy y) = ltB x y
  | _, .bl a, .bl b, _, _, _ => by
    show PySem.W.dataLt (.bool a) (.bool b) = (!a && b)
    have e : PySem.W.dataLt (.bool a) (.bool b) = PySem.W.dataLt (.int (if a = true then 1 else 0)) (.int (if b = true then 1 else 0)) := rfl
    rw [e, lt_int_tok]
    cases a <;> cases b <;> rfl
  | _, .int i, .int j, _, _, _ => lt_int_tok i j
  | n + 1, .lst xs, .lst ys, hx, hy, h => ltBs_py n xs ys hx hy h
  | n + 1, .tup xs, .tup ys, hx, hy, h => ltBs_py n xs ys hx hy h
  | 0, .lst _, .lst _, hx, _, _ => by cases hx
  | 0, .tup _, .tup _, hx, _, _ => by cases hx
  | _, .non, _, _, _, h => by cases h
  | _, .str _, _, _, _, h => by cases h
  | _, .dic _, _, _, _, h => by cases h
  | _, .ref _, _, _, _, h => by cases h
  | _, .clo _ _, _, _, _, h => by cases h
  | _, .exc _ _, _, _, _, h => by cases h
theorem ltBs_py : ∀ (n : Nat) (x y : List D), x.all (okD n) = true → y.all (okD n) = true → alkDs x y = true → PyProof.Rows.lexLt PyProof.Rows.itemOrd (PySem.W.keyToksAll (toPys x)) (PySem.W.keyToksAll (toPys y)) = ltBs x y
  | _, [], [], _, _, _ => by
    show PyProof.Rows.lexLt PyProof.Rows.itemOrd [.inl 0] [.inl 0] = false
    rw [PyProof.Rows.lex_self] <;> rfl
  | _, [], y :: ys, _, _, _ => by
    show PyProof.Rows.lexLt PyProof.Rows.itemOrd [.inl 0] (.inl 1 :: _) = true
    rw [PyProof.Rows.lex_diff (by intro z; cases z)] <;> rfl
  | _, x :: xs, [], _, _, _ => by
    show PyProof.Rows.lexLt PyProof.Rows.itemOrd (.inl 1 :: _) [.inl 0] = false
    rw [PyProof.Rows.lex_diff (by intro z; cases z)] <;> rfl
  | n, x :: xs, y :: ys, hx, hy, h => by
    have h : (alkD x y && alkDs xs ys) = true := h
    rw [Bool.and_eq_true] at h
    rw [List.all_cons, Bool.and_eq_true] at hx hy
    obtain ⟨t1, t2⟩ := toks_inj n hx.1 hy.1 h.1
    show PyProof.Rows.lexLt PyProof.Rows.itemOrd (.inl 1 :: (PySem.W.keyToks (toPy x) ++ PySem.W.keyToksAll (toPys xs))) (.inl 1 :: (PySem.W.keyToks (toPy y) ++ PySem.W.keyToksAll (toPys ys))) = if eqD x y = true then ltBs xs ys else ltB x y
    rw [PyProof.Rows.lex_self]
    cases c : eqD x y with
    | true =>
      rw [t1 c, PySem.W.lex_pre, ltBs_py n xs ys hx.2 hy.2 h.2] <;> rfl
    | false =>
      rw [t2 c, ltB_py n x y hx.1 hy.1 h.1] <;> rfl
end
mutual
theorem alk_symm : ∀ x y : D, alkD x y = true → alkD y x = true
  | .bl _, .bl _, _ => rfl
  | .int _, .int _, _ => rfl
  | .lst xs, .lst ys, h => alks_symm xs ys h
  | .tup xs, .tup ys, h => alks_symm xs ys h
  | .non, _, h => by cases h
  | .str _, _, h => by cases h
  | .dic _, _, h => by cases h
  | .ref _, _, h => by cases h
  | .clo _ _, _, h => by cases h
  | .exc _ _, _, h => by cases h
theorem alks_symm : ∀ x y : List D, alkDs x y = true → alkDs y x = true
  | [], [], _ => rfl
  | [], _ :: _, _ => rfl
  | _ :: _, [], _ => rfl
  | x :: xs, y :: ys, h => by
    have h : (alkD x y && alkDs xs ys) = true := h
    rw [Bool.and_eq_true] at h
    show (alkD y x && alkDs ys xs) = true
    rw [alk_symm x y h.1, alks_symm xs ys h.2] <;> rfl
end
section
variable {X : Cx}
theorem ordD_some {op : COp} {x y : D} {b : Bool} (e : ordD op x y = some b) : okD okDep x = true ∧ okD okDep y = true ∧ alkD x y = true ∧ b = ordB op x y := by
  unfold ordD at e
  split at e
  · rename_i hz
    rw [Bool.and_eq_true, Bool.and_eq_true] at hz
    cases e
    exact ⟨hz.1.1, hz.1.2, hz.2, rfl⟩
  · cases e
theorem op_ordE {op : COp} (ho : isOrd op = true) (hu : X.A.units + 80 < cLine) : OpR X (compareOp (pyC op)) (rOp X.K .fr (cmpD op)) := by
  intro pins s σ H x y v u Q I rx ry h
  obtain ⟨O, C, d1, d2, r, hC, b1, b2, e, q⟩ := h
  have e : (ordD op d1 d2).map D.bl = some r := by cases op <;> first | (cases ho; done) | exact e
  obtain ⟨b, eb, e⟩ := Option.map_eq_some_iff.mp e
  cases e
  obtain ⟨k1, k2, k3, rfl⟩ := ordD_some eb
  obtain ⟨as, g1⟩ := Dp.reads I _ x v (rb_dp k1 b1) rx
  obtain ⟨bs, g2⟩ := Dp.reads I _ y u (rb_dp k2 b2) ry
  have p1 := okD_py _ _ k1
  have e12 : okDep = 12 := rfl
  have hu2 : X.A.units + min (toPy d1).depth (toPy d2).depth < cLine := by omega
  have fin : ∀ b, EP X pins σ (fun v H' => v = .bl b ∧ H' = H) (.bool b) s := fun b => ⟨.bl b, H, I, rfl, rfl, rfl⟩
  have l1 := ltB_py _ _ _ k1 k2 k3
  cases op with
  | lt =>
    refine PySem.W.lt_data g1 g2 (alk_py _ _ k3) (alk_nn k3) hu2 ?_
    rw [l1]
    exact ⟨.bl _, H, I, rfl, q _ _ (fun _ => Keep.refl) (Rp.bl _)⟩
  | ge =>
    refine PySem.W.ge_data g1 g2 (alk_py _ _ k3) (alk_nn k3) hu2 ?_
    rw [l1]
    exact ⟨.bl _, H, I, rfl, q _ _ (fun _ => Keep.refl) (Rp.bl _)⟩
  | gt =>
    refine PySem.W.gt_data g1 g2 (alk_py _ _ k3) (alk_nn k3) hu2 ?_
    rw [ltB_py _ _ _ k2 k1 (alk_symm _ _ k3)]
    exact ⟨.bl _, H, I, rfl, q _ _ (fun _ => Keep.refl) (Rp.bl _)⟩
  | le =>
    refine PySem.W.le_data g1 g2 (alk_py _ _ k3) (alk_nn k3) hu2 ?_
    rw [ltB_py _ _ _ k2 k1 (alk_symm _ _ k3)]
    exact ⟨.bl _, H, I, rfl, q _ _ (fun _ => Keep.refl) (Rp.bl _)⟩
  | _ => cases ho
theorem op_cmpE (op : COp) (hu : X.A.units + 80 < cLine) : OpR X (compareOp (pyC op)) (rOp X.K .fr (cmpD op)) := by
  cases op with
  | eq => exact op_eqE hu
  | ne => exact op_neE hu
  | is => exact op_isE
  | isnot => exact op_isnotE
  | mem => exact op_memE hu
  | nmem => exact op_nmemE hu
  | lt => exact op_ordE rfl hu
  | le => exact op_ordE rfl hu
  | gt => exact op_ordE rfl hu
  | ge => exact op_ordE rfl hu
end
end Ev

set_option maxHeartbeats 4000000
namespace Ev
open PySem PySem.Spec PyProof.Rows L2
theorem list_mulW (l : Addr) (items : Array Value) (n : Nat) (dd : Option Addr) (sl : Array (Option Value)) (x : Int) (u : Tok) (hc0 : ¬(!Builtin.List.listFitsIndex x) = true) (hc1 : ¬items.size * x.toNat > (2 ^ 63 - 1) / 8) (hc2 : ¬Builtin.List.listTooLong (items.size * x.toNat) = true)
    (hsz : (List.foldl (fun x1 x2 => x1 ++ x2) #[] (List.replicate (if items.isEmpty = true then 0 else x.toNat) items)).size ≤ sizeLine) :
    Meets (Builtin.«list.__mul__» ⟨[.ref l, .int x u], []⟩) (fun _ R s => s.heap.get? l = some { cls := .type "list", dict := dd, data := .seq items n, slots := sl } ∧
      R (.ok (.ret (Value.ref s.heap.objs.size))) { s with heap := s.heap.push { cls := Value.type "list", data := Data.seq (List.foldl (fun x1 x2 => x1 ++ x2) #[] (List.replicate (if items.isEmpty = true then 0 else x.toNat) items)) }, toks := s.toks }) :=
  .of_wp fun prog w A R s h => by
    obtain ⟨hp, g, d, tk, os⟩ := s
    obtain ⟨hl, h⟩ := h
    have f1 := AutoSeq1.idx_int
    wp_walk using wpAny_loadPart' hl
    refine wpAny_ite_false (decide_eq_false (Nat.not_lt.mpr hsz)) ?_
    wp_walk using wpAny_loadPart' hl
    exact ⟨_, rfl, h⟩
theorem int_rmul_listW (a : Int) (t : Tok) (l : Addr) (items : Array Value) (n : Nat) (dd : Option Addr) (sl : Array (Option Value)) :
    Meets (Builtin.«int.__rmul__» ⟨[.int a t, .ref l], []⟩) (fun _ R s => s.heap.get? l = some { cls := .type "list", dict := dd, data := .seq items n, slots := sl } ∧ R (.ok (.ret Value.notImplemented)) s) :=
  .of_wp fun prog w A R s h => by
    obtain ⟨hp, g, d, tk, os⟩ := s
    obtain ⟨hl, h⟩ := h
    wp_walk using wpAny_loadPart' hl
    exact ⟨_, rfl, h⟩
section
variable {X : Cx}
theorem op_mulE : OpR X (binaryOp .Mult) (rOp X.K .fr mulD) := by
  intro pins s σ H x y v u Q I rx ry h
  obtain ⟨O, C, d1, d2, r, hC, b1, b2, e, q⟩ := h
  unfold mulD at e
  split at e
  · rename_i i j
    split at e
    · rename_i hz
      cases e
      cases b1.int
      cases b2.int
      obtain ⟨t, rfl⟩ := rx
      obtain ⟨t', rfl⟩ := ry
      exact mul_int ⟨.int _, H, I.tok _, ⟨_, rfl⟩, q _ _ (fun _ => Keep.refl) (Rp.int _)⟩ (mulOk_ok hz)
    · cases e
  · rename_i l k
    split at e
    · rename_i hz
      simp only [Bool.and_eq_true, decide_eq_true_eq] at hz
      obtain ⟨⟨k1, k2⟩, k3⟩ := hz
      cases e
      cases b2.int
      obtain ⟨a, xs, rfl, h1, z1, r1⟩ := b1.tup
      have lx := r1.length
      have zf : (List.replicate k.toNat xs).flatten.length ≤ sizeLine := by
        rw [PyProof.Rows.lm_len_rep_flat, sizeLine_eq]
        have a1 : k.toNat * xs.length ≤ 1000 * 1000 := Nat.mul_le_mul (by omega) (by omega)
        omega
      have one : (k = 1 ∨ xs = []) → (List.replicate k.toNat xs).flatten = xs ∧ (List.replicate k.toNat l).flatten = l := fun h => by
        rcases h with rfl | rfl
        · exact ⟨by simp, by simp⟩
        · have e0 : l = [] := List.eq_nil_of_length_eq_zero (by rw [lx]; rfl)
          subst e0
          simp
      by_cases ho : k = 1 ∨ xs = []
      · obtain ⟨e1, e2⟩ := one ho
        rw [e2] at q
        cases rx
        obtain ⟨t, rfl⟩ := ry
        obtain ⟨its, rr, ⟨⟨cls, dd, data, sl⟩, hob, hc, n, hd⟩, hs⟩ := I.tuple h1
        simp only at hc hd
        subst hc hd
        have c0 : (decide (k < -(2 ^ 63)) || decide (k ≥ 2 ^ 63)) = false := by
          rw [decide_eq_false (by omega), decide_eq_false (by omega)] <;> rfl
        have c1 : (its.toArray.isEmpty || k == 1) = true := by
          rcases ho with rfl | rfl
          · simp
          · cases rr; rfl
        refine wpAny_binaryOp_repeat_ref (T := "tuple") (U := "int") (by decide) ⟨_, hob, rfl⟩ (fun s' => typeIs_int s' k t) noFill_tuple_mul F.fills_int_mul F.slot_int_rmul repeat_tuple F.slot_int_index.lookup
          (call_meets F.slot_int_rmul (typeIs_int s k t) F.entry_int_rmul (F.args_int_rmul_2 _ _) (int_rmul_tuple k t a its.toArray n dd sl)
            ⟨hob, rfl, ⟨_, hob, rfl⟩, call_meets F.slot_tuple_mul ⟨_, hob, rfl⟩ F.entry_tuple_mul (F.args_tuple_mul_2 _ _) (tuple_mulS a its.toArray n dd sl k t c0 c1) ⟨hob, ?_⟩⟩)
        exact ⟨.ref a, H, I, rfl, q _ _ (fun _ => Keep.refl) (Rp.tup h1 z1 r1)⟩
      · rw [not_or] at ho
        exact op_repT pins s σ H _ _ v u Q I rx ry ⟨a, k, xs, rfl, rfl, h1, ho.2, by omega, k2, by omega, fun p hp => q _ _ (fun _ => Keep.new hp) (Rp.tup_new hp zf (r1.rep _))⟩
    · cases e
  · rename_i l k
    split at e
    · rename_i hz
      simp only [Bool.and_eq_true, decide_eq_true_eq] at hz
      obtain ⟨⟨k1, k2⟩, k3⟩ := hz
      cases e
      cases b2.int
      obtain ⟨a, xs, rfl, h1, z1, r1⟩ := b1.lst
      have lx := r1.length
      have zf : (List.replicate k.toNat xs).flatten.length ≤ sizeLine := by
        rw [PyProof.Rows.lm_len_rep_flat, sizeLine_eq]
        have a1 : k.toNat * xs.length ≤ 1000 * 1000 := Nat.mul_le_mul (by omega) (by omega)
        omega
      cases rx
      obtain ⟨t, rfl⟩ := ry
      obtain ⟨its, rr, pl, hs⟩ := I.list h1
      obtain ⟨⟨cls, dd, data, sl⟩, hob, hc, n, hd⟩ := id pl.isList
      simp only at hc hd
      subst hc hd
      have hl := rr.length
      have m1 : its.length * k.toNat ≤ 1000 * 1000 := Nat.mul_le_mul (by omega) (by omega)
      have hcap : ¬ its.toArray.size * k.toNat > (2 ^ 63 - 1) / 8 := by
        rw [List.size_toArray]
        omega
      have hfit : ¬ (!Builtin.List.listFitsIndex k) = true := by
        rw [fitsIndex_both (by omega) (by omega)]
        exact Bool.false_ne_true
      have hlong : ¬ Builtin.List.listTooLong (its.toArray.size * k.toNat) = true := by
        rw [notLongL (by rw [List.size_toArray, sizeLine_eq]; omega)]
        exact Bool.false_ne_true
      have hnew : List.foldl (fun x1 x2 => x1 ++ x2) #[] (List.replicate (if its.toArray.isEmpty = true then 0 else k.toNat) its.toArray) = (List.replicate k.toNat its).flatten.toArray := by
        rw [size_rep]
        cases its with
        | nil => simp
        | cons a r' => rw [if_neg (by simp)]
      refine wpAny_binaryOp_repeat_ref (T := "list") (U := "int") (by decide) ⟨_, hob, rfl⟩ (fun s' => typeIs_int s' k t) noFill_list_mul F.fills_int_mul F.slot_int_rmul repeat_list F.slot_int_index.lookup
        (call_meets F.slot_int_rmul (typeIs_int s k t) F.entry_int_rmul (F.args_int_rmul_2 _ _) (int_rmul_listW k t a its.toArray n dd sl)
          ⟨hob, rfl, ⟨_, hob, rfl⟩, call_meets F.slot_list_mul ⟨_, hob, rfl⟩ F.entry_list_mul (F.args_list_mul_2 _ _) (list_mulW a its.toArray n dd sl k t hfit hcap hlong (by rw [hnew, List.size_toArray, PyProof.Rows.lm_len_rep_flat, sizeLine_eq, Nat.mul_comm]; omega)) ⟨hob, ?_⟩⟩)
      rw [hnew]
      exact ⟨.ref _, _, I.lnew (t' := s.toks) (rr.rep k.toNat) zf, rfl, q _ _ (fun _ => Keep.new I.fresh) (Rv.fr_new I.fresh zf (r1.rep _))⟩
    · cases e
  · cases e
/-- an operator of the text -/
def pyB : BOp → Operator
  | .add => .Add
  | .sub => .Sub
  | .mul => .Mult
  | .fdiv => .FloorDiv
  | .mod => .Mod
  | .pow => .Pow
  | .shl => .LShift
theorem op_binE (op : BOp) : OpR X (binaryOp (pyB op)) (rOp X.K .fr (binD op)) := by
  cases op with
  | add => exact op_addE
  | sub => exact op_subE
  | mul => exact op_mulE
  | fdiv => exact op_fdivE
  | mod => exact op_modE
  | pow => exact op_powE
  | shl => exact op_shlE
end
end Ev

set_option maxHeartbeats 4000000
namespace Ev
open PySem PySem.Spec PyProof.Rows L2
inductive RbAll (K : Frag) (O C : List Addr) (H : Hp) : List D → List V → Prop
  | nil : RbAll K O C H [] []
  | cons {d : D} {v : V} {ds : List D} {vs : List V} : Rb K O C H d v → RbAll K O C H ds vs → RbAll K O C H (d :: ds) (v :: vs)
/-- a call's values and what f says of them -/
def rPr (K : Frag) (k : Kd) (f : List D → Option D) : List V → Hp → VK → Prop := fun vs H Q => ∃ O C ds r, (∀ a ∈ C, a ∈ O) ∧ RbAll K O C H ds vs ∧ f ds = some r ∧
  ∀ v H', (∀ Z, Keep Z H H') → Rv k K O C H H' r v → Q v H'
section
variable {K : Frag} {O C : List Addr} {H : Hp}
theorem RbAll.one {d : D} {vs : List V} (h : RbAll K O C H [d] vs) : ∃ v, vs = [v] ∧ Rb K O C H d v := by
  cases h with
  | cons a b => cases b; exact ⟨_, rfl, a⟩
theorem RbAll.two {d e : D} {vs : List V} (h : RbAll K O C H [d, e] vs) : ∃ v w, vs = [v, w] ∧ Rb K O C H d v ∧ Rb K O C H e w := by
  cases h with
  | cons a b =>
    obtain ⟨w, rfl, c⟩ := b.one
    exact ⟨_, _, rfl, a, c⟩
theorem RpAll.ints : ∀ {l : List D} {xs : List V} {ns : List Int}, intsOf l = some ns → RpAll K O C H l xs → xs = ns.map V.int
  | [], _, _, e, h => by cases e; cases h; rfl
  | .int i :: r, _, _, e, h => by
    obtain ⟨ms, e1, rfl⟩ := Option.map_eq_some_iff.mp (show (intsOf r).map (i :: ·) = some _ from e)
    cases h with
    | cons a b => cases a; rw [RpAll.ints e1 b]; rfl
  | .non :: _, _, _, e, _ => by cases e
  | .bl _ :: _, _, _, e, _ => by cases e
  | .str _ :: _, _, _, e, _ => by cases e
  | .tup _ :: _, _, _, e, _ => by cases e
  | .lst _ :: _, _, _, e, _ => by cases e
  | .dic _ :: _, _, _, e, _ => by cases e
  | .ref _ :: _, _, _, e, _ => by cases e
  | .clo _ _ :: _, _, _, e, _ => by cases e
  | .exc _ _ :: _, _, _, e, _ => by cases e
theorem RpAll.bls : ∀ {l : List D} {xs : List V} {ns : List Bool}, blsOf l = some ns → RpAll K O C H l xs → xs = ns.map V.bl
  | [], _, _, e, h => by cases e; cases h; rfl
  | .bl i :: r, _, _, e, h => by
    obtain ⟨ms, e1, rfl⟩ := Option.map_eq_some_iff.mp (show (blsOf r).map (i :: ·) = some _ from e)
    cases h with
    | cons a b => cases a; rw [RpAll.bls e1 b]; rfl
  | .non :: _, _, _, e, _ => by cases e
  | .int _ :: _, _, _, e, _ => by cases e
  | .str _ :: _, _, _, e, _ => by cases e
  | .tup _ :: _, _, _, e, _ => by cases e
  | .lst _ :: _, _, _, e, _ => by cases e
  | .dic _ :: _, _, _, e, _ => by cases e
  | .ref _ :: _, _, _, e, _ => by cases e
  | .clo _ _ :: _, _, _, e, _ => by cases e
  | .exc _ _ :: _, _, _, e, _ => by cases e
end
section
variable {prog : Program} {w : World} {A : Around} {E : Value → Shared → Prop} {s : Shared} {l : Addr}
theorem sum_tup {its : List Value} {ns : List Int} {Q : Value → Shared → Prop} (hh : A.handled = none) (ht : s.heap.IsTuple l its.toArray) (hi : IntsAre its ns)
    (h : ∀ h' tk t', (∀ b o, s.heap.get? b = some o → h'.get? b = some o) → Q (.int ns.sum t') { s with heap := h', toks := tk }) : wpAny (model prog w) A (call (.builtin "sum") [.ref l]) Q E s := by
  obtain ⟨xs, e⟩ := hi.allInts.items
  have hn : numsOf (intItems xs).toList = ns := by rw [← e]; exact hi.numsOf
  rw [nums_intItems] at hn
  rw [e] at ht
  have hlt : l < s.heap.objs.size := by
    obtain ⟨o, ho, _⟩ := ht
    exact Heap.lt_size ho
  have hne : l ≠ s.heap.objs.size := Nat.ne_of_lt hlt
  refine call_sum_walkG (wpAny_pyIter_tuple ht ?_)
  refine ⟨s.heap.objs.size, _, _, _, _, _, numAt xs, rfl, Walks.tuple (A := A.in1) hh _ l hne (intItems xs), ⟨⟨_, Heap.get?_push_size _ rfl, rfl, rfl⟩, let ⟨o, ho, hc⟩ := ht; ⟨o, Heap.get?_push_of_some _ ho, hc⟩⟩, fun b hb => ?_, fun i v h => intItems_at h, fun h' tk t' hk => ?_⟩
  · have eb : b = s.heap.objs.size ∨ b = l := by simpa using hb
    show b < (s.heap.push _).objs.size
    rw [Heap.size_push]
    rcases eb with rfl | rfl
    · exact Nat.lt_succ_self _
    · exact Nat.lt_succ_of_lt hlt
  · have q := h h' tk t' fun b o e => hk b o (by
      intro z
      have z : b = s.heap.objs.size := by simpa using z
      exact absurd (Heap.lt_size e) (by rw [z]; exact Nat.lt_irrefl _)) (Heap.get?_push_of_some _ e)
    have es : (intItems xs).size = xs.size := by simp [intItems]
    rw [es, preSum_eq, List.take_of_length_le (by simp), hn]
    exact q
end
section
variable {X : Cx}
theorem Inv.grown {pins : List (Addr × Obj)} {σ : SSt} {H : Hp} {s : Shared} {h' : Heap} {t' : Nat} (I : Inv X pins σ H s) (k : ∀ b u, s.heap.get? b = some u → h'.get? b = some u) : Inv X pins σ H { s with heap := h', toks := t' } := I.kept k
/-- the list or tuple that lies at v -/
theorem rb_seq {K : Frag} {O C : List Addr} {H : Hp} {v : V} {l : List D} (b : Rb K O C H (.lst l) v ∨ Rb K O C H (.tup l) v) : ∃ a xs, v = .ref a ∧ (SqL K H a xs ∨ SqT K H a xs) ∧ xs.length ≤ sizeLine ∧ RpAll K O C H l xs := by
  rcases b with b | b
  · obtain ⟨a, xs, e, h, z, r⟩ := b.lst
    exact ⟨a, xs, e, .inl h, z, r⟩
  · obtain ⟨a, xs, e, h, z, r⟩ := b.tup
    exact ⟨a, xs, e, .inr h, z, r⟩
theorem pr_len : CallR X (.builtin "len") (rPr X.K .fr lenD) := by
  intro pins s σ H vs us Q I r h
  obtain ⟨O, C, ds, d, hC, b0, e, q⟩ := h
  unfold lenD at e
  split at e
  · cases e
    obtain ⟨v, rfl, b⟩ := b0.one
    obtain ⟨a, xs, rfl, h1, z1, r1⟩ := rb_seq (.inr b)
    refine call_len_seq pins s σ H _ us Q I r ⟨a, xs, rfl, h1, ?_⟩
    rw [← r1.length]
    exact q _ _ (fun _ => Keep.refl) (Rp.int _)
  · cases e
    obtain ⟨v, rfl, b⟩ := b0.one
    obtain ⟨a, xs, rfl, h1, z1, r1⟩ := rb_seq (.inl b)
    refine call_len_seq pins s σ H _ us Q I r ⟨a, xs, rfl, h1, ?_⟩
    rw [← r1.length]
    exact q _ _ (fun _ => Keep.refl) (Rp.int _)
  · cases e
theorem pr_sum (hc : X.calm = true) : CallR X (.builtin "sum") (rPr X.K .fr sumD) := by
  intro pins s σ H vs us Q I r h
  obtain ⟨O, C, ds, d, hC, b0, e, q⟩ := h
  unfold sumD at e
  split at e
  · obtain ⟨ns, e1, rfl⟩ := Option.map_eq_some_iff.mp e
    obtain ⟨v, rfl, b⟩ := b0.one
    obtain ⟨a, xs, rfl, h1, z1, r1⟩ := b.lst
    obtain rfl := r1.ints e1
    exact cr_sum hc pins s σ H _ us Q I r ⟨a, ns, rfl, h1, q _ _ (fun _ => Keep.refl) (Rp.int _)⟩
  · obtain ⟨ns, e1, rfl⟩ := Option.map_eq_some_iff.mp e
    obtain ⟨v, rfl, b⟩ := b0.one
    obtain ⟨a, xs, rfl, h1, z1, r1⟩ := b.tup
    obtain rfl := r1.ints e1
    obtain ⟨u, rfl, ru⟩ := vals1 r
    cases ru
    obtain ⟨its, g1, p1, _⟩ := I.tuple h1
    exact sum_tup (I.ok.hd hc) p1 (Vals.ints g1) fun h' tk t' k => ⟨.int _, H, I.kept k, ⟨_, rfl⟩, q _ _ (fun _ => Keep.refl) (Rp.int _)⟩
  · cases e
theorem pr_all (hc : X.calm = true) : CallR X (.builtin "all") (rPr X.K .fr allD) := by
  intro pins s σ H vs us Q I r h
  obtain ⟨O, C, ds, d, hC, b0, e, q⟩ := h
  unfold allD at e
  split at e
  · obtain ⟨ns, e1, rfl⟩ := Option.map_eq_some_iff.mp e
    obtain ⟨v, rfl, b⟩ := b0.one
    obtain ⟨a, xs, rfl, h1, z1, r1⟩ := b.lst
    obtain rfl := r1.bls e1
    exact cr_all hc pins s σ H _ us Q I r ⟨a, ns, rfl, h1, q _ _ (fun _ => Keep.refl) (Rp.bl _)⟩
  · cases e
theorem pr_any (hc : X.calm = true) : CallR X (.builtin "any") (rPr X.K .fr anyD) := by
  intro pins s σ H vs us Q I r h
  obtain ⟨O, C, ds, d, hC, b0, e, q⟩ := h
  unfold anyD at e
  split at e
  · obtain ⟨ns, e1, rfl⟩ := Option.map_eq_some_iff.mp e
    obtain ⟨v, rfl, b⟩ := b0.one
    obtain ⟨a, xs, rfl, h1, z1, r1⟩ := b.lst
    obtain rfl := r1.bls e1
    exact cr_any hc pins s σ H _ us Q I r ⟨a, ns, rfl, h1, q _ _ (fun _ => Keep.refl) (Rp.bl _)⟩
  · cases e
theorem pr_min2 (hc : X.calm = true) : CallR X (.builtin "min") (rPr X.K .fr min2D) := by
  intro pins s σ H vs us Q I r h
  obtain ⟨O, C, ds, d, hC, b0, e, q⟩ := h
  unfold min2D at e
  split at e
  · cases e
    obtain ⟨v, w, rfl, b1, b2⟩ := b0.two
    cases b1.int
    cases b2.int
    exact call_min2 hc pins s σ H _ us Q I r ⟨_, _, rfl, q _ _ (fun _ => Keep.refl) (Rp.int _)⟩
  · cases e
theorem pr_max2 (hc : X.calm = true) : CallR X (.builtin "max") (rPr X.K .fr max2D) := by
  intro pins s σ H vs us Q I r h
  obtain ⟨O, C, ds, d, hC, b0, e, q⟩ := h
  unfold max2D at e
  split at e
  · cases e
    obtain ⟨v, w, rfl, b1, b2⟩ := b0.two
    cases b1.int
    cases b2.int
    exact call_max2 hc pins s σ H _ us Q I r ⟨_, _, rfl, q _ _ (fun _ => Keep.refl) (Rp.int _)⟩
  · cases e
theorem pr_abs : CallR X (.builtin "abs") (rPr X.K .fr absP) := by
  intro pins s σ H vs us Q I r h
  obtain ⟨O, C, ds, d, hC, b0, e, q⟩ := h
  unfold absP at e
  split at e
  · cases e
    obtain ⟨v, rfl, b⟩ := b0.one
    cases b.int
    exact call_abs pins s σ H _ us Q I r ⟨_, rfl, q _ _ (fun _ => Keep.refl) (Rp.int _)⟩
  · cases e
theorem pr_int : CallR X (.type "int") (rPr X.K .fr intP) := by
  intro pins s σ H vs us Q I r h
  obtain ⟨O, C, ds, d, hC, b0, e, q⟩ := h
  unfold intP at e
  split at e
  · cases e
    obtain ⟨v, rfl, b⟩ := b0.one
    cases b.int
    exact call_int1 pins s σ H _ us Q I r (.inl ⟨_, rfl, q _ _ (fun _ => Keep.refl) (Rp.int _)⟩)
  · cases e
theorem pr_list : CallR X (.type "list") (rPr X.K .fr listP) := by
  intro pins s σ H vs us Q I r h
  obtain ⟨O, C, ds, d, hC, b0, e, q⟩ := h
  have key : ∀ l, ds = [D.lst l] ∨ ds = [D.tup l] → d = .lst l → wpAny (model X.prog X.w) X.A (call (.type "list") us) (EP X pins σ Q) X.xe s := by
    intro l hl hd
    subst hd
    have hb : ∃ v, vs = [v] ∧ (Rb X.K O C H (.lst l) v ∨ Rb X.K O C H (.tup l) v) := by
      rcases hl with rfl | rfl
      · obtain ⟨v, e, b⟩ := b0.one
        exact ⟨v, e, .inl b⟩
      · obtain ⟨v, e, b⟩ := b0.one
        exact ⟨v, e, .inr b⟩
    obtain ⟨v, rfl, b⟩ := hb
    obtain ⟨a, xs, rfl, h1, z1, r1⟩ := rb_seq b
    exact call_list_of pins s σ H _ us Q I r ⟨a, xs, rfl, h1, fun p hp => q _ _ (fun _ => Keep.new hp) (Rv.fr_new hp z1 r1)⟩
  unfold listP at e
  split at e
  · cases e; exact key _ (.inl rfl) rfl
  · cases e; exact key _ (.inr rfl) rfl
  · cases e
theorem pr_tuple : CallR X (.type "tuple") (rPr X.K .fr tupP) := by
  intro pins s σ H vs us Q I r h
  obtain ⟨O, C, ds, d, hC, b0, e, q⟩ := h
  unfold tupP at e
  split at e
  · cases e
    obtain ⟨v, rfl, b⟩ := b0.one
    obtain ⟨a, xs, rfl, h1, z1, r1⟩ := b.lst
    exact call_tuple_of pins s σ H _ us Q I r ⟨a, xs, rfl, .inl ⟨h1, fun p hp => q _ _ (fun _ => Keep.new hp) (Rp.tup_new hp z1 r1)⟩⟩
  · cases e
    obtain ⟨v, rfl, b⟩ := b0.one
    obtain ⟨a, xs, rfl, h1, z1, r1⟩ := b.tup
    exact call_tuple_of pins s σ H _ us Q I r ⟨a, xs, rfl, .inr ⟨h1, q _ _ (fun _ => Keep.refl) (Rp.tup h1 z1 r1)⟩⟩
  · cases e
end
end Ev

set_option maxHeartbeats 4000000
namespace Ev
open PySem PySem.Spec PyProof.Rows L2
mutual
theorem toPy_inj : ∀ (n : Nat) (x y : D), okD n x = true → okD n y = true → toPy x = toPy y → x = y
  | n, .non, y, hx, hy, e => by cases y <;> first | rfl | (cases e; done) | (cases n <;> cases hy)
  | n, .bl a, y, hx, hy, e => by cases y <;> first | (cases e; rfl) | (cases e; done)
  | n, .int a, y, hx, hy, e => by cases y <;> first | (cases e; rfl) | (cases e; done)
  | n, .str a, y, hx, hy, e => by cases y <;> first | (cases e; rfl) | (cases e; done)
  | 0, .tup _, _, hx, _, _ => by cases hx
  | 0, .lst _, _, hx, _, _ => by cases hx
  | n + 1, .tup l, y, hx, hy, e => by
    cases y with
    | tup m =>
      have e : PyData.tuple (toPys l) = .tuple (toPys m) := e
      injection e with e
      rw [toPys_inj n l m hx hy e]
    | _ => cases e
  | n + 1, .lst l, y, hx, hy, e => by
    cases y with
    | lst m =>
      have e : PyData.list (toPys l) = .list (toPys m) := e
      injection e with e
      rw [toPys_inj n l m hx hy e]
    | _ => cases e
  | n, .dic _, _, hx, _, _ => by cases n <;> cases hx
  | n, .ref _, _, hx, _, _ => by cases n <;> cases hx
  | n, .clo _ _, _, hx, _, _ => by cases n <;> cases hx
  | n, .exc _ _, _, hx, _, _ => by cases n <;> cases hx
theorem toPys_inj : ∀ (n : Nat) (x y : List D), x.all (okD n) = true → y.all (okD n) = true → toPys x = toPys y → x = y
  | _, [], [], _, _, _ => rfl
  | _, [], _ :: _, _, _, e => by cases e
  | _, _ :: _, [], _, _, e => by cases e
  | n, x :: xs, y :: ys, hx, hy, e => by
    rw [List.all_cons, Bool.and_eq_true] at hx hy
    have e : toPy x :: toPys xs = toPy y :: toPys ys := e
    injection e with e1 e2
    rw [toPy_inj n x y hx.1 hy.1 e1, toPys_inj n xs ys hx.2 hy.2 e2]
end
theorem alkAll_ok {l : List D} (h : alkAll l = true) : l.all (okD okDep) = true ∧ ∀ x ∈ l, ∀ y ∈ l, alkD x y = true := by
  unfold alkAll at h
  rw [Bool.and_eq_true] at h
  exact ⟨h.1, fun x hx y hy => List.all_eq_true.mp (List.all_eq_true.mp h.2 x hx) y hy⟩
theorem mem_toPys {z : PyData} : ∀ {l : List D}, z ∈ toPys l → ∃ x ∈ l, z = toPy x
  | [], h => by cases h
  | x :: r, h => by
    have h : z ∈ toPy x :: toPys r := h
    rcases List.mem_cons.mp h with e | h
    · exact ⟨x, List.mem_cons_self, e⟩
    · obtain ⟨y, hy, e⟩ := mem_toPys h
      exact ⟨y, List.mem_cons_of_mem _ hy, e⟩
theorem alkAll_py {l : List D} (h : alkAll l = true) : PySem.W.AlikeAll (toPys l) := by
  obtain ⟨_, h2⟩ := alkAll_ok h
  refine ⟨fun x hx y hy => ?_, fun x hx => ?_⟩
  · obtain ⟨a, ha, rfl⟩ := mem_toPys hx
    obtain ⟨b, hb, rfl⟩ := mem_toPys hy
    exact alk_py _ _ (h2 a ha b hb)
  · obtain ⟨a, ha, rfl⟩ := mem_toPys hx
    exact alk_nn (h2 a ha a ha)
/-- the running best, told on data -/
theorem best_py {g : D → D → Bool} {G : PyData → PyData → Bool} : ∀ (r : List D) (x : D), (∀ a ∈ x :: r, ∀ b ∈ x :: r, G (toPy a) (toPy b) = g a b) →
    (toPys r).foldl (fun a y => if G y a then y else a) (toPy x) = toPy (r.foldl (fun b y => if g y b then y else b) x)
  | [], x, _ => rfl
  | y :: r, x, h => by
    show (toPys r).foldl _ (if G (toPy y) (toPy x) = true then toPy y else toPy x) = toPy (r.foldl _ (if g y x = true then y else x))
    rw [h y (by simp) x (by simp)]
    have e : (if g y x = true then toPy y else toPy x) = toPy (if g y x = true then y else x) := by split <;> rfl
    rw [e]
    refine best_py r _ fun a ha b hb => ?_
    have sub : ∀ z, z ∈ (if g y x = true then y else x) :: r → z ∈ x :: y :: r := fun z hz => by
      rcases List.mem_cons.mp hz with rfl | hz
      · split <;> simp
      · simp [hz]
    exact h a (sub a ha) b (sub b hb)
theorem best_mem {g : D → D → Bool} : ∀ (r : List D) (x : D), r.foldl (fun b y => if g y b then y else b) x ∈ x :: r
  | [], x => by simp
  | y :: r, x => by
    have h := best_mem (g := g) r (if g y x = true then y else x)
    show r.foldl _ (if g y x = true then y else x) ∈ _
    rcases List.mem_cons.mp h with e | h
    · rw [e]; split <;> simp
    · exact List.mem_cons_of_mem _ (List.mem_cons_of_mem _ h)
section
variable {X : Cx}
/-- min, max: from the model's rule to values -/
theorem pr_best {name : String} {f : List D → Option D} {g : D → D → Bool} (hf : ∀ l d, f l = some d → ∃ x r, l = x :: r ∧ alkAll l = true ∧ d = r.foldl (fun b y => if g y b then y else b) x)
    {F : PyData → List PyData → PyData} (hF : ∀ (x : D) r, alkAll (x :: r) = true → F (toPy x) (toPys r) = toPy (r.foldl (fun b y => if g y b then y else b) x))
    (ml : ∀ {s : Shared} {l : Addr} {vs : Array Value} {x : PyData} {xs : List PyData} {as : List Addr} {Q : Value → Shared → Prop}, s.heap.IsList l vs → ReadsAll s.heap vs.toList (x :: xs) as → PySem.W.AlikeAll (x :: xs) → X.A.units + 1 + PyData.depthAll (x :: xs) < cLine →
      (∀ (i : Nat) v h' tk bs, vs[i]? = some v → Reads h' v (F x xs) bs → (∀ b o, s.heap.get? b = some o → h'.get? b = some o) → Q v { s with heap := h', toks := tk }) → wpAny (model X.prog X.w) X.A (call (.builtin name) [.ref l]) Q X.xe s)
    (mt : ∀ {s : Shared} {l : Addr} {vs : Array Value} {x : PyData} {xs : List PyData} {as : List Addr} {Q : Value → Shared → Prop}, s.heap.IsTuple l vs → ReadsAll s.heap vs.toList (x :: xs) as → PySem.W.AlikeAll (x :: xs) → X.A.units + 1 + PyData.depthAll (x :: xs) < cLine →
      (∀ (i : Nat) v h' tk bs, vs[i]? = some v → Reads h' v (F x xs) bs → (∀ b o, s.heap.get? b = some o → h'.get? b = some o) → Q v { s with heap := h', toks := tk }) → wpAny (model X.prog X.w) X.A (call (.builtin name) [.ref l]) Q X.xe s)
    (hu : X.A.units + 80 < cLine) : CallR X (.builtin name) (rPr X.K .pl fun ds => match ds with
      | [.lst l] => f l
      | [.tup l] => f l
      | _ => none) := by
  intro pins s σ H vs us Q I r h
  obtain ⟨O, C, ds, d, hC, b0, e, q⟩ := h
  have key : ∀ l, (ds = [D.lst l] ∨ ds = [D.tup l]) → f l = some d → wpAny (model X.prog X.w) X.A (call (.builtin name) us) (EP X pins σ Q) X.xe s := by
    intro l hl hfl
    obtain ⟨x, rr, rfl, hal, rfl⟩ := hf l d hfl
    have hb : ∃ v, vs = [v] ∧ (Rb X.K O C H (.lst (x :: rr)) v ∨ Rb X.K O C H (.tup (x :: rr)) v) := by
      rcases hl with rfl | rfl
      · obtain ⟨v, e, b⟩ := b0.one
        exact ⟨v, e, .inl b⟩
      · obtain ⟨v, e, b⟩ := b0.one
        exact ⟨v, e, .inr b⟩
    obtain ⟨v, rfl, b⟩ := hb
    obtain ⟨a, xs, rfl, h1, z1, r1⟩ := rb_seq b
    obtain ⟨u, rfl, ru⟩ := vals1 r
    cases ru
    have ok := (alkAll_ok hal).1
    have dep := (okD_py.all_py okDep (x :: rr) ok).2
    have e12 : okDep = 12 := rfl
    -- the end, from the place of the best one
    have fin : ∀ {its : List Value} (g1 : Vals xs its) (i : Nat) (v : Value) (h' : Heap) (tk : Nat) (bs : List Addr), its[i]? = some v → Reads h' v (F (toPy x) (toPys rr)) bs → (∀ b o, s.heap.get? b = some o → h'.get? b = some o) → EP X pins σ Q v { s with heap := h', toks := tk } := by
      intro its g1 i v h' tk bs hi hr hk
      have I' : Inv X pins σ H { s with heap := h', toks := tk } := I.kept hk
      have hlt : i < xs.length := by rw [g1.length]; exact (List.getElem?_eq_some_iff.mp hi).1
      obtain ⟨y, hy, ry⟩ : ∃ y, xs[i]? = some y ∧ RelV y v := by
        obtain ⟨u, hu', ry⟩ := g1.get (i := i) (x := xs[i]) (List.getElem?_eq_getElem hlt)
        rw [hi] at hu'; cases hu'
        exact ⟨_, List.getElem?_eq_getElem hlt, ry⟩
      obtain ⟨d', hd', rp⟩ := r1.get' hy
      have okd' := List.all_eq_true.mp ok d' (List.mem_of_getElem? hd')
      obtain ⟨as', hr'⟩ := Dp.reads I' _ y v (rp_dp okDep okd' rp) ry
      have okb := List.all_eq_true.mp ok _ (best_mem (g := g) rr x)
      rw [hF x rr hal] at hr
      have e1 := (PySem.Reads.unique hr _ _ hr').1
      have e2 := toPy_inj okDep _ _ okb okd' e1
      exact ⟨y, H, I', ry, q _ _ (fun _ => Keep.refl) (by rw [e2]; exact rp)⟩
    rcases h1 with h1 | h1
    · obtain ⟨its, g1, p1, _⟩ := I.list h1
      obtain ⟨as, hr⟩ := Dp.readsAll I _ _ its (rp_dp.all okDep r1 ok) g1
      refine ml p1.isList (x := toPy x) (xs := toPys rr) (show ReadsAll s.heap its.toArray.toList (toPys (x :: rr)) as by rw [List.toList_toArray]; exact hr) (alkAll_py hal) (by show X.A.units + 1 + PyData.depthAll (toPys (x :: rr)) < cLine; omega) fun i v h' tk bs hi hr hk => fin g1 i v h' tk bs (by simpa using hi) hr hk
    · obtain ⟨its, g1, p1, _⟩ := I.tuple h1
      obtain ⟨as, hr⟩ := Dp.readsAll I _ _ its (rp_dp.all okDep r1 ok) g1
      refine mt p1 (x := toPy x) (xs := toPys rr) (show ReadsAll s.heap its.toArray.toList (toPys (x :: rr)) as by rw [List.toList_toArray]; exact hr) (alkAll_py hal) (by show X.A.units + 1 + PyData.depthAll (toPys (x :: rr)) < cLine; omega) fun i v h' tk bs hi hr hk => fin g1 i v h' tk bs (by simpa using hi) hr hk
  simp only at e
  split at e
  · exact key _ (.inl rfl) e
  · exact key _ (.inr rfl) e
  · cases e
theorem alk_lt {x y : D} {l : List D} (h : alkAll l = true) (hx : x ∈ l) (hy : y ∈ l) : PySem.W.dataLt (toPy x) (toPy y) = ltB x y := by
  obtain ⟨h1, h2⟩ := alkAll_ok h
  exact ltB_py okDep x y (List.all_eq_true.mp h1 x hx) (List.all_eq_true.mp h1 y hy) (h2 x hx y hy)
theorem minP_eq : minP = fun ds => match ds with
    | [.lst l] => minD l
    | [.tup l] => minD l
    | _ => none := rfl
theorem maxP_eq : maxP = fun ds => match ds with
    | [.lst l] => maxD l
    | [.tup l] => maxD l
    | _ => none := rfl
theorem pr_min (hc : X.calm = true) (ok : X.Ok) (hu : X.A.units + 80 < cLine) : CallR X (.builtin "min") (rPr X.K .pl minP) := by
  rw [minP_eq]
  refine pr_best (g := ltB) (F := PySem.W.minD) (fun l d e => ?_) (fun x r h => ?_) (fun a b c d e => PySem.W.min_list_data (ok.hd hc) a b c d e) (fun a b c d e => PySem.W.min_tuple_data (ok.hd hc) a b c d e) hu
  · cases l with
    | nil => cases e
    | cons x r =>
      have e : (if alkAll (x :: r) then some (minB x r) else none) = some d := e
      split at e
      · cases e; exact ⟨x, r, rfl, by assumption, rfl⟩
      · cases e
  · exact best_py (G := PySem.W.dataLt) r x fun a ha b hb => alk_lt h ha hb
theorem pr_max (hc : X.calm = true) (ok : X.Ok) (hu : X.A.units + 80 < cLine) : CallR X (.builtin "max") (rPr X.K .pl maxP) := by
  rw [maxP_eq]
  refine pr_best (g := fun y b => ltB b y) (F := PySem.W.maxD) (fun l d e => ?_) (fun x r h => ?_) (fun a b c d e => PySem.W.max_list_data (ok.hd hc) a b c d e) (fun a b c d e => PySem.W.max_tuple_data (ok.hd hc) a b c d e) hu
  · cases l with
    | nil => cases e
    | cons x r =>
      have e : (if alkAll (x :: r) then some (maxB x r) else none) = some d := e
      split at e
      · cases e; exact ⟨x, r, rfl, by assumption, rfl⟩
      · cases e
  · exact best_py (G := fun y a => PySem.W.dataLt a y) r x fun a ha b hb => alk_lt h hb ha
end

theorem insB_perm (x : D) : ∀ l : List D, (insB x l).Perm (x :: l)
  | [] => .refl _
  | y :: r => by
    unfold insB
    split
    · exact ((insB_perm x r).cons y).trans (.swap x y r)
    · exact .refl _
theorem sortB_perm : ∀ l : List D, (sortB l).Perm l
  | [] => .refl _
  | x :: r => (insB_perm x _).trans ((sortB_perm r).cons x)
abbrev leP (x y : D) : Bool := PySem.W.dataLe false toPy x y
theorem leP_total : PySem.W.TotalLe leP := PySem.W.sortLe_total _ _ _
theorem leP_lt {l : List D} (h : alkAll l = true) {x y : D} (hx : x ∈ l) (hy : y ∈ l) : leP x y = !ltB y x := by
  rw [← alk_lt h hy hx]
  rfl
theorem sub3 {x y : D} {r : List D} (a : D) (h : a ∈ x :: r) : a ∈ x :: y :: r := by
  rcases List.mem_cons.mp h with rfl | h
  · simp
  · simp [h]
theorem insB_sort (x : D) : ∀ l : List D, (∀ a ∈ x :: l, ∀ b ∈ x :: l, leP a b = !ltB b a) → l.Pairwise (fun a b => leP a b = true) → (insB x l).Pairwise (fun a b => leP a b = true)
  | [], _, _ => List.pairwise_singleton _ _
  | y :: r, h, p => by
    obtain ⟨p1, p2⟩ := List.pairwise_cons.mp p
    have e := h x (by simp) y (by simp)
    unfold insB
    split
    · rename_i hlt
      refine List.pairwise_cons.mpr ⟨fun z hz => ?_, insB_sort x r (fun a ha b hb => h a (sub3 a ha) b (sub3 b hb)) p2⟩
      rcases List.mem_cons.mp ((insB_perm x r).mem_iff.mp hz) with rfl | hz
      · rw [hlt] at e
        exact (leP_total.total y z).elim id fun q => by rw [e] at q; cases q
      · exact p1 z hz
    · rename_i hlt
      have hxy : leP x y = true := by rw [e]; simpa using hlt
      refine List.pairwise_cons.mpr ⟨fun z hz => ?_, p⟩
      rcases List.mem_cons.mp hz with rfl | hz
      · exact hxy
      · exact leP_total.trans x y z hxy (p1 z hz)
theorem insB_stab (x c : D) : ∀ l : List D, (∀ a ∈ x :: l, ∀ b ∈ x :: l, leP a b = !ltB b a) → (insB x l).filter (PySem.W.sameRank leP c) = (x :: l).filter (PySem.W.sameRank leP c)
  | [], _ => rfl
  | y :: r, h => by
    unfold insB
    split
    · rename_i hlt
      have e := h x (by simp) y (by simp)
      rw [hlt] at e
      have ih := insB_stab x c r fun a ha b hb => h a (sub3 a ha) b (sub3 b hb)
      rw [List.filter_cons, ih]
      cases hy : PySem.W.sameRank leP c y with
      | false => simp [List.filter_cons, hy]
      | true =>
        cases hx : PySem.W.sameRank leP c x with
        | false => simp [List.filter_cons, hy, hx]
        | true =>
          exfalso
          unfold PySem.W.sameRank at hx hy
          rw [Bool.and_eq_true] at hx hy
          rw [leP_total.trans x c y hx.2 hy.1] at e
          cases e
    · rfl
theorem sortB_merge (l : List D) (h : ∀ a ∈ l, ∀ b ∈ l, leP a b = !ltB b a) : sortB l = l.mergeSort leP := by
  suffices ∀ l : List D, (∀ a ∈ l, ∀ b ∈ l, leP a b = !ltB b a) → (sortB l).Pairwise (fun a b => leP a b = true) ∧ ∀ c, (sortB l).filter (PySem.W.sameRank leP c) = l.filter (PySem.W.sameRank leP c) from PySem.W.sort_unique leP_total (this l h).1 (this l h).2
  intro l
  induction l with
  | nil => exact fun _ => ⟨.nil, fun _ => rfl⟩
  | cons x r ih =>
    intro h
    obtain ⟨h1, h2⟩ := ih fun a ha b hb => h a (List.mem_cons_of_mem _ ha) b (List.mem_cons_of_mem _ hb)
    have sub : ∀ a, a ∈ x :: sortB r → a ∈ x :: r := fun a ha => by
      rcases List.mem_cons.mp ha with rfl | ha
      · simp
      · exact List.mem_cons_of_mem _ ((sortB_perm r).mem_iff.mp ha)
    have h3 : ∀ a ∈ x :: sortB r, ∀ b ∈ x :: sortB r, leP a b = !ltB b a := fun a ha b hb => h a (sub a ha) b (sub b hb)
    refine ⟨insB_sort x _ h3 h1, fun c => ?_⟩
    show (insB x (sortB r)).filter _ = _
    rw [insB_stab x c _ h3, List.filter_cons, List.filter_cons, h2 c]
section
variable {prog : Program} {w : World} {A : Around} {E : Value → Shared → Prop} {s : Shared} {β : Type} {enc : β → PyData} {R : Value → β → Prop}
open PySem.W PySem.Calls in
/-- sorted(v), v gathered as P tells -/
theorem sorted_col {it : Value} {P : Heap → Nat → List Value → Prop} {Q : Value → Shared → Prop}
    (hcol : ∀ Rr : List Value → Shared → Prop, (∀ h1 tk vs, P h1 tk vs → Rr vs { s with heap := h1, toks := tk }) → wpAny (model prog w) A.in1 (collect it) Rr E s)
    (h : ∀ h1 tk vs, P h1 tk vs → ∃ bs : List β, EachIs R vs bs ∧ EachIs (fun v b => ∃ as, Reads h1 v (enc b) as) vs bs ∧ AllAlike (bs.map enc) ∧ Sortable (bs.map enc) ∧ bs.length ≤ sizeLine ∧ (∀ b, b ∈ bs → A.units + 2 + (enc b).depth < cLine) ∧
      ∀ out p h' c, out.length = bs.length → EachIs R out (bs.mergeSort (dataLe false enc)) → (∀ b o', h1.get? b = some o' → b ≠ p) → h'.get? p = some (seqObj "list" (List.toArray out) c) → (∀ b o', h1.get? b = some o' → h'.get? b = some o') → Q (.ref p) { s with heap := h', toks := tk }) :
    wpAny (model prog w) A (call (.builtin "sorted") [it]) Q E s := by
  refine call_function_entry_kw kind_sorted plain_sorted entry_sorted (args_sorted1 _) ?_
  unfold Builtin.«sorted»
  refine wpAny_bind (m := checkCount "sorted" 1 1 _) (wpAny_pure ?_)
  refine wpAny_bind (hcol _ fun h1 tk vs hP => ?_)
  obtain ⟨bs, e, er, hal, hk, hL, hu, h⟩ := h h1 tk vs hP
  have hL' : vs.length ≤ sizeLine := by rw [e.length]; exact hL
  refine wpAny_bind (wpAny_newList ?_ hL')
  have hat : (h1.push (seqObj "list" vs.toArray 0)).get? h1.objs.size = some (seqObj "list" vs.toArray 0) := Heap.get?_push_size _ rfl
  have k2 : ∀ b o', h1.get? b = some o' → (h1.push (seqObj "list" vs.toArray 0)).get? b = some o' := fun b o' q => Heap.get?_push_of_some _ q
  have hlt : ∀ b o', h1.get? b = some o' → b ≠ h1.objs.size := fun b o' q => Nat.ne_of_lt (Heap.lt_size q)
  refine wpAny_bind (wpAny_holding (wpAny_call_entry_kw slot_list_sort ⟨_, hat, rfl⟩ entry_list_sort ?body (args_list_sort _)))
  case body =>
    show wpAny (model prog w) A.in1.in1 (Builtin.«list.sort» ⟨[.ref h1.objs.size], []⟩) _ _ _
    have er' : EachIs (fun v b => ∃ as, Reads (sortingHeap (h1.push (seqObj "list" vs.toArray 0)) h1.objs.size vs) v (enc b) as) vs bs := er.mono fun _ _ ⟨as, r⟩ => ⟨as, PyProof.Rows.Reads.keeps (fun b o' q => sortingHeap_old (hlt b o' q) (k2 b o' q)) r⟩
    refine list_sort_vals (κ := dataKind (sortingHeap (h1.push (seqObj "list" vs.toArray 0)) h1.objs.size vs) (bs.map enc)) hat (SortsAt.data (s := { s with heap := sortingHeap (h1.push (seqObj "list" vs.toArray 0)) h1.objs.size vs, toks := tk }) (each_map (R := fun v d => ∃ as, Reads (sortingHeap (h1.push (seqObj "list" vs.toArray 0)) h1.objs.size vs) v d as) enc er') hal hk (bound_map hu)) hL' ?_
    refine ⟨_, rfl, wpAny_pure ⟨_, rfl, ?_⟩⟩
    obtain ⟨c, hcc⟩ := sortedHeap_at (vs := vs) (out := (sortVals (dataKind (sortingHeap (h1.push (seqObj "list" vs.toArray 0)) h1.objs.size vs) (bs.map enc)) false vs vs).toArray) hat
    refine h _ _ _ c ?_ (sortVals_data false e er' hal) hlt hcc fun b o' q => ?_
    · rw [sortVals_length false rfl]; exact e.length
    · refine (sortedHeap_old (hlt b o' q) ?_).trans (k2 b o' q)
      have hz := Heap.lt_size q
      show _ < (h1.push (seqObj "list" vs.toArray 0)).objs.size
      rw [size_push']
      exact Nat.lt_succ_of_lt hz
end
section
variable {X : Cx}
open PySem.W in
/-- what sorting asks of values, and what it gives -/
theorem sort_data {pins : List (Addr × Obj)} {σ : SSt} {H : Hp} {s : Shared} {O C : List Addr} {l m : List D} {xs : List V} {its : List Value} (hu : X.A.units + 80 < cLine) (I : Inv X pins σ H s) (r1 : RpAll X.K O C H l xs) (g1 : Vals xs its) (z1 : xs.length ≤ sizeLine) (hm : sortD l = some m) :
    ∃ bs : List (V × D), EachIs (fun v (p : V × D) => RelV p.1 v) its bs ∧ EachIs (fun v (p : V × D) => ∃ as, Reads s.heap v (toPy p.2) as) its bs ∧ AllAlike (bs.map fun p => toPy p.2) ∧ Sortable (bs.map fun p => toPy p.2) ∧ bs.length ≤ sizeLine ∧ (∀ p, p ∈ bs → X.A.units + 2 + (toPy p.2).depth < cLine) ∧
      ∀ out p h' c tk, out.length = bs.length → EachIs (fun v (p : V × D) => RelV p.1 v) out (bs.mergeSort (dataLe false fun p => toPy p.2)) → (∀ b o', s.heap.get? b = some o' → b ≠ p) → h'.get? p = some (seqObj "list" (List.toArray out) c) → (∀ b o', s.heap.get? b = some o' → h'.get? b = some o') →
        ∃ ys, Inv X pins σ (upd H p (.lst ys)) { s with heap := h', toks := tk } ∧ (∀ Z, Keep Z H (upd H p (.lst ys))) ∧ Rv .fr X.K O C H (upd H p (.lst ys)) (.lst m) (.ref p) := by
  unfold sortD at hm
  split at hm
  case isFalse => cases hm
  rename_i hcond
  cases hm
  rw [Bool.and_eq_true, Bool.or_eq_true] at hcond
  obtain ⟨hal, hkind⟩ := hcond
  obtain ⟨hok, _⟩ := alkAll_ok hal
  have hpair : ∃ bs : List (V × D), bs.map (·.1) = xs ∧ bs.map (·.2) = l ∧ (∀ p ∈ bs, Rp X.K O C H p.2 p.1) ∧ EachIs (fun v (p : V × D) => RelV p.1 v) its bs := by
    have : ∀ (l : List D) (xs : List V) (its : List Value), RpAll X.K O C H l xs → Vals xs its → ∃ bs : List (V × D), bs.map (·.1) = xs ∧ bs.map (·.2) = l ∧ (∀ p ∈ bs, Rp X.K O C H p.2 p.1) ∧ EachIs (fun v (p : V × D) => RelV p.1 v) its bs := by
      intro l
      induction l with
      | nil => intro xs its r v; cases r; cases v; exact ⟨[], rfl, rfl, by simp, .nil⟩
      | cons x t ih =>
        intro xs its r v
        cases r with
        | cons r1 r2 =>
          cases v with
          | cons v1 v2 =>
            obtain ⟨bs, e1, e2, e3, e4⟩ := ih _ _ r2 v2
            exact ⟨(_, x) :: bs, by simp [e1], by simp [e2], by intro p hp; rcases List.mem_cons.mp hp with rfl | hp; exact r1; exact e3 p hp, .cons v1 e4⟩
    exact this l xs its r1 g1
  obtain ⟨bs, ex, el, hrp, hea⟩ := hpair
  have hmem : ∀ p ∈ bs, p.2 ∈ l := fun p hp => el ▸ List.mem_map_of_mem hp
  have hokp : ∀ p ∈ bs, okD okDep p.2 = true := fun p hp => List.all_eq_true.mp hok _ (hmem p hp)
  have her : EachIs (fun v (p : V × D) => ∃ as, Reads s.heap v (toPy p.2) as) its bs := (each_mem hea).mono fun v p ⟨rv, hp⟩ => Dp.reads I _ _ _ (rp_dp okDep (hokp p hp) (hrp p hp)) rv
  have hal' : AllAlike (bs.map fun p => toPy p.2) := by
    intro x hx y hy
    obtain ⟨p, hp, rfl⟩ := List.mem_map.mp hx
    obtain ⟨p', hp', rfl⟩ := List.mem_map.mp hy
    exact alk_py _ _ ((alkAll_ok hal).2 _ (hmem p hp) _ (hmem p' hp'))
  have hk' : Sortable (bs.map fun p => toPy p.2) := by
    rcases hkind with hkind | hkind
    · refine .inl fun x hx => ?_
      obtain ⟨p, hp, rfl⟩ := List.mem_map.mp hx
      have t := List.all_eq_true.mp hkind _ (hmem p hp)
      unfold isTupC at t
      split at t
      · rename_i y r e
        rw [e]
        exact ⟨toPy y, toPys r, rfl⟩
      · cases t
    · refine .inr fun x hx => ?_
      obtain ⟨p, hp, rfl⟩ := List.mem_map.mp hx
      have t := List.all_eq_true.mp hkind _ (hmem p hp)
      have t2 := hokp p hp
      generalize p.2 = y at t t2
      cases y with
      | non => exact absurd t (by decide)
      | tup l => exact absurd (show false = true from t) (by decide)
      | bl b => exact ⟨fun q => (by cases (show PyData.bool b = PyData.none from q)), fun _ q => (by cases (show PyData.bool b = PyData.tuple _ from q))⟩
      | int b => exact ⟨fun q => (by cases (show PyData.int b = PyData.none from q)), fun _ q => (by cases (show PyData.int b = PyData.tuple _ from q))⟩
      | str b => exact ⟨fun q => (by cases (show PyData.str b = PyData.none from q)), fun _ q => (by cases (show PyData.str b = PyData.tuple _ from q))⟩
      | lst b => exact ⟨fun q => (by cases (show PyData.list (toPys b) = PyData.none from q)), fun _ q => (by cases (show PyData.list (toPys b) = PyData.tuple _ from q))⟩
      | dic _ => exact absurd (show false = true from t2) (by decide)
      | ref _ => exact absurd (show false = true from t2) (by decide)
      | clo _ _ => exact absurd (show false = true from t2) (by decide)
      | exc _ _ => exact absurd (show false = true from t2) (by decide)
  have hlen : bs.length = xs.length := by rw [← ex, List.length_map]
  refine ⟨bs, hea, her, hal', hk', by rw [hlen]; exact z1, fun p hp => ?_, fun out p h' c tk hlo heo hnew hat k => ?_⟩
  · have := (okD_py okDep _ (hokp p hp)).2
    show X.A.units + 2 + (toPy p.2).depth < cLine
    unfold okDep at this
    omega
  · have hn : H p = none := by
      cases qq : H p with
      | none => rfl
      | some o' => obtain ⟨u, hu⟩ := objOk_get (I.hok p o' qq); exact absurd rfl (hnew _ _ hu)
    have hg : s.heap.get? p = none := by
      cases qq : s.heap.get? p with
      | none => rfl
      | some o' => exact absurd rfl (hnew _ _ qq)
    have hperm := List.mergeSort_perm bs (dataLe false fun p => toPy p.2)
    have hz : ((bs.mergeSort (dataLe false fun p => toPy p.2)).map (·.1)).length ≤ sizeLine := by rw [List.length_map, hperm.length_eq, hlen]; exact z1
    have hv : Vals ((bs.mergeSort (dataLe false fun p => toPy p.2)).map (·.1)) out := by
      generalize bs.mergeSort (dataLe false fun p => toPy p.2) = cs at heo
      clear hlo hat
      induction heo with
      | nil => exact .nil
      | cons a b ih => exact .cons a ih
    have hr : RpAll X.K O C H (sortB l) ((bs.mergeSort (dataLe false fun p => toPy p.2)).map (·.1)) := by
      have e1 : sortB l = (bs.mergeSort (dataLe false fun p => toPy p.2)).map (·.2) := by
        rw [sortB_merge l fun a ha b hb => leP_lt hal ha hb, ← el]
        exact (List.map_mergeSort (f := fun (p : V × D) => p.2) (fun a _ b _ => rfl)).symm
      rw [e1]
      have hin : ∀ p ∈ bs.mergeSort (dataLe false fun p => toPy p.2), Rp X.K O C H p.2 p.1 := fun p hp => hrp p (hperm.mem_iff.mp hp)
      generalize bs.mergeSort (dataLe false fun p => toPy p.2) = cs at hin
      clear heo hz hv e1
      induction cs with
      | nil => exact .nil
      | cons p t ih => exact .cons (hin p (by simp)) (ih fun q hq => hin q (by simp [hq]))
    exact ⟨_, I.laidN (t' := tk) k hg hn ⟨hz, out, c, hv, hat⟩, fun _ => Keep.new hn, Rv.fr_new hn hz hr⟩
open PySem.W in
theorem pr_sorted (hu : X.A.units + 80 < cLine) : CallR X (.builtin "sorted") (rPr X.K .fr sortP) := by
  intro pins s σ H vs us Q I r h
  obtain ⟨O, C, ds, d, hC, b0, e, q⟩ := h
  have key : ∀ l m, (ds = [D.lst l] ∨ ds = [D.tup l]) → sortD l = some m → d = .lst m → wpAny (model X.prog X.w) X.A (call (.builtin "sorted") us) (EP X pins σ Q) X.xe s := by
    intro l m hl hm hd
    subst hd
    have hb : ∃ v, vs = [v] ∧ (Rb X.K O C H (.lst l) v ∨ Rb X.K O C H (.tup l) v) := by
      rcases hl with rfl | rfl
      · obtain ⟨v, e, b⟩ := b0.one
        exact ⟨v, e, .inl b⟩
      · obtain ⟨v, e, b⟩ := b0.one
        exact ⟨v, e, .inr b⟩
    obtain ⟨v, rfl, b⟩ := hb
    obtain ⟨a, xs, rfl, h1, z1, r1⟩ := rb_seq b
    obtain ⟨u, rfl, ru⟩ := vals1 r
    cases ru
    have hseq : ∃ (its : List Value) (T : String) (o : Obj) (n : Nat), Vals xs its ∧ (T = "list" ∨ T = "tuple") ∧ s.heap.get? a = some o ∧ o.cls = .type T ∧ o.data = .seq its.toArray n := by
      rcases h1 with h1 | h1
      · obtain ⟨its, g1, ⟨o, n, a1, a2, a3, a4⟩, _⟩ := I.list h1
        exact ⟨its, "list", o, n, g1, .inl rfl, a1, a2, a4⟩
      · obtain ⟨its, g1, ⟨o, a1, a2, n, a3⟩, _⟩ := I.tuple h1
        exact ⟨its, "tuple", o, n, g1, .inr rfl, a1, a2, a3⟩
    obtain ⟨its, T, o, n, g1, hT, ho, hc, hd⟩ := hseq
    have hlen : its.length ≤ sizeLine := by rw [← g1.length]; exact z1
    refine sorted_col (P := fun h1 tk vs => vs = its ∧ tk = s.toks ∧ ∀ b o', s.heap.get? b = some o' → h1.get? b = some o') (R := fun v (p : V × D) => RelV p.1 v) (enc := fun p => toPy p.2)
      (fun Rr hR => wpAny_collect_seq a hT ho hc hd (fun h1 k1 => hR h1 s.toks its ⟨rfl, rfl, k1⟩) (by simpa using hlen)) fun h1 tk vs hP => ?_
    obtain ⟨rfl, rfl, k1⟩ := hP
    have I1 : Inv X pins σ H { s with heap := h1, toks := s.toks } := I.kept k1
    obtain ⟨bs, c1, c2, c3, c4, c5, c6, fin⟩ := sort_data hu I1 r1 g1 z1 hm
    refine ⟨bs, c1, c2, c3, c4, c5, c6, fun out p h' c e1 e2 e3 e4 e5 => ?_⟩
    obtain ⟨ys, J, kk, R⟩ := fin out p h' c s.toks e1 e2 e3 e4 e5
    exact ⟨.ref p, _, J, rfl, q _ _ kk R⟩
  unfold sortP at e
  split at e
  · obtain ⟨m, e1, e2⟩ := Option.map_eq_some_iff.mp e
    exact key _ _ (.inl rfl) e1 e2.symm
  · obtain ⟨m, e1, e2⟩ := Option.map_eq_some_iff.mp e
    exact key _ _ (.inr rfl) e1 e2.symm
  · cases e
end
end Ev

set_option maxHeartbeats 4000000
namespace Ev
open PySem PySem.Spec PyProof.Rows L2
def tyN : Nat → String
  | 0 => "NoneType"
  | 1 => "bool"
  | 2 => "int"
  | 3 => "str"
  | 4 => "tuple"
  | _ => "list"
/-- the class that is asked -/
def isiT : Prim → Option String
  | .isInt => some "int"
  | .isBool => some "bool"
  | .isStr => some "str"
  | .isTup => some "tuple"
  | .isLst => some "list"
  | _ => none
theorem tyD_le {d : D} {n : Nat} (h : tyD d = some n) : n ≤ 5 := by
  cases d <;> first | (cases h; decide) | cases h
theorem isi_kit {K : Frag} {p : Prim} {T : String} {n : Nat} (h : isiT p = some T) (hn : n ≤ 5) : PySem.W.kitOne K (.type (tyN n)) (.type T) = some (tyIs p n) := by
  have hn : n = 0 ∨ n = 1 ∨ n = 2 ∨ n = 3 ∨ n = 4 ∨ n = 5 := by omega
  cases p <;> first | (cases h; done) | (cases h; rcases hn with rfl | rfl | rfl | rfl | rfl | rfl <;> exact kit_ty (by decide +kernel))
section
variable {K : Frag} {O C : List Addr} {H : Hp}
theorem rb_ty {d : D} {v : V} {n : Nat} (b : Rb K O C H d v) (h : tyD d = some n) : TyX K H v (.type (tyN n)) := by
  cases d with
  | non => cases h; cases b.non; exact .base .non
  | bl x => cases h; cases b.bl; exact .base (.bl x)
  | int x => cases h; cases b.int; exact .base (.int x)
  | str x => cases h; cases b.str; exact .base (.str x)
  | tup l =>
    cases h
    obtain ⟨a, xs, rfl, h1, z, r⟩ := b.tup
    rcases h1 with (h1 | ⟨o, h1⟩) | h1
    · exact .base (.tup h1)
    · exact .fTuple h1
    · obtain ⟨o, _, _, e, c, _⟩ := h1
      exact .kTuple e c
  | lst l =>
    cases h
    obtain ⟨a, xs, rfl, h1, z, r⟩ := b.lst
    rcases h1 with (h1 | ⟨o, h1⟩) | h1
    · exact .base (.lst h1)
    · exact .base (.frz h1)
    · obtain ⟨o, _, _, e, c, _⟩ := h1
      exact .kList e c
  | _ => cases h
end
section
variable {X : Cx}
/-- isinstance(x, T) -/
def rIsiE (K : Frag) (p : Prim) (T : String) : List V → Hp → VK → Prop := fun vs H Q => ∃ v, vs = [v, .ty T] ∧ rPr K .fr (isP p) [v] H Q
theorem pr_isi {p : Prim} {T : String} (hT : isiT p = some T) : CallR X (.builtin "isinstance") (rIsiE X.K p T) := by
  intro pins s σ H vs us Q I r h
  obtain ⟨v, rfl, O, C, ds, d, hC, b0, e, q⟩ := h
  unfold isP at e
  split at e
  · obtain ⟨n, e1, rfl⟩ := Option.map_eq_some_iff.mp e
    obtain ⟨v', hv, b⟩ := b0.one
    cases hv
    exact call_isi pins s σ H _ us Q I r ⟨v, .ty T, _, _, tyIs p n, rfl, .ty T, rb_ty b e1, isi_kit hT (tyD_le e1), q _ _ (fun _ => Keep.refl) (Rp.bl _)⟩
  · cases e
/-- isinstance(x, (tuple, list)) -/
def rIsiTE (K : Frag) : List V → Hp → VK → Prop := fun vs H Q => ∃ v t, vs = [v, .ref t] ∧ H t = some (.tup [.ty "tuple", .ty "list"]) ∧ rPr K .fr (isP .isTupLst) [v] H Q
theorem pr_isiT : CallR X (.builtin "isinstance") (rIsiTE X.K) := by
  intro pins s σ H vs us Q I r h
  obtain ⟨v, t, rfl, ht, O, C, ds, d, hC, b0, e, q⟩ := h
  unfold isP at e
  split at e
  · obtain ⟨n, e1, rfl⟩ := Option.map_eq_some_iff.mp e
    obtain ⟨v', hv, b⟩ := b0.one
    cases hv
    have hn := tyD_le e1
    have hk : PySem.W.kitAny X.K (.type (tyN n)) [.type "tuple", .type "list"] = some (tyIs .isTupLst n) := by
      refine kitAny_cons (isi_kit (p := .isTup) rfl hn) (fun h0 => kitAny_cons (isi_kit (p := .isLst) rfl hn) (fun h1 => ?_) fun h1 => ?_) fun h1 => ?_
      · show some false = _
        have h0 : (n == 4) = false := h0
        have h1 : (n == 5) = false := h1
        show _ = some (n == 4 || n == 5)
        rw [h0, h1]; rfl
      · have h1 : (n == 5) = true := h1
        show (n == 4 || n == 5) = true
        rw [h1, Bool.or_true]
      · have h1 : (n == 4) = true := h1
        show (n == 4 || n == 5) = true
        rw [h1, Bool.true_or]
    exact call_isiT pins s σ H _ us Q I r ⟨v, t, _, _, _, tyIs .isTupLst n, rfl, ht, .cons (.ty _) (.cons (.ty _) .nil), rb_ty b e1, hk, q _ _ (fun _ => Keep.refl) (Rp.bl _)⟩
  · cases e
theorem pr_gcd : CallR X (.builtin "math.gcd") (rPr X.K .fr gcdP) := by
  intro pins s σ H vs us Q I r h
  obtain ⟨O, C, ds, d, hC, b0, e, q⟩ := h
  unfold gcdP at e
  split at e
  · cases e
    obtain ⟨v, w, rfl, b1, b2⟩ := b0.two
    cases b1.int
    cases b2.int
    exact cr_gcd pins s σ H _ us Q I r ⟨_, _, rfl, q _ _ (fun _ => Keep.refl) (Rp.int _)⟩
  · cases e
end
end Ev

set_option maxHeartbeats 4000000
namespace Ev
open PySem PySem.Spec PyProof.Rows L2
def kdP : Prim → Kd
  | .min => .pl
  | .max => .pl
  | _ => .fr
/-- how an expression's value lies -/
def kd : E → Kd
  | .brw _ => .br
  | .lst _ => .fr
  | .bin _ _ _ => .fr
  | .slc _ _ _ => .fr
  | .rev _ => .fr
  | .prim p _ => kdP p
  | .comp _ _ _ _ _ _ => .fr
  | .chn _ _ _ _ _ => .fr
  | .sitems _ => .fr
  | .cmp _ _ _ => .fr
  | _ => .pl
def isBr : Kd → Bool
  | .br => true
  | _ => false
def isFr : Kd → Bool
  | .fr => true
  | _ => false
section
variable {K : Frag} {O C : List Addr} {H0 H H1 H' : Hp} {d : D} {v : V} {m m' : Mem} {ρ : Env} {σ : SSt} {k : Kd}
theorem MemOk.alC (h : MemOk K O C H m) : ∀ a ∈ C, ∃ o, H a = some o := fun a ha => h.al a (h.sub a ha)
theorem Rv.rb (M : MemOk K O C H0 m) (h : Rv k K O C H0 H d v) : Rb K O C H d v := by
  cases k with
  | br => exact h
  | pl => exact Rp.rb M.sub (by cases d <;> exact h)
  | fr =>
    cases d with
    | lst ds =>
      obtain ⟨p, xs, rfl, hp, e, z, r⟩ := h
      exact ⟨p, xs, rfl, .inl ⟨.inl e, fun q => by obtain ⟨o, e'⟩ := M.alC p q; rw [hp] at e'; cases e'⟩, z, r.less⟩
    | _ => exact Rp.rb M.sub h
theorem Rv.pl (M : MemOk K O C H0 m) (nb : isBr k = false) (h : Rv k K O C H0 H d v) : Rp K O C H d v := by
  cases k with
  | br => cases nb
  | pl => cases d <;> exact h
  | fr => exact Rv.pl_of h M.al
theorem Rv.base (k1 : Keep C H H1) (M : MemOk K O C H1 m) (h : Rv k K O C H1 H' d v) : Rv k K O C H H' d v := by
  cases k with
  | br => exact h
  | pl => cases d <;> exact h
  | fr =>
    cases d with
    | lst ds =>
      obtain ⟨p, xs, rfl, hp, e, z, r⟩ := h
      refine ⟨p, xs, rfl, ?_, e, z, r⟩
      cases q : H p with
      | none => rfl
      | some o =>
        by_cases hc : p ∈ C
        · obtain ⟨o', e'⟩ := M.alC p hc
          rw [hp] at e'; cases e'
        · rw [k1.ob p o q hc] at hp; cases hp
    | _ => exact h
end
/-- a new list stands apart from all that stands -/
def FrM (k : Kd) (K : Frag) (O C : List Addr) (H : Hp) (m : Mem) (d : D) (v : V) : Prop := match k with
  | .fr => ∀ ds p, d = .lst ds → v = .ref p → MemOk K (p :: O) C H m
  | _ => True
theorem MemOk.moreO {K : Frag} {O C : List Addr} {H1 H' : Hp} {m : Mem} {p : Addr} {o : HO} (M : MemOk K O C H1 m) (hp : H1 p = none) (k : ∀ Z, Keep Z H1 H') (e : H' p = some o) : MemOk K (p :: O) C H' m := by
  refine ⟨M.len, fun n a d e1 e2 => ?_, fun a ha => List.mem_cons_of_mem _ (M.sub a ha), M.nd, fun a ha => ?_⟩
  · have := M.at_ n a d e1 e2
    cases d with
    | lst ds =>
      obtain ⟨xs, e, z, r⟩ := this
      exact ⟨xs, (k []).ob a _ e (by simp), z, (r.more hp).move (Z := []) (by simp) (k []) (fun _ n => n) fun _ _ e => e⟩
    | _ => exact this.elim
  · rcases List.mem_cons.mp ha with rfl | ha
    · exact ⟨o, e⟩
    · obtain ⟨o', e'⟩ := M.al a ha
      exact ⟨o', (k []).ob a o' e' (by simp)⟩
theorem Rv.frm {k : Kd} {K : Frag} {O C : List Addr} {H2 H' : Hp} {m : Mem} {d : D} {v : V} (M : MemOk K O C H2 m) (kk : ∀ Z, Keep Z H2 H') (R : Rv k K O C H2 H' d v) : FrM k K O C H' m d v := by
  cases k with
  | fr =>
    intro ds p ed ev
    subst ed
    obtain ⟨p', xs, e, hp, e2, _⟩ := R
    rw [ev] at e; cases e
    exact M.moreO hp kk e2
  | _ => trivial
/-- an expression, read by its evaluator -/
def tE (K : Frag) (φ : Phi) (e : E) : TE := fun σ H Q => ∃ O C ρ m r m', MemOk K O C H m ∧ EnvOk K O C H ρ σ ∧ evE φ e ρ m = .ok r m' ∧
  ∀ v H', Keep C H H' → MemOk K O C H' m' → Rv (kd e) K O C H H' r v → FrM (kd e) K O C H' m' r v → Q v H'
def tT (K : Frag) (φ : Phi) (e : E) : TT := fun σ H Q => ∃ O C ρ m r m' t, MemOk K O C H m ∧ EnvOk K O C H ρ σ ∧ evE φ e ρ m = .ok r m' ∧ truD r = some t ∧
  ∀ H', Keep C H H' → MemOk K O C H' m' → Q t H'
def RaAll (b : Bool) (K : Frag) (O C : List Addr) (H : Hp) (ds : List D) (vs : List V) : Prop := match b with
  | true => RpAll K O C H ds vs
  | false => RbAll K O C H ds vs
def tA (b : Bool) (K : Frag) (φ : Phi) (e : E) : TA := fun σ H Q => ∃ O C ρ m ds m', MemOk K O C H m ∧ EnvOk K O C H ρ σ ∧ evE φ e ρ m = .ok (.tup ds) m' ∧
  ∀ vs H', Keep C H H' → MemOk K O C H' m' → RaAll b K O C H' ds vs → Q vs H'
/-- a call of the function f by values -/
def spF (K : Frag) (φ : Phi) (n f : Nat) : Sp := fun vs H Q _ => vs.length = n ∧ ∃ O C m ds r m', MemOk K O C H m ∧ RpAll K O C H ds vs ∧ φ f ds m = .ok r m' ∧
  ∀ v H', Keep C H H' → MemOk K O C H' m' → Rp K O C H' r v → Q v H'
theorem pe_imp {X : Cx} {e : Expr} {t t' : TE} (h : PE X e t) (i : ∀ σ H Q, t' σ H Q → t σ H Q) : PE X e t' := ⟨fun pins s σ H Q I q => h.run pins s σ H Q I (i σ H Q q)⟩
theorem pt_imp {X : Cx} {e : Expr} {t t' : TT} (h : PT X e t) (i : ∀ σ H Q, t' σ H Q → t σ H Q) : PT X e t' := ⟨fun pins s σ H Q I q => h.run pins s σ H Q I (i σ H Q q)⟩
theorem pa_imp {X : Cx} {e : List Expr} {t t' : TA} (h : PA X e t) (i : ∀ σ H Q, t' σ H Q → t σ H Q) : PA X e t' := ⟨fun pos pins s σ H Q I q => h.run pos pins s σ H Q I (i σ H Q q)⟩
section
variable {K : Frag} {φ : Phi} {X : Cx} {σ : SSt} {H : Hp} {Q : VK}
/-- read one expression, go on -/
theorem tE.go {e : E} {O C : List Addr} {ρ : Env} {m m' : Mem} {r : D} (M : MemOk K O C H m) (En : EnvOk K O C H ρ σ) (ev : evE φ e ρ m = .ok r m')
    (h : ∀ v H', Keep C H H' → MemOk K O C H' m' → EnvOk K O C H' ρ σ → Rv (kd e) K O C H H' r v → Q v H') : tE K φ e σ H Q :=
  ⟨O, C, ρ, m, r, m', M, En, ev, fun v H' k M' R _ => h v H' k M' (En.keep M.sub k) R⟩
theorem tE_slot {i : Nat} : tE K φ (.slot i) σ H Q → tVar i σ H Q := by
  rintro ⟨O, C, ρ, m, r, m', M, En, ev, q⟩
  have ev : (match ρ[i]? with | some (some (.val d)) => Out.ok d m | _ => .no) = .ok r m' := ev
  split at ev
  · rename_i d hd
    cases ev
    obtain ⟨v, e1, r1⟩ := En.val i r hd
    exact ⟨v, e1, q v H Keep.refl M (by cases r <;> exact r1) trivial⟩
  · cases ev
theorem tE_brw {i : Nat} : tE K φ (.brw i) σ H Q → tVar i σ H Q := by
  rintro ⟨O, C, ρ, m, r, m', M, En, ev, q⟩
  have ev : (match ρ[i]? with | some (some (.own d)) => Out.ok d m | _ => .no) = .ok r m' := ev
  split at ev
  · rename_i d hd
    cases ev
    obtain ⟨a, e1, h1, h2, h3⟩ := En.own i r hd
    refine ⟨.ref a, e1, q _ H Keep.refl M ?_ trivial⟩
    show Rb K O C H r _
    cases r with
    | lst ds =>
      obtain ⟨xs, e2, z, r⟩ := h3
      exact ⟨a, xs, rfl, .inl ⟨.inl e2, h2⟩, z, r⟩
    | _ => exact h3.elim
  · cases ev
theorem tE_cst {d : D} {v : V} (h : ∀ O C H, Rp K O C H d v) : tE K φ (.cst d) σ H Q → tC v σ H Q := by
  rintro ⟨O, C, ρ, m, r, m', M, En, ev, q⟩
  cases ev
  exact q v H Keep.refl M (by cases d <;> exact h O C H) trivial
theorem RaAll.len {b : Bool} {O C : List Addr} {ds : List D} {vs : List V} (h : RaAll b K O C H ds vs) : ds.length = vs.length := by
  cases b with
  | true => exact RpAll.length h
  | false =>
    have h2 : RbAll K O C H ds vs := h
    clear h
    induction h2 with
    | nil => rfl
    | cons a b ih => exact congrArg (· + 1) ih
theorem RaAll.keep {b : Bool} {O C : List Addr} {H' : Hp} {ds : List D} {vs : List V} (hC : ∀ a ∈ C, a ∈ O) (k : Keep C H H') (h : RaAll b K O C H ds vs) : RaAll b K O C H' ds vs := by
  cases b with
  | true => exact RpAll.keep hC k h
  | false =>
    have h2 : RbAll K O C H ds vs := h
    clear h
    induction h2 with
    | nil => exact RbAll.nil
    | cons a b ih => exact RbAll.cons (a.keep hC k) ih
theorem tA_nil {b : Bool} {Q : List V → Hp → Prop} : tA b K φ .nil σ H Q → tNil σ H Q := by
  rintro ⟨O, C, ρ, m, r, m', M, En, ev, q⟩
  cases ev
  exact q [] H Keep.refl M (by cases b <;> exact .nil)
theorem tA_cons {b : Bool} {e es : E} {Q : List V → Hp → Prop} (hb : b = true → isBr (kd e) = false) : tA b K φ (.cons e es) σ H Q → tCons (tE K φ e) (tA b K φ es) σ H Q := by
  rintro ⟨O, C, ρ, m, ds, m', M, En, ev, q⟩
  have ev : (evE φ e ρ m).bind (fun x m => (evE φ es ρ m).bind fun r m => Out.of m (consD x r)) = .ok (.tup ds) m' := ev
  obtain ⟨x, m1, e1, ev⟩ := bind_eq_ok ev
  obtain ⟨r, m2, e2, ev⟩ := bind_eq_ok ev
  obtain ⟨e3, rfl⟩ := of_eq_ok ev
  unfold consD at e3
  split at e3
  · cases e3
    refine .go M En e1 fun v H1 k1 M1 En1 R => ?_
    refine ⟨O, C, ρ, m1, _, m2, M1, En1, e2, fun vs H2 k2 M2 R2 => ?_⟩
    refine q (v :: vs) H2 (k1.trans k2) M2 ?_
    cases b with
    | true => exact RpAll.cons ((R.pl M (hb rfl)).keep M1.sub k2) R2
    | false => exact RbAll.cons ((R.rb M).keep M1.sub k2) R2
  · cases e3
theorem tE_tup {es : E} : tE K φ (.tup es) σ H Q → (∀ ds m m' ρ, evE φ es ρ m = .ok ds m' → ∃ l, ds = .tup l) → (∀ (l : List D) ρ m m', evE φ es ρ m = .ok (.tup l) m' → l.length ≤ sizeLine) → tTup (tA true K φ es) σ H Q := by
  rintro ⟨O, C, ρ, m, r, m', M, En, ev, q⟩ ht hz
  have ev : evE φ es ρ m = .ok r m' := ev
  obtain ⟨l, rfl⟩ := ht _ _ _ _ ev
  refine ⟨O, C, ρ, m, l, m', M, En, ev, fun vs H1 k1 M1 R => ?_⟩
  have hl := R.len
  have z : vs.length ≤ sizeLine := by rw [← hl]; exact hz _ _ _ _ ev
  refine ⟨z, fun p hp => q _ _ (k1.trans (Keep.new hp)) (M1.grow fun _ => Keep.new hp) ?_ trivial⟩
  exact Rp.tup_new hp z R
theorem tE_lst {es : E} : tE K φ (.lst es) σ H Q → (∀ ds m m' ρ, evE φ es ρ m = .ok ds m' → ∃ l, ds = .tup l) → (∀ (l : List D) ρ m m', evE φ es ρ m = .ok (.tup l) m' → l.length ≤ sizeLine) → tLst (tA true K φ es) σ H Q := by
  rintro ⟨O, C, ρ, m, r, m', M, En, ev, q⟩ ht hz
  have ev : (evE φ es ρ m).bind (fun r m => Out.ok (.lst (argsOf r)) m) = .ok r m' := ev
  obtain ⟨ds, m1, ev, e3⟩ := bind_eq_ok ev
  cases e3
  obtain ⟨l, rfl⟩ := ht _ _ _ _ ev
  refine ⟨O, C, ρ, m, l, m', M, En, ev, fun vs H1 k1 M1 R => ?_⟩
  have hl := R.len
  have z : vs.length ≤ sizeLine := by rw [← hl]; exact hz _ _ _ _ ev
  refine ⟨z, fun p hp => q _ _ (k1.trans (Keep.new hp)) (M1.grow fun _ => Keep.new hp) ?_ (Rv.frm M1 (fun _ => Keep.new hp) (Rv.fr_new hp z R))⟩
  exact (Rv.fr_new hp z R).base k1 M1
/-- two expressions and an operation -/
theorem tE_op {e a b : E} {f : D → D → Option D} {k : Kd} (hk : kd e = k) (he : ∀ ρ m, evE φ e ρ m = (evE φ a ρ m).bind fun x m => (evE φ b ρ m).bind fun y m => Out.of m (f x y)) :
    tE K φ e σ H Q → tOp (rOp K k f) (tE K φ a) (tE K φ b) σ H Q := by
  rintro ⟨O, C, ρ, m, r, m', M, En, ev, q⟩
  rw [he] at ev
  rw [hk] at q
  obtain ⟨x, m1, e1, ev⟩ := bind_eq_ok ev
  obtain ⟨y, m2, e2, ev⟩ := bind_eq_ok ev
  obtain ⟨e3, rfl⟩ := of_eq_ok ev
  refine .go M En e1 fun v H1 k1 M1 En1 R1 => ?_
  refine .go M1 En1 e2 fun u H2 k2 M2 En2 R2 => ?_
  refine ⟨O, C, x, y, r, M.sub, (R1.rb M).keep M.sub k2, R2.rb M1, e3, fun w H' k R => ?_⟩
  exact q w H' ((k1.trans k2).trans (k C)) (M2.grow k) (R.base (k1.trans k2) M2) (Rv.frm M2 k R)
end
end Ev

set_option maxHeartbeats 4000000
namespace Ev
open PySem PySem.Spec PyProof.Rows L2
section
variable {K : Frag} {φ : Phi} {X : Cx} {σ : SSt} {H : Hp} {Q : VK}
theorem tru_v {O C : List Addr} {d : D} {v : V} {t : Bool} (b : Rb K O C H d v) (h : truD d = some t) : TruV K v H t := by
  cases d with
  | non => cases h; cases b.non; rfl
  | bl x => cases h; cases b.bl; rfl
  | int x => cases h; cases b.int; rfl
  | tup l =>
    cases h
    obtain ⟨a, xs, rfl, h1, z, r⟩ := b.tup
    refine .inr (.inl ⟨xs, h1, ?_⟩)
    cases r <;> rfl
  | lst l =>
    cases h
    obtain ⟨a, xs, rfl, h1, z, r⟩ := b.lst
    refine .inl ⟨xs, h1, ?_⟩
    cases r <;> rfl
  | _ => cases h
/-- a test by the value's truth -/
theorem tT_val {e : E} {Q : Bool → Hp → Prop} : tT K φ e σ H Q → tE K φ e σ H fun x H' => ∃ k, TruV K x H' k ∧ Q k H' := by
  rintro ⟨O, C, ρ, m, r, m', t, M, En, ev, ht, q⟩
  exact ⟨O, C, ρ, m, r, m', M, En, ev, fun v H' k M' R _ => ⟨t, tru_v (R.rb M) ht, q H' k M'⟩⟩
theorem cmpD_bl {op : COp} {x y r : D} (h : cmpD op x y = some r) : ∃ b, r = .bl b := by
  cases op <;> simp only [cmpD] at h <;> first
    | (split at h <;> cases h; exact ⟨_, rfl⟩)
    | (obtain ⟨b, _, e⟩ := Option.map_eq_some_iff.mp h; exact ⟨_, e.symm⟩)
/-- a comparison as a test -/
theorem tT_bl {e : E} {Q : Bool → Hp → Prop} (hb : ∀ ρ m r m', evE φ e ρ m = .ok r m' → ∃ b, r = .bl b) : tT K φ e σ H Q → tTest (tE K φ e) σ H Q := by
  rintro ⟨O, C, ρ, m, r, m', t, M, En, ev, ht, q⟩
  obtain ⟨b, rfl⟩ := hb _ _ _ _ ev
  cases ht
  exact ⟨O, C, ρ, m, _, m', M, En, ev, fun v H' k M' R _ => ⟨_, (R.rb M).bl, q H' k M'⟩⟩
theorem tE_neg {a : E} : tE K φ (.neg a) σ H Q → tUn (rU fun i => .int (-i)) (tE K φ a) σ H Q := by
  rintro ⟨O, C, ρ, m, r, m', M, En, ev, q⟩
  obtain ⟨x, m1, e1, ev⟩ := bind_eq_ok (show (evE φ a ρ m).bind (fun x m => match x with | .int i => Out.ok (.int (-i)) m | _ => .no) = .ok r m' from ev)
  refine .go M En e1 fun v H1 k1 M1 En1 R => ?_
  split at ev
  · rename_i i
    cases ev
    exact ⟨i, (R.rb M).int, q _ _ k1 M1 (Rp.int _) trivial⟩
  · cases ev
theorem tE_chn {o p : COp} {a b c : E} : tE K φ (.chn o p a b c) σ H Q → tChain (rOp K .fr (cmpD o)) (rOp K .fr (cmpD p)) (tE K φ a) (tE K φ b) (tE K φ c) σ H Q := by
  rintro ⟨O, C, ρ, m, r, m', M, En, ev, q⟩
  obtain ⟨x, m1, e1, ev⟩ := bind_eq_ok (show (evE φ a ρ m).bind (fun x m => (evE φ b ρ m).bind fun y m => (Out.of m (cmpD o x y)).bind fun r m => match r with
    | .bl true => (evE φ c ρ m).bind fun z m => Out.of m (cmpD p y z)
    | .bl false => .ok (.bl false) m
    | _ => .no) = .ok r m' from ev)
  obtain ⟨y, m2, e2, ev⟩ := bind_eq_ok ev
  obtain ⟨w, m3, e3', ev⟩ := bind_eq_ok ev
  obtain ⟨e3, rfl⟩ := of_eq_ok e3'
  clear e3'
  refine .go M En e1 fun v H1 k1 M1 En1 R1 => ?_
  refine .go M1 En1 e2 fun u H2 k2 M2 En2 R2 => ?_
  refine ⟨O, C, x, y, w, M.sub, (R1.rb M).keep M.sub k2, R2.rb M1, e3, fun z H3 k3 R3 => ?_⟩
  have M3 : MemOk K O C H3 m2 := M2.grow k3
  have En3 : EnvOk K O C H3 ρ σ := En2.keep M.sub (k3 C)
  obtain ⟨bb, rfl⟩ := cmpD_bl e3
  refine ⟨bb, (R3.rb M2).bl, ?_⟩
  cases bb with
  | true =>
    obtain ⟨zz, m4, e4, ev⟩ := bind_eq_ok ev
    obtain ⟨e5, rfl⟩ := of_eq_ok ev
    refine .go M3 En3 e4 fun w H4 k4 M4 En4 R4 => ?_
    refine ⟨O, C, y, zz, r, M.sub, ((R2.rb M1).keep M.sub (k3 C)).keep M.sub k4, R4.rb M3, e5, fun w' H5 k5 R5 => ?_⟩
    have kk := ((k1.trans k2).trans (k3 C)).trans k4
    exact q w' H5 (kk.trans (k5 C)) (M4.grow k5) (R5.base kk M4) (Rv.frm M4 k5 R5)
  | false =>
    cases ev
    exact q _ _ ((k1.trans k2).trans (k3 C)) M3 (Rp.bl _) (fun _ _ e => by cases e)
theorem tE_and {a b : E} (ha : isBr (kd a) = false) (hb : isBr (kd b) = false) : tE K φ (.and a b) σ H Q → tAndT K (tE K φ a) (tE K φ b) σ H Q := by
  rintro ⟨O, C, ρ, m, r, m', M, En, ev, q⟩
  obtain ⟨x, m1, e1, ev⟩ := bind_eq_ok (show (evE φ a ρ m).bind (fun x m => match truD x with
    | some true => evE φ b ρ m
    | some false => .ok x m
    | none => .no) = .ok r m' from ev)
  refine .go M En e1 fun v H1 k1 M1 En1 R1 => ?_
  split at ev
  · rename_i ht
    refine ⟨true, tru_v (R1.rb M) ht, ?_⟩
    (try dsimp only)
    rw [if_pos rfl]
    exact .go M1 En1 ev fun w H2 k2 M2 En2 R2 => q w H2 (k1.trans k2) M2 (by have := R2.pl M1 hb; cases r <;> exact this) trivial
  · rename_i ht
    cases ev
    refine ⟨false, tru_v (R1.rb M) ht, ?_⟩
    (try dsimp only)
    rw [if_neg Bool.false_ne_true]
    exact q v H1 k1 M1 (by have := R1.pl M ha; cases r <;> exact this) trivial
  · cases ev
theorem tE_or {a b : E} (ha : isBr (kd a) = false) (hb : isBr (kd b) = false) : tE K φ (.or a b) σ H Q → tOrT K (tE K φ a) (tE K φ b) σ H Q := by
  rintro ⟨O, C, ρ, m, r, m', M, En, ev, q⟩
  obtain ⟨x, m1, e1, ev⟩ := bind_eq_ok (show (evE φ a ρ m).bind (fun x m => match truD x with
    | some true => .ok x m
    | some false => evE φ b ρ m
    | none => .no) = .ok r m' from ev)
  refine .go M En e1 fun v H1 k1 M1 En1 R1 => ?_
  split at ev
  · rename_i ht
    cases ev
    refine ⟨true, tru_v (R1.rb M) ht, ?_⟩
    (try dsimp only)
    rw [if_pos rfl]
    exact q v H1 k1 M1 (by have := R1.pl M ha; cases r <;> exact this) trivial
  · rename_i ht
    refine ⟨false, tru_v (R1.rb M) ht, ?_⟩
    (try dsimp only)
    rw [if_neg Bool.false_ne_true]
    exact .go M1 En1 ev fun w H2 k2 M2 En2 R2 => q w H2 (k1.trans k2) M2 (by have := R2.pl M1 hb; cases r <;> exact this) trivial
  · cases ev
theorem tE_not {a : E} : tE K φ (.not a) σ H Q → tNotT K (tE K φ a) σ H Q := by
  rintro ⟨O, C, ρ, m, r, m', M, En, ev, q⟩
  obtain ⟨x, m1, e1, ev⟩ := bind_eq_ok (show (evE φ a ρ m).bind (fun x m => match truD x with
    | some t => Out.ok (.bl (!t)) m
    | none => .no) = .ok r m' from ev)
  refine .go M En e1 fun v H1 k1 M1 En1 R1 => ?_
  split at ev
  · rename_i t ht
    cases ev
    exact ⟨t, tru_v (R1.rb M) ht, q _ _ k1 M1 (Rp.bl _) trivial⟩
  · cases ev
theorem tT_and {a b : E} {Q : Bool → Hp → Prop} : tT K φ (.and a b) σ H Q → tAnd (tT K φ a) (tT K φ b) σ H Q := by
  rintro ⟨O, C, ρ, m, r, m', t, M, En, ev, ht, q⟩
  obtain ⟨x, m1, e1, ev⟩ := bind_eq_ok (show (evE φ a ρ m).bind (fun x m => match truD x with
    | some true => evE φ b ρ m
    | some false => .ok x m
    | none => .no) = .ok r m' from ev)
  split at ev
  · rename_i hx
    refine ⟨O, C, ρ, m, x, m1, true, M, En, e1, hx, fun H1 k1 M1 => ?_⟩
    (try dsimp only)
    rw [if_pos rfl]
    exact ⟨O, C, ρ, m1, r, m', t, M1, En.keep M.sub k1, ev, ht, fun H2 k2 M2 => q H2 (k1.trans k2) M2⟩
  · rename_i hx
    cases ev
    refine ⟨O, C, ρ, m, r, m', false, M, En, e1, hx, fun H1 k1 M1 => ?_⟩
    (try dsimp only)
    rw [if_neg Bool.false_ne_true]
    rw [hx] at ht; cases ht
    exact q H1 k1 M1
  · cases ev
theorem tT_or {a b : E} {Q : Bool → Hp → Prop} : tT K φ (.or a b) σ H Q → tOr (tT K φ a) (tT K φ b) σ H Q := by
  rintro ⟨O, C, ρ, m, r, m', t, M, En, ev, ht, q⟩
  obtain ⟨x, m1, e1, ev⟩ := bind_eq_ok (show (evE φ a ρ m).bind (fun x m => match truD x with
    | some true => .ok x m
    | some false => evE φ b ρ m
    | none => .no) = .ok r m' from ev)
  split at ev
  · rename_i hx
    cases ev
    refine ⟨O, C, ρ, m, r, m', true, M, En, e1, hx, fun H1 k1 M1 => ?_⟩
    (try dsimp only)
    rw [if_pos rfl]
    rw [hx] at ht; cases ht
    exact q H1 k1 M1
  · rename_i hx
    refine ⟨O, C, ρ, m, x, m1, false, M, En, e1, hx, fun H1 k1 M1 => ?_⟩
    (try dsimp only)
    rw [if_neg Bool.false_ne_true]
    exact ⟨O, C, ρ, m1, r, m', t, M1, En.keep M.sub k1, ev, ht, fun H2 k2 M2 => q H2 (k1.trans k2) M2⟩
  · cases ev
theorem tT_not {a : E} {Q : Bool → Hp → Prop} : tT K φ (.not a) σ H Q → tNot (tT K φ a) σ H Q := by
  rintro ⟨O, C, ρ, m, r, m', t, M, En, ev, ht, q⟩
  obtain ⟨x, m1, e1, ev⟩ := bind_eq_ok (show (evE φ a ρ m).bind (fun x m => match truD x with
    | some t => Out.ok (.bl (!t)) m
    | none => .no) = .ok r m' from ev)
  split at ev
  · rename_i u hx
    cases ev
    cases ht
    exact ⟨O, C, ρ, m, x, m', u, M, En, e1, hx, q⟩
  · cases ev
theorem tE_ite {c a b : E} (ha : isBr (kd a) = false) (hb : isBr (kd b) = false) : tE K φ (.ite c a b) σ H Q → tIf (tT K φ c) (tE K φ a) (tE K φ b) σ H Q := by
  rintro ⟨O, C, ρ, m, r, m', M, En, ev, q⟩
  obtain ⟨x, m1, e1, ev⟩ := bind_eq_ok (show (evE φ c ρ m).bind (fun x m => match truD x with
    | some true => evE φ a ρ m
    | some false => evE φ b ρ m
    | none => .no) = .ok r m' from ev)
  split at ev
  · rename_i hx
    refine ⟨O, C, ρ, m, x, m1, true, M, En, e1, hx, fun H1 k1 M1 => ?_⟩
    (try dsimp only)
    rw [if_pos rfl]
    exact .go M1 (En.keep M.sub k1) ev fun w H2 k2 M2 En2 R2 => q w H2 (k1.trans k2) M2 (by have := R2.pl M1 ha; cases r <;> exact this) trivial
  · rename_i hx
    refine ⟨O, C, ρ, m, x, m1, false, M, En, e1, hx, fun H1 k1 M1 => ?_⟩
    (try dsimp only)
    rw [if_neg Bool.false_ne_true]
    exact .go M1 (En.keep M.sub k1) ev fun w H2 k2 M2 En2 R2 => q w H2 (k1.trans k2) M2 (by have := R2.pl M1 hb; cases r <;> exact this) trivial
  · cases ev
theorem ix_E : IxR X (fun x y H Q => rOp X.K .pl idxD x y H Q) := by
  intro value slice pins s σ H x y v u Q I rx ry h hs
  obtain ⟨O, C, d1, d2, r, hC, b1, b2, e, q⟩ := h
  unfold idxD at e
  split at e
  · rename_i l i
    obtain ⟨a, xs, rfl, h1, z1, r1⟩ := b1.tup
    cases b2.int
    obtain ⟨j, e1, e2⟩ := Option.bind_eq_some_iff.mp e
    obtain ⟨w, e3, r3⟩ := r1.get e2
    refine ix_tup value slice pins s σ H _ _ v u Q I rx ry ⟨a, xs, i, w, rfl, rfl, h1, ?_, q w H (fun _ => Keep.refl) (by cases r <;> exact r3)⟩ hs
    unfold atI
    rw [← r1.length]
    exact Option.bind_eq_some_iff.mpr ⟨j, e1, e3⟩
  · rename_i l i
    obtain ⟨a, xs, rfl, h1, z1, r1⟩ := b1.lst
    cases b2.int
    obtain ⟨j, e1, e2⟩ := Option.bind_eq_some_iff.mp e
    obtain ⟨w, e3, r3⟩ := r1.get e2
    refine ix_list value slice pins s σ H _ _ v u Q I rx ry ⟨a, xs, i, w, rfl, rfl, h1, ?_, q w H (fun _ => Keep.refl) (by cases r <;> exact r3)⟩ hs
    unfold atI
    rw [← r1.length]
    exact Option.bind_eq_some_iff.mpr ⟨j, e1, e3⟩
  · cases e
/-- a slice's end -/
def oD : D → Option (Option Int)
  | .non => some none
  | .int i => some (some i)
  | _ => none
theorem cutI_sIx {n d : Nat} {x : D} {a : Nat} (h : cutI n d x = some a) : ∃ o, oD x = some o ∧ a = HT.sIx n d o := by
  cases x with
  | non => cases h; exact ⟨none, rfl, rfl⟩
  | int i => cases h; exact ⟨some i, rfl, rfl⟩
  | _ => cases h
theorem cutL_V {l : List D} {xs : List V} {lo hi : D} {c : List D} {O C : List Addr} (h : cutL l lo hi = some c) (r : RpAll K O C H l xs) : ∃ o p, oD lo = some o ∧ oD hi = some p ∧ RpAll K O C H c (cutV xs o p) ∧
    ((HT.sIx xs.length 0 o = 0 ∧ HT.sIx xs.length xs.length p = xs.length) → c = l) := by
  unfold cutL at h
  obtain ⟨a, e1, h⟩ := Option.bind_eq_some_iff.mp h
  obtain ⟨b, e2, rfl⟩ := Option.map_eq_some_iff.mp h
  obtain ⟨o, q1, rfl⟩ := cutI_sIx e1
  obtain ⟨p, q2, rfl⟩ := cutI_sIx e2
  refine ⟨o, p, q1, q2, ?_, fun hh => ?_⟩
  · unfold cutV
    rw [r.length]
    exact (r.drop _).take _
  · rw [r.length]
    rw [hh.1, hh.2, ← r.length]
    simp
def rSlE (K : Frag) : V → Option Int → Option Int → Hp → VK → Prop := fun x lo hi H Q => ∃ O C d1 dl dh r, (∀ a ∈ C, a ∈ O) ∧ Rb K O C H d1 x ∧ oD dl = some lo ∧ oD dh = some hi ∧ slcD d1 dl dh = some r ∧
  ∀ v H', (∀ Z, Keep Z H H') → Rv .fr K O C H H' r v → Q v H'
theorem sl_E : SlR X (rSlE X.K) := by
  intro pins s σ H x v vl vu lo hi sl Q I rx hs pl pu h
  obtain ⟨O, C, d1, dl, dh, r, hC, b1, el, eh, e, q⟩ := h
  unfold slcD at e
  split at e
  · rename_i l dl dh
    obtain ⟨c, e1, rfl⟩ := Option.map_eq_some_iff.mp e
    obtain ⟨a, xs, rfl, h1, z1, r1⟩ := b1.tup
    obtain ⟨o, p, q1, q2, r2, hw⟩ := cutL_V e1 r1
    rw [el] at q1; cases q1
    rw [eh] at q2; cases q2
    refine sl_tupA pins s σ H _ v vl vu lo hi sl Q I rx hs pl pu ⟨a, xs, rfl, h1, fun hh => ?_, fun _ p hp => ?_⟩
    · have := hw hh
      subst this
      exact q _ _ (fun _ => Keep.refl) (Rp.tup h1 z1 r1)
    · exact q _ _ (fun _ => Keep.new hp) (Rp.tup_new hp (Nat.le_trans (cutV_length xs lo hi) z1) r2)
  · rename_i l dl dh
    obtain ⟨c, e1, rfl⟩ := Option.map_eq_some_iff.mp e
    obtain ⟨a, xs, rfl, h1, z1, r1⟩ := b1.lst
    obtain ⟨o, p, q1, q2, r2, hw⟩ := cutL_V e1 r1
    rw [el] at q1; cases q1
    rw [eh] at q2; cases q2
    refine sl_list pins s σ H _ v vl vu lo hi sl Q I rx hs pl pu ⟨a, xs, rfl, h1, fun p hp => ?_⟩
    exact q _ _ (fun _ => Keep.new hp) (Rv.fr_new hp (Nat.le_trans (cutV_length xs lo hi) z1) r2)
  · cases e
/-- a slice's end, read -/
def tO (K : Frag) (φ : Phi) (e : E) : TO := fun σ H Q => ∃ O C ρ m r m' o, MemOk K O C H m ∧ EnvOk K O C H ρ σ ∧ evE φ e ρ m = .ok r m' ∧ (isSkip e || !isNone r) = true ∧ oD r = some o ∧ ∀ H', Keep C H H' → MemOk K O C H' m' → Q o H'
theorem po_imp {e : Option Expr} {t t' : TO} (h : PO X e t) (i : ∀ σ H Q, t' σ H Q → t σ H Q) : PO X e t' := ⟨fun pins s σ H Q I q => h.run pins s σ H Q I (i σ H Q q)⟩
theorem tO_skip {Q : Option Int → Hp → Prop} : tO K φ .skipE σ H Q → tNoPart σ H Q := by
  rintro ⟨O, C, ρ, m, r, m', o, M, En, ev, _, ho, q⟩
  cases ev
  cases ho
  exact q H Keep.refl M
/-- an end that is a number for sure -/
theorem tO_some {e : E} {Q : Option Int → Hp → Prop} (hn : isSkip e = false) : tO K φ e σ H Q → tPart (tE K φ e) σ H Q := by
  rintro ⟨O, C, ρ, m, r, m', o, M, En, ev, hsk, ho, q⟩
  rw [hn, Bool.false_or] at hsk
  refine .go M En ev fun v H1 k1 M1 En1 R1 => ?_
  cases r with
  | int i => cases ho; exact ⟨i, (R1.rb M).int, q H1 k1 M1⟩
  | non => cases hsk
  | _ => cases ho
theorem tE_slc {a lo hi : E} : tE K φ (.slc a lo hi) σ H Q → tSl (rSlE K) (tE K φ a) (tO K φ lo) (tO K φ hi) σ H Q := by
  rintro ⟨O, C, ρ, m, r, m', M, En, ev, q⟩
  obtain ⟨x, m1, e1, ev⟩ := bind_eq_ok (show (evE φ a ρ m).bind (fun x m => (evE φ lo ρ m).bind fun y m => (evE φ hi ρ m).bind fun z m => Out.of m (slcG (isSkip lo) (isSkip hi) x y z)) = .ok r m' from ev)
  obtain ⟨y, m2, e2, ev⟩ := bind_eq_ok ev
  obtain ⟨z, m3, e3, ev⟩ := bind_eq_ok ev
  obtain ⟨e4, rfl⟩ := of_eq_ok ev
  unfold slcG at e4
  split at e4
  case isFalse => cases e4
  rename_i hsk
  rw [Bool.and_eq_true] at hsk
  have ho : ∃ o p, oD y = some o ∧ oD z = some p := by
    unfold slcD at e4
    split at e4
    · obtain ⟨c, e5, _⟩ := Option.map_eq_some_iff.mp e4
      unfold cutL at e5
      obtain ⟨_, h1, h⟩ := Option.bind_eq_some_iff.mp e5
      obtain ⟨_, h2, _⟩ := Option.map_eq_some_iff.mp h
      obtain ⟨o, q1, _⟩ := cutI_sIx h1
      obtain ⟨p, q2, _⟩ := cutI_sIx h2
      exact ⟨o, p, q1, q2⟩
    · obtain ⟨c, e5, _⟩ := Option.map_eq_some_iff.mp e4
      unfold cutL at e5
      obtain ⟨_, h1, h⟩ := Option.bind_eq_some_iff.mp e5
      obtain ⟨_, h2, _⟩ := Option.map_eq_some_iff.mp h
      obtain ⟨o, q1, _⟩ := cutI_sIx h1
      obtain ⟨p, q2, _⟩ := cutI_sIx h2
      exact ⟨o, p, q1, q2⟩
    · cases e4
  obtain ⟨o, p, ho, hp⟩ := ho
  refine .go M En e1 fun v H1 k1 M1 En1 R1 => ?_
  refine ⟨O, C, ρ, m1, y, m2, o, M1, En1, e2, hsk.1, ho, fun H2 k2 M2 => ?_⟩
  refine ⟨O, C, ρ, m2, z, m3, p, M2, En1.keep M.sub k2, e3, hsk.2, hp, fun H3 k3 M3 => ?_⟩
  refine ⟨O, C, x, y, z, r, M.sub, ((R1.rb M).keep M.sub k2).keep M.sub k3, ho, hp, e4, fun w H' k R => ?_⟩
  have kk := (k1.trans k2).trans k3
  exact q w H' (kk.trans (k C)) (M3.grow k) (R.base kk M3) (Rv.frm M3 k R)
theorem tE_call {n f : Nat} {es : E} (hn : ∀ ρ m l m', evE φ es ρ m = .ok (.tup l) m' → l.length = n) (ht : ∀ ρ m r m', evE φ es ρ m = .ok r m' → ∃ l, r = .tup l) : tE K φ (.call f es) σ H Q → tCall (spF K φ n f) [] E0 (tA true K φ es) σ H Q := by
  rintro ⟨O, C, ρ, m, r, m', M, En, ev, q⟩
  obtain ⟨x, m1, e1, ev⟩ := bind_eq_ok (show (evE φ es ρ m).bind (fun r m => φ f (argsOf r) m) = .ok r m' from ev)
  obtain ⟨l, rfl⟩ := ht _ _ _ _ e1
  refine ⟨O, C, ρ, m, l, m1, M, En, e1, fun vs H1 k1 M1 R => ?_⟩
  have hl := R.len
  rw [hn _ _ _ _ e1] at hl
  show spF K φ n f (vs ++ []) H1 Q E0
  rw [List.append_nil]
  refine ⟨hl.symm, O, C, m1, l, r, m', M1, R, ev, fun v H2 k2 M2 R2 => ?_⟩
  exact q v H2 (k1.trans k2) M2 (by cases r <;> exact R2) trivial
theorem tE_prim {p : Prim} {es : E} (ht : ∀ ρ m r m', evE φ es ρ m = .ok r m' → ∃ l, r = .tup l) : tE K φ (.prim p es) σ H Q → tCB (rPr K (kdP p) (primD p)) (tA false K φ es) σ H Q := by
  rintro ⟨O, C, ρ, m, r, m', M, En, ev, q⟩
  obtain ⟨x, m1, e1, ev⟩ := bind_eq_ok (show (evE φ es ρ m).bind (fun r m => Out.of m (primD p (argsOf r))) = .ok r m' from ev)
  obtain ⟨l, rfl⟩ := ht _ _ _ _ e1
  obtain ⟨e2, rfl⟩ := of_eq_ok ev
  refine ⟨O, C, ρ, m, l, m1, M, En, e1, fun vs H1 k1 M1 R => ?_⟩
  refine ⟨O, C, l, r, M.sub, R, e2, fun v H2 k2 R2 => ?_⟩
  exact q v H2 (k1.trans (k2 C)) (M1.grow k2) (R2.base k1 M1) (Rv.frm M1 k2 R2)
theorem tE_rev {a : E} : tE K φ (.rev a) σ H Q → tRevL K (tE K φ a) σ H Q := by
  rintro ⟨O, C, ρ, m, r, m', M, En, ev, q⟩
  obtain ⟨x, m1, e1, ev⟩ := bind_eq_ok (show (evE φ a ρ m).bind (fun x m => Out.of m (revD x)) = .ok _ m' from ev)
  obtain ⟨e2, rfl⟩ := of_eq_ok ev
  refine .go M En e1 fun v H1 k1 M1 En1 R1 => ?_
  unfold revD at e2
  split at e2
  · rename_i l'
    cases e2
    obtain ⟨a, xs, rfl, h1, z1, r1⟩ := (R1.rb M).lst
    refine ⟨a, xs, rfl, h1, fun p hp => q _ _ (k1.trans (Keep.new hp)) (M1.grow fun _ => Keep.new hp) ?_ (Rv.frm M1 (fun _ => Keep.new hp) (Rv.fr_new hp (by rw [List.length_reverse]; exact z1) r1.rev))⟩
    exact (Rv.fr_new hp (by rw [List.length_reverse]; exact z1) r1.rev).base k1 M1
  · cases e2
/-- an item of a cell -/
theorem tE_idxc {i : Nat} {e : E} : tE K φ (.idxc i e) σ H Q → tOp (rIxL K) (tVar i) (tE K φ e) σ H Q := by
  rintro ⟨O, C, ρ, m, r, m', M, En, ev, q⟩
  have ev : (match ρ[i]? with
    | some (some (.val (.ref n))) => (evE φ e ρ m).bind fun y m => (Out.of m m[n]?).bind fun x m => Out.of m (idxD x y)
    | _ => .no) = .ok r m' := ev
  split at ev
  · rename_i n hi
    obtain ⟨y, m1, e1, ev⟩ := bind_eq_ok ev
    obtain ⟨x, m2, e2', ev⟩ := bind_eq_ok ev
    obtain ⟨e2, rfl⟩ := of_eq_ok e2'
    clear e2'
    obtain ⟨e3, rfl⟩ := of_eq_ok ev
    obtain ⟨v, hv, rv⟩ := En.val i _ hi
    refine ⟨v, hv, ?_⟩
    refine .go M En e1 fun u H1 k1 M1 En1 R1 => ?_
    cases rv with
    | ref ha =>
      rename_i a
      have at1 := M1.at_ n a x ha e2
      unfold idxD at e3
      split at e3
      · exact at1.elim
      · rename_i l j _
        obtain ⟨xs, f1, f2, f3⟩ := at1
        obtain ⟨jj, g1, g2⟩ := Option.bind_eq_some_iff.mp e3
        obtain ⟨w, g3, g4⟩ := f3.get g2
        refine ⟨a, xs, j, w, rfl, (R1.rb M).int, .inl (.inl f1), ?_, q w H1 k1 M1 (by cases r <;> exact g4) trivial⟩
        unfold atI
        rw [← f3.length]
        exact Option.bind_eq_some_iff.mpr ⟨jj, g1, g3⟩
      · cases e3
  · cases ev
end
end Ev

set_option maxHeartbeats 4000000
namespace Ev
open PySem PySem.Spec PyProof.Rows L2
section
variable {K : Frag} {O O' C C' Z : List Addr} {H H' : Hp}
def Alv (H : Hp) (a : Addr) : Prop := ∃ o, H a = some o
theorem sqO_move2 {a : Addr} {xs : List V} (k : Keep Z H H') (hZ : ∀ a ∈ Z, a ∈ O) (hO : ∀ a, Alv H a → a ∉ O → a ∉ O') (h : SqO K O H a xs) : SqO K O' H' a xs := by
  rcases h with ⟨h | ⟨o, h⟩, n⟩ | h
  · exact .inl ⟨.inl (k.ob a _ h fun q => n (hZ _ q)), hO _ ⟨_, h⟩ n⟩
  · exact .inl ⟨.inr ⟨o, k.fz a o _ h⟩, hO _ ⟨_, h⟩ n⟩
  · exact .inr h
mutual
theorem Rp.move2 (hZ : ∀ a ∈ Z, a ∈ O) (k : Keep Z H H') (hO : ∀ a, Alv H a → a ∉ O → a ∉ O') (hC : ∀ (n : Nat) a, C[n]? = some a → C'[n]? = some a) : ∀ {d : D} {v : V}, Rp K O C H d v → Rp K O' C' H' d v
  | _, _, .non => .non
  | _, _, .bl b => .bl b
  | _, _, .int i => .int i
  | _, _, .str s => .str s
  | _, _, .tup h z r => .tup (sqT_keep k h) z (RpAll.move2 hZ k hO hC r)
  | _, _, .lst h z r => .lst (sqO_move2 k hZ hO h) z (RpAll.move2 hZ k hO hC r)
  | _, _, .ref h => .ref (hC _ _ h)
  | _, _, .dic h n z e r => .dic (k.ob _ _ h fun q => n (hZ _ q)) (hO _ ⟨_, h⟩ n) z e (RpAll.move2 hZ k hO hC r)
theorem RpAll.move2 (hZ : ∀ a ∈ Z, a ∈ O) (k : Keep Z H H') (hO : ∀ a, Alv H a → a ∉ O → a ∉ O') (hC : ∀ (n : Nat) a, C[n]? = some a → C'[n]? = some a) : ∀ {ds : List D} {vs : List V}, RpAll K O C H ds vs → RpAll K O' C' H' ds vs
  | _, _, .nil => .nil
  | _, _, .cons h r => .cons (Rp.move2 hZ k hO hC h) (RpAll.move2 hZ k hO hC r)
end
theorem OwnAt.move2 (hZ : ∀ a ∈ Z, a ∈ O) (k : Keep Z H H') (hO : ∀ a, Alv H a → a ∉ O → a ∉ O') (hC : ∀ (n : Nat) a, C[n]? = some a → C'[n]? = some a) {a : Addr} (n : a ∉ Z) : ∀ {d : D}, OwnAt K O C H a d → OwnAt K O' C' H' a d
  | .lst _, ⟨xs, e, z, r⟩ => ⟨xs, k.ob a _ e n, z, r.move2 hZ k hO hC⟩
end
section
variable {K : Frag} {O O' C C' : List Addr} {H H' : Hp} {ρ : Env} {σ : SSt} {m : Mem}
theorem set_get {α : Type} {l : List (Option α)} {i j : Nat} {x : Option α} {y : α} (h : (l.set i x)[j]? = some (some y)) : (i = j ∧ x = some y) ∨ (i ≠ j ∧ l[j]? = some (some y)) := by
  by_cases e : i = j
  · subst e
    by_cases hl : i < l.length
    · rw [List.getElem?_set_self hl] at h
      exact .inl ⟨rfl, Option.some.inj h⟩
    · rw [List.getElem?_eq_none (by simpa using hl)] at h; cases h
  · rw [List.getElem?_set_ne e] at h
    exact .inr ⟨e, h⟩
theorem EnvOk.set {i : Nat} {d : D} {v : V} (h : EnvOk K O C H ρ σ) (r : Rp K O C H d v) : EnvOk K O C H (setE ρ i (some (.val d))) (σ.set i (some v)) := by
  have hl : ∀ {j : Nat} {x : Sl}, (setE ρ i (some (.val d)))[j]? = some (some x) → (i = j ∧ x = .val d ∧ j < σ.length) ∨ (i ≠ j ∧ ρ[j]? = some (some x)) := by
    intro j x e
    have lt : j < ρ.length := by
      have := (List.getElem?_eq_some_iff.mp e).1
      simpa [setE] using this
    rcases set_get e with ⟨e1, e2⟩ | q
    · exact .inl ⟨e1, (Option.some.inj e2).symm, h.len ▸ lt⟩
    · exact .inr q
  refine ⟨by simp [setE, h.len], fun j x e => ?_, fun j x e => ?_, fun j l x y a ne e1 e2 e3 => ?_⟩
  · rcases hl e with ⟨rfl, e2, lt⟩ | ⟨ne, e2⟩
    · cases e2
      exact ⟨v, by rw [List.getElem?_set_self lt], r⟩
    · obtain ⟨w, q1, q2⟩ := h.val j x e2
      exact ⟨w, by rw [List.getElem?_set_ne ne]; exact q1, q2⟩
  · rcases hl e with ⟨rfl, e2, lt⟩ | ⟨ne, e2⟩
    · cases e2
    · obtain ⟨a, q1, q2⟩ := h.own j x e2
      exact ⟨a, by rw [List.getElem?_set_ne ne]; exact q1, q2⟩
  · rcases hl e1 with ⟨_, q, _⟩ | ⟨n1, q1⟩
    · cases q
    rcases hl e2 with ⟨_, q, _⟩ | ⟨n2, q2⟩
    · cases q
    rw [List.getElem?_set_ne n1] at e3
    rw [List.getElem?_set_ne n2]
    exact h.inj j l x y a ne q1 q2 e3
theorem EnvOk.unset (h : EnvOk K O C H ρ σ) (i : Nat) : EnvOk K O C H (setE ρ i none) (σ.set i none) := by
  have hl : ∀ {j : Nat} {x : Sl}, (setE ρ i none)[j]? = some (some x) → i ≠ j ∧ ρ[j]? = some (some x) := by
    intro j x e
    rcases set_get e with ⟨_, e2⟩ | q
    · cases e2
    · exact q
  refine ⟨by simp [setE, h.len], fun j x e => ?_, fun j x e => ?_, fun j l x y a ne e1 e2 e3 => ?_⟩
  · obtain ⟨ne, e2⟩ := hl e
    obtain ⟨w, q1, q2⟩ := h.val j x e2
    exact ⟨w, by rw [List.getElem?_set_ne ne]; exact q1, q2⟩
  · obtain ⟨ne, e2⟩ := hl e
    obtain ⟨a, q1, q2⟩ := h.own j x e2
    exact ⟨a, by rw [List.getElem?_set_ne ne]; exact q1, q2⟩
  · obtain ⟨n1, q1⟩ := hl e1
    obtain ⟨n2, q2⟩ := hl e2
    rw [List.getElem?_set_ne n1] at e3
    rw [List.getElem?_set_ne n2]
    exact h.inj j l x y a ne q1 q2 e3
theorem EnvOk.wipe (h : EnvOk K O C H ρ σ) : ∀ vs : List Nat, EnvOk K O C H (wipeE ρ vs) (L2.wipe σ vs)
  | [] => h
  | v :: vs => (h.wipe vs).unset v
/-- over a change of the heap, of O, of C -/
theorem EnvOk.move2 {Z : List Addr} (h : EnvOk K O C H ρ σ) (hZ : ∀ a ∈ Z, a ∈ O) (k : Keep Z H H') (hO : ∀ a, Alv H a → a ∉ O → a ∉ O') (hO2 : ∀ a ∈ O, a ∈ O') (hC : ∀ (n : Nat) a, C[n]? = some a → C'[n]? = some a) (hC2 : ∀ a ∈ O, a ∉ C → a ∉ C')
    (hn : ∀ (i : Nat) d a, ρ[i]? = some (some (.own d)) → σ[i]? = some (some (V.ref a)) → a ∉ Z) : EnvOk K O' C' H' ρ σ :=
  ⟨h.len, fun i d e => let ⟨v, e1, r⟩ := h.val i d e; ⟨v, e1, r.move2 hZ k hO hC⟩,
    fun i d e => let ⟨a, e1, i1, i2, r⟩ := h.own i d e; ⟨a, e1, hO2 a i1, hC2 a i1 i2, r.move2 hZ k hO hC (hn i d a e e1)⟩, h.inj⟩
end
mutual
def slotsT : T → List Nat
  | .name i => [i]
  | .tup t => slotsT t
  | .nil => []
  | .cons t ts => slotsT t ++ slotsT ts
end
def tG (K : Frag) (t : T) : TG := fun v σ H Q => ∃ O C ρ d ρ', EnvOk K O C H ρ σ ∧ Rp K O C H d v ∧ putT t d ρ = some ρ' ∧ ∀ σ', EnvOk K O C H ρ' σ' → (∀ vs, (∀ i ∈ slotsT t, i ∈ vs) → L2.wipe σ' vs = L2.wipe σ vs) → Q σ' H
def tGs (K : Frag) (t : T) : TGs := fun vs σ H Q => ∃ O C ρ ds ρ', EnvOk K O C H ρ σ ∧ RpAll K O C H ds vs ∧ putT t (.tup ds) ρ = some ρ' ∧ ∀ σ', EnvOk K O C H ρ' σ' → (∀ vs, (∀ i ∈ slotsT t, i ∈ vs) → L2.wipe σ' vs = L2.wipe σ vs) → Q σ' H
theorem wipe_set (i : Nat) (x : Option V) : ∀ (vs : List Nat) (σ : SSt), i ∈ vs → L2.wipe (σ.set i x) vs = L2.wipe σ vs
  | [], _, h => by cases h
  | v :: vs, σ, h => by
    show (L2.wipe (σ.set i x) vs).set v none = (L2.wipe σ vs).set v none
    by_cases hv : i ∈ vs
    · rw [wipe_set i x vs σ hv]
    · have hi : i = v := (List.mem_cons.mp h).resolve_right hv
      subst hi
      have com : ∀ (vs : List Nat) (σ : SSt), i ∉ vs → L2.wipe (σ.set i x) vs = (L2.wipe σ vs).set i x := by
        intro vs
        induction vs with
        | nil => intro σ _; rfl
        | cons w ws ih =>
          intro σ hn
          rw [List.mem_cons, not_or] at hn
          show (L2.wipe (σ.set i x) ws).set w none = ((L2.wipe σ ws).set w none).set i x
          rw [ih σ hn.2, List.set_comm _ _ hn.1]
      rw [com vs σ hv, List.set_set]
theorem pg_imp {X : Cx} {e : Expr} {t t' : TG} (h : PG X e t) (i : ∀ v σ H Q, t' v σ H Q → t v σ H Q) : PG X e t' := ⟨fun pins s σ H v u Q I r q => h.run pins s σ H v u Q I r (i v σ H Q q)⟩
theorem pgs_imp {X : Cx} {e : List Expr} {t t' : TGs} (h : PGs X e t) (i : ∀ v σ H Q, t' v σ H Q → t v σ H Q) : PGs X e t' := ⟨fun pins s σ H v u Q I r q => h.run pins s σ H v u Q I r (i v σ H Q q)⟩
section
variable {K : Frag} {σ : SSt} {H : Hp} {Q : SSt → Hp → Prop} {v : V}
theorem tG_name {i : Nat} : tG K (.name i) v σ H Q → gName i v σ H Q := by
  rintro ⟨O, C, ρ, d, ρ', En, R, e, q⟩
  have e : (if i < ρ.length then some (setE ρ i (some (.val d))) else none) = some ρ' := e
  split at e
  · cases e
    exact q _ (En.set R) fun vs h => wipe_set i _ vs σ (h i (by simp [slotsT]))
  · cases e
/-- how many targets -/
def lenT : T → Option Nat
  | .nil => some 0
  | .cons _ ts => (lenT ts).map (· + 1)
  | _ => none
theorem putT_lenT : ∀ (ts : T) (n : Nat) (ds : List D) (ρ ρ' : Env), lenT ts = some n → putT ts (.tup ds) ρ = some ρ' → ds.length = n
  | .nil, n, ds, ρ, ρ', hn, e => by
    cases hn
    cases ds with
    | nil => rfl
    | cons x r => cases e
  | .cons t ts, n, ds, ρ, ρ', hn, e => by
    obtain ⟨k, hk, rfl⟩ := Option.map_eq_some_iff.mp (show (lenT ts).map (· + 1) = some n from hn)
    cases ds with
    | nil => cases e
    | cons x r =>
      obtain ⟨ρ1, _, e2⟩ := Option.bind_eq_some_iff.mp (show (putT t x ρ).bind (fun ρ1 => putT ts (.tup r) ρ1) = some ρ' from e)
      rw [List.length_cons, putT_lenT ts k r ρ1 ρ' hk e2]
  | .name _, n, ds, ρ, ρ', hn, e => by cases hn
  | .tup _, n, ds, ρ, ρ', hn, e => by cases hn
theorem tG_tup {ts : T} {n : Nat} (hn : lenT ts = some n) : tG K (.tup ts) v σ H Q → gTup K n (tGs K ts) v σ H Q := by
  rintro ⟨O, C, ρ, d, ρ', En, R, e, q⟩
  cases d with
  | tup l =>
    have e : putT ts (.tup l) ρ = some ρ' := e
    cases R with
    | tup h z r =>
      refine ⟨_, _, rfl, h, ?_, O, C, ρ, l, ρ', En, r, e, fun σ' En' w => q σ' En' fun vs hv => w vs hv⟩
      rw [← r.length]
      exact putT_lenT ts n l ρ ρ' hn e
  | _ => cases e
theorem tGs_nil {vs : List V} : tGs K .nil vs σ H Q → gNil vs σ H Q := by
  rintro ⟨O, C, ρ, ds, ρ', En, R, e, q⟩
  cases ds with
  | nil =>
    cases e
    cases R
    exact ⟨rfl, q σ En fun _ _ => rfl⟩
  | cons x r => cases e
theorem tGs_cons {t ts : T} {vs : List V} : tGs K (.cons t ts) vs σ H Q → gCons (tG K t) (tGs K ts) vs σ H Q := by
  rintro ⟨O, C, ρ, ds, ρ', En, R, e, q⟩
  cases ds with
  | nil => cases e
  | cons x r =>
    obtain ⟨ρ1, e1, e2⟩ := Option.bind_eq_some_iff.mp (show (putT t x ρ).bind (fun ρ1 => putT ts (.tup r) ρ1) = some ρ' from e)
    cases R with
    | cons R1 R2 =>
      refine ⟨_, _, rfl, O, C, ρ, x, ρ1, En, R1, e1, fun σ1 En1 w1 => ?_⟩
      refine ⟨O, C, ρ1, r, ρ', En1, R2, e2, fun σ2 En2 w2 => q σ2 En2 fun vs hv => ?_⟩
      rw [w2 vs fun i hi => hv i (by simp [slotsT, hi]), w1 vs fun i hi => hv i (by simp [slotsT, hi])]
end
/-- a walk over xs -/
structure WkD (K : Frag) (br : Bool) (J : It) (xs : List D) (G : List Addr → List Addr → Hp → Prop) : Prop where
  go : ∀ i O C H, i < xs.length → G O C H → J.go i H
  stop : ∀ O C H, G O C H → J.stop xs.length H
  yld : ∀ (i : Nat) O C H x H' d, xs[i]? = some d → G O C H → J.yld i H x H' → (∀ Z, Keep Z H H') ∧ Rp K O C H' d x
  mv : ∀ O C H O' H', (∀ a ∈ C, a ∈ O) → Keep C H H' → (∀ a, Alv H a → a ∉ O → a ∉ O') → G O C H → G O' C H'
  mvs : br = false → ∀ O C H O' C' H', Keep O H H' → (∀ a, Alv H a → a ∉ O → a ∉ O') → (∀ (n : Nat) a, C[n]? = some a → C'[n]? = some a) → G O C H → G O' C' H'
def brA : E → Bool
  | .cons e es => isBr (kd e) || brA es
  | _ => false
/-- the items of a walk -/
def itE (φ : Phi) (k : ItK) (es : E) (ρ : Env) (m : Mem) : Out (List D) := (evE φ es ρ m).bind fun r m => Out.of m (itemsD k (argsOf r))
def tI (K : Frag) (φ : Phi) (k : ItK) (es : E) : TI := fun σ H R => ∃ O C ρ m xs m', MemOk K O C H m ∧ EnvOk K O C H ρ σ ∧ itE φ k es ρ m = .ok xs m' ∧
  ∀ J H' G, Keep C H H' → MemOk K O C H' m' → WkD K (brA es) J xs G → G O C H' → xs.length ≤ sizeLine → R J H'
theorem pi_imp {X : Cx} {tg e : Expr} {t t' : TI} (h : PI X tg e t) (i : ∀ σ H Q, t' σ H Q → t σ H Q) : PI X tg e t' := ⟨fun pins s σ H Q I q => h.run pins s σ H Q I (i σ H Q q)⟩
theorem pi_or {X : Cx} {tg e : Expr} {t t' : TI} (h : PI X tg e t) (h' : PI X tg e t') : PI X tg e (fun σ H R => t σ H R ∨ t' σ H R) := ⟨fun pins s σ H Q I q => q.elim (h.run pins s σ H Q I) (h'.run pins s σ H Q I)⟩
section
variable {K : Frag} {φ : Phi} {σ : SSt} {H : Hp} {a : Addr} {vs : List V} {xs : List D}
/-- a source: a list, a tuple -/
def SrcL (K : Frag) (br : Bool) (a : Addr) (vs : List V) (xs : List D) : List Addr → List Addr → Hp → Prop := fun O C H => SqO K (if br then C else O) H a vs ∧ RpAll K O C H xs vs
def SrcT (K : Frag) (a : Addr) (vs : List V) (xs : List D) : List Addr → List Addr → Hp → Prop := fun O C H => SqT K H a vs ∧ RpAll K O C H xs vs
theorem SrcL.mv {br : Bool} {O C : List Addr} {H : Hp} {O' : List Addr} {H' : Hp} (hC : ∀ a ∈ C, a ∈ O) (k : Keep C H H') (hO : ∀ a, Alv H a → a ∉ O → a ∉ O') (g : SrcL K br a vs xs O C H) : SrcL K br a vs xs O' C H' := by
  refine ⟨?_, g.2.move2 hC k hO fun _ _ e => e⟩
  cases br with
  | true => exact sqO_move2 (O := C) k (fun _ h => h) (fun _ _ h => h) g.1
  | false => exact sqO_move2 k hC hO g.1
theorem SrcL.mvs {br : Bool} (hb : br = false) {O C : List Addr} {H : Hp} {O' C' : List Addr} {H' : Hp} (k : Keep O H H') (hO : ∀ a, Alv H a → a ∉ O → a ∉ O') (hC : ∀ (n : Nat) a, C[n]? = some a → C'[n]? = some a) (g : SrcL K br a vs xs O C H) : SrcL K br a vs xs O' C' H' := by
  subst hb
  exact ⟨sqO_move2 (O := O) k (fun _ h => h) hO g.1, g.2.move2 (fun _ h => h) k hO hC⟩
theorem SrcT.mv {O C : List Addr} {H : Hp} {O' : List Addr} {H' : Hp} (hC : ∀ a ∈ C, a ∈ O) (k : Keep C H H') (hO : ∀ a, Alv H a → a ∉ O → a ∉ O') (g : SrcT K a vs xs O C H) : SrcT K a vs xs O' C H' :=
  ⟨sqT_keep k g.1, g.2.move2 hC k hO fun _ _ e => e⟩
theorem SrcT.mvs {O C : List Addr} {H : Hp} {O' C' : List Addr} {H' : Hp} (k : Keep O H H') (hO : ∀ a, Alv H a → a ∉ O → a ∉ O') (hC : ∀ (n : Nat) a, C[n]? = some a → C'[n]? = some a) (g : SrcT K a vs xs O C H) : SrcT K a vs xs O' C' H' :=
  ⟨sqT_keep k g.1, g.2.move2 (fun _ h => h) k hO hC⟩
theorem wk_list {br : Bool} (hz : xs.length = vs.length) : WkD K br (Itl K a) xs (SrcL K br a vs xs) := by
  refine ⟨fun i O C H hi g => ?_, fun O C H g => ?_, fun i O C H x H' d hd g y => ?_, fun _ _ _ _ _ hC k hO g => g.mv hC k hO, fun hb _ _ _ _ _ _ k hO hC g => SrcL.mvs hb k hO hC g⟩
  · exact (walk_list (K := K) (a := a) (xs := vs)).goes i H (by omega) g.1.sq
  · rw [hz]; exact (walk_list (K := K) (a := a) (xs := vs)).stops H g.1.sq
  · have hi : i < vs.length := by rw [← hz]; exact (List.getElem?_eq_some_iff.mp hd).1
    obtain ⟨rfl, e⟩ := (walk_list (K := K) (a := a) (xs := vs)).yields i H x H' hi g.1.sq y
    obtain ⟨v, e1, r⟩ := g.2.get hd
    rw [e] at e1; cases e1
    exact ⟨fun _ => Keep.refl, r⟩
theorem wk_tup {br : Bool} (hz : xs.length = vs.length) : WkD K br (Itt K a) xs (SrcT K a vs xs) := by
  refine ⟨fun i O C H hi g => ?_, fun O C H g => ?_, fun i O C H x H' d hd g y => ?_, fun _ _ _ _ _ hC k hO g => g.mv hC k hO, fun hb _ _ _ _ _ _ k hO hC g => g.mvs k hO hC⟩
  · exact (walk_tup (K := K) (a := a) (xs := vs)).goes i H (by omega) g.1
  · rw [hz]; exact (walk_tup (K := K) (a := a) (xs := vs)).stops H g.1
  · have hi : i < vs.length := by rw [← hz]; exact (List.getElem?_eq_some_iff.mp hd).1
    obtain ⟨rfl, e⟩ := (walk_tup (K := K) (a := a) (xs := vs)).yields i H x H' hi g.1 y
    obtain ⟨v, e1, r⟩ := g.2.get hd
    rw [e] at e1; cases e1
    exact ⟨fun _ => Keep.refl, r⟩
theorem wk_range {br : Bool} {lo : Int} {n : Nat} : WkD K br (Itr lo n) ((List.range n).map fun (i : Nat) => .int (lo + i)) (fun _ _ _ => True) := by
  refine ⟨fun i O C H hi g => ?_, fun O C H g => ?_, fun i O C H x H' d hd g y => ?_, fun _ _ _ _ _ hC k hO g => trivial, fun hb _ _ _ _ _ _ k hO hC g => trivial⟩
  · exact (walk_range (lo := lo) (n := n)).goes i H (by simpa using hi) trivial
  · rw [List.length_map, List.length_range]; exact (walk_range (lo := lo) (n := n)).stops H trivial
  · have hi : i < n := by have := (List.getElem?_eq_some_iff.mp hd).1; simpa using this
    obtain ⟨rfl, rfl⟩ := (walk_range (lo := lo) (n := n)).yields i H x H' hi trivial y
    simp [hi] at hd
    subst hd
    exact ⟨fun _ => Keep.refl, .int _⟩
theorem enumFrom_len : ∀ (xs : List D) (n : Nat), (enumFrom n xs).length = xs.length
  | [], _ => rfl
  | x :: r, n => congrArg (· + 1) (enumFrom_len r (n + 1))
theorem enumFrom_get : ∀ (xs : List D) (n i : Nat) (d : D), (enumFrom n xs)[i]? = some d → ∃ x, xs[i]? = some x ∧ d = .tup [.int ((n + i : Nat) : Int), x]
  | [], _, _, _, h => by simp [enumFrom] at h
  | x :: r, n, 0, d, h => by simp [enumFrom] at h; exact ⟨x, rfl, by simp [← h]⟩
  | x :: r, n, i + 1, d, h => by
    obtain ⟨y, h1, h2⟩ := enumFrom_get r (n + 1) i d (by simpa [enumFrom] using h)
    exact ⟨y, by simpa using h1, by rw [h2]; congr 3; omega⟩
theorem two_line : (2 : Nat) ≤ sizeLine := by rw [sizeLine_eq]; decide
theorem wk_enum {br : Bool} (hz : xs.length = vs.length) : WkD K br (Ite K a) (enumFrom 0 xs) (SrcL K br a vs xs) := by
  refine ⟨fun i O C H hi g => ?_, fun O C H g => ?_, fun i O C H x H' d hd g y => ?_, fun _ _ _ _ _ hC k hO g => g.mv hC k hO, fun hb _ _ _ _ _ _ k hO hC g => SrcL.mvs hb k hO hC g⟩
  · rw [enumFrom_len] at hi; exact (walk_enum (K := K) (a := a) (xs := vs)).goes i H (by omega) g.1.sq
  · rw [enumFrom_len, hz]; exact (walk_enum (K := K) (a := a) (xs := vs)).stops H g.1.sq
  · obtain ⟨z, e1, rfl⟩ := enumFrom_get xs 0 i d hd
    have hi : i < vs.length := by rw [← hz]; exact (List.getElem?_eq_some_iff.mp e1).1
    obtain ⟨T, p, q, rfl, hT, rfl, e2, e3⟩ := (walk_enum (K := K) (a := a) (xs := vs)).yields i H x H' hi g.1.sq y
    obtain ⟨v, e4, r⟩ := g.2.get e1
    have e3 : vs[i]? = some q := e3
    rw [e3] at e4; cases e4
    cases e2
    refine ⟨fun _ => Keep.new hT, Rp.tup_new hT two_line ?_⟩
    rw [Nat.zero_add]
    exact .cons (.int _) (.cons r .nil)
variable {b : Addr} {ws : List V} {ys : List D}
theorem zip2_len : ∀ (xs ys : List D), (zip2 xs ys).length = min xs.length ys.length
  | [], _ => by simp [zip2]
  | _ :: _, [] => by simp [zip2]
  | x :: r, y :: s => by simp [zip2, zip2_len r s]
theorem zip2_get : ∀ (xs ys : List D) (i : Nat) (d : D), (zip2 xs ys)[i]? = some d → ∃ x y, xs[i]? = some x ∧ ys[i]? = some y ∧ d = .tup [x, y]
  | [], _, _, _, h => by simp [zip2] at h
  | _ :: _, [], _, _, h => by simp [zip2] at h
  | x :: r, y :: s, 0, d, h => by simp [zip2] at h; exact ⟨x, y, rfl, rfl, h.symm⟩
  | x :: r, y :: s, i + 1, d, h => by
    obtain ⟨p, q, h1, h2, h3⟩ := zip2_get r s i d (by simpa [zip2] using h)
    exact ⟨p, q, by simpa using h1, by simpa using h2, h3⟩
theorem wk_zip {br : Bool} (hx : xs.length = vs.length) (hy : ys.length = ws.length) : WkD K br (Itz K a b) (zip2 xs ys) (fun O C H => SrcL K br a vs xs O C H ∧ SrcL K br b ws ys O C H) := by
  have hn : (zip2 xs ys).length = min vs.length ws.length := by rw [zip2_len, hx, hy]
  have W := walk_zip (K := K) (a := a) (b := b) (xs := vs) (ys := ws) hn
  refine ⟨fun i O C H hi g => ?_, fun O C H g => ?_, fun i O C H x H' d hd g y => ?_, fun _ _ _ _ _ hC k hO g => ⟨g.1.mv hC k hO, g.2.mv hC k hO⟩, fun hb _ _ _ _ _ _ k hO hC g => ⟨SrcL.mvs hb k hO hC g.1, SrcL.mvs hb k hO hC g.2⟩⟩
  · exact W.goes i H hi ⟨g.1.1.sq, g.2.1.sq⟩
  · exact W.stops H ⟨g.1.1.sq, g.2.1.sq⟩
  · obtain ⟨p, q, e1, e2, rfl⟩ := zip2_get xs ys i d hd
    obtain ⟨T, p', q', rfl, hT, rfl, e3, e4⟩ := W.yields i H x H' (List.getElem?_eq_some_iff.mp hd).1 ⟨g.1.1.sq, g.2.1.sq⟩ y
    obtain ⟨v, e5, r⟩ := g.1.2.get e1
    obtain ⟨w, e6, r'⟩ := g.2.2.get e2
    have e3 : vs[i]? = some p' := e3
    have e4 : ws[i]? = some q' := e4
    rw [e3] at e5; cases e5
    rw [e4] at e6; cases e6
    exact ⟨fun _ => Keep.new hT, Rp.tup_new hT two_line (.cons r (.cons r' .nil))⟩
theorem wk_zipT {br : Bool} (hx : xs.length = vs.length) (hy : ys.length = ws.length) : WkD K br (RZ.ItzT K a b) (zip2 xs ys) (fun O C H => SrcT K a vs xs O C H ∧ SrcT K b ws ys O C H) := by
  have hn : (zip2 xs ys).length = min vs.length ws.length := by rw [zip2_len, hx, hy]
  refine ⟨fun i O C H hi g => ?_, fun O C H g => ?_, fun i O C H x H' d hd g y => ?_, fun _ _ _ _ _ hC k hO g => ⟨g.1.mv hC k hO, g.2.mv hC k hO⟩, fun hb _ _ _ _ _ _ k hO hC g => ⟨g.1.mvs k hO hC, g.2.mvs k hO hC⟩⟩
  · have h1 : i < vs.length := by omega
    have h2 : i < ws.length := by omega
    exact ⟨vs, ws, vs[i], ws[i], g.1.1, g.2.1, by simp [h1], by simp [h2]⟩
  · exact ⟨vs, ws, g.1.1, g.2.1, by omega⟩
  · obtain ⟨p, q, e1, e2, rfl⟩ := zip2_get xs ys i d hd
    obtain ⟨T, p', q', rfl, hT, rfl, e3, e4⟩ := y
    obtain ⟨v, e5, r⟩ := g.1.2.get e1
    obtain ⟨w, e6, r'⟩ := g.2.2.get e2
    rw [e3 _ g.1.1] at e5; cases e5
    rw [e4 _ g.2.1] at e6; cases e6
    exact ⟨fun _ => Keep.new hT, Rp.tup_new hT two_line (.cons r (.cons r' .nil))⟩
end
end Ev

set_option maxHeartbeats 4000000
namespace Ev
open PySem PySem.Spec PyProof.Rows L2
open AutoSeq1 (wpAny_loadPart')
/-- enumerate(v) over what begins so -/
theorem enum_new1 {v : Value} {o : Obj} {H : Heap → Prop} (B : Begins v o H) :
    Meets (Builtin.«enumerate.__new__» ⟨[.type "enumerate", v], []⟩) (fun _ R s => H s.heap ∧
      R (.ok (.ret (.ref (s.heap.push o).objs.size))) { s with heap := (s.heap.push o).push { cls := .type "enumerate", data := .fields #[.none, .bool false, .ref s.heap.objs.size, rawInt 0, .none, .none] } }) :=
  .of_wp fun prog w A R s h => by
    obtain ⟨hp, g, d, tk, os⟩ := s
    obtain ⟨h1, h⟩ := h
    have hsub := sub_enumerate
    have q1 : ∀ {A' : Around} {E : Value → Shared → Prop} {Q : Value → Shared → Prop}, Q (.ref hp.objs.size) ⟨hp.push o, g, d, tk, os⟩ → wpAny (model prog w) A' (pyIter v) Q E ⟨hp, g, d, tk, os⟩ := fun q => B.iter prog w _ _ ⟨hp, g, d, tk, os⟩ _ h1 q
    wp_walk using q1
    refine wpAny_stack_any fun st => wpAny_pure ?_
    split
    · rename_i c _ _ _ _ _
      cases (c == Value.type "enumerate") <;> (wp_walk using q1; exact ⟨_, rfl, h⟩)
    · wp_walk using q1
      exact ⟨_, rfl, h⟩
section
variable {prog : Program} {w : World} {A : Around} {E : Value → Shared → Prop} {s : Shared}
theorem enum_call1 {v : Value} {o : Obj} {H : Heap → Prop} {Q : Value → Shared → Prop} (B : Begins v o H) (h1 : H s.heap)
    (h : ∀ h', IsEnum h' (s.heap.objs.size + 1) s.heap.objs.size 0 .none → h'.get? s.heap.objs.size = some o → (∀ b o, s.heap.get? b = some o → h'.get? b = some o) → Q (.ref (s.heap.objs.size + 1)) { s with heap := h' }) :
    wpAny (model prog w) A (call (.type "enumerate") [v]) Q E s := by
  refine callType_new F.called_enumerate (by decide) (F.typeCall_enumerate_1 _) (F.newCall_enumerate_1 _) (fun obj => F.args_object_init_2 obj _) F.entry_enumerate_new (enum_new1 B) ⟨h1, ?_⟩
  have hz : (s.heap.push o).objs.size = s.heap.objs.size + 1 := Heap.size_push ..
  show _ ∧ _
  rw [hz]
  have he : IsEnum ((s.heap.push o).push { cls := .type "enumerate", data := .fields #[.none, .bool false, .ref s.heap.objs.size, rawInt 0, .none, .none] }) (s.heap.objs.size + 1) s.heap.objs.size 0 .none := by
    have := Heap.get?_push_size (s.heap.push o) (o := { cls := .type "enumerate", data := .fields #[.none, .bool false, .ref s.heap.objs.size, rawInt 0, .none, .none] }) rfl
    rw [hz] at this
    exact this
  exact ⟨⟨_, he, rfl⟩, h _ he (Heap.get?_push_of_some _ (Heap.get?_push_size _ B.free)) fun b o x => Heap.get?_push_of_some _ (Heap.get?_push_of_some _ x)⟩
end
/-- the tuple at a at each turn, each item in a new pair -/
def IteT (K : PySem.W.Frag) (a : Addr) : It :=
  ⟨fun i H => ∃ (xs : List V) (x : V), SqT K H a xs ∧ xs[i]? = some x, fun i H v H' => ∃ T x, v = .ref T ∧ H T = none ∧ H' = upd H T (.tup [.int (i : Nat), x]) ∧ ∀ xs, SqT K H a xs → xs[i]? = some x, fun i H => ∃ xs : List V, SqT K H a xs ∧ xs.length ≤ i⟩
theorem turn_enumT {P : Program} {w : World} {K : PySem.W.Frag} {elts : List Expr} {kk : Nat} {tpos : Pos} (a e it : Addr) :
    Turn P w K (.Tuple elts kk tpos) (IteT K a) [e, it] e (fun i h => (∃ old, IsEnum h e it ((i : Nat) : Int) old) ∧ h.IsTupleIter it a i ∧ e ≠ it ∧ a ≠ it ∧ a ≠ e) where
  mem := by simp
  obj := fun i h st b hb => by
    obtain ⟨⟨old, he⟩, ⟨o, ho, hc, hd⟩, _⟩ := st
    have e' : b = e ∨ b = it := by simpa using hb
    rcases e' with z | z
    · rw [z]; exact ⟨_, he, fun v q => nomatch q⟩
    · rw [z]; exact ⟨o, ho, fun v q => by rw [hd] at q; cases q⟩
  keep := fun i h h' st k => let ⟨⟨old, he⟩, hi, hne⟩ := st; ⟨⟨old, k e (by simp) _ he⟩, hi.at fun o q => k it (by simp) o q, hne⟩
  item := by
    intro X hP hw hK hc i pins s σ H E I hf st hg
    subst hP hw hK
    obtain ⟨⟨old, he⟩, hit, hne, ha1, ha2⟩ := st
    obtain ⟨xs, x, hq, hx⟩ := hg
    obtain ⟨its, rv, p, hz⟩ := I.tuple hq
    obtain ⟨u, hu, ru⟩ := rv.get hx
    have hel : e < s.heap.objs.size := Heap.lt_size he
    have hil : it < s.heap.objs.size := by obtain ⟨_, q, _⟩ := hit; exact Heap.lt_size q
    have D : Draws X.prog X.w X.A.in1 it [it, a] its.toArray.size (fun i v => its.toArray[i]? = some v) (fun i h => h.IsTupleIter it a i ∧ h.IsTuple a its.toArray) := Draws.tuple (show X.A.in1.handled = none from I.ok.hd hc) it a ha1 its.toArray
    have hlt : i < its.toArray.size := by
      have := (List.getElem?_eq_some_iff.mp hu).1
      simpa using this
    refine wpAny_pyNext_enum_itemD D he ⟨hit, p⟩ hlt hne (by simp; exact ⟨hne, Ne.symm ha2⟩) fun y h' tk hy ho hst hT hsz hk => ?_
    obtain rfl : y = u := by
      have : its.toArray[i]? = some u := by simpa using hu
      rw [this] at hy
      exact (Option.some.inj hy).symm
    refine ⟨_, rfl, wpAny_letOwnedTupleGo_enum (s := { s with heap := h', toks := tk + 1 }) ho fun h'' he' sb => ?_⟩
    have hT2 : h''.get? s.heap.objs.size = some { cls := .type "tuple", data := .seq #[.int i tk, y] } := (sb.2 _ (Nat.ne_of_gt hel)).trans hT
    have new : ObjOk X.prog X.w (upd H s.heap.objs.size (.tup [.int (i : Nat), x])) h'' s.heap.objs.size (.tup [.int (i : Nat), x]) :=
      ⟨by show 2 ≤ sizeLine; decide, [.int i tk, y], .cons ⟨_, rfl⟩ (.cons ru .nil), ⟨_, hT2, rfl, _, rfl⟩⟩
    have I1 : Inv X pins σ (upd H s.heap.objs.size (.tup [.int (i : Nat), x])) { s with heap := h'', toks := tk + 1 } :=
      I.turnedNew (ch := [e, it]) (fun b ob hb q => (sb.2 b (fun z => hb (by simp [z]))).trans (hk b ob (fun z => hb (by simp [z])) (fun z => hb (by simp [z])) q)) hf (Nat.le_refl _) new
    refine ⟨.ref s.heap.objs.size, _, I1, rfl, ⟨_, x, rfl, I.hok.fresh (Nat.le_refl _), rfl, fun ys hy => by rw [I.tuple_inj hy hq]; exact hx⟩, ⟨⟨y, ?_⟩, hst.1.at fun o q => (sb.2 it (Ne.symm hne)).trans q, hne, ha1, ha2⟩, fun b hb => ?_⟩
    · have e1 : ((i + 1 : Nat) : Int) = (i : Int) + 1 := by omega
      rw [e1]; exact he'
    · have hb' : b < s.heap.objs.size := by
        have e' : b = e ∨ b = it := by simpa using hb
        rcases e' with z | z
        · rw [z]; exact hel
        · rw [z]; exact hil
      rw [upd_ne (Nat.ne_of_lt hb')]
      exact (hf b hb).1
  done := by
    intro X hP hw hK hc i pins s σ H E I hf st hg
    subst hP hw hK
    obtain ⟨⟨old, he⟩, hit, hne, ha1, ha2⟩ := st
    obtain ⟨xs, hq, hx⟩ := hg
    obtain ⟨its, rv, p, hz⟩ := I.tuple hq
    obtain ⟨f0, f1, f2, f3, f4, f5⟩ := hf it (by simp)
    have hl := rv.length
    have hge : its.toArray[i]? = none := by simp; omega
    have D : Draws X.prog X.w X.A.in1 it [it, a] 0 (fun _ _ => False) (fun _ h => h.IsTupleIter it a i ∧ h.IsTuple a its.toArray) :=
      ⟨fun _ _ st => let ⟨o, ho, _⟩ := st.1; ⟨o, ho⟩, fun _ _ _ st hk => ⟨st.1.at fun o e => hk it (by simp) o e, st.2.at fun o e => hk a (by simp) o e⟩,
        fun j s Q E hj => absurd hj (Nat.not_lt_zero _), fun s Q E st hE => wpAny_nextOf_tuple_end (show X.A.in1.handled = none from I.ok.hd hc) st.1 st.2 hge hE⟩
    exact wpAny_pyNext_enum_endD D he ⟨hit, p⟩ fun h' eb => ⟨rfl, I.turned (t' := s.toks) (fun b o hb q => eb b o hb q) f0 f1 f3 f4 f5⟩
  self := fun A i s Q E st h => let ⟨⟨_, he⟩, _⟩ := st; wpAny_pyIter_enum he h
def iEnumT (K : PySem.W.Frag) (ta : TA) : TI := fun σ H R => ta σ H fun vs H1 => ∃ a xs, vs = [.ref a] ∧ SqT K H1 a xs ∧ R (IteT K a) H1
theorem pi_enumT {X : Cx} {e : Expr} {ta : TA} {p pos tpos : Pos} {elts : List Expr} {kk : Nat} (hg : Gl X "enumerate") (hm : X.mg "enumerate" = none) (ha : PA X [e] ta) (hs : starEach [e] X.env = [(false, eval e X.env)] := by rfl) :
    PI X (.Tuple elts kk tpos) (.Call (.Name "enumerate" p) [e] [] pos) (iEnumT X.K ta) := by
  refine ⟨fun pins s σ H R I h => ?_⟩
  refine Call_ (ld_blt I hg hm boot_enumerate (PyProof.Rows.callWith_type1 (thn (ha.run pos pins s σ H _ I h) fun us s1 ⟨vs, H1, I1, r1, q1⟩ => ?_) hs rfl))
  obtain ⟨a, xs, ex, hq, q⟩ := q1
  subst ex
  cases r1 with
  | cons r rr =>
    cases rr
    cases r
    obtain ⟨its, rv, p', hz⟩ := I1.tuple hq
    have hla : a < s1.heap.objs.size := by obtain ⟨o, ho, _⟩ := p'; exact Heap.lt_size ho
    refine enum_call1 (begins_tuple a its.toArray) p' fun h' he hit hk => wpAny_pyIter_enum he ?_
    have I2 : Inv X pins σ H1 { s1 with heap := h' } := I1.kept (t' := s1.toks) hk
    refine ⟨s1.heap.objs.size + 1, [s1.heap.objs.size + 1, s1.heap.objs.size], _, _, H1, rfl, I2, turn_enumT a (s1.heap.objs.size + 1) s1.heap.objs.size, ⟨⟨.none, he⟩, ⟨_, hit, rfl, rfl⟩, Nat.succ_ne_self _, Nat.ne_of_lt hla, Nat.ne_of_lt (Nat.lt_succ_of_lt hla)⟩, fun b hb => ?_, q⟩
    have e' : b = s1.heap.objs.size + 1 ∨ b = s1.heap.objs.size := by simpa using hb
    have hle : s1.heap.objs.size ≤ b := by
      rcases e' with z | z
      · rw [z]; exact Nat.le_add_right _ _
      · rw [z]; exact Nat.le_refl _
    exact I1.fpOk hle (I1.hok.fresh hle)
theorem wk_enumT {K : Frag} {a : Addr} {vs : List V} {xs : List D} {br : Bool} (hz : xs.length = vs.length) : WkD K br (IteT K a) (enumFrom 0 xs) (SrcT K a vs xs) := by
  refine ⟨fun i O C H hi g => ?_, fun O C H g => ?_, fun i O C H x H' d hd g y => ?_, fun _ _ _ _ _ hC k hO g => g.mv hC k hO, fun hb _ _ _ _ _ _ k hO hC g => g.mvs k hO hC⟩
  · rw [enumFrom_len] at hi
    have hi : i < vs.length := by omega
    exact ⟨vs, vs[i], g.1, by simp [hi]⟩
  · rw [enumFrom_len, hz]; exact ⟨vs, g.1, Nat.le_refl _⟩
  · obtain ⟨z, e1, rfl⟩ := enumFrom_get xs 0 i d hd
    obtain ⟨T, q, rfl, hT, rfl, e3⟩ := y
    obtain ⟨v, e4, r⟩ := g.2.get e1
    rw [e3 _ g.1] at e4; cases e4
    refine ⟨fun _ => Keep.new hT, Rp.tup_new hT two_line ?_⟩
    rw [Nat.zero_add]
    exact .cons (.int _) (.cons r .nil)
end Ev

set_option maxHeartbeats 4000000
namespace Ev
open PySem PySem.Spec PyProof.Rows L2
section
variable {K : Frag} {φ : Phi} {X : Cx} {σ : SSt} {H : Hp} {Q : VK}
theorem wipe_get (σ : SSt) (i : Nat) : ∀ (vs : List Nat), i ∈ vs → i < σ.length → (L2.wipe σ vs)[i]? = some none
  | [], h, _ => by cases h
  | v :: vs, h, hl => by
    show ((L2.wipe σ vs).set v none)[i]? = some none
    by_cases e : v = i
    · subst e
      rw [List.getElem?_set_self (by rw [wipe_length]; exact hl)]
    · rw [List.getElem?_set_ne e]
      exact wipe_get σ i vs ((List.mem_cons.mp h).resolve_left fun q => e q.symm) hl
theorem wipe_out (σ : SSt) (i : Nat) : ∀ (vs : List Nat), i ∉ vs → (L2.wipe σ vs)[i]? = σ[i]?
  | [], _ => rfl
  | v :: vs, h => by
    rw [List.mem_cons, not_or] at h
    show ((L2.wipe σ vs).set v none)[i]? = _
    rw [List.getElem?_set_ne fun e => h.1 e.symm]
    exact wipe_out σ i vs h.2
theorem wipe_wipe (σ : SSt) (vs : List Nat) : L2.wipe (L2.wipe σ vs) vs = L2.wipe σ vs := by
  apply List.ext_getElem?
  intro i
  by_cases hi : i ∈ vs
  · by_cases hl : i < σ.length
    · rw [wipe_get σ i vs hi hl, wipe_get (L2.wipe σ vs) i vs hi (by rw [wipe_length]; exact hl)]
    · rw [List.getElem?_eq_none (by rw [wipe_length, wipe_length]; omega), List.getElem?_eq_none (by rw [wipe_length]; omega)]
  · rw [wipe_out _ i vs hi]
theorem Keep.put_new {C : List Addr} {H1 H4 : Hp} {p : Addr} {o : HO} (k : Keep C H1 H4) (h : H1 p = none) : Keep C H1 (upd H4 p o) := by
  refine ⟨fun x u e n => ?_, fun x u e => ?_, fun x u w e => ?_⟩
  · rw [upd_ne (ne_of_none e h)]; exact k.ob x u e n
  · rw [upd_ne (ne_of_none e h)]; exact k.tp x u e
  · rw [upd_ne (ne_of_none e h)]; exact k.fz x u w e
theorem MemOk.cons {O C : List Addr} {H1 : Hp} {m : Mem} {p : Addr} {o : HO} (M : MemOk K O C H1 m) (h : H1 p = none) : MemOk K (p :: O) C (upd H1 p o) m := by
  have kk : Keep [] H1 (upd H1 p o) := Keep.new h
  refine ⟨M.len, fun n a d e1 e2 => (M.at_ n a d e1 e2).move2 (Z := []) (by simp) kk (fun a ha hn => ?_) (fun _ _ e => e) (by simp), fun a ha => List.mem_cons_of_mem _ (M.sub a ha), M.nd, fun a ha => ?_⟩
  · rw [List.mem_cons, not_or]
    exact ⟨fun e => (by subst e; obtain ⟨o, e⟩ := ha; rw [h] at e; cases e), hn⟩
  · rcases List.mem_cons.mp ha with rfl | ha
    · exact ⟨o, upd_same⟩
    · obtain ⟨o', e⟩ := M.al a ha
      exact ⟨o', kk.ob a o' e (by simp)⟩
theorem MemOk.less {O C : List Addr} {H1 : Hp} {m : Mem} {p : Addr} (M : MemOk K (p :: O) C H1 m) (h : ∀ a ∈ C, a ∈ O) : MemOk K O C H1 m :=
  ⟨M.len, fun n a d e1 e2 => (M.at_ n a d e1 e2).move2 (Z := []) (by simp) Keep.refl (fun a _ hn q => hn (List.mem_cons_of_mem _ q)) (fun _ _ e => e) (by simp), h, M.nd, fun a ha => M.al a (List.mem_cons_of_mem _ ha)⟩
theorem MemOk.put {O C : List Addr} {H1 : Hp} {m : Mem} {p : Addr} {xs : List V} {o : HO} (M : MemOk K O C H1 m) (e : H1 p = some (.lst xs)) (hO : p ∈ O) (hC : p ∉ C) : MemOk K O C (upd H1 p o) m := by
  have kk : Keep [p] H1 (upd H1 p o) := Keep.put e (by simp)
  refine ⟨M.len, fun n a d e1 e2 => (M.at_ n a d e1 e2).move2 (Z := [p]) (by simpa using hO) kk (fun a _ hn => hn) (fun _ _ e => e) ?_, M.sub, M.nd, fun a ha => ?_⟩
  · have : a ∈ C := List.mem_of_getElem? e1
    simp only [List.mem_singleton]
    exact fun q => hC (q ▸ this)
  · by_cases q : a = p
    · subst q; exact ⟨o, upd_same⟩
    · obtain ⟨o', e'⟩ := M.al a ha
      exact ⟨o', by rw [upd_ne q]; exact e'⟩
/-- the turn of a comprehension -/
def compG (φ : Phi) (own : List Nat) (t : T) (ifs elt : E) (ρ : Env) (x : D) (m : Mem) : Out (Option D) := match putT t x (wipeE ρ own) with
  | some ρ1 => (evE φ ifs ρ1 m).bind fun c m => match truD c with
    | some true => (evE φ elt ρ1 m).bind fun y m => .ok (some y) m
    | some false => .ok none m
    | none => .no
  | none => .no
theorem tE_comp {own : List Nat} {t : T} {k : ItK} {it ifs elt : E} (ho : ∀ i ∈ slotsT t, i ∈ own) (hb : isBr (kd elt) = false) :
    tE K φ (.comp own t k it ifs elt) σ H Q → tLc (tI K φ k it) (tG K t) (tT K φ ifs) (tE K φ elt) own σ H Q := by
  rintro ⟨O, C, ρ, m, r, m', M, En, ev, q⟩
  have ev : (evE φ it ρ m).bind (fun r m => (Out.of m (itemsD k (argsOf r))).bind fun xs m => compL (compG φ own t ifs elt ρ) xs [] m) = .ok r m' := ev
  obtain ⟨a0, m0, e0, ev⟩ := bind_eq_ok ev
  obtain ⟨xs, m1, e1, ev⟩ := bind_eq_ok ev
  refine ⟨O, C, ρ, m, xs, m1, M, En, by show (evE φ it ρ m).bind _ = _; rw [e0]; exact e1, fun J H1 G k1 M1 wk g z Da hDa => ?_⟩
  have En1 : EnvOk K O C H1 ρ σ := En.keep M.sub k1
  have hDC : Da ∉ C := fun h => by obtain ⟨o, e⟩ := M1.alC Da h; rw [hDa] at e; cases e
  have hDH : H Da = none := by
    cases qq : H Da with
    | none => rfl
    | some o => rw [k1.ob Da o qq hDC] at hDa; cases hDa
  have hOD : ∀ a, Alv H1 a → a ∉ O → a ∉ Da :: O := fun a ⟨o, e⟩ hn => by
    rw [List.mem_cons, not_or]
    exact ⟨ne_of_none e hDa, hn⟩
  -- what holds at a heap that comes of H1
  have envAt : ∀ {Hc}, Keep C H1 Hc → EnvOk K (Da :: O) C Hc (wipeE ρ own) (L2.wipe σ own) := fun {Hc} kk =>
    (En1.move2 M.sub kk hOD (fun a h => List.mem_cons_of_mem _ h) (fun _ _ e => e) (fun _ _ h => h) (fun i d a h1 h2 => by
      obtain ⟨b, q1, _, q2, _⟩ := En1.own i d h1
      rw [h2] at q1; cases q1; exact q2)).wipe own
  have gAt : ∀ {Hc}, Keep C H1 Hc → G (Da :: O) C Hc := fun {Hc} kk => wk.mv O C H1 (Da :: O) Hc M.sub kk hOD g
  refine ⟨fun i j Hc => j = xs.length - i ∧ i ≤ xs.length ∧ ∃ acc vs mi, Hc Da = some (.lst vs) ∧ vs.length ≤ i ∧ RpAll K (Da :: O) C Hc acc vs ∧ MemOk K (Da :: O) C Hc mi ∧ Keep C H1 Hc ∧ compL (compG φ own t ifs elt ρ) (xs.drop i) acc mi = .ok r m',
    ⟨xs.length, by simp, Nat.zero_le _, [], [], m1, upd_same, Nat.le_refl _, .nil, M1.cons hDa, Keep.new hDa, ev⟩, ?_⟩
  rintro i j Hc ⟨rfl, hi, acc, vs, mi, hD, hv, hr, hM, hk, hev⟩
  by_cases hlt : i < xs.length
  · obtain ⟨x0, hx0⟩ : ∃ d, xs[i]? = some d := ⟨xs[i], by simp [hlt]⟩
    have hdrop : xs.drop i = x0 :: xs.drop (i + 1) := by
      rw [List.drop_eq_getElem_cons hlt]
      congr 1
      rw [List.getElem?_eq_getElem hlt] at hx0
      exact Option.some.inj hx0
    rw [hdrop] at hev
    have hev : (compG φ own t ifs elt ρ x0 mi).bind (fun y m => match y with
      | some y => compL (compG φ own t ifs elt ρ) (xs.drop (i + 1)) (acc ++ [y]) m
      | none => compL (compG φ own t ifs elt ρ) (xs.drop (i + 1)) acc m) = .ok r m' := hev
    obtain ⟨y, m2, ey, hev⟩ := bind_eq_ok hev
    refine .inr ⟨wk.go i _ _ Hc hlt (gAt hk), fun H' => (i + 1 ≤ xs.length ∧ ∃ acc vs mi, H' Da = some (.lst vs) ∧ vs.length ≤ i + 1 ∧ RpAll K (Da :: O) C H' acc vs ∧ MemOk K (Da :: O) C H' mi ∧ Keep C H1 H' ∧ compL (compG φ own t ifs elt ρ) (xs.drop (i + 1)) acc mi = .ok r m'),
      fun H' h => ⟨xs.length - (i + 1), by omega, rfl, h.1, h.2⟩, fun x H' hy => ?_⟩
    obtain ⟨ky, rx⟩ := wk.yld i _ _ Hc x H' x0 hx0 (gAt hk) hy
    unfold compG at ey
    split at ey
    · rename_i ρ1 hρ1
      obtain ⟨c, m3, ec, ey⟩ := bind_eq_ok ey
      refine ⟨Da :: O, C, wipeE ρ own, x0, ρ1, envAt (hk.trans (ky C)), rx, hρ1, fun σ2 En2 w2 => ⟨?_, ?_⟩⟩
      · rw [w2 own ho, wipe_wipe]
      have D' : H' Da = some (.lst vs) := (ky []).ob Da _ hD (by simp)
      have M' : MemOk K (Da :: O) C H' mi := hM.grow ky
      split at ey
      · rename_i ht
        obtain ⟨y', m4, ee, ey⟩ := bind_eq_ok ey
        cases ey
        refine ⟨Da :: O, C, ρ1, mi, c, m3, true, M', En2, ec, ht, fun H3 k3 M3 => ?_⟩
        (try dsimp only)
        rw [if_pos rfl]
        refine .go M3 (En2.keep hM.sub k3) ee fun v H4 k4 M4 En4 R4 => ?_
        have D4 : H4 Da = some (.lst vs) := k4.ob Da _ (k3.ob Da _ D' hDC) hDC
        have K4 : Keep C H1 H4 := ((hk.trans (ky C)).trans k3).trans k4
        refine ⟨vs, D4, by omega, hlt, acc ++ [y'], vs ++ [v], m2, upd_same, by simp; omega, ?_, M4.put D4 (by simp) hDC, K4.put_new hDa, hev⟩
        have h1 : RpAll K (Da :: O) C H4 (acc ++ [y']) (vs ++ [v]) := (((hr.keep hM.sub (ky C)).keep hM.sub k3).keep hM.sub k4).append (.cons (R4.pl M3 hb) .nil)
        exact h1.keep (Z := [Da]) (by simp) (Keep.put D4 (by simp))
      · rename_i ht
        cases ey
        refine ⟨Da :: O, C, ρ1, mi, c, _, false, M', En2, ec, ht, fun H3 k3 M3 => ?_⟩
        (try dsimp only)
        rw [if_neg Bool.false_ne_true]
        exact ⟨hlt, acc, vs, _, k3.ob Da _ D' hDC, by omega, (hr.keep hM.sub (ky C)).keep hM.sub k3, M3, (hk.trans (ky C)).trans k3, hev⟩
      · cases ey
    · cases ey
  · have e : i = xs.length := by omega
    subst e
    rw [List.drop_length] at hev
    cases hev
    refine .inl ⟨wk.stop _ _ Hc (gAt hk), ?_⟩
    exact q _ Hc (k1.trans hk) (hM.less M.sub) ⟨Da, vs, rfl, hDH, hD, by omega, hr⟩ (fun _ _ _ e => by cases e; exact hM)
theorem rb_src {O C : List Addr} {br : Bool} {l : List D} {v : V} {k : Kd} {H0 : Hp} {m : Mem} (M : MemOk K O C H0 m) (hb : br = false → isBr k = false) (R : Rv k K O C H0 H (.lst l) v) : ∃ a vs, v = .ref a ∧ SrcL K br a vs l O C H ∧ vs.length ≤ sizeLine ∧ l.length = vs.length := by
  cases br with
  | true =>
    obtain ⟨a, xs, e, h, z, r⟩ := R.rb M
    exact ⟨a, xs, e, ⟨h, r⟩, z, r.length⟩
  | false =>
    cases R.pl M (hb rfl) with
    | lst h z r => exact ⟨_, _, rfl, ⟨h, r⟩, z, r.length⟩
theorem rb_srcT {O C : List Addr} {l : List D} {v : V} (R : Rb K O C H (.tup l) v) : ∃ a vs, v = .ref a ∧ SrcT K a vs l O C H ∧ vs.length ≤ sizeLine ∧ l.length = vs.length := by
  obtain ⟨a, xs, e, h, z, r⟩ := R.tup
  exact ⟨a, xs, e, ⟨h, r⟩, z, r.length⟩
theorem args_one {a : E} {ρ : Env} {m m' : Mem} {r : D} (h : evE φ (.cons a .nil) ρ m = .ok r m') : ∃ x, evE φ a ρ m = .ok x m' ∧ r = .tup [x] := by
  obtain ⟨x, m1, e1, ev⟩ := bind_eq_ok (show (evE φ a ρ m).bind (fun x m => (Out.ok (.tup []) m).bind fun r m => Out.of m (consD x r)) = .ok r m' from h)
  cases ev
  exact ⟨x, e1, rfl⟩
theorem args_two {a b : E} {ρ : Env} {m m' : Mem} {r : D} (h : evE φ (.cons a (.cons b .nil)) ρ m = .ok r m') : ∃ x y m1, evE φ a ρ m = .ok x m1 ∧ evE φ b ρ m1 = .ok y m' ∧ r = .tup [x, y] := by
  obtain ⟨x, m1, e1, ev⟩ := bind_eq_ok (show (evE φ a ρ m).bind (fun x m => (evE φ (.cons b .nil) ρ m).bind fun r m => Out.of m (consD x r)) = .ok r m' from h)
  obtain ⟨s, m2, e2, ev⟩ := bind_eq_ok ev
  obtain ⟨y, e3, rfl⟩ := args_one e2
  cases ev
  exact ⟨x, y, m1, e1, e3, rfl⟩
theorem tI_val {a : E} {R : It → Hp → Prop} : tI K φ .val (.cons a .nil) σ H R → iList K (tE K φ a) σ H R ∨ iTup K (tE K φ a) σ H R := by
  rintro ⟨O, C, ρ, m, xs, m', M, En, ev, q⟩
  obtain ⟨r, m1, e1, ev⟩ := bind_eq_ok ev
  obtain ⟨x, e2, rfl⟩ := args_one e1
  obtain ⟨e3, rfl⟩ := of_eq_ok ev
  have hbr : brA (.cons a .nil) = isBr (kd a) := by simp [brA]
  rw [hbr] at q
  cases x with
  | lst l =>
    cases e3
    refine .inl (.go M En e2 fun v H1 k1 M1 En1 R1 => ?_)
    obtain ⟨p, vs, rfl, s, z, hl⟩ := rb_src (br := isBr (kd a)) M (fun h => h) R1
    exact ⟨p, rfl, ⟨vs, s.1.sq⟩, q _ H1 _ k1 M1 (wk_list hl) s (by omega)⟩
  | tup l =>
    cases e3
    refine .inr (.go M En e2 fun v H1 k1 M1 En1 R1 => ?_)
    obtain ⟨p, vs, rfl, s, z, hl⟩ := rb_srcT (R1.rb M)
    exact ⟨p, rfl, ⟨vs, s.1⟩, q _ H1 _ k1 M1 (wk_tup hl) s (by omega)⟩
  | _ => cases e3
theorem RaAll.one {b : Bool} {O C : List Addr} {d : D} {vs : List V} (h : RaAll b K O C H [d] vs) : ∃ v, vs = [v] ∧ (b = false → Rb K O C H d v) ∧ (b = true → Rp K O C H d v) := by
  cases b with
  | false =>
    obtain ⟨v, e, r⟩ := RbAll.one h
    exact ⟨v, e, fun _ => r, fun q => (by cases q)⟩
  | true =>
    cases h with
    | cons a c => cases c; exact ⟨_, rfl, fun q => (by cases q), fun _ => a⟩
theorem tI_rng1 {a : E} {R : It → Hp → Prop} : tI K φ .rng (.cons a .nil) σ H R → iRng1 (tA false K φ (.cons a .nil)) σ H R := by
  rintro ⟨O, C, ρ, m, xs, m', M, En, ev, q⟩
  obtain ⟨r, m1, e1, ev⟩ := bind_eq_ok ev
  obtain ⟨x, e2, rfl⟩ := args_one e1
  obtain ⟨e3, rfl⟩ := of_eq_ok ev
  refine ⟨O, C, ρ, m, [x], m1, M, En, e1, fun vs H1 k1 M1 RA => ?_⟩
  obtain ⟨v, rfl, hb, _⟩ := RA.one
  cases x with
  | int j =>
    have e3 : rngD 0 j = some xs := e3
    unfold rngD at e3
    split at e3
    · rename_i hc
      simp only [Bool.and_eq_true, decide_eq_true_eq] at hc
      cases e3
      cases (hb rfl).int
      refine ⟨j, rfl, by omega, by omega, ?_⟩
      have hn : (j - 0).toNat = j.toNat := by simp
      rw [hn] at q
      exact q _ H1 _ k1 M1 wk_range trivial (by rw [List.length_map, List.length_range, sizeLine_eq]; omega)
    · cases e3
  | _ => cases e3
theorem tI_rng2 {a b : E} {R : It → Hp → Prop} : tI K φ .rng (.cons a (.cons b .nil)) σ H R → iRng2 (tA false K φ (.cons a (.cons b .nil))) σ H R := by
  rintro ⟨O, C, ρ, m, xs, m', M, En, ev, q⟩
  obtain ⟨r, m1, e1, ev⟩ := bind_eq_ok ev
  obtain ⟨x, y, m2, e2, e2', rfl⟩ := args_two e1
  obtain ⟨e3, rfl⟩ := of_eq_ok ev
  refine ⟨O, C, ρ, m, [x, y], m1, M, En, e1, fun vs H1 k1 M1 RA => ?_⟩
  obtain ⟨v, w, rfl, h1, h2⟩ := RbAll.two RA
  cases x with
  | int i =>
    cases y with
    | int j =>
      have e3 : rngD i j = some xs := e3
      unfold rngD at e3
      split at e3
      · rename_i hc
        simp only [Bool.and_eq_true, decide_eq_true_eq] at hc
        cases e3
        cases h1.int
        cases h2.int
        refine ⟨i, j, rfl, by omega, ?_⟩
        exact q _ H1 _ k1 M1 wk_range trivial (by rw [List.length_map, List.length_range, sizeLine_eq]; omega)
      · cases e3
    | _ => cases e3
  | _ => cases e3
theorem tI_enum {a : E} {R : It → Hp → Prop} : tI K φ .enum (.cons a .nil) σ H R → iEnum K (tA (!isBr (kd a)) K φ (.cons a .nil)) σ H R ∨ iEnumT K (tA (!isBr (kd a)) K φ (.cons a .nil)) σ H R := by
  rintro ⟨O, C, ρ, m, xs, m', M, En, ev, q⟩
  obtain ⟨r, m1, e1, ev⟩ := bind_eq_ok ev
  obtain ⟨x, e2, rfl⟩ := args_one e1
  obtain ⟨e3, rfl⟩ := of_eq_ok ev
  have hbr : brA (.cons a .nil) = isBr (kd a) := by simp [brA]
  rw [hbr] at q
  cases x with
  | lst l =>
    cases e3
    refine .inl ⟨O, C, ρ, m, [.lst l], m1, M, En, e1, fun vs H1 k1 M1 RA => ?_⟩
    obtain ⟨v, rfl, hb, hp⟩ := RA.one
    have src : ∃ p vs, v = .ref p ∧ SrcL K (isBr (kd a)) p vs l O C H1 ∧ vs.length ≤ sizeLine ∧ l.length = vs.length := by
      cases hk : isBr (kd a) with
      | true =>
        rw [hk] at hb
        obtain ⟨p, xs, e, h, z, r⟩ := hb rfl
        exact ⟨p, xs, e, ⟨h, r⟩, z, r.length⟩
      | false =>
        rw [hk] at hp
        cases hp rfl with
        | lst h z r => exact ⟨_, _, rfl, ⟨h, r⟩, z, r.length⟩
    obtain ⟨p, vs, rfl, s, z, hl⟩ := src
    exact ⟨p, vs, rfl, s.1.sq, q _ H1 _ k1 M1 (wk_enum hl) s (by rw [enumFrom_len]; omega)⟩
  | tup l =>
    cases e3
    refine .inr ⟨O, C, ρ, m, [.tup l], m1, M, En, e1, fun vs H1 k1 M1 RA => ?_⟩
    obtain ⟨v, rfl, hb, hp⟩ := RA.one
    have src : ∃ p vs, v = .ref p ∧ SrcT K p vs l O C H1 ∧ vs.length ≤ sizeLine ∧ l.length = vs.length := by
      cases hk : isBr (kd a) with
      | true =>
        rw [hk] at hb
        exact rb_srcT (hb rfl)
      | false =>
        rw [hk] at hp
        cases hp rfl with
        | tup h z r => exact ⟨_, _, rfl, ⟨h, r⟩, z, r.length⟩
    obtain ⟨p, vs, rfl, s, z, hl⟩ := src
    exact ⟨p, vs, rfl, s.1, q _ H1 _ k1 M1 (wk_enumT hl) s (by rw [enumFrom_len]; omega)⟩
  | _ => cases e3
end
end Ev

set_option maxHeartbeats 4000000
namespace Ev
open PySem PySem.Spec PyProof.Rows L2
theorem keyIs_keyD (p k : Key) : keyIsD (keyD p) (keyD k) = decide (p = k) := by
  cases p <;> cases k <;> simp [keyIsD, keyD]
theorem hasD_ents (k : Key) : ∀ (kvs : List (Key × V)) (ds : List D), ds.length = kvs.length → hasD (keyD k) (entsK kvs ds) = kvs.any fun kv => decide (kv.1 = k)
  | [], ds, _ => by cases ds <;> rfl
  | p :: r, [], h => by cases h
  | p :: r, d :: ds, h => by
    show (keyIsD (keyD p.1) (keyD k) || hasD (keyD k) (entsK r ds)) = (decide (p.1 = k) || r.any _)
    rw [keyIs_keyD, hasD_ents k r ds (Nat.succ.inj h)]
theorem ents_app (k : Key) (z : V) (d : D) : ∀ (kvs : List (Key × V)) (ds : List D), ds.length = kvs.length → entsK kvs ds ++ [.tup [keyD k, d]] = entsK (kvs ++ [(k, z)]) (ds ++ [d])
  | [], [], _ => rfl
  | [], _ :: _, h => by cases h
  | p :: r, [], h => by cases h
  | p :: r, e :: ds, h => by
    show _ :: (entsK r ds ++ _) = _ :: entsK (r ++ _) (ds ++ _)
    rw [ents_app k z d r ds (Nat.succ.inj h)]
section
variable {K : Frag} {O C : List Addr} {H : Hp}
theorem rep_ents {k : Key} {z : V} {d : D} (hz : Rp K O C H d z) : ∀ (kvs : List (Key × V)) (ds : List D), RpAll K O C H ds (kvs.map (·.2)) →
    ∃ ds', repD (keyD k) d (entsK kvs ds) = entsK (kvs.map fun kv => if kv.1 = k then (kv.1, z) else kv) ds' ∧ RpAll K O C H ds' ((kvs.map fun kv => if kv.1 = k then (kv.1, z) else kv).map (·.2))
  | [], ds, h => by cases h; exact ⟨[], rfl, .nil⟩
  | p :: r, _, h => by
    cases h with
    | cons h1 h2 =>
      rename_i d0 ds
      obtain ⟨ds', e, r'⟩ := rep_ents hz r ds h2
      by_cases hk : p.1 = k
      · refine ⟨d :: ds', ?_, ?_⟩
        · show D.tup [keyD p.1, if keyIsD (keyD p.1) (keyD k) then d else d0] :: repD (keyD k) d (entsK r ds) = entsK ((if p.1 = k then (p.1, z) else p) :: _) (d :: ds')
          rw [keyIs_keyD, decide_eq_true hk, if_pos hk, e]
          rfl
        · show RpAll K O C H (d :: ds') ((if p.1 = k then (p.1, z) else p).2 :: _)
          rw [if_pos hk]
          exact .cons hz r'
      · refine ⟨d0 :: ds', ?_, ?_⟩
        · show D.tup [keyD p.1, if keyIsD (keyD p.1) (keyD k) then d else d0] :: repD (keyD k) d (entsK r ds) = entsK ((if p.1 = k then (p.1, z) else p) :: _) (d0 :: ds')
          rw [keyIs_keyD, decide_eq_false hk, if_neg hk, e]
          rfl
        · show RpAll K O C H (d0 :: ds') ((if p.1 = k then (p.1, z) else p).2 :: _)
          rw [if_neg hk]
          exact .cons h1 r'
theorem put_ents {k : Key} {z : V} {d : D} {kvs : List (Key × V)} {ds : List D} (hz : Rp K O C H d z) (h : RpAll K O C H ds (kvs.map (·.2))) :
    ∃ ds', dputD (keyD k) d (entsK kvs ds) = entsK (putK kvs k z) ds' ∧ RpAll K O C H ds' ((putK kvs k z).map (·.2)) := by
  have hl : ds.length = kvs.length := by rw [h.length, List.length_map]
  unfold dputD putK
  rw [hasD_ents k kvs ds hl]
  split
  · exact rep_ents hz kvs ds h
  · refine ⟨ds ++ [d], ents_app k z d kvs ds hl, ?_⟩
    rw [List.map_append]
    exact h.append (.cons hz .nil)
theorem Keep.putK {Z : List Addr} {p : Addr} {kvs : List (Key × V)} {o : HO} (h : H p = some (.dK kvs)) (z : p ∈ Z) : Keep Z H (upd H p o) := by
  refine ⟨fun x u e n => ?_, fun x u e => ?_, fun x u w e => ?_⟩
  · rw [upd_ne (fun q => n (by rw [q]; exact z))]; exact e
  · rw [upd_ne (fun q => by subst q; rw [h] at e; cases e)]; exact e
  · rw [upd_ne (fun q => by subst q; rw [h] at e; cases e)]; exact e
theorem MemOk.putG {H1 : Hp} {m : Mem} {p : Addr} {o : HO} (M : MemOk K O C H1 m) (kk : Keep [p] H1 (upd H1 p o)) (hO : p ∈ O) (hC : p ∉ C) : MemOk K O C (upd H1 p o) m := by
  refine ⟨M.len, fun n a d e1 e2 => (M.at_ n a d e1 e2).move2 (Z := [p]) (by simpa using hO) kk (fun a _ hn => hn) (fun _ _ e => e) ?_, M.sub, M.nd, fun a ha => ?_⟩
  · have : a ∈ C := List.mem_of_getElem? e1
    simp only [List.mem_singleton]
    exact fun q => hC (q ▸ this)
  · by_cases q : a = p
    · subst q; exact ⟨o, upd_same⟩
    · obtain ⟨o', e'⟩ := M.al a ha
      exact ⟨o', by rw [upd_ne q]; exact e'⟩
theorem key_of {d : D} {v : V} (hk : isKeyD d = true) (h : Rp K O C H d v) : ∃ k, v = kV k ∧ d = keyD k := by
  cases d with
  | int i => cases h; exact ⟨.inl i, rfl, rfl⟩
  | str s => cases h; exact ⟨.inr s, rfl, rfl⟩
  | _ => cases hk
end
/-- the turn of a dict comprehension -/
def dcompG (φ : Phi) (own : List Nat) (t : T) (ifs key val : E) (ρ : Env) (x : D) (m : Mem) : Out (Option (D × D)) := match putT t x (wipeE ρ own) with
  | some ρ1 => (evE φ ifs ρ1 m).bind fun c m => match truD c with
    | some true => (evE φ key ρ1 m).bind fun y m => (evE φ val ρ1 m).bind fun z m => .ok (some (y, z)) m
    | some false => .ok none m
    | none => .no
  | none => .no
section
variable {K : Frag} {φ : Phi} {X : Cx} {σ : SSt} {H : Hp} {Q : VK}
theorem tE_dcomp {own : List Nat} {t : T} {k : ItK} {it ifs key val : E} (ho : ∀ i ∈ slotsT t, i ∈ own) (hbk : isBr (kd key) = false) (hb : isBr (kd val) = false) :
    tE K φ (.dcomp own t k it ifs key val) σ H Q → tDc (tI K φ k it) (tG K t) (tT K φ ifs) (tE K φ key) (tE K φ val) own σ H Q := by
  rintro ⟨O, C, ρ, m, r, m', M, En, ev, q⟩
  have ev : (evE φ it ρ m).bind (fun r m => (Out.of m (itemsD k (argsOf r))).bind fun xs m => dcompL (dcompG φ own t ifs key val ρ) xs [] m) = .ok r m' := ev
  obtain ⟨a0, m0, e0, ev⟩ := bind_eq_ok ev
  obtain ⟨xs, m1, e1, ev⟩ := bind_eq_ok ev
  refine ⟨O, C, ρ, m, xs, m1, M, En, by show (evE φ it ρ m).bind _ = _; rw [e0]; exact e1, fun J H1 G k1 M1 wk g z Da hDa => ?_⟩
  have En1 : EnvOk K O C H1 ρ σ := En.keep M.sub k1
  have hDC : Da ∉ C := fun h => by obtain ⟨o, e⟩ := M1.alC Da h; rw [hDa] at e; cases e
  have hDO : Da ∉ O := fun h => by obtain ⟨o, e⟩ := M1.al Da h; rw [hDa] at e; cases e
  have hOD : ∀ a, Alv H1 a → a ∉ O → a ∉ Da :: O := fun a ⟨o, e⟩ hn => by
    rw [List.mem_cons, not_or]
    exact ⟨ne_of_none e hDa, hn⟩
  have envAt : ∀ {Hc}, Keep C H1 Hc → EnvOk K (Da :: O) C Hc (wipeE ρ own) (L2.wipe σ own) := fun {Hc} kk =>
    (En1.move2 M.sub kk hOD (fun a h => List.mem_cons_of_mem _ h) (fun _ _ e => e) (fun _ _ h => h) (fun i d a h1 h2 => by
      obtain ⟨b, q1, _, q2, _⟩ := En1.own i d h1
      rw [h2] at q1; cases q1; exact q2)).wipe own
  have gAt : ∀ {Hc}, Keep C H1 Hc → G (Da :: O) C Hc := fun {Hc} kk => wk.mv O C H1 (Da :: O) Hc M.sub kk hOD g
  refine ⟨fun i j Hc => j = xs.length - i ∧ i ≤ xs.length ∧ ∃ kvs ds mi, Hc Da = some (.dK kvs) ∧ kvs.length ≤ i ∧ RpAll K (Da :: O) C Hc ds (kvs.map (·.2)) ∧ MemOk K (Da :: O) C Hc mi ∧ Keep C H1 Hc ∧ dcompL (dcompG φ own t ifs key val ρ) (xs.drop i) (entsK kvs ds) mi = .ok r m',
    ⟨xs.length, by simp, Nat.zero_le _, [], [], m1, upd_same, Nat.le_refl _, .nil, M1.cons hDa, Keep.new hDa, ev⟩, ?_⟩
  rintro i j Hc ⟨rfl, hi, kvs, ds, mi, hD, hv, hr, hM, hk, hev⟩
  by_cases hlt : i < xs.length
  · obtain ⟨x0, hx0⟩ : ∃ d, xs[i]? = some d := ⟨xs[i], by simp [hlt]⟩
    have hdrop : xs.drop i = x0 :: xs.drop (i + 1) := by
      rw [List.drop_eq_getElem_cons hlt]
      congr 1
      rw [List.getElem?_eq_getElem hlt] at hx0
      exact Option.some.inj hx0
    rw [hdrop] at hev
    have hev : (dcompG φ own t ifs key val ρ x0 mi).bind (fun y m => match y with
      | some (k, v) => if isKeyD k then dcompL (dcompG φ own t ifs key val ρ) (xs.drop (i + 1)) (dputD k v (entsK kvs ds)) m else .no
      | none => dcompL (dcompG φ own t ifs key val ρ) (xs.drop (i + 1)) (entsK kvs ds) m) = .ok r m' := hev
    obtain ⟨y, m2, ey, hev⟩ := bind_eq_ok hev
    refine .inr ⟨wk.go i _ _ Hc hlt (gAt hk), fun H' => (i + 1 ≤ xs.length ∧ ∃ kvs ds mi, H' Da = some (.dK kvs) ∧ kvs.length ≤ i + 1 ∧ RpAll K (Da :: O) C H' ds (kvs.map (·.2)) ∧ MemOk K (Da :: O) C H' mi ∧ Keep C H1 H' ∧ dcompL (dcompG φ own t ifs key val ρ) (xs.drop (i + 1)) (entsK kvs ds) mi = .ok r m'),
      fun H' h => ⟨xs.length - (i + 1), by omega, rfl, h.1, h.2⟩, fun x H' hy => ?_⟩
    obtain ⟨ky, rx⟩ := wk.yld i _ _ Hc x H' x0 hx0 (gAt hk) hy
    unfold dcompG at ey
    split at ey
    · rename_i ρ1 hρ1
      obtain ⟨c, m3, ec, ey⟩ := bind_eq_ok ey
      refine ⟨Da :: O, C, wipeE ρ own, x0, ρ1, envAt (hk.trans (ky C)), rx, hρ1, fun σ2 En2 w2 => ⟨?_, ?_⟩⟩
      · rw [w2 own ho, wipe_wipe]
      have D' : H' Da = some (.dK kvs) := (ky []).ob Da _ hD (by simp)
      have M' : MemOk K (Da :: O) C H' mi := hM.grow ky
      split at ey
      · rename_i ht
        obtain ⟨y', m4, ee, ey⟩ := bind_eq_ok ey
        obtain ⟨z', m5, ez, ey⟩ := bind_eq_ok ey
        cases ey
        refine ⟨Da :: O, C, ρ1, mi, c, m3, true, M', En2, ec, ht, fun H3 k3 M3 => ?_⟩
        (try dsimp only)
        rw [if_pos rfl]
        refine .go M3 (En2.keep hM.sub k3) ee fun v H4 k4 M4 En4 R4 => ?_
        refine .go M4 En4 ez fun u H5 k5 M5 En5 R5 => ?_
        have D5 : H5 Da = some (.dK kvs) := k5.ob Da _ (k4.ob Da _ (k3.ob Da _ D' hDC) hDC) hDC
        have K5 : Keep C H1 H5 := (((hk.trans (ky C)).trans k3).trans k4).trans k5
        (try dsimp only at hev)
        split at hev
        case isFalse => cases hev
        rename_i hkey
        obtain ⟨kk, rfl, rfl⟩ := key_of hkey (R4.pl M3 hbk)
        have hr5 := (((hr.keep hM.sub (ky C)).keep hM.sub k3).keep hM.sub k4).keep hM.sub k5
        obtain ⟨ds', e6, r6⟩ := put_ents (k := kk) (R5.pl M4 hb) hr5
        rw [e6] at hev
        refine ⟨kvs, kk, rfl, D5, by omega, hlt, putK kvs kk u, ds', _, upd_same, by have := length_putK kvs kk u; omega, r6.keep (Z := [Da]) (by simp) (Keep.putK D5 (by simp)), M5.putG (Keep.putK D5 (by simp)) (by simp) hDC, K5.put_new hDa, hev⟩
      · rename_i ht
        cases ey
        refine ⟨Da :: O, C, ρ1, mi, c, _, false, M', En2, ec, ht, fun H3 k3 M3 => ?_⟩
        (try dsimp only)
        rw [if_neg Bool.false_ne_true]
        exact ⟨hlt, kvs, ds, _, k3.ob Da _ D' hDC, by omega, (hr.keep hM.sub (ky C)).keep hM.sub k3, M3, (hk.trans (ky C)).trans k3, hev⟩
      · cases ey
    · cases ey
  · have e : i = xs.length := by omega
    subst e
    rw [List.drop_length] at hev
    cases hev
    refine .inl ⟨wk.stop _ _ Hc (gAt hk), ?_⟩
    exact q _ Hc (k1.trans hk) (hM.less M.sub) (.dic hD hDO (by omega) rfl hr.less) trivial
theorem tups_laid {pins : List (Addr × Obj)} {s : Shared} {h' : Heap} {tk : Nat} {kvs : List (Key × V)} {vs : List (Key × Value)} {as : List Addr} (I : Inv X pins σ H s) (kv : KV kvs vs) (hk : ∀ b o, s.heap.get? b = some o → h'.get? b = some o) (hl : as.length = vs.length)
    (hG : PySem.W.KdxG (mixKind X.prog X.w) vs s.heap.objs.size h' as) : ∃ H' : Hp, (∀ b o, H b = some o → H' b = some o) ∧ Paired (fun (t : Addr) (p : Key × V) => H' t = some (.tup [kV p.1, p.2])) as kvs ∧ Inv X pins σ H' { s with heap := h', toks := tk } := by
  have lk : kvs.length = vs.length := Paired.length kv
  have new : ∀ t ∈ as, H t = none := fun t ht => I.hok.fresh (Nat.le_of_lt (hG.above t ht))
  have hat := LiI.putT_at as kvs H (by omega) (List.Pairwise.imp (fun {a b} (h : a < b) => Nat.ne_of_lt h) hG.rise)
  have kp : ∀ b u, H b = some u → LiI.putT H as kvs b = some u := fun b u e => by
    rw [LiI.putT_off as kvs _ fun z => by rw [new b z] at e; cases e]
    exact e
  refine ⟨_, kp, hat, I.call' (ch := []) rfl ⟨fun b o q _ _ _ => hk b o q, fun b o q _ _ _ => ⟨o.slots, hk b o q⟩, fun b o q n _ => ?_, fun b o q _ => ⟨o, hk b o q⟩, fun b xs q => kp b _ q, fun b o u q => kp b _ q, fun b ps q => ⟨#[], by rw [kp b _ q]; simp⟩⟩ (fun b u q => ?_) I.bare fun b z => by simp at z⟩
  · rw [LiI.putT_off as kvs _ fun z => absurd (Heap.lt_size q) (Nat.not_lt.mpr (Nat.le_of_lt (hG.above b z)))]
    exact n
  · by_cases hb : b ∈ as
    · obtain ⟨j, pk, e1, e2, e3⟩ := LiI.paired_ix hat hb
      rw [e3] at q
      cases q
      obtain ⟨key, k, x, f1, f2, f3⟩ := hG.pairs j b e1
      obtain ⟨qv, g1, g2, g3⟩ := LiI.paired_get kv e2
      rw [f1] at g1
      cases g1
      have rk : RelV (kV pk.1) key := by
        rw [g2]
        exact relV_key (show keyIs k key = true from f2)
      exact ⟨two_line, [key, x], .cons rk (.cons g3 .nil), ⟨_, f3, rfl, _, rfl⟩⟩
    · rw [LiI.putT_off as kvs _ hb] at q
      exact (I.hok b u q).stay (fun d v _ y => hk d v y) (fun d y => kp d _ y) fun d xs y => kp d _ y
theorem ents_rp {O C : List Addr} {H' : Hp} : ∀ {kvs : List (Key × V)} {ds : List D} {as : List Addr}, RpAll K O C H' ds (kvs.map (·.2)) → Paired (fun (t : Addr) (p : Key × V) => H' t = some (.tup [kV p.1, p.2])) as kvs → RpAll K O C H' (entsK kvs ds) (as.map V.ref)
  | [], _, _, r, p => by cases p; cases r; exact .nil
  | kv :: kvs, _, _, r, p => by
    cases p with
    | cons h t =>
      cases r with
      | cons r1 r2 =>
        refine .cons (.tup (.inl (.inl h)) two_line (.cons ?_ (.cons r1 .nil))) (ents_rp r2 t)
        cases kv.1 with
        | inl i => exact .int i
        | inr s => exact .str s
/-- d.items() put in order: what is asked of d -/
def rSit (K : Frag) : V → Hp → VK → Prop := fun v H Q => ∃ O C l r, (∀ a ∈ C, a ∈ O) ∧ Rp K O C H (.dic l) v ∧ sitD (.dic l) = some r ∧ ∀ v' H', (∀ Z, Keep Z H H') → Rv .fr K O C H H' r v' → Q v' H'
def tSit (K : Frag) (te : TE) : TE := fun σ H Q => te σ H fun v H1 => rSit K v H1 Q
theorem pe_sortedItems {e : Expr} {te : TE} {p apos cpos pos : Pos} (hc : X.calm = true) (hu : X.A.units + 80 < cLine) (he : PE X e te) (hg : Gl X "sorted") (hm : X.mg "sorted" = none) (hbase : attributeBase e "items" X.env (eval e X.env) = eval e X.env) (hline : (apos.endLine == cpos.line) = true)
    (hs : starEach [.Call (.Attribute e "items" apos) [] [] cpos] X.env = (false, eval (.Call (.Attribute e "items" apos) [] [] cpos) X.env) :: starEach [] X.env) :
    PE X (.Call (.Name "sorted" p) [.Call (.Attribute e "items" apos) [] [] cpos] [] pos) (tSit X.K te) := by
  refine ⟨fun pins s σ H Q I hq => ?_⟩
  refine wpAny_Call_Name_kw (ld_blt I hg hm PyProof.Rows.boot_sorted ?_)
  refine PyProof.Rows.callWith_builtin1 ?_ hs rfl
  rw [hs]
  show wpAny _ _ (spliced ((false, eval (.Call (.Attribute e "items" apos) [] [] cpos) X.env) :: backTo pos (starEach [] X.env))) _ _ s
  refine Calls.spliced_cons ?_
  refine wpAny_Call_method (T := "dict") (id := "dict.items") hbase rfl hline F.plainAttrs_dict F.slot_dict_items F.type_dict_items (thn (he.run pins s σ H _ I hq) fun u s1 ⟨x, H1, I1, rx, O, C, l, r, hC, rp, hsit, q⟩ => ?_)
  cases rp with
  | dic hd hnO hz el r1 =>
    rename_i d kvs ds
    obtain rfl : u = Value.ref d := rx
    obtain ⟨_, hs0, vs, kv, hdo⟩ := I1.hok d _ hd
    obtain ⟨ep, hat⟩ := hdo.dictAt
    have lk : kvs.length = vs.length := Paired.length kv
    have I2 : Inv X pins σ H1 { s1 with heap := s1.heap.push { cls := .type "dict_items", data := .fields #[.ref d] } } := I1.kept (t' := s1.toks) fun b ob q => Heap.get?_push_of_some _ q
    refine ⟨hdo.typeIs, hdo.mapOf.noDict, ?_⟩
    show wpAny _ _ (callWith cpos (.builtin "dict.items") [.ref d] [] []) _ X.xe s1
    refine method_meetsIn F.slot_dict_items F.entry_dict_items rfl (PySem.evalArgs_none ⟨rfl, hdo.typeIs, F.args_dict_items_1 _, _, meets_dict_items (mixKind X.prog X.w) d hs0, ⟨vs, hdo⟩, ?_⟩)
    refine Calls.spliced_nil ?_
    obtain ⟨m, hm1, rfl⟩ := Option.map_eq_some_iff.mp (show (sortD l).map D.lst = some r from hsit)
    refine sorted_col (P := fun h1 tk us => ∃ as : List Addr, us = as.map Value.ref ∧ (∀ b o, (s1.heap.push { cls := .type "dict_items", data := .fields #[.ref d] }).get? b = some o → h1.get? b = some o) ∧ as.length = vs.length ∧ PySem.W.KdxG (mixKind X.prog X.w) vs (s1.heap.push { cls := .type "dict_items", data := .fields #[.ref d] }).objs.size h1 as)
      (R := fun v (p : V × D) => RelV p.1 v) (enc := fun p => toPy p.2) (fun Rr hR => ?_) fun h1 tk us hP => ?_
    · exact PySem.W.kdx_collect (A := X.A.in1) (knd := mixKind X.prog X.w) (kvs := vs) (ep := ep) (I1.ok.hd hc) ⟨_, Heap.get?_push_size _ rfl, rfl, rfl⟩ (hat.push _) (by omega) fun h' tk as hk hl hG => hR h' tk _ ⟨as, rfl, hk, hl, hG⟩
    · obtain ⟨as, rfl, hk, hl, hG⟩ := hP
      obtain ⟨H2, k2, hp, J⟩ := tups_laid (tk := tk) I2 kv hk hl hG
      have K2 : ∀ Z, Keep Z H1 H2 := fun Z => ⟨fun a o e _ => k2 a o e, fun a xs e => k2 a _ e, fun a o u e => k2 a _ e⟩
      have r2 : RpAll X.K O C H2 ds (kvs.map (·.2)) := r1.keep (Z := []) (by simp) (K2 [])
      have r3 : RpAll X.K O C H2 l (as.map V.ref) := by rw [el]; exact ents_rp r2 hp
      obtain ⟨bs, c1, c2, c3, c4, c5, c6, fin⟩ := sort_data hu J r3 (LiI.vals_refs as) (by rw [List.length_map]; omega) hm1
      refine ⟨bs, c1, c2, c3, c4, c5, c6, fun out p h' c e1 e2 e3 e4 e5 => ?_⟩
      obtain ⟨ys, J2, kk, R⟩ := fin out p h' c tk e1 e2 e3 e4 e5
      refine ⟨.ref p, _, J2, rfl, q _ _ (fun Z => (K2 Z).trans (kk Z)) ?_⟩
      obtain ⟨p', xs, e, hp', e2', z, rr⟩ := R
      refine ⟨p', xs, e, ?_, e2', z, rr⟩
      cases hq' : H1 p' with
      | none => rfl
      | some o => rw [k2 _ _ hq'] at hp'; cases hp'
theorem tE_sit {a : E} (hb : isBr (kd a) = false) : tE K φ (.sitems a) σ H Q → tSit K (tE K φ a) σ H Q := by
  rintro ⟨O, C, ρ, m, r, m', M, En, ev, q⟩
  obtain ⟨x, m1, e1, ev⟩ := bind_eq_ok (show (evE φ a ρ m).bind (fun x m => Out.of m (sitD x)) = .ok _ m' from ev)
  obtain ⟨e2, rfl⟩ := of_eq_ok ev
  refine .go M En e1 fun v H1 k1 M1 En1 R1 => ?_
  cases x with
  | dic l =>
    refine ⟨O, C, l, r, M.sub, R1.pl M hb, e2, fun v' H' k R => ?_⟩
    exact q v' H' (k1.trans (k C)) (M1.grow k) (R.base k1 M1) (Rv.frm M1 k R)
  | _ => cases e2
end
end Ev

set_option maxHeartbeats 4000000
namespace Ev
open PySem PySem.Spec PyProof.Rows L2
/-- where we are: the slots' names, the scope, the names whose cells are the block's own -/
structure Cc where
  N : List Str
  sc : Scope
  cl : List Str
/-- the module: names it does not bind, its functions -/
structure Gc where
  blt : List Str
  fns : List (Str × Nat × Nat)
  cns : List (Str × Int)
  gcds : List Str
def visC (sc : Scope) (x : Str) : Bool := match sc.names.lookup x with
  | some .local => true
  | some .cell => true
  | some .free => true
  | _ => false
def glC (sc : Scope) (x : Str) : Bool := match sc.names.lookup x with
  | some .globalImplicit => true
  | _ => false
def nmC (c : Cc) (i : Nat) (x : Str) : Bool := decide (c.N[i]? = some x) && visC c.sc x && !(x == ("__debug__" : Str)) && !(x == ("__classdict__" : Str))
def stC (c : Cc) (i : Nat) (x : Str) : Bool := decide (c.N[i]? = some x) && (match c.sc.names.lookup x with
  | some .local => true
  | some .cell => c.cl.contains x
  | _ => false)
def relS (sc scope : Scope) : Scope := { scope with names := scope.names.map fun (n, k) => if (k == .free && sc.kind == .function && sc.names.lookup n == some .cell) then (n, .cell) else (n, k) }
def inComp (c : Cc) (scope : Scope) : Cc := { c with sc := relS c.sc scope, cl := (scope.names.filter fun y => y.2 == .cell).map (·.1) }
def plainT : Expr → Bool
  | .UnaryOp .Not _ _ => false
  | .BoolOp .. => false
  | .IfExp .. => false
  | .Compare .. => false
  | _ => true
def plainI : Expr → Bool
  | .Slice .. => false
  | _ => true
def notSet : Expr → Bool
  | .Set .. => false
  | _ => true
def noStar : List Expr → Bool
  | [] => true
  | .Starred .. :: _ => false
  | _ :: r => noStar r
def argN : E → Option Nat
  | .nil => some 0
  | .cons _ es => (argN es).map (· + 1)
  | _ => none
def smallN : Option Nat → Bool
  | some n => decide (n ≤ 1000)
  | none => false
def primN : Prim → Str
  | .len => "len"
  | .sum => "sum"
  | .min => "min"
  | .max => "max"
  | .min2 => "min"
  | .max2 => "max"
  | .sorted => "sorted"
  | .all => "all"
  | .any => "any"
  | .list => "list"
  | .tuple => "tuple"
  | .int => "int"
  | .abs => "abs"
  | _ => ""
def primOk : Prim → Bool
  | .range1 => false
  | .range2 => false
  | .isInt => false
  | .isBool => false
  | .isTup => false
  | .isLst => false
  | .isTupLst => false
  | .isStr => false
  | .gcd => false
  | _ => true
def isGcd : Prim → Bool
  | .gcd => true
  | _ => false
def isiS : Prim → Str
  | .isInt => "int"
  | .isBool => "bool"
  | .isStr => "str"
  | .isTup => "tuple"
  | .isLst => "list"
  | _ => ""
def isTL : Prim → Bool
  | .isTupLst => true
  | _ => false
/-- isinstance -/
def isiC (G : Gc) (c : Cc) (p : Prim) (n : Option Nat) (a : Bool → Cc → List Expr → Bool) (x : Str) (y : Expr) (ys : List Expr) : Bool := match ys with
  | [.Name t _] => (isiT p).isSome && t == isiS p && decide (n = some 1) && x == ("isinstance" : Str) && glC c.sc x && G.blt.contains x && glC c.sc t && G.blt.contains t && noStar [y] && a false c [y]
  | [.Tuple [.Name t _, .Name l _] _ _] => isTL p && t == ("tuple" : Str) && l == ("list" : Str) && decide (n = some 1) && x == ("isinstance" : Str) && glC c.sc x && G.blt.contains x && glC c.sc t && G.blt.contains t && glC c.sc l && G.blt.contains l && noStar [y] && a false c [y]
  | _ => false
def chkG (c : Cc) : T → Expr → Bool
  | .name i, .Name x _ => stC c i x
  | .tup ts, .Tuple es _ _ => chkGs c ts es
  | _, _ => false
where
  chkGs (c : Cc) : T → List Expr → Bool
  | .nil, [] => true
  | .cons (.name i) ts, .Name x _ :: es => stC c i x && chkGs c ts es
  | .cons (.tup t) ts, .Tuple xs _ _ :: es => chkGs c t xs && chkGs c ts es
  | _, _ => false
def slotsOk (own : List Nat) (t : T) : Bool := (slotsT t).all own.contains
structure Ck where
  e : Cc → Expr → Bool
  t : Cc → Expr → Bool
  a : Bool → Cc → List Expr → Bool
def Ck.no : Ck := ⟨fun _ _ => false, fun _ _ => false, fun _ _ _ => false⟩
def Ck.mk' (f : Cc → Expr → Bool) : Ck := ⟨f, fun c x => plainT x && f c x, fun _ _ _ => false⟩
def optC (f : Expr → Bool) (e : E) : Option Expr → Bool
  | none => isSkip e
  | some x => !isSkip e && f x
/-- the names of own slots -/
def ownN (c : Cc) (own : List Nat) : List (Str × Nat) := own.filterMap fun i => (c.N[i]?).map fun x => (x, i)
def itC (G : Gc) (k : ItK) (n : Option Nat) (a : Bool → Cc → List Expr → Bool) (c : Cc) (tg iter : Expr) : Bool := match k, iter with
  | .val, x => decide (n = some 1) && a false c [x] && notSet x
  | .rng, .Call (.Name f _) [x] [] _ => decide (n = some 1) && f == ("range" : Str) && glC c.sc f && G.blt.contains f && noStar [x] && a false c [x]
  | .rng, .Call (.Name f _) [x, y] [] _ => decide (n = some 2) && f == ("range" : Str) && glC c.sc f && G.blt.contains f && noStar [x, y] && a false c [x, y]
  | .enum, .Call (.Name f _) [x] [] _ => decide (n = some 1) && f == ("enumerate" : Str) && glC c.sc f && G.blt.contains f && noStar [x] && a false c [x] && (match tg with | .Tuple .. => true | _ => false)
  | _, _ => false
def chk (G : Gc) : E → Ck
  | .slot i => .mk' fun c x => match x with
    | .Name x _ => nmC c i x
    | _ => false
  | .brw i => .mk' fun c x => match x with
    | .Name x _ => nmC c i x
    | _ => false
  | .cst d => .mk' fun c x => match d, x with
    | .int i, .Constant (.int j) _ _ => decide (i = j)
    | .bl i, .Constant (.bool j) _ _ => decide (i = j)
    | .non, .Constant .none _ _ => true
    | .str i, .Constant (.str j) _ _ => decide (i = j)
    | .int i, .Name x _ => decide (G.cns.lookup x = some i) && glC c.sc x && !(x == ("__debug__" : Str))
    | _, _ => false
  | .nil => ⟨fun _ _ => false, fun _ _ => false, fun _ _ xs => xs.isEmpty⟩
  | .cons e es => ⟨fun _ _ => false, fun _ _ => false, fun b c xs => match xs with
    | x :: r => (!b || !isBr (kd e)) && noStar [x] && (chk G e).e c x && (chk G es).a b c r
    | [] => false⟩
  | .tup es => .mk' fun c x => match x with
    | .Tuple xs _ _ => smallN (argN es) && (chk G es).a true c xs
    | _ => false
  | .lst es => .mk' fun c x => match x with
    | .List xs _ => smallN (argN es) && (chk G es).a true c xs
    | _ => false
  | .bin op a b => .mk' fun c x => match x with
    | .BinOp x o y _ => decide (o = pyB op) && (chk G a).e c x && (chk G b).e c y
    | _ => false
  | .neg a => .mk' fun c x => match x with
    | .UnaryOp .USub x _ => (chk G a).e c x
    | _ => false
  | .cmp op a b =>
    let f : Cc → Expr → Bool := fun c x => match x with
      | .Compare x [o] [y] _ => decide (o = pyC op) && !behindInMarks o y && (chk G a).e c x && (chk G b).e c y
      | _ => false
    ⟨f, f, fun _ _ _ => false⟩
  | .chn o p a b d =>
    let f : Cc → Expr → Bool := fun c x => match x with
      | .Compare x [o1, p1] [y, z] _ => decide (o1 = pyC o) && decide (p1 = pyC p) && !lastMarks [o1, p1] [y, z] && (chk G a).e c x && (chk G b).e c y && (chk G d).e c z
      | _ => false
    ⟨f, f, fun _ _ _ => false⟩
  | .and a b => ⟨fun c x => match x with
    | .BoolOp .And [x, y] _ => !isBr (kd a) && !isBr (kd b) && (chk G a).e c x && (chk G b).e c y
    | .BoolOp .And (x :: y :: z :: r) pos => !isBr (kd a) && !isBr (kd b) && (chk G a).e c x && (chk G b).e c (.BoolOp .And (y :: z :: r) pos)
    | _ => false, fun c x => match x with
    | .BoolOp .And [x, y] _ => (chk G a).t c x && (chk G b).t c y
    | .BoolOp .And (x :: y :: z :: r) pos => (chk G a).t c x && (chk G b).t c (.BoolOp .And (y :: z :: r) pos)
    | _ => false, fun _ _ _ => false⟩
  | .or a b => ⟨fun c x => match x with
    | .BoolOp .Or [x, y] _ => !isBr (kd a) && !isBr (kd b) && (chk G a).e c x && (chk G b).e c y
    | .BoolOp .Or (x :: y :: z :: r) pos => !isBr (kd a) && !isBr (kd b) && (chk G a).e c x && (chk G b).e c (.BoolOp .Or (y :: z :: r) pos)
    | _ => false, fun c x => match x with
    | .BoolOp .Or [x, y] _ => (chk G a).t c x && (chk G b).t c y
    | .BoolOp .Or (x :: y :: z :: r) pos => (chk G a).t c x && (chk G b).t c (.BoolOp .Or (y :: z :: r) pos)
    | _ => false, fun _ _ _ => false⟩
  | .not a => ⟨fun c x => match x with
    | .UnaryOp .Not x _ => (chk G a).e c x
    | _ => false, fun c x => match x with
    | .UnaryOp .Not x _ => (chk G a).t c x
    | _ => false, fun _ _ _ => false⟩
  | .ite t a b => ⟨fun c x => match x with
    | .IfExp t' x y _ => !isBr (kd a) && !isBr (kd b) && (chk G t).t c t' && (chk G a).e c x && (chk G b).e c y
    | _ => false, fun _ _ => false, fun _ _ _ => false⟩
  | .idx a b => .mk' fun c x => match x with
    | .Subscript x y _ => plainI y && (chk G a).e c x && (chk G b).e c y
    | _ => false
  | .idxc i b => .mk' fun c x => match x with
    | .Subscript (.Name x _) y _ => plainI y && nmC c i x && (chk G b).e c y
    | _ => false
  | .slc a lo hi => .mk' fun c x => match x with
    | .Subscript x (.Slice l h none _) _ => (chk G a).e c x && optC ((chk G lo).e c) lo l && optC ((chk G hi).e c) hi h
    | _ => false
  | .rev a => .mk' fun c x => match x with
    | .Subscript x (.Slice none none (some (.UnaryOp .USub (.Constant (.int 1) _ _) _)) _) _ => (chk G a).e c x
    | _ => false
  | .call f es => .mk' fun c x => match x with
    | .Call (.Name x _) xs [] _ => match G.fns.lookup x with
      | some (g, n) => decide (f = g) && decide (argN es = some n) && glC c.sc x && !(x == ("__debug__" : Str)) && noStar xs && (chk G es).a true c xs
      | none => false
    | _ => false
  | .prim p es => .mk' fun c x => match x with
    | .Call (.Name x _) (y :: ys) [] _ => (primOk p && x == primN p && smallN (argN es) && glC c.sc x && G.blt.contains x && noStar (y :: ys) && (chk G es).a false c (y :: ys))
        || ((isGcd p && smallN (argN es) && glC c.sc x && G.gcds.contains x && !(x == ("__debug__" : Str)) && noStar (y :: ys) && (chk G es).a false c (y :: ys)) || isiC G c p (argN es) (chk G es).a x y ys)
    | _ => false
  | .comp own t k it ifs elt => .mk' fun c x => match x with
    | .ListComp x [⟨tg, iter, ifs', 0⟩] scope _ =>
      decide ((ownN c own).map (·.2) = own) && blkC c.N c.sc scope (ownN c own) && notSet iter && slotsOk own t && !isBr (kd elt) && itC G k (argN it) (chk G it).a c tg iter && chkG (inComp c scope) t tg
        && (match ifs' with
          | [] => (match ifs with | .cst (.bl true) => true | _ => false)
          | [y] => (chk G ifs).t (inComp c scope) y
          | _ => false) && (chk G elt).e (inComp c scope) x
    | _ => false
  | .dcomp own t k it ifs key val => .mk' fun c x => match x with
    | .DictComp kx vx [⟨tg, iter, ifs', 0⟩] scope _ =>
      decide ((ownN c own).map (·.2) = own) && blkC c.N c.sc scope (ownN c own) && notSet iter && slotsOk own t && (!isBr (kd key) && !isBr (kd val)) && itC G k (argN it) (chk G it).a c tg iter && chkG (inComp c scope) t tg
        && (match ifs' with
          | [] => (match ifs with | .cst (.bl true) => true | _ => false)
          | [y] => (chk G ifs).t (inComp c scope) y
          | _ => false) && ((chk G key).e (inComp c scope) kx && (chk G val).e (inComp c scope) vx)
    | _ => false
  | .sitems a => .mk' fun c x => match x with
    | .Call (.Name f _) [.Call (.Attribute (.Name y p) m apos) [] [] cpos] [] _ => f == ("sorted" : Str) && m == ("items" : Str) && glC c.sc f && G.blt.contains f && apos.endLine == cpos.line && !isBr (kd a) && (chk G a).e c (.Name y p)
    | _ => false
  | _ => .no
end Ev

set_option maxHeartbeats 4000000
namespace Ev
open PySem PySem.Spec PyProof.Rows L2
structure XG (G : Gc) (φ : Phi) (c : Cc) (X : Cx) : Prop where
  calm : X.calm = true
  nd : X.N.Nodup
  eN : X.N = c.N
  sc : X.env.scope = c.sc
  cl : ∀ x, c.cl.contains x = true → X.fn x = true
  blt : ∀ x, G.blt.contains x = true → X.mg x = none
  un : X.A.units + 80 < cLine
  cns : ∀ x i, G.cns.lookup x = some i → ∃ t, X.mg x = some (.int i t)
  gcds : ∀ x, G.gcds.contains x = true → X.mg x = some (.builtin "math.gcd")
  call : ∀ x f n, G.fns.lookup x = some (f, n) → ∃ k addr fd ps, FnOk X.prog X.w X.K X.mg X.base CX0 k addr fd ps (spF X.K φ n f) ∧ Room k X.A ∧ X.mg x = some (.ref addr) ∧ PySem.W.keepIn X.K (.ref addr) = true ∧ Binds X.K fd ps []
section
variable {G : Gc} {φ : Phi} {c : Cc} {X : Cx}
theorem XG.blk {s : Shared} {H : Hp} {scope : Scope} {own : List (Str × Nat)} {cl : List (Str × Addr)} {C : Addr} {fp : List Addr} (g : XG G φ c X) (ok : BlkOk c.N c.sc scope own) : XG G φ (inComp c scope) (X.blk s H scope (compEnvC scope cl C X.env) fp) where
  calm := g.calm
  nd := g.nd
  eN := g.eN
  sc := by
    show relabel scope X.env = relS c.sc scope
    rw [← g.sc]; rfl
  cl := fun x h => by
    show (scope.names.lookup x == some .cell) = true
    have h : ((scope.names.filter fun y => y.2 == .cell).map (·.1)).contains x = true := h
    rw [List.contains_iff_mem] at h
    obtain ⟨y, hy, rfl⟩ := List.mem_map.mp h
    obtain ⟨h1, h2⟩ := List.mem_filter.mp hy
    rw [ok.uniq y h1]
    simpa using h2
  blt := g.blt
  un := g.un
  cns := g.cns
  gcds := g.gcds
  call := g.call
theorem gl_of (g : XG G φ c X) {x : Str} (h : glC c.sc x = true) : Gl X x := by
  unfold glC at h
  show X.env.scope.names.lookup x = _
  rw [g.sc]
  split at h
  · assumption
  · cases h
theorem vis_of (g : XG G φ c X) {x : Str} (h : visC c.sc x = true) : Vis X.env.scope x := by
  unfold visC at h
  rw [g.sc]
  split at h
  · rename_i e; exact .inl e
  · rename_i e; exact .inr (.inl e)
  · rename_i e; exact .inr (.inr e)
  · cases h
theorem nm_of (g : XG G φ c X) {i : Nat} {x : Str} {p : Pos} (h : nmC c i x = true) : PE X (.Name x p) (tVar i) := by
  unfold nmC at h
  simp only [Bool.and_eq_true, decide_eq_true_eq, Bool.not_eq_true'] at h
  obtain ⟨⟨⟨h1, h2⟩, h3⟩, h4⟩ := h
  exact pe_var (by rw [g.eN]; exact h1) (vis_of g h2) h3 h4
theorem st_of (g : XG G φ c X) {i : Nat} {x : Str} (h : stC c i x = true) : X.N[i]? = some x ∧ Loc X.env.scope x ∧ (X.fn x = true ∨ X.env.scope.names.lookup x = some .local) := by
  unfold stC at h
  rw [Bool.and_eq_true, decide_eq_true_eq] at h
  refine ⟨by rw [g.eN]; exact h.1, ?_⟩
  have h2 := h.2
  rw [g.sc]
  split at h2
  · rename_i e; exact ⟨.inl e, .inr e⟩
  · rename_i e; exact ⟨.inr e, .inl (g.cl x h2)⟩
  · cases h2
theorem star_cons {e : Expr} {es : List Expr} {env : PySem.Env} (h : noStar [e] = true) : starEach (e :: es) env = (false, eval e env) :: starEach es env := by
  cases e <;> first | rfl | cases h
theorem noStar_cons {e : Expr} {es : List Expr} (h : noStar (e :: es) = true) : noStar [e] = true ∧ noStar es = true := by
  cases e <;> first | exact ⟨rfl, h⟩ | cases h
theorem star_plain {pos : Pos} {env : PySem.Env} : ∀ {es : List Expr}, noStar es = true → (backTo pos (starEach es env)).any (·.1) = false
  | [], _ => rfl
  | e :: es, h => by
    obtain ⟨h1, h2⟩ := noStar_cons h
    rw [star_cons h1]
    exact star_plain (es := es) h2
theorem ass_cons {e : Expr} {es : List Expr} {env : PySem.Env} (h : noStar [e] = true) : assignEach (e :: es) env = (false, assign e env) :: assignEach es env := by
  cases e <;> first | rfl | cases h
theorem callR_ok {f : Value} {r : List V → Hp → VK → Prop} (h : X.Ok → CallR X f r) : CallR X f r := fun pins s σ H xs us Q I => h I.ok pins s σ H xs us Q I
/-- a built-in function -/
theorem pe_prim {p : Prim} {x : Str} {e : Expr} {es : List Expr} {t : TA} {p1 pos : Pos} (hp : primOk p = true) (hx : x = primN p) (g : XG G φ c X) (hg : Gl X x) (hm : X.mg x = none) (ha : PA X (e :: es) t) (hs : noStar (e :: es) = true) :
    PE X (.Call (.Name x p1) (e :: es) [] pos) (tCB (rPr X.K (kdP p) (primD p)) t) := by
  obtain ⟨s1, s2⟩ := noStar_cons hs
  have he : starEach (e :: es) X.env = (false, eval e X.env) :: starEach es X.env := star_cons s1
  have hpl : (backTo pos (starEach es X.env)).any (·.1) = false := star_plain s2
  subst hx
  cases p with
  | len => exact pe_callB (id := "len") pr_len hg hm boot_len ha (by decide) (by decide) he hpl
  | sum => exact pe_callB (id := "sum") (pr_sum g.calm) hg hm boot_sum ha (by decide) (by decide) he hpl
  | min => exact pe_callB (id := "min") (callR_ok fun ok => pr_min g.calm ok g.un) hg hm boot_min ha (by decide) (by decide) he hpl
  | max => exact pe_callB (id := "max") (callR_ok fun ok => pr_max g.calm ok g.un) hg hm boot_max ha (by decide) (by decide) he hpl
  | min2 => exact pe_callB (id := "min") (pr_min2 g.calm) hg hm boot_min ha (by decide) (by decide) he hpl
  | max2 => exact pe_callB (id := "max") (pr_max2 g.calm) hg hm boot_max ha (by decide) (by decide) he hpl
  | sorted => exact pe_callB (id := "sorted") (pr_sorted g.un) hg hm boot_sorted ha (by decide) (by decide) he hpl
  | all => exact pe_callB (id := "all") (pr_all g.calm) hg hm boot_all ha (by decide) (by decide) he hpl
  | any => exact pe_callB (id := "any") (pr_any g.calm) hg hm boot_any ha (by decide) (by decide) he hpl
  | list => exact pe_callTy (T := "list") pr_list hg hm boot_list ha (by decide) (by decide) he hpl
  | tuple => exact pe_callTy (T := "tuple") pr_tuple hg hm boot_tuple ha (by decide) (by decide) he hpl
  | int => exact pe_callTy (T := "int") pr_int hg hm boot_int ha (by decide) (by decide) he hpl
  | abs => exact pe_callB (id := "abs") pr_abs hg hm boot_abs ha (by decide) (by decide) he hpl
  | _ => cases hp
theorem plainT_eq {x : Expr} (h : plainT x = true) (env : PySem.Env) (whole : Sem Value) : isTrue x env whole = (do let v ← whole; standAt x.pos; holding [v] (truthy v)) := by
  cases x with
  | UnaryOp op a b => cases op <;> first | rfl | cases h
  | _ => first | rfl | cases h
theorem args_argN : ∀ (es : E) (n : Nat) (ρ : Env) (m m' : Mem) (r : D), argN es = some n → evE φ es ρ m = .ok r m' → ∃ l, r = .tup l ∧ l.length = n
  | .nil, n, ρ, m, m', r, hn, h => by
    cases hn
    cases h
    exact ⟨[], rfl, rfl⟩
  | .cons e es, n, ρ, m, m', r, hn, h => by
    obtain ⟨k, hk, rfl⟩ := Option.map_eq_some_iff.mp (show (argN es).map (· + 1) = some n from hn)
    obtain ⟨x, m1, e1, ev⟩ := bind_eq_ok (show (evE φ e ρ m).bind (fun x m => (evE φ es ρ m).bind fun r m => Out.of m (consD x r)) = .ok r m' from h)
    obtain ⟨y, m2, e2, ev⟩ := bind_eq_ok ev
    obtain ⟨l, rfl, hl⟩ := args_argN es k ρ m1 m2 y hk e2
    cases ev
    exact ⟨x :: l, rfl, by rw [List.length_cons, hl]⟩
  | .slot _, _, _, _, _, _, hn, _ | .brw _, _, _, _, _, _, hn, _ | .idxc _ _, _, _, _, _, _, hn, _ | .cst _, _, _, _, _, _, hn, _
  | .tup _, _, _, _, _, _, hn, _ | .lst _, _, _, _, _, _, hn, _ | .dsp _, _, _, _, _, _, hn, _
  | .bin _ _ _, _, _, _, _, _, hn, _ | .neg _, _, _, _, _, _, hn, _ | .cmp _ _ _, _, _, _, _, _, hn, _ | .chn _ _ _ _ _, _, _, _, _, _, hn, _
  | .and _ _, _, _, _, _, _, hn, _ | .or _ _, _, _, _, _, _, hn, _ | .not _, _, _, _, _, _, hn, _ | .ite _ _ _, _, _, _, _, _, hn, _
  | .idx _ _, _, _, _, _, _, hn, _ | .slc _ _ _, _, _, _, _, _, hn, _ | .skipE, _, _, _, _, _, hn, _ | .rev _, _, _, _, _, _, hn, _
  | .call _ _, _, _, _, _, _, hn, _ | .callv _, _, _, _, _, _, hn, _ | .prim _ _, _, _, _, _, _, hn, _ | .meth _ _ _, _, _, _, _, _, hn, _
  | .comp _ _ _ _ _ _, _, _, _, _, _, hn, _ | .dcomp _ _ _ _ _ _ _, _, _, _, _, _, hn, _ | .fld _ _, _, _, _, _, _, hn, _ | .sitems _, _, _, _, _, _, hn, _ => by cases hn
theorem smallN_line {n : Option Nat} (h : smallN n = true) : ∃ k, n = some k ∧ k ≤ sizeLine := by
  unfold smallN at h
  split at h
  · rename_i k
    exact ⟨k, rfl, by rw [sizeLine_eq]; have := of_decide_eq_true h; omega⟩
  · cases h
theorem chkGs_cons {c : Cc} {t ts : T} {x : Expr} {es : List Expr} (h : chkG.chkGs c (.cons t ts) (x :: es) = true) : noStar [x] = true ∧ chkG c t x = true ∧ chkG.chkGs c ts es = true := by
  cases t with
  | name i =>
    cases x with
    | Name y p =>
      have h : (stC c i y && chkG.chkGs c ts es) = true := h
      rw [Bool.and_eq_true] at h
      exact ⟨rfl, h.1, h.2⟩
    | _ => exact absurd (show false = true from h) (by decide)
  | tup t =>
    cases x with
    | Tuple xs k p =>
      have h : (chkG.chkGs c t xs && chkG.chkGs c ts es) = true := h
      rw [Bool.and_eq_true] at h
      exact ⟨rfl, h.1, h.2⟩
    | _ => exact absurd (show false = true from h) (by decide)
  | nil => exact absurd (show false = true from h) (by decide)
  | cons a b => exact absurd (show false = true from h) (by decide)
theorem chkGs_len (c : Cc) : ∀ (ts : T) (es : List Expr), chkG.chkGs c ts es = true → lenT ts = some es.length ∧ ∀ env : PySem.Env, (assignEach es env).length = es.length ∧ (assignEach es env).findIdx? (·.1) = none
  | .nil, [], _ => ⟨rfl, fun _ => ⟨rfl, rfl⟩⟩
  | .cons t ts, x :: es, h => by
    obtain ⟨h0, _, h⟩ := chkGs_cons h
    obtain ⟨h1, h2⟩ := chkGs_len c ts es h
    refine ⟨by simp [lenT, h1], fun env => ?_⟩
    rw [ass_cons h0]
    exact ⟨by simp [(h2 env).1], by simp [List.findIdx?_cons, (h2 env).2]⟩
  | .name _, _, h => by simp [chkG.chkGs] at h
  | .tup _, _, h => by simp [chkG.chkGs] at h
  | .nil, _ :: _, h => by simp [chkG.chkGs] at h
  | .cons _ _, [], h => by simp [chkG.chkGs] at h
theorem soundG : ∀ (t : T), (∀ (c : Cc) (X : Cx) (x : Expr), XG G φ c X → chkG c t x = true → PG X x (tG X.K t)) ∧ (∀ (c : Cc) (X : Cx) (es : List Expr), XG G φ c X → chkG.chkGs c t es = true → PGs X es (tGs X.K t)) := by
  intro t
  induction t with
  | name i =>
    refine ⟨fun c X x g h => ?_, fun c X es g h => by simp [chkG.chkGs] at h⟩
    cases x with
    | Name y p =>
      obtain ⟨h1, h2, h3⟩ := st_of g (show stC c i y = true from h)
      exact pg_imp (pg_name g.nd h1 h2 h3) fun v σ H Q q => tG_name q
    | _ => exact absurd (show false = true from h) (by decide)
  | tup ts ih =>
    refine ⟨fun c X x g h => ?_, fun c X es g h => by simp [chkG.chkGs] at h⟩
    cases x with
    | Tuple es k p =>
      have h : chkG.chkGs c ts es = true := h
      obtain ⟨h1, h2⟩ := chkGs_len c ts es h
      exact pg_imp (pg_tup g.calm (ih.2 c X es g h) (h2 _).1 (h2 _).2) fun v σ H Q q => tG_tup h1 q
    | _ => exact absurd (show false = true from h) (by decide)
  | nil =>
    refine ⟨fun c X x g h => by cases x <;> exact absurd (show false = true from h) (by decide), fun c X es g h => ?_⟩
    cases es with
    | nil => exact pgs_imp pgs_nil fun v σ H Q q => tGs_nil q
    | cons e es => simp [chkG.chkGs] at h
  | cons t ts ih1 ih2 =>
    refine ⟨fun c X x g h => by cases x <;> exact absurd (show false = true from h) (by decide), fun c X es g h => ?_⟩
    cases es with
    | nil => simp [chkG.chkGs] at h
    | cons e es =>
      obtain ⟨h0, h1, h2⟩ := chkGs_cons h
      exact pgs_imp (pgs_cons (ih1.1 c X e g h1) (ih2.2 c X es g h2) (by rw [ass_cons h0]; rfl)) fun v σ H Q q => tGs_cons q
end
end Ev

set_option maxHeartbeats 4000000
namespace Ev
open PySem PySem.Spec PyProof.Rows L2
section
variable {G : Gc} {φ : Phi}
/-- what the checker promises of e -/
structure OkE (G : Gc) (φ : Phi) (z : E) : Prop where
  e : ∀ (c : Cc) (X : Cx) (x : Expr), XG G φ c X → (chk G z).e c x = true → PE X x (tE X.K φ z)
  t : ∀ (c : Cc) (X : Cx) (x : Expr), XG G φ c X → (chk G z).t c x = true → PT X x (tT X.K φ z)
  a : ∀ (b : Bool) (c : Cc) (X : Cx) (xs : List Expr), XG G φ c X → (chk G z).a b c xs = true → PA X xs (tA b X.K φ z)
  h : ∀ a es, z = .cons a es → ∀ (c : Cc) (X : Cx) (x : Expr), XG G φ c X → (chk G a).e c x = true → PE X x (tE X.K φ a)
def isCons : E → Bool
  | .cons _ _ => true
  | _ => false
theorem OkE.mk' {e : E} {f : Cc → Expr → Bool} (hc : chk G e = Ck.mk' f) (nc : isCons e = false) (h : ∀ (c : Cc) (X : Cx) (x : Expr), XG G φ c X → f c x = true → PE X x (tE X.K φ e)) : OkE G φ e := by
  refine ⟨fun c X x g hh => h c X x g (by rw [hc] at hh; exact hh), fun c X x g hh => ?_, fun b c X xs g hh => by rw [hc] at hh; exact absurd (show false = true from hh) (by decide), fun a es q => by subst q; cases nc⟩
  rw [hc] at hh
  have hh : (plainT x && f c x) = true := hh
  rw [Bool.and_eq_true] at hh
  exact pt_imp (pt_truth (h c X x g hh.2) (plainT_eq hh.1 _)) fun σ H Q q => tT_val q
theorem pw_of {X : Cx} {op : BoolOp} {es : List Expr} {pos : Pos} {t : TT} (h : PT X (.BoolOp op es pos) t) : PW X (.BoolOp op es pos) t := ⟨fun wh pins s σ H Q I q => h.run pins s σ H Q I q⟩
theorem no_of {b : Bool} (h : (!b) = true) : b = false := by cases b <;> first | rfl | cases h
theorem optC_of {X : Cx} {c : Cc} {e : E} {f : Expr → Bool} {o : Option Expr} (hf : ∀ x, f x = true → PE X x (tE X.K φ e)) (h : optC f e o = true) : PO X o (tO X.K φ e) := by
  unfold optC at h
  split at h
  · unfold isSkip at h
    split at h
    · exact po_imp po_none fun σ H Q q => tO_skip q
    · cases h
  · rw [Bool.and_eq_true] at h
    exact po_imp (po_some (hf _ h.2)) fun σ H Q q => tO_some (no_of h.1) q
theorem plainIx_of {y : Expr} (h : plainI y = true) : PlainIx y := by
  intro o i
  cases y <;> first | rfl | cases h
theorem tI_none {X : Cx} {k : ItK} {es : E} {σ : SSt} {H : Hp} {R : It → Hp → Prop} {P : Prop} (h : ∀ ρ m xs m', itE φ k es ρ m ≠ .ok xs m') : tI X.K φ k es σ H R → P := by
  rintro ⟨O, C, ρ, m, xs, m', M, En, ev, q⟩
  exact absurd ev (h _ _ _ _)
theorem fold_of {iter : Expr} (h : notSet iter = true) (env : PySem.Env) (x : Value) : foldedSetIterable iter env x = pure x := by
  cases iter <;> first | rfl | cases h
theorem argN_one {it : E} (h : argN it = some 1) : ∃ a, it = .cons a .nil := by
  cases it with
  | cons a es =>
    obtain ⟨k, hk, e⟩ := Option.map_eq_some_iff.mp (show (argN es).map (· + 1) = some 1 from h)
    have : k = 0 := by omega
    subst this
    cases es with
    | nil => exact ⟨a, rfl⟩
    | cons b c =>
      obtain ⟨_, _, e⟩ := Option.map_eq_some_iff.mp (show (argN c).map (· + 1) = some 0 from hk)
      omega
    | _ => cases hk
  | nil => cases h
  | _ => cases h
theorem argN_two {it : E} (h : argN it = some 2) : ∃ a b, it = .cons a (.cons b .nil) := by
  cases it with
  | cons a es =>
    obtain ⟨k, hk, e⟩ := Option.map_eq_some_iff.mp (show (argN es).map (· + 1) = some 2 from h)
    have : k = 1 := by omega
    subst this
    obtain ⟨b, rfl⟩ := argN_one hk
    exact ⟨a, b, rfl⟩
  | nil => cases h
  | _ => cases h
theorem itC_ok {k : ItK} {it : E} (ih : ∀ (b : Bool) (c : Cc) (X : Cx) (xs : List Expr), XG G φ c X → (chk G it).a b c xs = true → PA X xs (tA b X.K φ it)) (ihe : ∀ a, it = .cons a .nil → ∀ (c : Cc) (X : Cx) (x : Expr), XG G φ c X → (chk G a).e c x = true → PE X x (tE X.K φ a))
    {c : Cc} {X : Cx} {tg iter : Expr} (g : XG G φ c X) (h : itC G k (argN it) (chk G it).a c tg iter = true) : PI X tg iter (tI X.K φ k it) ∧ ∀ env x, foldedSetIterable iter env x = pure x := by
  unfold itC at h
  split at h
  · simp only [Bool.and_eq_true, decide_eq_true_eq] at h
    obtain ⟨⟨h1, h2⟩, h3⟩ := h
    obtain ⟨a, rfl⟩ := argN_one h1
    have h2 : ((!false || !isBr (kd a)) && noStar [iter] && (chk G a).e c iter && true) = true := h2
    simp only [Bool.and_eq_true] at h2
    have he := ihe a rfl c X iter g h2.1.2
    exact ⟨pi_imp (pi_or (pi_list he) (pi_tup he)) fun σ H R q => tI_val q, fold_of h3⟩
  · simp only [Bool.and_eq_true, decide_eq_true_eq] at h
    obtain ⟨⟨⟨⟨⟨h1, h2⟩, h3⟩, h4⟩, h5⟩, h6⟩ := h
    obtain ⟨a, rfl⟩ := argN_one h1
    cases eq_of_beq h2
    exact ⟨pi_imp (pi_range1 (gl_of g h3) (g.blt _ h4) (ih false c X _ g h6) (by rw [star_cons h5]; rfl)) fun σ H R q => tI_rng1 q, fun _ _ => rfl⟩
  · simp only [Bool.and_eq_true, decide_eq_true_eq] at h
    obtain ⟨⟨⟨⟨⟨h1, h2⟩, h3⟩, h4⟩, h5⟩, h6⟩ := h
    obtain ⟨a, b, rfl⟩ := argN_two h1
    cases eq_of_beq h2
    obtain ⟨s1, s2⟩ := noStar_cons h5
    exact ⟨pi_imp (pi_range2 (gl_of g h3) (g.blt _ h4) (ih false c X _ g h6) (by rw [star_cons s1, star_cons s2]; rfl) (by rw [star_cons s2]; rfl)) fun σ H R q => tI_rng2 q, fun _ _ => rfl⟩
  · simp only [Bool.and_eq_true, decide_eq_true_eq] at h
    obtain ⟨⟨⟨⟨⟨⟨h1, h2⟩, h3⟩, h4⟩, h5⟩, h6⟩, h7⟩ := h
    obtain ⟨a, rfl⟩ := argN_one h1
    cases eq_of_beq h2
    split at h7
    · have hpa : ∀ x, (chk G (.cons a .nil)).a false c [x] = true → PA X [x] (tA (!isBr (kd a)) X.K φ (.cons a .nil)) := fun x h6 => ih (!isBr (kd a)) c X _ g (by
        have h6 : ((!false || !isBr (kd a)) && noStar [x] && (chk G a).e c x && true) = true := h6
        show ((!(!isBr (kd a)) || !isBr (kd a)) && noStar [x] && (chk G a).e c x && true) = true
        simp only [Bool.and_eq_true] at h6 ⊢
        exact ⟨⟨⟨by cases isBr (kd a) <;> rfl, h6.1.1.2⟩, h6.1.2⟩, trivial⟩)
      have hpa := hpa _ h6
      exact ⟨pi_imp (pi_or (pi_enum (gl_of g h3) (g.blt _ h4) hpa (by rw [star_cons h5]; rfl)) (pi_enumT (gl_of g h3) (g.blt _ h4) hpa (by rw [star_cons h5]; rfl))) fun σ H R q => tI_enum q, fun _ _ => rfl⟩
    · cases h7
  · cases h
theorem boot_isi {p : Prim} {T : String} (h : isiT p = some T) : bootBuiltins (isiS p) = some (.type T) ∧ isiS p ≠ "__name__" ∧ (isiS p == ("__debug__" : Str)) = false := by
  cases p <;> first
    | (cases h; done)
    | (cases h; exact ⟨by first | exact PyProof.Rows.boot_int | exact PyProof.Rows.boot_bool | exact PyProof.Rows.boot_str | exact PyProof.Rows.boot_tuple | exact PyProof.Rows.boot_list, by decide, by decide⟩)
theorem pe_isi {p : Prim} {es : E} {x : Str} {y : Expr} {ys : List Expr} {p1 pos : Pos} {c : Cc} {X : Cx} (ihe : ∀ a, es = .cons a .nil → ∀ x : Expr, (chk G a).e c x = true → PE X x (tE X.K φ a)) (g : XG G φ c X) (h : isiC G c p (argN es) (chk G es).a x y ys = true) :
    PE X (.Call (.Name x p1) (y :: ys) [] pos) (tE X.K φ (.prim p es)) := by
  unfold isiC at h
  split at h
  · rename_i t pt
    simp only [Bool.and_eq_true, decide_eq_true_eq] at h
    obtain ⟨⟨⟨⟨⟨⟨⟨⟨⟨h0, h1⟩, h2⟩, h3⟩, h4⟩, h5⟩, h6⟩, h7⟩, h8⟩, h9⟩ := h
    obtain ⟨T, hT⟩ := Option.isSome_iff_exists.mp h0
    obtain ⟨a, rfl⟩ := argN_one h2
    cases eq_of_beq h3
    have e1 := eq_of_beq h1
    subst e1
    obtain ⟨b1, b2, b3⟩ := boot_isi hT
    have h9 : ((!false || !isBr (kd a)) && noStar [y] && (chk G a).e c y && true) = true := h9
    simp only [Bool.and_eq_true] at h9
    have he := ihe a rfl y h9.1.2
    have hn : PE X (.Name (isiS p) pt) (tC (.ty T)) := pe_bltn (gl_of g h6) (g.blt _ h7) b1 rfl b2 b3
    refine pe_imp (pe_callB (id := "isinstance") (pr_isi hT) (gl_of g h4) (g.blt _ h5) PyProof.Rows.boot_isinstance (pa_cons he (pa_cons hn pa_nil rfl) (star_cons h8)) (by decide) (by decide) (star_cons h8) rfl) fun σ H Q q => ?_
    obtain ⟨O, C, ρ, m, r, m', M, En, ev, q⟩ := q
    obtain ⟨r1, m1, e1, ev⟩ := bind_eq_ok (show (evE φ (.cons a .nil) ρ m).bind (fun r m => Out.of m (primD p (argsOf r))) = .ok r m' from ev)
    obtain ⟨x1, e2, rfl⟩ := args_one e1
    obtain ⟨e3, rfl⟩ := of_eq_ok ev
    refine .go M En e2 fun v H1 k1 M1 En1 R => ⟨v, rfl, O, C, [x1], r, M.sub, .cons (R.rb M) .nil, ?_, fun v' H2 k2 R2 => ?_⟩
    · have : primD p = isP p := by cases p <;> first | (cases hT; done) | rfl
      rw [← this]; exact e3
    · have hk : kd (.prim p (.cons a .nil)) = .fr := by cases p <;> first | (cases hT; done) | rfl
      rw [hk] at q
      exact q v' H2 (k1.trans (k2 C)) (M1.grow k2) (R2.base k1 M1) (Rv.frm M1 k2 R2)
  · rename_i t pt l pl kk pp
    simp only [Bool.and_eq_true, decide_eq_true_eq] at h
    obtain ⟨⟨⟨⟨⟨⟨⟨⟨⟨⟨⟨⟨h0, h1⟩, h1'⟩, h2⟩, h3⟩, h4⟩, h5⟩, h6⟩, h7⟩, h6'⟩, h7'⟩, h8⟩, h9⟩ := h
    obtain ⟨a, rfl⟩ := argN_one h2
    cases eq_of_beq h3
    cases eq_of_beq h1
    cases eq_of_beq h1'
    have h9 : ((!false || !isBr (kd a)) && noStar [y] && (chk G a).e c y && true) = true := h9
    simp only [Bool.and_eq_true] at h9
    have he := ihe a rfl y h9.1.2
    have hp : p = .isTupLst := by cases p <;> first | rfl | (cases h0; done)
    subst hp
    have hn1 : PE X (.Name "tuple" pt) (tC (.ty "tuple")) := pe_bltn (gl_of g h6) (g.blt _ h7) PyProof.Rows.boot_tuple rfl
    have hn2 : PE X (.Name "list" pl) (tC (.ty "list")) := pe_bltn (gl_of g h6') (g.blt _ h7') PyProof.Rows.boot_list rfl
    have ht := pe_tup (X := X) (x1 := kk) (pos := pp) (pa_cons hn1 (pa_cons hn2 pa_nil rfl) rfl)
    refine pe_imp (pe_callB (id := "isinstance") pr_isiT (gl_of g h4) (g.blt _ h5) PyProof.Rows.boot_isinstance (pa_cons he (pa_cons ht pa_nil rfl) (star_cons h8)) (by decide) (by decide) (star_cons h8) rfl) fun σ H Q q => ?_
    obtain ⟨O, C, ρ, m, r, m', M, En, ev, q⟩ := q
    obtain ⟨r1, m1, e1, ev⟩ := bind_eq_ok (show (evE φ (.cons a .nil) ρ m).bind (fun r m => Out.of m (primD .isTupLst (argsOf r))) = .ok r m' from ev)
    obtain ⟨x1, e2, rfl⟩ := args_one e1
    obtain ⟨e3, rfl⟩ := of_eq_ok ev
    refine .go M En e2 fun v H1 k1 M1 En1 R => ?_
    refine ⟨by rw [sizeLine_eq]; decide, fun p' hp' => ⟨v, p', rfl, upd_same, O, C, [x1], r, M.sub, .cons ((R.rb M).keep M.sub (Keep.new hp')) .nil, e3, fun v' H2 k2 R2 => ?_⟩⟩
    have k3 : Keep C H1 H2 := (Keep.new hp').trans (k2 C)
    exact q v' H2 (k1.trans k3) ((M1.grow fun _ => Keep.new hp').grow k2) (R2.base (k1.trans (Keep.new hp')) (M1.grow fun _ => Keep.new hp')) (Rv.frm (M1.grow fun _ => Keep.new hp') k2 R2)
  · cases h
theorem soundE (e : E) : OkE G φ e := by
  induction e with
  | slot i =>
    refine .mk' rfl rfl fun c X x g h => ?_
    split at h
    · exact pe_imp (nm_of g h) fun σ H Q q => tE_slot q
    · cases h
  | brw i =>
    refine .mk' rfl rfl fun c X x g h => ?_
    split at h
    · exact pe_imp (nm_of g h) fun σ H Q q => tE_brw q
    · cases h
  | idxc i b ih =>
    refine .mk' rfl rfl fun c X x g h => ?_
    split at h
    · simp only [Bool.and_eq_true] at h
      refine pe_imp (pe_ix ix_list (nm_of g h.1.2) (ih.e c X _ g h.2) (plainIx_of h.1.1)) fun σ H Q q => tE_idxc q
    · cases h
  | cst d =>
    refine .mk' rfl rfl fun c X x g h => ?_
    split at h
    · cases of_decide_eq_true h
      exact pe_imp pe_int fun σ H Q q => tE_cst (fun _ _ _ => .int _) q
    · cases of_decide_eq_true h
      exact pe_imp pe_bl fun σ H Q q => tE_cst (fun _ _ _ => .bl _) q
    · exact pe_imp pe_non fun σ H Q q => tE_cst (fun _ _ _ => .non) q
    · cases of_decide_eq_true h
      exact pe_imp pe_str fun σ H Q q => tE_cst (fun _ _ _ => .str _) q
    · simp only [Bool.and_eq_true, decide_eq_true_eq] at h
      obtain ⟨t, ht⟩ := g.cns _ _ h.1.1
      have hr : ∀ n, RelV (V.int n) (Value.int n t) := fun n => ⟨t, rfl⟩
      exact pe_imp (pe_glob (gl_of g h.1.2) ht (hr _) (no_of h.2)) fun σ H Q q => tE_cst (fun _ _ _ => .int _) q
    · cases h
  | nil =>
    refine ⟨fun c X x g h => absurd (show false = true from h) (by decide), fun c X x g h => absurd (show false = true from h) (by decide), fun b c X xs g h => ?_, fun _ _ q => by cases q⟩
    cases xs with
    | nil => exact pa_imp pa_nil fun σ H Q q => tA_nil q
    | cons => exact absurd (show false = true from h) (by decide)
  | cons e es ih1 ih2 =>
    refine ⟨fun c X x g h => absurd (show false = true from h) (by decide), fun c X x g h => absurd (show false = true from h) (by decide), fun b c X xs g h => ?_, fun a es' q => by cases q; exact ih1.e⟩
    cases xs with
    | nil => exact absurd (show false = true from h) (by decide)
    | cons x r =>
      have h : ((!b || !isBr (kd e)) && noStar [x] && (chk G e).e c x && (chk G es).a b c r) = true := h
      simp only [Bool.and_eq_true] at h
      obtain ⟨⟨⟨h1, h2⟩, h3⟩, h4⟩ := h
      exact pa_imp (pa_cons (ih1.e c X x g h3) (ih2.a b c X r g h4) (star_cons h2)) fun σ H Q q => tA_cons (fun hb => by subst hb; simpa using h1) q
  | tup es ih =>
    refine .mk' rfl rfl fun c X x g h => ?_
    split at h
    · simp only [Bool.and_eq_true] at h
      obtain ⟨n, hn, hz⟩ := smallN_line h.1
      refine pe_imp (pe_tup (ih.a true c X _ g h.2)) fun σ H Q q => tE_tup q (fun ds m m' ρ ev => ?_) fun l ρ m m' ev => ?_
      · obtain ⟨l, e, _⟩ := args_argN es n ρ m m' ds hn ev
        exact ⟨l, e⟩
      · obtain ⟨l', e, hl⟩ := args_argN es n ρ m m' _ hn ev
        cases e
        omega
    · cases h
  | lst es ih =>
    refine .mk' rfl rfl fun c X x g h => ?_
    split at h
    · simp only [Bool.and_eq_true] at h
      obtain ⟨n, hn, hz⟩ := smallN_line h.1
      refine pe_imp (pe_lst (ih.a true c X _ g h.2)) fun σ H Q q => tE_lst q (fun ds m m' ρ ev => ?_) fun l ρ m m' ev => ?_
      · obtain ⟨l, e, _⟩ := args_argN es n ρ m m' ds hn ev
        exact ⟨l, e⟩
      · obtain ⟨l', e, hl⟩ := args_argN es n ρ m m' _ hn ev
        cases e
        omega
    · cases h
  | bin op a b ih1 ih2 =>
    refine .mk' rfl rfl fun c X x g h => ?_
    split at h
    · simp only [Bool.and_eq_true, decide_eq_true_eq] at h
      obtain ⟨⟨rfl, h1⟩, h2⟩ := h
      exact pe_imp (pe_op (op_binE op) (ih1.e c X _ g h1) (ih2.e c X _ g h2)) fun σ H Q q => tE_op rfl (fun _ _ => rfl) q
    · cases h
  | neg a ih =>
    refine .mk' rfl rfl fun c X x g h => ?_
    split at h
    · exact pe_imp (pe_un un_neg (ih.e c X _ g h)) fun σ H Q q => tE_neg q
    · cases h
  | cmp op a b ih1 ih2 =>
    refine ⟨fun c X x g h => ?_, fun c X x g h => ?_, fun b c X xs g h => absurd (show false = true from h) (by decide), fun _ _ q => by cases q⟩
    · dsimp only [chk] at h
      split at h
      · simp only [Bool.and_eq_true, decide_eq_true_eq] at h
        obtain ⟨⟨⟨rfl, h0⟩, h1⟩, h2⟩ := h
        exact pe_imp (pe_cmpR (op_cmpE op g.un) (ih1.e c X _ g h1) (ih2.e c X _ g h2) (no_of h0)) fun σ H Q q => tE_op rfl (fun _ _ => rfl) q
      · cases h
    · dsimp only [chk] at h
      split at h
      · simp only [Bool.and_eq_true, decide_eq_true_eq] at h
        obtain ⟨⟨⟨rfl, h0⟩, h1⟩, h2⟩ := h
        refine pt_imp (pt_cmpR (op_cmpE op g.un) (ih1.e c X _ g h1) (ih2.e c X _ g h2) (no_of h0)) fun σ H Q q => ?_
        refine tE_op rfl (fun _ _ => rfl) (tT_bl (fun ρ m r m' ev => ?_) q)
        obtain ⟨_, _, _, ev⟩ := bind_eq_ok (show (evE φ a ρ m).bind (fun x m => (evE φ b ρ m).bind fun y m => Out.of m (cmpD op x y)) = .ok r m' from ev)
        obtain ⟨_, _, _, ev⟩ := bind_eq_ok ev
        exact cmpD_bl (of_eq_ok ev).1
      · cases h
  | chn o p a b d ih1 ih2 ih3 =>
    have hb : ∀ ρ m r m', evE φ (.chn o p a b d) ρ m = .ok r m' → ∃ b, r = .bl b := by
      intro ρ m r m' ev
      obtain ⟨_, _, _, ev⟩ := bind_eq_ok (show (evE φ a ρ m).bind (fun x m => (evE φ b ρ m).bind fun y m => (Out.of m (cmpD o x y)).bind fun r m => match r with
        | .bl true => (evE φ d ρ m).bind fun z m => Out.of m (cmpD p y z)
        | .bl false => .ok (.bl false) m
        | _ => .no) = .ok r m' from ev)
      obtain ⟨_, _, _, ev⟩ := bind_eq_ok ev
      obtain ⟨_, _, _, ev⟩ := bind_eq_ok ev
      split at ev
      · obtain ⟨_, _, _, ev⟩ := bind_eq_ok ev
        exact cmpD_bl (of_eq_ok ev).1
      · cases ev; exact ⟨_, rfl⟩
      · cases ev
    refine ⟨fun c X x g h => ?_, fun c X x g h => ?_, fun b c X xs g h => absurd (show false = true from h) (by decide), fun _ _ q => by cases q⟩
    · dsimp only [chk] at h
      split at h
      · simp only [Bool.and_eq_true, decide_eq_true_eq] at h
        obtain ⟨⟨⟨⟨⟨rfl, rfl⟩, h0⟩, h1⟩, h2⟩, h3⟩ := h
        exact pe_imp (pe_chain (op_cmpE o g.un) (op_cmpE p g.un) (ih1.e c X _ g h1) (ih2.e c X _ g h2) (ih3.e c X _ g h3) (no_of h0)) fun σ H Q q => tE_chn q
      · cases h
    · dsimp only [chk] at h
      split at h
      · simp only [Bool.and_eq_true, decide_eq_true_eq] at h
        obtain ⟨⟨⟨⟨⟨rfl, rfl⟩, h0⟩, h1⟩, h2⟩, h3⟩ := h
        exact pt_imp (pt_chain (op_cmpE o g.un) (op_cmpE p g.un) (ih1.e c X _ g h1) (ih2.e c X _ g h2) (ih3.e c X _ g h3) (no_of h0)) fun σ H Q q => tE_chn (tT_bl hb q)
      · cases h
  | and a b ih1 ih2 =>
    refine ⟨fun c X x g h => ?_, fun c X x g h => ?_, fun b c X xs g h => absurd (show false = true from h) (by decide), fun _ _ q => by cases q⟩
    · dsimp only [chk] at h
      split at h
      · simp only [Bool.and_eq_true] at h
        obtain ⟨⟨⟨k1, k2⟩, h1⟩, h2⟩ := h
        exact pe_imp (pe_andT (ih1.e c X _ g h1) (pe_one (ih2.e c X _ g h2))) fun σ H Q q => tE_and (no_of k1) (no_of k2) q
      · simp only [Bool.and_eq_true] at h
        obtain ⟨⟨⟨k1, k2⟩, h1⟩, h2⟩ := h
        exact pe_imp (pe_andT (ih1.e c X _ g h1) (ih2.e c X _ g h2)) fun σ H Q q => tE_and (no_of k1) (no_of k2) q
      · cases h
    · dsimp only [chk] at h
      split at h
      · simp only [Bool.and_eq_true] at h
        exact pt_imp (pw_and (ih1.t c X _ g h.1) (pw_and1 (ih2.t c X _ g h.2))).pt fun σ H Q q => tT_and q
      · simp only [Bool.and_eq_true] at h
        exact pt_imp (pw_and (ih1.t c X _ g h.1) (pw_of (ih2.t c X _ g h.2))).pt fun σ H Q q => tT_and q
      · cases h
  | or a b ih1 ih2 =>
    refine ⟨fun c X x g h => ?_, fun c X x g h => ?_, fun b c X xs g h => absurd (show false = true from h) (by decide), fun _ _ q => by cases q⟩
    · dsimp only [chk] at h
      split at h
      · simp only [Bool.and_eq_true] at h
        obtain ⟨⟨⟨k1, k2⟩, h1⟩, h2⟩ := h
        exact pe_imp (pe_orT (ih1.e c X _ g h1) (pe_one (ih2.e c X _ g h2))) fun σ H Q q => tE_or (no_of k1) (no_of k2) q
      · simp only [Bool.and_eq_true] at h
        obtain ⟨⟨⟨k1, k2⟩, h1⟩, h2⟩ := h
        exact pe_imp (pe_orT (ih1.e c X _ g h1) (ih2.e c X _ g h2)) fun σ H Q q => tE_or (no_of k1) (no_of k2) q
      · cases h
    · dsimp only [chk] at h
      split at h
      · simp only [Bool.and_eq_true] at h
        exact pt_imp (pw_or (ih1.t c X _ g h.1) (pw_or1 (ih2.t c X _ g h.2))).pt fun σ H Q q => tT_or q
      · simp only [Bool.and_eq_true] at h
        exact pt_imp (pw_or (ih1.t c X _ g h.1) (pw_of (ih2.t c X _ g h.2))).pt fun σ H Q q => tT_or q
      · cases h
  | not a ih =>
    refine ⟨fun c X x g h => ?_, fun c X x g h => ?_, fun b c X xs g h => absurd (show false = true from h) (by decide), fun _ _ q => by cases q⟩
    · dsimp only [chk] at h
      split at h
      · exact pe_imp (pe_notT (ih.e c X _ g h)) fun σ H Q q => tE_not q
      · cases h
    · dsimp only [chk] at h
      split at h
      · exact pt_imp (pt_not (ih.t c X _ g h)) fun σ H Q q => tT_not q
      · cases h
  | ite t a b ih0 ih1 ih2 =>
    refine ⟨fun c X x g h => ?_, fun c X x g h => absurd (show false = true from h) (by decide), fun b c X xs g h => absurd (show false = true from h) (by decide), fun _ _ q => by cases q⟩
    dsimp only [chk] at h
    split at h
    · simp only [Bool.and_eq_true] at h
      obtain ⟨⟨⟨⟨k1, k2⟩, h0⟩, h1⟩, h2⟩ := h
      exact pe_imp (pe_ifExp (ih0.t c X _ g h0) (ih1.e c X _ g h1) (ih2.e c X _ g h2)) fun σ H Q q => tE_ite (no_of k1) (no_of k2) q
    · cases h
  | idx a b ih1 ih2 =>
    refine .mk' rfl rfl fun c X x g h => ?_
    split at h
    · simp only [Bool.and_eq_true] at h
      refine pe_imp (pe_ix ix_E (ih1.e c X _ g h.1.2) (ih2.e c X _ g h.2) (plainIx_of h.1.1)) fun σ H Q q => tE_op rfl (fun _ _ => rfl) q
    · cases h
  | slc a lo hi ih0 ih1 ih2 =>
    refine .mk' rfl rfl fun c X x g h => ?_
    split at h
    · simp only [Bool.and_eq_true] at h
      obtain ⟨⟨h0, h1⟩, h2⟩ := h
      exact pe_imp (pe_slice sl_E (ih0.e c X _ g h0) (optC_of (c := c) (fun x hx => ih1.e c X x g hx) h1) (optC_of (c := c) (fun x hx => ih2.e c X x g hx) h2)) fun σ H Q q => tE_slc q
    · cases h
  | rev a ih =>
    refine .mk' rfl rfl fun c X x g h => ?_
    split at h
    · exact pe_imp (pe_revL (ih.e c X _ g h)) fun σ H Q q => tE_rev q
    · cases h
  | call f es ih =>
    refine .mk' rfl rfl fun c X x g h => ?_
    split at h
    · rename_i x p xs pos
      split at h
      · rename_i gg n hl
        simp only [Bool.and_eq_true, decide_eq_true_eq] at h
        obtain ⟨⟨⟨⟨⟨rfl, h1⟩, h2⟩, h3⟩, h4⟩, h5⟩ := h
        obtain ⟨k, addr, fd, ps, F, hr, hm, hk, hb⟩ := g.call x f n hl
        have ha := ih.a true c X xs g h5
        have imp : ∀ σ H Q, tE X.K φ (.call f es) σ H Q → tCall (spF X.K φ n f) [] E0 (tA true X.K φ es) σ H Q := fun σ H Q q =>
          tE_call (fun ρ m l m' ev => by obtain ⟨l', e, hl⟩ := args_argN es n ρ m m' _ h1 ev; cases e; exact hl) (fun ρ m r m' ev => by obtain ⟨l', e, _⟩ := args_argN es n ρ m m' _ h1 ev; exact ⟨l', e⟩) q
        cases xs with
        | nil =>
          refine pe_imp (pe_call0 F hr (gl_of g h2) hm hk hb .nil pass0 (no_of h3)) fun σ H Q q => ?_
          have q := imp σ H Q q
          cases es with
          | nil => exact tA_nil q
          | _ => exact absurd (show false = true from h5) (by decide)
        | cons y ys =>
          obtain ⟨s1, s2⟩ := noStar_cons h4
          exact pe_imp (pe_call F hr (gl_of g h2) hm hk hb .nil pass0 ha (no_of h3) (star_cons s1) (star_plain s2)) imp
      · cases h
    · cases h
  | prim p es ih =>
    refine .mk' rfl rfl fun c X x g h => ?_
    split at h
    · rw [Bool.or_eq_true, Bool.or_eq_true] at h
      rcases h with h | h | h
      rotate_left
      · simp only [Bool.and_eq_true] at h
        obtain ⟨⟨⟨⟨⟨⟨h0, h1⟩, h2⟩, h3⟩, h4⟩, h5⟩, h6⟩ := h
        obtain ⟨n, hn, _⟩ := smallN_line h1
        cases p with
        | gcd =>
          obtain ⟨s1, s2⟩ := noStar_cons h5
          exact pe_imp (pe_callBfun (id := "math.gcd") pr_gcd (gl_of g h2) (g.gcds _ h3) (ih.a false c X _ g h6) (no_of h4) (star_cons s1) (star_plain s2)) fun σ H Q q => tE_prim (fun ρ m r m' ev => by obtain ⟨l', e, _⟩ := args_argN es n ρ m m' _ hn ev; exact ⟨l', e⟩) q
        | _ => cases h0
      · exact pe_isi (fun a ha x hx => ih.h a _ ha c X x g hx) g h
      simp only [Bool.and_eq_true] at h
      obtain ⟨⟨⟨⟨⟨⟨h0, h1⟩, h2⟩, h3⟩, h4⟩, h5⟩, h6⟩ := h
      obtain ⟨n, hn, _⟩ := smallN_line h2
      exact pe_imp (pe_prim h0 (eq_of_beq h1) g (gl_of g h3) (g.blt _ h4) (ih.a false c X _ g h6) h5) fun σ H Q q => tE_prim (fun ρ m r m' ev => by obtain ⟨l', e, _⟩ := args_argN es n ρ m m' _ hn ev; exact ⟨l', e⟩) q
    · cases h
  | comp own t k it ifs elt ih0 ih1 ih2 =>
    refine .mk' rfl rfl fun c X x g h => ?_
    split at h
    · rename_i x tg iter ifs' scope pos
      simp only [Bool.and_eq_true, decide_eq_true_eq] at h
      obtain ⟨⟨⟨⟨⟨⟨⟨⟨k0, k1⟩, k2⟩, k3⟩, k4⟩, k5⟩, k6⟩, k7⟩, k8⟩ := h
      have ok : BlkOk c.N c.sc scope (ownN c own) := blkOk_by k1
      have ok' : BlkOk X.N X.env.scope scope (ownN c own) := by rw [g.eN, g.sc]; exact ok
      obtain ⟨hi, hs⟩ := itC_ok ih0.a (fun a ha => ih0.h a _ ha) g k5
      have ht : ∀ (s : Shared) (H : Hp) (C : Addr) (cl : List (Str × Addr)) (fp : List Addr), PTs (X.blk s H scope (compEnvC scope cl C X.env) fp) ifs' (tT X.K φ ifs) := by
        intro s H C cl fp
        have gb := g.blk (s := s) (H := H) (cl := cl) (C := C) (fp := fp) ok
        split at k7
        · split at k7
          · exact ⟨fun pins s σ H Q I q => pts_nil.run pins s σ H Q I (by
              obtain ⟨O, C, ρ, m, r, m', t, M, En, ev, hh, q⟩ := q
              cases ev
              cases hh
              exact q H Keep.refl M)⟩
          · cases k7
        · exact pts_one (ih1.t (inComp c scope) _ _ gb k7)
        · cases k7
      have hw := pe_lc (elt := x) (te := tE X.K φ elt) (g := tG X.K t) (tt := tT X.K φ ifs) (pos := pos) g.calm g.nd hi ok' (fun s H C cl fp => (soundG t).1 (inComp c scope) _ tg (g.blk (s := s) (H := H) (cl := cl) (C := C) (fp := fp) ok) k6) ht
        (fun s H C cl fp => ih2.e (inComp c scope) _ x (g.blk (s := s) (H := H) (cl := cl) (C := C) (fp := fp) ok) k8) (fun x => hs _ x)
      rw [k0] at hw
      exact pe_imp hw fun σ H Q q => tE_comp (fun i hi => by
        have := List.all_eq_true.mp k3 i hi
        rwa [List.contains_iff_mem] at this) (no_of k4) q
    · cases h
  | dcomp own t k it ifs key val ih0 ih1 ih2 ih3 =>
    refine .mk' rfl rfl fun c X x g h => ?_
    split at h
    · rename_i kx vx tg iter ifs' scope pos
      simp only [Bool.and_eq_true, decide_eq_true_eq] at h
      obtain ⟨⟨⟨⟨⟨⟨⟨⟨k0, k1⟩, k2⟩, k3⟩, k4, k4'⟩, k5⟩, k6⟩, k7⟩, k8, k8'⟩ := h
      have ok : BlkOk c.N c.sc scope (ownN c own) := blkOk_by k1
      have ok' : BlkOk X.N X.env.scope scope (ownN c own) := by rw [g.eN, g.sc]; exact ok
      obtain ⟨hi, hs⟩ := itC_ok ih0.a (fun a ha => ih0.h a _ ha) g k5
      have ht : ∀ (s : Shared) (H : Hp) (C : Addr) (cl : List (Str × Addr)) (fp : List Addr), PTs (X.blk s H scope (compEnvC scope cl C X.env) fp) ifs' (tT X.K φ ifs) := by
        intro s H C cl fp
        have gb := g.blk (s := s) (H := H) (cl := cl) (C := C) (fp := fp) ok
        split at k7
        · split at k7
          · exact ⟨fun pins s σ H Q I q => pts_nil.run pins s σ H Q I (by
              obtain ⟨O, C, ρ, m, r, m', t, M, En, ev, hh, q⟩ := q
              cases ev
              cases hh
              exact q H Keep.refl M)⟩
          · cases k7
        · exact pts_one (ih1.t (inComp c scope) _ _ gb k7)
        · cases k7
      have hw := pe_dc (kx := kx) (vx := vx) (tk := tE X.K φ key) (tv := tE X.K φ val) (g := tG X.K t) (tt := tT X.K φ ifs) (pos := pos) g.calm g.nd hi ok' (fun s H C cl fp => (soundG t).1 (inComp c scope) _ tg (g.blk (s := s) (H := H) (cl := cl) (C := C) (fp := fp) ok) k6) ht
        (fun s H C cl fp => ih2.e (inComp c scope) _ kx (g.blk (s := s) (H := H) (cl := cl) (C := C) (fp := fp) ok) k8)
        (fun s H C cl fp => ih3.e (inComp c scope) _ vx (g.blk (s := s) (H := H) (cl := cl) (C := C) (fp := fp) ok) k8') (fun x => hs _ x)
      rw [k0] at hw
      exact pe_imp hw fun σ H Q q => tE_dcomp (fun i hi => by
        have := List.all_eq_true.mp k3 i hi
        rwa [List.contains_iff_mem] at this) (no_of k4) (no_of k4') q
    · cases h
  | sitems a ih =>
    refine .mk' rfl rfl fun c X x g h => ?_
    split at h
    · simp only [Bool.and_eq_true] at h
      obtain ⟨⟨⟨⟨⟨⟨h0, h1⟩, h2⟩, h3⟩, h4⟩, h5⟩, h6⟩ := h
      cases eq_of_beq h0
      cases eq_of_beq h1
      exact pe_imp (pe_sortedItems g.calm g.un (ih.e c X _ g h6) (gl_of g h2) (g.blt _ h3) rfl h4 rfl) fun σ H Q q => tE_sit (no_of h5) q
    · cases h
  | _ => exact ⟨fun c X x g h => absurd (show false = true from h) (by decide), fun c X x g h => absurd (show false = true from h) (by decide), fun b c X xs g h => absurd (show false = true from h) (by decide), fun _ _ q => by cases q⟩
end
end Ev

set_option maxHeartbeats 4000000
namespace Ev
open PySem PySem.Spec PyProof.Rows L2
/-- from one point of a body to a later one -/
structure Tr (O : List Addr) (H : Hp) (O' : List Addr) (H' : Hp) : Prop where
  kp : Keep O H H'
  oo : ∀ a, Alv H a → a ∉ O → a ∉ O'
/-- a body's begin -/
structure Bs (O0 C : List Addr) (H0 : Hp) : Prop where
  c : ∀ a ∈ C, a ∈ O0
  al : ∀ a ∈ O0, Alv H0 a
structure StOk (K : Frag) (O0 C : List Addr) (H0 : Hp) (O : List Addr) (H : Hp) (m : Mem) (ρ : Env) (σ : SSt) : Prop where
  M : MemOk K O C H m
  en : EnvOk K O C H ρ σ
  kp : Keep C H0 H
  sub : ∀ a ∈ O0, a ∈ O
  nw : ∀ (i : Nat) d a, ρ[i]? = some (some (.own d)) → σ[i]? = some (some (V.ref a)) → H0 a = none
section
variable {K : Frag} {O O1 O2 O0 C : List Addr} {H H1 H2 H0 : Hp} {m m1 : Mem} {ρ ρ1 : Env} {σ σ1 : SSt}
theorem Tr.refl : Tr O H O H := ⟨Keep.refl, fun _ _ h => h⟩
theorem Tr.trans (a : Tr O H O1 H1) (b : Tr O1 H1 O2 H2) : Tr O H O2 H2 := by
  have al : ∀ x, Alv H x → x ∉ O → Alv H1 x := fun x ⟨o, e⟩ n => ⟨o, a.kp.ob x o e n⟩
  exact ⟨⟨fun x o e n => b.kp.ob x o (a.kp.ob x o e n) (a.oo x ⟨o, e⟩ n), fun x xs e => b.kp.tp x xs (a.kp.tp x xs e), fun x o u e => b.kp.fz x o u (a.kp.fz x o u e)⟩,
    fun x h n => b.oo x (al x h n) (a.oo x h n)⟩
theorem Tr.keep (hC : ∀ a ∈ C, a ∈ O) (k : Keep C H H1) : Tr O H O H1 := ⟨k.mono hC, fun _ _ n => n⟩
theorem Keep.none {p : Addr} {C : List Addr} (k : Keep C H H1) (h : H1 p = none) (n : p ∉ C) : H p = none := by
  cases q : H p with
  | none => rfl
  | some o => rw [k.ob p o q n] at h; cases h
theorem MemOk.out {p : Addr} (M : MemOk K O C H m) (h : H p = none) : p ∉ C := fun q => by
  obtain ⟨o, e⟩ := M.alC p q
  rw [h] at e; cases e
/-- forget a slot -/
theorem EnvOk.drop (h : EnvOk K O C H ρ σ) (i : Nat) : EnvOk K O C H (setE ρ i none) σ := by
  have hl : ∀ {j : Nat} {x : Sl}, (setE ρ i none)[j]? = some (some x) → ρ[j]? = some (some x) := by
    intro j x e
    rcases set_get e with ⟨_, e2⟩ | q
    · cases e2
    · exact q.2
  exact ⟨by simp [setE, h.len], fun j x e => h.val j x (hl e), fun j x e => h.own j x (hl e), fun j l x y a ne e1 e2 => h.inj j l x y a ne (hl e1) (hl e2)⟩
theorem set_none_get {ρ : Env} {i j : Nat} {x : Sl} (e : (setE ρ i none)[j]? = some (some x)) : ρ[j]? = some (some x) := by
  rcases set_get e with ⟨_, e2⟩ | q
  · cases e2
  · exact q.2
theorem StOk.drop (h : StOk K O0 C H0 O H m ρ σ) (i : Nat) : StOk K O0 C H0 O H m (setE ρ i none) σ :=
  ⟨h.M, h.en.drop i, h.kp, h.sub, fun j d a e1 e2 => h.nw j d a (set_none_get e1) e2⟩
theorem StOk.forget (h : StOk K O0 C H0 O H m ρ σ) : ∀ vs : List Nat, StOk K O0 C H0 O H m (wipeE ρ vs) σ
  | [] => h
  | v :: vs => (h.forget vs).drop v
/-- after an expression -/
theorem StOk.next (h : StOk K O0 C H0 O H m ρ σ) (k : Keep C H H1) (M1 : MemOk K O C H1 m1) : StOk K O0 C H0 O H1 m1 ρ σ :=
  ⟨M1, h.en.keep h.M.sub k, h.kp.trans k, h.sub, h.nw⟩
/-- a slot is set to a value -/
theorem StOk.set {d : D} {v : V} (h : StOk K O0 C H0 O H m ρ σ) (i : Nat) (r : Rp K O C H d v) : StOk K O0 C H0 O H m (setE ρ i (some (.val d))) (σ.set i (some v)) := by
  refine ⟨h.M, h.en.set r, h.kp, h.sub, fun j d' a e1 e2 => ?_⟩
  rcases set_get e1 with ⟨_, q⟩ | ⟨ne, q⟩
  · cases q
  · rw [List.getElem?_set_ne ne] at e2
    exact h.nw j d' a q e2
/-- a slot is set to an own list, at p -/
theorem EnvOk.setOwn {p : Addr} {d : D} (h : EnvOk K O C H ρ σ) (i : Nat) (hp : p ∈ O) (hc : p ∉ C) (r : OwnAt K O C H p d) (un : ∀ (j : Nat) e, j ≠ i → ρ[j]? = some (some (.own e)) → σ[j]? ≠ some (some (V.ref p))) :
    EnvOk K O C H (setE ρ i (some (.own d))) (σ.set i (some (.ref p))) := by
  have hl : ∀ {j : Nat} {x : Sl}, (setE ρ i (some (.own d)))[j]? = some (some x) → (i = j ∧ x = .own d ∧ j < σ.length) ∨ (i ≠ j ∧ ρ[j]? = some (some x)) := by
    intro j x e
    have lt : j < ρ.length := by
      have := (List.getElem?_eq_some_iff.mp e).1
      simpa [setE] using this
    rcases set_get e with ⟨e1, e2⟩ | q
    · exact .inl ⟨e1, (Option.some.inj e2).symm, h.len ▸ lt⟩
    · exact .inr q
  refine ⟨by simp [setE, h.len], fun j x e => ?_, fun j x e => ?_, fun j l x y a ne e1 e2 e3 => ?_⟩
  · rcases hl e with ⟨rfl, e2, lt⟩ | ⟨ne, e2⟩
    · cases e2
    · obtain ⟨w, q1, q2⟩ := h.val j x e2
      exact ⟨w, by rw [List.getElem?_set_ne ne]; exact q1, q2⟩
  · rcases hl e with ⟨rfl, e2, lt⟩ | ⟨ne, e2⟩
    · cases e2
      exact ⟨p, by rw [List.getElem?_set_self lt], hp, hc, r⟩
    · obtain ⟨a, q1, q2⟩ := h.own j x e2
      exact ⟨a, by rw [List.getElem?_set_ne ne]; exact q1, q2⟩
  · rcases hl e1 with ⟨rfl, q, lt⟩ | ⟨n1, q1⟩
    · rcases hl e2 with ⟨q', _⟩ | ⟨n2, q2⟩
      · exact absurd q' ne
      · rw [List.getElem?_set_self lt] at e3
        cases e3
        rw [List.getElem?_set_ne n2]
        exact un l y (Ne.symm n2) q2
    · rw [List.getElem?_set_ne n1] at e3
      rcases hl e2 with ⟨rfl, q, lt⟩ | ⟨n2, q2⟩
      · rw [List.getElem?_set_self lt]
        intro e
        cases e
        exact un j x (Ne.symm n1) q1 e3
      · rw [List.getElem?_set_ne n2]
        exact h.inj j l x y a ne q1 q2 e3
/-- a new list, p, of the expression just read: O grows -/
theorem StOk.grow {p : Addr} (h : StOk K O0 C H0 O H m ρ σ) (k : Keep C H H1) (hp : H p = none) (M1 : MemOk K (p :: O) C H1 m1) : StOk K O0 C H0 (p :: O) H1 m1 ρ σ ∧ Tr O H (p :: O) H1 ∧ p ∉ C ∧ H0 p = none := by
  have hO : ∀ a, Alv H a → a ∉ O → a ∉ p :: O := fun a ⟨o, e⟩ n => by
    rw [List.mem_cons, not_or]
    exact ⟨ne_of_none e hp, n⟩
  have hc := h.M.out hp
  refine ⟨⟨M1, h.en.move2 h.M.sub k hO (fun a q => List.mem_cons_of_mem _ q) (fun _ _ e => e) (fun _ _ q => q) (fun i d a e1 e2 => ?_), h.kp.trans k, fun a q => List.mem_cons_of_mem _ (h.sub a q), h.nw⟩, ⟨k.mono h.M.sub, hO⟩, hc, h.kp.none hp hc⟩
  obtain ⟨b, q1, _, q2, _⟩ := h.en.own i d e1
  rw [e2] at q1; cases q1; exact q2
theorem StOk.setOwn {p : Addr} {d : D} (h : StOk K O0 C H0 O H m ρ σ) (i : Nat) (hp : p ∈ O) (hc : p ∉ C) (h0 : H0 p = none) (r : OwnAt K O C H p d) (un : ∀ (j : Nat) e, j ≠ i → ρ[j]? = some (some (.own e)) → σ[j]? ≠ some (some (V.ref p))) :
    StOk K O0 C H0 O H m (setE ρ i (some (.own d))) (σ.set i (some (.ref p))) := by
  refine ⟨h.M, h.en.setOwn i hp hc r un, h.kp, h.sub, fun j d' a e1 e2 => ?_⟩
  by_cases e : i = j
  · subst e
    by_cases lt : i < σ.length
    · rw [List.getElem?_set_self lt] at e2
      cases e2
      exact h0
    · rw [List.getElem?_eq_none (by simp; omega)] at e2; cases e2
  · rcases set_get e1 with ⟨q, _⟩ | ⟨ne, q⟩
    · exact absurd q e
    · rw [List.getElem?_set_ne ne] at e2
      exact h.nw j d' a q e2
theorem set_self {α : Type} : ∀ {l : List α} {i : Nat} {x : α}, l[i]? = some x → l.set i x = l
  | [], _, _, h => by simp at h
  | y :: r, 0, x, h => by simp at h; rw [h]; rfl
  | y :: r, i + 1, x, h => by
    show y :: r.set i x = y :: r
    rw [set_self (by simpa using h)]
/-- an own list is written -/
theorem StOk.write {p : Addr} {i : Nat} {d d' : D} {xs ys : List V} (h : StOk K O0 C H0 O H m ρ σ) (e : ρ[i]? = some (some (.own d))) (s : σ[i]? = some (some (V.ref p))) (hx : H p = some (.lst xs)) (hO : p ∈ O) (hc : p ∉ C)
    (r : OwnAt K O C (upd H p (.lst ys)) p d') : StOk K O0 C H0 O (upd H p (.lst ys)) m (setE ρ i (some (.own d'))) σ ∧ Tr O H O (upd H p (.lst ys)) := by
  have h0 := h.nw i d p e s
  have kp : Keep [p] H (upd H p (.lst ys)) := Keep.put hx (by simp)
  have En : EnvOk K O C (upd H p (.lst ys)) (setE ρ i none) σ := (h.en.drop i).move2 (Z := [p]) (by simpa using hO) kp (fun _ _ n => n) (fun _ q => q) (fun _ _ e => e) (fun _ _ q => q) fun j d'' a e1 e2 => by
    rcases set_get e1 with ⟨_, q⟩ | ⟨ne, q⟩
    · cases q
    · simp only [List.mem_singleton]
      intro q'
      subst q'
      exact h.en.inj i j d d'' a ne e q s e2
  have h1 : StOk K O0 C H0 O (upd H p (.lst ys)) m (setE ρ i none) σ := ⟨h.M.put hx hO hc, En, h.kp.put_new h0, h.sub, fun j d'' a e1 e2 => h.nw j d'' a (set_none_get e1) e2⟩
  have h2 := h1.setOwn i hO hc h0 r fun j e' ne e1 e2 => by
    rcases set_get e1 with ⟨_, q⟩ | ⟨_, q⟩
    · cases q
    · exact h.en.inj i j d e' p (Ne.symm ne) e q s e2
  refine ⟨?_, (Keep.put hx hO), fun _ _ n => n⟩
  have e3 : setE (setE ρ i none) i (some (.own d')) = setE ρ i (some (.own d')) := by simp [setE]
  rw [e3, set_self s] at h2
  exact h2
/-- an own list is locked: a value from now on -/
theorem StOk.frz {i : Nat} {d : D} (h : StOk K O0 C H0 O H m ρ σ) (b : Bs O0 C H0) (e : ρ[i]? = some (some (.own d))) : ∃ O', StOk K O0 C H0 O' H m (setE ρ i (some (.val d))) σ ∧ Tr O H O' H := by
  obtain ⟨p, s, hO, hc, r⟩ := h.en.own i d e
  have h0 := h.nw i d p e s
  have mem : ∀ a, a ∈ O.filter (fun x => x != p) ↔ a ∈ O ∧ a ≠ p := fun a => by simp [List.mem_filter]
  have hO' : ∀ a, Alv H a → a ∉ O → a ∉ O.filter (fun x => x != p) := fun a _ n q => n ((mem a).mp q).1
  have cs : ∀ a ∈ C, a ∈ O.filter (fun x => x != p) := fun a q => (mem a).mpr ⟨h.M.sub a q, fun z => hc (z ▸ q)⟩
  refine ⟨O.filter (fun x => x != p), ?_, ⟨Keep.refl, hO'⟩⟩
  have M' : MemOk K (O.filter (fun x => x != p)) C H m := ⟨h.M.len, fun n a d e1 e2 => (h.M.at_ n a d e1 e2).move2 (Z := []) (by simp) Keep.refl hO' (fun _ _ e => e) (by simp), cs, h.M.nd, fun a q => h.M.al a ((mem a).mp q).1⟩
  have En : EnvOk K (O.filter (fun x => x != p)) C H (setE ρ i none) σ := by
    have hd := h.en.drop i
    refine ⟨hd.len, fun j d e => let ⟨v, e1, r⟩ := hd.val j d e; ⟨v, e1, r.move2 (Z := []) (by simp) Keep.refl hO' fun _ _ e => e⟩, fun j d' e' => ?_, hd.inj⟩
    obtain ⟨a, e1, i1, i2, r⟩ := hd.own j d' e'
    refine ⟨a, e1, (mem a).mpr ⟨i1, fun q => ?_⟩, i2, r.move2 (Z := []) (by simp) Keep.refl hO' (fun _ _ e => e) (by simp)⟩
    subst q
    rcases set_get e' with ⟨_, q⟩ | ⟨ne, q⟩
    · cases q
    · exact h.en.inj i j d d' a ne e q s e1
  have rp : Rp K (O.filter (fun x => x != p)) C H d (.ref p) := by
    cases d with
    | lst ds =>
      obtain ⟨xs, e2, z, r2⟩ := r
      exact .lst (.inl ⟨.inl e2, fun q => ((mem p).mp q).2 rfl⟩) z (r2.move2 (Z := []) (by simp) Keep.refl hO' fun _ _ e => e)
    | _ => exact r.elim
  have h1 : StOk K O0 C H0 (O.filter (fun x => x != p)) H m (setE ρ i none) σ := ⟨M', En, h.kp, fun a q => (mem a).mpr ⟨h.sub a q, fun z => by subst z; obtain ⟨o, e⟩ := b.al a q; rw [h0] at e; cases e⟩, fun j d'' a e1 e2 => h.nw j d'' a (set_none_get e1) e2⟩
  have h2 := h1.set i rp
  have e3 : setE (setE ρ i none) i (some (.val d)) = setE ρ i (some (.val d)) := by simp [setE]
  rw [e3, set_self s] at h2
  exact h2
theorem putT_own : ∀ (t : T) (d : D) (ρ ρ' : Env), putT t d ρ = some ρ' → ∀ (i : Nat) (e : D), ρ'[i]? = some (some (.own e)) → i ∉ slotsT t ∧ ρ[i]? = some (some (.own e))
  | .name j, d, ρ, ρ', h, i, e, g => by
    have h : (if j < ρ.length then some (setE ρ j (some (.val d))) else none) = some ρ' := h
    split at h
    · cases h
      rcases set_get g with ⟨_, q⟩ | ⟨ne, q⟩
      · cases q
      · exact ⟨by simp [slotsT]; exact fun z => ne z.symm, q⟩
    · cases h
  | .tup ts, .tup l, ρ, ρ', h, i, e, g => putT_own ts (.tup l) ρ ρ' h i e g
  | .nil, .tup [], ρ, ρ', h, i, e, g => by cases h; exact ⟨by simp [slotsT], g⟩
  | .cons t ts, .tup (x :: r), ρ, ρ', h, i, e, g => by
    obtain ⟨ρ1, e1, e2⟩ := Option.bind_eq_some_iff.mp (show (putT t x ρ).bind (fun ρ1 => putT ts (.tup r) ρ1) = some ρ' from h)
    obtain ⟨n1, g1⟩ := putT_own ts (.tup r) ρ1 ρ' e2 i e g
    obtain ⟨n2, g2⟩ := putT_own t x ρ ρ1 e1 i e g1
    exact ⟨by simp [slotsT, n1, n2], g2⟩
  | .tup _, .non, _, _, h, _, _, _ | .tup _, .bl _, _, _, h, _, _, _ | .tup _, .int _, _, _, h, _, _, _ | .tup _, .str _, _, _, h, _, _, _ | .tup _, .lst _, _, _, h, _, _, _ | .tup _, .dic _, _, _, h, _, _, _ | .tup _, .ref _, _, _, h, _, _, _ | .tup _, .clo _ _, _, _, h, _, _, _ | .tup _, .exc _ _, _, _, h, _, _, _ => by cases h
  | .nil, .tup (_ :: _), _, _, h, _, _, _ | .nil, .non, _, _, h, _, _, _ | .nil, .bl _, _, _, h, _, _, _ | .nil, .int _, _, _, h, _, _, _ | .nil, .str _, _, _, h, _, _, _ | .nil, .lst _, _, _, h, _, _, _ | .nil, .dic _, _, _, h, _, _, _ | .nil, .ref _, _, _, h, _, _, _ | .nil, .clo _ _, _, _, h, _, _, _ | .nil, .exc _ _, _, _, h, _, _, _ => by cases h
  | .cons _ _, .tup [], _, _, h, _, _, _ | .cons _ _, .non, _, _, h, _, _, _ | .cons _ _, .bl _, _, _, h, _, _, _ | .cons _ _, .int _, _, _, h, _, _, _ | .cons _ _, .str _, _, _, h, _, _, _ | .cons _ _, .lst _, _, _, h, _, _, _ | .cons _ _, .dic _, _, _, h, _, _, _ | .cons _ _, .ref _, _, _, h, _, _, _ | .cons _ _, .clo _ _, _, _, h, _, _, _ | .cons _ _, .exc _ _, _, _, h, _, _, _ => by cases h
theorem wipe_mem_get (σ : SSt) (i : Nat) (vs : List Nat) (h : i ∉ vs) : (L2.wipe σ vs)[i]? = σ[i]? := wipe_out σ i vs h
/-- after a target -/
theorem StOk.tgt {t : T} {d : D} (h : StOk K O0 C H0 O H m ρ σ) (p : putT t d ρ = some ρ1) (E1 : EnvOk K O C H ρ1 σ1) (w : ∀ vs, (∀ i ∈ slotsT t, i ∈ vs) → L2.wipe σ1 vs = L2.wipe σ vs) : StOk K O0 C H0 O H m ρ1 σ1 := by
  refine ⟨h.M, E1, h.kp, h.sub, fun i d' a e1 e2 => ?_⟩
  obtain ⟨n, g⟩ := putT_own t d ρ ρ1 p i d' e1
  have e := congrArg (fun l => l[i]?) (w (slotsT t) fun _ q => q)
  rw [wipe_out _ _ _ n, wipe_out _ _ _ n] at e
  rw [e] at e2
  exact h.nw i d' a g e2
end
section
variable {K : Frag}
def FlowOk (K : Frag) (O0 C : List Addr) (H0 : Hp) (O : List Addr) (H : Hp) (D : Ends) (m : Mem) : Flow → Prop
  | .nx ρ => ∀ O' σ' H', StOk K O0 C H0 O' H' m ρ σ' → Tr O H O' H' → D.nx σ' H'
  | .bk ρ => ∀ O' σ' H', StOk K O0 C H0 O' H' m ρ σ' → Tr O H O' H' → D.bk σ' H'
  | .ct ρ => ∀ O' σ' H', StOk K O0 C H0 O' H' m ρ σ' → Tr O H O' H' → D.ct σ' H'
  | .rt d => ∀ v H', Keep C H0 H' → MemOk K O0 C H' m → Rp K O0 C H' d v → D.rt v H'
theorem FlowOk.from {O0 C : List Addr} {H0 : Hp} {O O1 : List Addr} {H H1 : Hp} {D : Ends} {m : Mem} (t : Tr O H O1 H1) : ∀ {f : Flow}, FlowOk K O0 C H0 O H D m f → FlowOk K O0 C H0 O1 H1 D m f
  | .nx _, h => fun O' σ' H' s t' => h O' σ' H' s (t.trans t')
  | .bk _, h => fun O' σ' H' s t' => h O' σ' H' s (t.trans t')
  | .ct _, h => fun O' σ' H' s t' => h O' σ' H' s (t.trans t')
  | .rt _, h => h
def tS (K : Frag) (φ : Phi) (s : S) : TS := fun D σ H => ∃ O0 C H0 O ρ m f m', Bs O0 C H0 ∧ StOk K O0 C H0 O H m ρ σ ∧ evS φ s ρ m = .ok f m' ∧ FlowOk K O0 C H0 O H D m' f
theorem ps_imp {X : Cx} {e : Stmt} {t t' : TS} (h : PS X e t) (i : ∀ D σ H, t' D σ H → t D σ H) : PS X e t' := ⟨fun pins s σ H D I q => h.run pins s σ H D I (i D σ H q)⟩
theorem pss_imp {X : Cx} {e : List Stmt} {t t' : TS} (h : PSs X e t) (i : ∀ D σ H, t' D σ H → t D σ H) : PSs X e t' := ⟨fun pins s σ H D I q => h.run pins s σ H D I (i D σ H q)⟩
variable {φ : Phi} {D : Ends} {σ : SSt} {H : Hp} {O0 C O : List Addr} {H0 : Hp} {ρ : Env} {m : Mem}
/-- read an expression in a statement -/
theorem StOk.go {e : E} {m1 : Mem} {r : Ev.D} {Q : VK} (h : StOk K O0 C H0 O H m ρ σ) (ev : evE φ e ρ m = .ok r m1)
    (q : ∀ v H1, Keep C H H1 → StOk K O0 C H0 O H1 m1 ρ σ → Tr O H O H1 → Rv (kd e) K O C H H1 r v → FrM (kd e) K O C H1 m1 r v → Q v H1) : tE K φ e σ H Q :=
  ⟨O, C, ρ, m, r, m1, h.M, h.en, ev, fun v H1 k M1 R F => q v H1 k (h.next k M1) (.keep h.M.sub k) R F⟩
theorem tS_skip : tS K φ .skip D σ H → tNext D σ H := by
  rintro ⟨O0, C, H0, O, ρ, m, f, m', b, s, ev, q⟩
  cases ev
  exact q O σ H s .refl
theorem tS_seq {a r : S} : tS K φ (.seq a r) D σ H → tSeq (tS K φ a) (tS K φ r) D σ H := by
  rintro ⟨O0, C, H0, O, ρ, m, f, m', b, s, ev, q⟩
  obtain ⟨f1, m1, e1, ev⟩ := bind_eq_ok (show (evS φ a ρ m).bind (fun f m => match f with | .nx ρ1 => evS φ r ρ1 m | f => .ok f m) = .ok f m' from ev)
  refine ⟨O0, C, H0, O, ρ, m, f1, m1, b, s, e1, ?_⟩
  cases f1 with
  | nx ρ1 => exact fun O' σ' H' s' t' => ⟨O0, C, H0, O', ρ1, m1, f, m', b, s', ev, q.from t'⟩
  | bk ρ1 => cases ev; exact q
  | ct ρ1 => cases ev; exact q
  | rt d => cases ev; exact q
/-- a ghost step -/
theorem tS_frz {i : Nat} {r : S} : tS K φ (.seq (.frz i) r) D σ H → tS K φ r D σ H := by
  rintro ⟨O0, C, H0, O, ρ, m, f, m', b, s, ev, q⟩
  obtain ⟨f1, m1, e1, ev⟩ := bind_eq_ok (show (evS φ (.frz i) ρ m).bind (fun f m => match f with | .nx ρ1 => evS φ r ρ1 m | f => .ok f m) = .ok f m' from ev)
  have e1 : (match ρ[i]? with
    | some (some (.own d)) => Out.ok (Flow.nx (setE ρ i (some (.val d)))) m
    | _ => .no) = .ok f1 m1 := e1
  split at e1
  · rename_i d hd
    cases e1
    obtain ⟨O', s', t'⟩ := s.frz b hd
    exact ⟨O0, C, H0, O', _, m, f, m', b, s', ev, q.from t'⟩
  · cases e1
theorem tS_expr {e : E} : tS K φ (.expr e) D σ H → tDrop (tE K φ e) D σ H := by
  rintro ⟨O0, C, H0, O, ρ, m, f, m', b, s, ev, q⟩
  obtain ⟨x, m1, e1, ev⟩ := bind_eq_ok (show (evE φ e ρ m).bind (fun _ m => Out.ok (Flow.nx ρ) m) = .ok f m' from ev)
  cases ev
  exact s.go e1 fun v H1 k s1 t1 R F => q O σ H1 s1 t1
theorem tS_asg {t : T} {e : E} (hb : isBr (kd e) = false) : tS K φ (.asg t e) D σ H → tAsg (tE K φ e) (tG K t) D σ H := by
  rintro ⟨O0, C, H0, O, ρ, m, f, m', b, s, ev, q⟩
  obtain ⟨x, m1, e1, ev⟩ := bind_eq_ok (show (evE φ e ρ m).bind (fun x m => (Out.of m (putT t x ρ)).bind fun ρ1 m => .ok (.nx ρ1) m) = .ok f m' from ev)
  obtain ⟨ρ1, m2, e2', ev⟩ := bind_eq_ok ev
  obtain ⟨e2, rfl⟩ := of_eq_ok e2'
  cases ev
  refine s.go e1 fun v H1 k s1 t1 R F => ?_
  exact ⟨O, C, ρ, x, ρ1, s1.en, R.pl s.M hb, e2, fun σ1 E1 w => q O σ1 H1 (s1.tgt e2 E1 w) t1⟩
theorem tS_asgN {i : Nat} {e : E} (hb : isBr (kd e) = false) : tS K φ (.asg (.name i) e) D σ H → tAsg (tE K φ e) (gName i) D σ H := fun q => by
  obtain ⟨O, C, ρ, m, r, m', M, En, ev, q⟩ := tS_asg hb q
  exact ⟨O, C, ρ, m, r, m', M, En, ev, fun v H1 k M1 R F => tG_name (q v H1 k M1 R F)⟩
/-- a new list for a slot -/
theorem tS_own {i : Nat} {e : E} (hf : isFr (kd e) = true) : tS K φ (.own i e) D σ H → tAsg (tE K φ e) (gName i) D σ H := by
  rintro ⟨O0, C, H0, O, ρ, m, f, m', b, s, ev, q⟩
  obtain ⟨x, m1, e1, ev⟩ := bind_eq_ok (show (evE φ e ρ m).bind (fun x m => if isOwnable x && decide (i < ρ.length) then Out.ok (Flow.nx (setE ρ i (some (.own x)))) m else .no) = .ok f m' from ev)
  split at ev
  case isFalse => cases ev
  rename_i hx
  cases ev
  rw [Bool.and_eq_true, decide_eq_true_eq] at hx
  refine s.go e1 fun v H1 k s1 t1 R F => ?_
  cases hk : kd e with
  | pl => rw [hk] at hf; cases hf
  | br => rw [hk] at hf; cases hf
  | fr =>
    rw [hk] at R F
    cases x with
    | lst ds =>
      obtain ⟨p, xs, rfl, hp, e2, z, r⟩ := R
      have M1 := F ds p rfl rfl
      obtain ⟨s2, t2, hc, h0⟩ := s.grow k hp M1
      have un : ∀ (j : Nat) e, j ≠ i → ρ[j]? = some (some (.own e)) → σ[j]? ≠ some (some (V.ref p)) := fun j e' ne g q' => by
        obtain ⟨a, g1, g2, _⟩ := s.en.own j e' g
        rw [g1] at q'; cases q'
        obtain ⟨o, g3⟩ := s.M.al p g2
        rw [hp] at g3; cases g3
      exact q (p :: O) _ H1 (s2.setOwn i (by simp) hc h0 ⟨xs, e2, z, r⟩ un) t2
    | _ => exact absurd hx.1 (by simp [isOwnable])
theorem tS_app {i : Nat} {e : E} (hb : isBr (kd e) = false) : tS K φ (.app i e) D σ H → tDrop (tBM K "list" rAppend (tVar i) (tCons (tE K φ e) tNil)) D σ H := by
  rintro ⟨O0, C, H0, O, ρ, m, f, m', b, s, ev, q⟩
  obtain ⟨x, m1, e1, ev⟩ := bind_eq_ok (show (evE φ e ρ m).bind (fun x m => match ρ[i]? with
    | some (some (.own (.lst l))) => if l.length < LIM then Out.ok (Flow.nx (setE ρ i (some (.own (.lst (l ++ [x])))))) m else .no
    | _ => .no) = .ok f m' from ev)
  split at ev
  case h_2 => cases ev
  rename_i l hi
  split at ev
  case isFalse => cases ev
  rename_i hz
  cases ev
  obtain ⟨p, g1, g2, g3, xs0, g4, g5, g6⟩ := s.en.own i _ hi
  refine ⟨.ref p, g1, .inl ⟨rfl, xs0, SqL.of g4⟩, ?_⟩
  refine s.go e1 fun v H1 k s1 t1 R F => ?_
  obtain ⟨p', g1', g2, g3, xs, g4, g5, g6⟩ := s1.en.own i _ hi
  rw [g1] at g1'; cases g1'
  refine ⟨p, xs, v, rfl, rfl, g4, by rw [← g6.length, ← lim_line]; exact hz, ?_⟩
  have rp := R.pl s.M hb
  have r1 : RpAll K O C H1 (l ++ [x]) (xs ++ [v]) := g6.append (.cons rp .nil)
  have rl : (xs ++ [v]).length ≤ sizeLine := by
    have := g6.length
    rw [List.length_append, ← this, ← lim_line]
    exact hz
  obtain ⟨s2, t2⟩ := s1.write (ys := xs ++ [v]) (d' := .lst (l ++ [x])) hi g1 g4 g2 g3 ⟨_, upd_same, rl, r1.keep (Z := [p]) (by simpa using g2) (Keep.put g4 (by simp))⟩
  exact q O σ _ s2 (t1.trans t2)
theorem tS_ret {e : E} (hb : isBr (kd e) = false) : tS K φ (.ret e) D σ H → tRet (tE K φ e) D σ H := by
  rintro ⟨O0, C, H0, O, ρ, m, f, m', b, s, ev, q⟩
  obtain ⟨x, m1, e1, ev⟩ := bind_eq_ok (show (evE φ e ρ m).bind (fun x m => Out.ok (Flow.rt x) m) = .ok f m' from ev)
  cases ev
  refine s.go e1 fun v H1 k s1 t1 R F => ?_
  have hO : ∀ a, Alv H1 a → a ∉ O → a ∉ O0 := fun a _ n q => n (s.sub a q)
  refine q v H1 s1.kp ⟨s1.M.len, fun n a d e1 e2 => (s1.M.at_ n a d e1 e2).move2 (Z := []) (by simp) Keep.refl hO (fun _ _ e => e) (by simp), b.c, s1.M.nd, fun a q => s1.M.al a (s.sub a q)⟩ ?_
  exact (R.pl s.M hb).move2 (Z := []) (by simp) Keep.refl hO fun _ _ e => e
theorem tS_retN : tS K φ (.ret (.cst .non)) D σ H → tRetN D σ H := fun q => by
  obtain ⟨O, C, ρ, m, r, m', M, En, ev, q⟩ := tS_ret rfl q
  cases ev
  exact q _ H Keep.refl M Rp.non trivial
theorem tS_brk : tS K φ .brk D σ H → tBreak D σ H := by
  rintro ⟨O0, C, H0, O, ρ, m, f, m', b, s, ev, q⟩
  cases ev
  exact q O σ H s .refl
theorem tS_cnt : tS K φ .cnt D σ H → tCont D σ H := by
  rintro ⟨O0, C, H0, O, ρ, m, f, m', b, s, ev, q⟩
  cases ev
  exact q O σ H s .refl
theorem tS_ite {c : E} {x y : S} : tS K φ (.ite c x y) D σ H → tIfS (tT K φ c) (tS K φ x) (tS K φ y) D σ H := by
  rintro ⟨O0, C, H0, O, ρ, m, f, m', b, s, ev, q⟩
  obtain ⟨r, m1, e1, ev⟩ := bind_eq_ok (show (evE φ c ρ m).bind (fun z m => match truD z with
    | some true => evS φ x ρ m
    | some false => evS φ y ρ m
    | none => .no) = .ok f m' from ev)
  split at ev
  · rename_i ht
    refine ⟨O, C, ρ, m, r, m1, true, s.M, s.en, e1, ht, fun H1 k1 M1 => ?_⟩
    (try dsimp only)
    rw [if_pos rfl]
    exact ⟨O0, C, H0, O, ρ, m1, f, m', b, s.next k1 M1, ev, q.from (.keep s.M.sub k1)⟩
  · rename_i ht
    refine ⟨O, C, ρ, m, r, m1, false, s.M, s.en, e1, ht, fun H1 k1 M1 => ?_⟩
    (try dsimp only)
    rw [if_neg Bool.false_ne_true]
    exact ⟨O0, C, H0, O, ρ, m1, f, m', b, s.next k1 M1, ev, q.from (.keep s.M.sub k1)⟩
  · cases ev
end
end Ev

set_option maxHeartbeats 4000000
namespace Ev
open PySem PySem.Spec PyProof.Rows L2
section
variable {K : Frag} {φ : Phi} {X : Cx} {D : Ends} {σ : SSt} {H : Hp}
theorem tS_sub {i : Nat} {k e : E} (hb : isBr (kd e) = false) : tS K φ (.sub i k e) D σ H → tAsg (tE K φ e) (gSub (tVar i) (tE K φ k) rSetL) D σ H := by
  rintro ⟨O0, C, H0, O, ρ, m, f, m', b, s, ev, q⟩
  obtain ⟨x, m1, e1, ev⟩ := bind_eq_ok (show (evE φ e ρ m).bind (fun x m => (evE φ k ρ m).bind fun y m => match ρ[i]? with
    | some (some (.own (.lst l))) => (Out.of m (putL l y x)).bind fun d m => Out.ok (Flow.nx (setE ρ i (some (.own d)))) m
    | _ => .no) = .ok f m' from ev)
  obtain ⟨y, m2, e2, ev⟩ := bind_eq_ok ev
  split at ev
  case h_2 => cases ev
  rename_i l hi
  obtain ⟨d, m3, e3', ev⟩ := bind_eq_ok ev
  obtain ⟨e3, rfl⟩ := of_eq_ok e3'
  cases ev
  refine s.go e1 fun v H1 k1 s1 t1 R F => ?_
  obtain ⟨p, g1, _⟩ := s1.en.own i _ hi
  refine ⟨.ref p, g1, ?_⟩
  refine s1.go e2 fun u H2 k2 s2 t2 R2 F2 => ?_
  obtain ⟨p', g1', g2, g3, xs, g4, g5, g6⟩ := s2.en.own i _ hi
  rw [g1] at g1'; cases g1'
  have rp : Rp K O C H2 x v := (R.pl s.M hb).keep s.M.sub k2
  unfold putL at e3
  split at e3
  · rename_i j
    obtain ⟨jj, h1, rfl⟩ := Option.map_eq_some_iff.mp e3
    refine ⟨p, xs, j, jj, rfl, (R2.rb s1.M).int, g4, ?_, ?_⟩
    · rw [← g6.length]; exact h1
    have rr : RpAll K O C H2 (l.set jj x) (xs.set jj v) := g6.set rp jj
    obtain ⟨s3, t3⟩ := s2.write (ys := xs.set jj v) (d' := .lst (l.set jj x)) hi g1 g4 g2 g3 ⟨_, upd_same, by rw [List.length_set]; exact g5, rr.keep (Z := [p]) (by simpa using g2) (Keep.put g4 (by simp))⟩
    exact q O σ _ s3 ((t1.trans t2).trans t3)
  · cases e3
theorem StOk.writeC {O0 C O : List Addr} {H0 : Hp} {m : Mem} {ρ : Env} {n : Nat} {a : Addr} {l l' : List Ev.D} {xs ys : List V} (h : StOk K O0 C H0 O H m ρ σ) (hC : C[n]? = some a) (hm : m[n]? = some (.lst l)) (hx : H a = some (.lst xs)) (hz : ys.length ≤ sizeLine) (hr : RpAll K O C H l' ys) :
    StOk K O0 C H0 O (upd H a (.lst ys)) (m.set n (.lst l')) ρ σ ∧ Tr O H O (upd H a (.lst ys)) := by
  have ha : a ∈ C := List.mem_of_getElem? hC
  have kp : Keep C H (upd H a (.lst ys)) := Keep.put hx ha
  have hn : n < m.length := (List.getElem?_eq_some_iff.mp hm).1
  refine ⟨⟨⟨by rw [List.length_set]; exact h.M.len, fun n' a' d e1 e2 => ?_, h.M.sub, h.M.nd, fun b hb => ?_⟩, h.en.keep h.M.sub kp, h.kp.trans kp, h.sub, h.nw⟩, .keep h.M.sub kp⟩
  · by_cases e : n = n'
    · subst e
      rw [List.getElem?_set_self hn] at e2
      cases e2
      rw [hC] at e1; cases e1
      exact ⟨ys, upd_same, hz, hr.keep h.M.sub kp⟩
    · rw [List.getElem?_set_ne e] at e2
      have ne : a' ≠ a := fun q => by
        subst q
        obtain ⟨l1, e3⟩ := List.getElem?_eq_some_iff.mp hC
        obtain ⟨l2, e4⟩ := List.getElem?_eq_some_iff.mp e1
        exact e ((List.getElem_inj h.M.nd).mp (e3.trans e4.symm))
      exact (h.M.at_ n' a' d e1 e2).move2 (Z := [a]) (by simpa using h.M.sub a ha) (Keep.put hx (by simp)) (fun _ _ q => q) (fun _ _ e => e) (by simpa using ne)
  · by_cases e : b = a
    · subst e; exact ⟨_, upd_same⟩
    · obtain ⟨o, q⟩ := h.M.al b hb
      exact ⟨o, by rw [upd_ne e]; exact q⟩
theorem tS_subc {i : Nat} {k e : E} (hb : isBr (kd e) = false) : tS K φ (.subc i k e) D σ H → tAsg (tE K φ e) (gSub (tVar i) (tE K φ k) rSetL) D σ H := by
  rintro ⟨O0, C, H0, O, ρ, m, f, m', b, s, ev, q⟩
  obtain ⟨x, m1, e1, ev⟩ := bind_eq_ok (show (evE φ e ρ m).bind (fun x m => (evE φ k ρ m).bind fun y m => match ρ[i]? with
    | some (some (.val (.ref n))) => match m[n]? with
      | some (.lst l) => (Out.of m (putL l y x)).bind fun d m => Out.ok (Flow.nx ρ) (m.set n d)
      | _ => .no
    | _ => .no) = .ok f m' from ev)
  obtain ⟨y, m2, e2, ev⟩ := bind_eq_ok ev
  split at ev
  case h_2 => cases ev
  rename_i n hi
  split at ev
  case h_2 => cases ev
  rename_i l hm
  obtain ⟨d, m3, e3', ev⟩ := bind_eq_ok ev
  obtain ⟨e3, rfl⟩ := of_eq_ok e3'
  cases ev
  refine s.go e1 fun v H1 k1 s1 t1 R F => ?_
  obtain ⟨w, g1, g2⟩ := s1.en.val i _ hi
  refine ⟨w, g1, ?_⟩
  refine s1.go e2 fun u H2 k2 s2 t2 R2 F2 => ?_
  cases g2 with
  | ref hC =>
    rename_i a
    obtain ⟨xs, g4, g5, g6⟩ := s2.M.at_ n a _ hC hm
    have rp : Rp K O C H2 x v := (R.pl s.M hb).keep s.M.sub k2
    unfold putL at e3
    split at e3
    · rename_i j
      obtain ⟨jj, h1, rfl⟩ := Option.map_eq_some_iff.mp e3
      refine ⟨a, xs, j, jj, rfl, (R2.rb s1.M).int, g4, ?_, ?_⟩
      · rw [← g6.length]; exact h1
      obtain ⟨s3, t3⟩ := s2.writeC (ys := xs.set jj v) (l' := l.set jj x) hC hm g4 (by rw [List.length_set]; exact g5) (g6.set rp jj)
      exact q O σ _ s3 ((t1.trans t2).trans t3)
    · cases e3
def rIp (op : BOp) : TIp := fun x y H Q => ∃ i j z, x = .int i ∧ y = .int j ∧ binD op (.int i) (.int j) = some (.int z) ∧ Q (.int z) H
def augOk : BOp → Bool
  | .add => true
  | .sub => true
  | .mul => true
  | _ => false
theorem ip_E (op : BOp) (h : augOk op = true) : PIp X (pyB op) (rIp op) := by
  intro pins s σ H x y v u Q I r1 r2 q
  obtain ⟨i, j, z, rfl, rfl, e, q⟩ := q
  cases op with
  | add => cases e; exact iop_add pins s σ H _ _ v u Q I r1 r2 ⟨i, j, rfl, rfl, q⟩
  | sub => cases e; exact iop_sub pins s σ H _ _ v u Q I r1 r2 ⟨i, j, rfl, rfl, q⟩
  | mul =>
    have e : (if mulOk i j then some (D.int (i * j)) else none) = some (.int z) := e
    split at e
    · rename_i hm
      cases e
      refine iop_mul pins s σ H _ _ v u Q I r1 r2 ⟨i, j, rfl, rfl, ?_, q⟩
      unfold mulOk at hm
      simp only [Bool.or_eq_true, Bool.and_eq_true, decide_eq_true_eq] at hm
      exact hm
    · cases e
  | _ => cases h
theorem tS_aug {i : Nat} {op : BOp} {e : E} : tS K φ (.aug i op e) D σ H → tAug i (tE K φ e) (rIp op) D σ H := by
  rintro ⟨O0, C, H0, O, ρ, m, f, m', b, s, ev, q⟩
  have ev : (match ρ[i]? with
    | some (some (.val x)) => (evE φ e ρ m).bind fun y m => (match x, y with
      | .int a, .int b => Out.of m (binD op (.int a) (.int b))
      | _, _ => .no).bind fun z m => Out.ok (Flow.nx (setE ρ i (some (.val z)))) m
    | _ => .no) = .ok f m' := ev
  split at ev
  case h_2 => cases ev
  rename_i x hi
  obtain ⟨y, m1, e1, ev⟩ := bind_eq_ok ev
  obtain ⟨z, m2, e2, ev⟩ := bind_eq_ok ev
  cases ev
  split at e2
  case h_2 => cases e2
  rename_i a b' _
  obtain ⟨e3, rfl⟩ := of_eq_ok e2
  obtain ⟨w, g1, g2⟩ := s.en.val i _ hi
  cases g2
  refine ⟨_, g1, ?_⟩
  refine s.go e1 fun v H1 k1 s1 t1 R F => ?_
  have hz : ∃ n, z = .int n := by
    cases op <;> simp only [binD, addD, subD, mulD, fdivD, modD, powD, shlD] at e3 <;> first
      | (cases e3; exact ⟨_, rfl⟩)
      | (split at e3 <;> cases e3; exact ⟨_, rfl⟩)
      | cases e3
  obtain ⟨n, rfl⟩ := hz
  refine ⟨a, b', n, rfl, (R.rb s.M).int, e3, ?_⟩
  exact q O _ H1 (s1.set i (.int n)) t1
theorem tS_par2 {i j : Nat} {es : E} (hn : ∀ ρ m r m', evE φ es ρ m = .ok r m' → ∃ l, r = .tup l) : tS K φ (.par [(i, false), (j, false)] es) D σ H → tPar i j (tA true K φ es) D σ H := by
  rintro ⟨O0, C, H0, O, ρ, m, f, m', b, s, ev, q⟩
  obtain ⟨x, m1, e1, ev⟩ := bind_eq_ok (show (evE φ es ρ m).bind (fun r m => (Out.of m (parE [(i, false), (j, false)] (argsOf r) ρ)).bind fun ρ1 m => Out.ok (Flow.nx ρ1) m) = .ok f m' from ev)
  obtain ⟨l, rfl⟩ := hn _ _ _ _ e1
  obtain ⟨ρ1, m2, e2', ev⟩ := bind_eq_ok ev
  obtain ⟨e2, rfl⟩ := of_eq_ok e2'
  cases ev
  refine ⟨O, C, ρ, m, l, _, s.M, s.en, e1, fun vs H1 k1 M1 R => ?_⟩
  have s1 := s.next k1 M1
  have t1 : Tr O H O H1 := .keep s.M.sub k1
  have R : RpAll K O C H1 l vs := R
  match l, R, e2 with
  | [d1, d2], .cons r1 (.cons r2 .nil), e2 =>
    have e2 : (if i < ρ.length then (if j < (setE ρ i (some (.val d1))).length then some (setE (setE ρ i (some (.val d1))) j (some (.val d2))) else none) else none) = some ρ1 := e2
    split at e2
    case isFalse => cases e2
    split at e2
    case isFalse => cases e2
    cases e2
    exact ⟨_, _, rfl, q O _ H1 ((s1.set i r1).set j r2) t1⟩
  | [], _, e2 => simp [argsOf, parE] at e2
  | [_], _, e2 => simp [argsOf, parE] at e2
  | _ :: _ :: _ :: _, _, e2 => simp [argsOf, parE] at e2
theorem tS_par3 {i j k : Nat} {es : E} (hn : ∀ ρ m r m', evE φ es ρ m = .ok r m' → ∃ l, r = .tup l) : tS K φ (.par [(i, false), (j, false), (k, false)] es) D σ H → tPar3 i j k (tA true K φ es) D σ H := by
  rintro ⟨O0, C, H0, O, ρ, m, f, m', b, s, ev, q⟩
  obtain ⟨x, m1, e1, ev⟩ := bind_eq_ok (show (evE φ es ρ m).bind (fun r m => (Out.of m (parE [(i, false), (j, false), (k, false)] (argsOf r) ρ)).bind fun ρ1 m => Out.ok (Flow.nx ρ1) m) = .ok f m' from ev)
  obtain ⟨l, rfl⟩ := hn _ _ _ _ e1
  obtain ⟨ρ1, m2, e2', ev⟩ := bind_eq_ok ev
  obtain ⟨e2, rfl⟩ := of_eq_ok e2'
  cases ev
  refine ⟨O, C, ρ, m, l, _, s.M, s.en, e1, fun vs H1 k1 M1 R => ?_⟩
  have s1 := s.next k1 M1
  have t1 : Tr O H O H1 := .keep s.M.sub k1
  have R : RpAll K O C H1 l vs := R
  match l, R, e2 with
  | [d1, d2, d3], .cons r1 (.cons r2 (.cons r3 .nil)), e2 =>
    have e2 : (if i < ρ.length then (if j < (setE ρ i (some (.val d1))).length then (if k < (setE (setE ρ i (some (.val d1))) j (some (.val d2))).length then some (setE (setE (setE ρ i (some (.val d1))) j (some (.val d2))) k (some (.val d3))) else none) else none) else none) = some ρ1 := e2
    split at e2
    case isFalse => cases e2
    split at e2
    case isFalse => cases e2
    split at e2
    case isFalse => cases e2
    cases e2
    exact ⟨_, _, _, rfl, q O _ H1 (((s1.set i r1).set j r2).set k r3) t1⟩
  | [], _, e2 => simp [argsOf, parE] at e2
  | [_], _, e2 => simp [argsOf, parE] at e2
  | [_, _], _, e2 => simp [argsOf, parE] at e2
  | _ :: _ :: _ :: _ :: _, _, e2 => simp [argsOf, parE] at e2
theorem FlowOk.forget {O0 C O : List Addr} {H0 : Hp} {m : Mem} {ρ : Env} (w : List Nat) (h : FlowOk K O0 C H0 O H D m (.nx (wipeE ρ w))) : ∀ O' σ' H', StOk K O0 C H0 O' H' m ρ σ' → Tr O H O' H' → D.nx σ' H' := fun O' σ' H' s t => h O' σ' H' (s.forget w) t
theorem tS_while {n : Nat} {w : List Nat} {c : E} {b : S} : tS K φ (.whl n w c b) D σ H → tWhile (tT K φ c) (tS K φ b) D σ H := by
  rintro ⟨O0, C, H0, O, ρ, m, f, m', bs, s, ev, q⟩
  have ev : whlL (evE φ c) (evS φ b) w n (wipeE ρ w) m = .ok f m' := ev
  refine ⟨fun j σ1 H1 => ∃ O1 ρ1 m1, StOk K O0 C H0 O1 H1 m1 ρ1 σ1 ∧ Tr O H O1 H1 ∧ whlL (evE φ c) (evS φ b) w j ρ1 m1 = .ok f m', ⟨n, O, wipeE ρ w, m, s.forget w, .refl, ev⟩, ?_⟩
  rintro j σ1 H1 ⟨O1, ρ1, m1, s1, t1, ev1⟩
  cases j with
  | zero => cases ev1
  | succ j =>
    obtain ⟨x, m2, e2, ev2⟩ := bind_eq_ok (show (evE φ c ρ1 m1).bind (fun x m => match truD x with
      | some true => (evS φ b ρ1 m).bind fun f m => match f with
        | .nx ρ1 => whlL (evE φ c) (evS φ b) w j (wipeE ρ1 w) m
        | .ct ρ1 => whlL (evE φ c) (evS φ b) w j (wipeE ρ1 w) m
        | .bk ρ1 => .ok (.nx (wipeE ρ1 w)) m
        | .rt d => .ok (.rt d) m
      | some false => .ok (.nx ρ1) m
      | none => .no) = .ok f m' from ev1)
    split at ev2
    · rename_i ht
      refine ⟨O1, C, ρ1, m1, x, m2, true, s1.M, s1.en, e2, ht, fun H2 k2 M2 => ?_⟩
      (try dsimp only)
      rw [if_pos rfl]
      have s2 := s1.next k2 M2
      have t2 : Tr O H O1 H2 := t1.trans (.keep s1.M.sub k2)
      obtain ⟨fb, m3, e3, ev3⟩ := bind_eq_ok ev2
      refine ⟨fun σ' H' => ∃ O1 ρ1 m1, StOk K O0 C H0 O1 H' m1 ρ1 σ' ∧ Tr O H O1 H' ∧ whlL (evE φ c) (evS φ b) w j ρ1 m1 = .ok f m', fun σ' H' h => ⟨j, Nat.lt_succ_self _, h⟩, O0, C, H0, O1, ρ1, m2, fb, m3, bs, s2, e3, ?_⟩
      cases fb with
      | nx ρ3 => exact fun O' σ' H' s' t' => ⟨O', wipeE ρ3 w, m3, s'.forget w, t2.trans t', ev3⟩
      | ct ρ3 => exact fun O' σ' H' s' t' => ⟨O', wipeE ρ3 w, m3, s'.forget w, t2.trans t', ev3⟩
      | bk ρ3 => cases ev3; exact fun O' σ' H' s' t' => q.forget w O' σ' H' s' (t2.trans t')
      | rt d => cases ev3; exact q
    · rename_i ht
      cases ev2
      refine ⟨O1, C, ρ1, m1, x, _, false, s1.M, s1.en, e2, ht, fun H2 k2 M2 => ?_⟩
      (try dsimp only)
      rw [if_neg Bool.false_ne_true]
      exact q O1 σ1 H2 (s1.next k2 M2) (t1.trans (.keep s1.M.sub k2))
    · cases ev2
theorem tS_for {w : List Nat} {t : T} {k : ItK} {it : E} {b : S} (hb : brA it = false) : tS K φ (.for w t k it b) D σ H → tFor (tI K φ k it) (tG K t) (tS K φ b) D σ H := by
  rintro ⟨O0, C, H0, O, ρ, m, f, m', bs, s, ev, q⟩
  obtain ⟨r, m1, e1, ev⟩ := bind_eq_ok (show (evE φ it ρ m).bind (fun r m => (Out.of m (itemsD k (argsOf r))).bind fun xs m =>
      forL (fun x ρ m => (Out.of m (putT t x ρ)).bind fun ρ1 m => evS φ b ρ1 m) w xs (wipeE ρ w) m) = .ok f m' from ev)
  obtain ⟨xs, m2, e2, ev⟩ := bind_eq_ok ev
  refine ⟨O, C, ρ, m, xs, m2, s.M, s.en, by show (evE φ it ρ m).bind _ = _; rw [e1]; exact e2, fun J H1 G k1 M1 wk g z => ?_⟩
  have s1 := s.next k1 M1
  have t1 : Tr O H O H1 := .keep s.M.sub k1
  have gAt : ∀ {O' H'}, Tr O H1 O' H' → G O' C H' := fun {O' H'} t => wk.mvs hb O C H1 O' C H' t.kp t.oo (fun _ _ e => e) g
  refine ⟨fun i j σ' H' => j = xs.length - i ∧ i ≤ xs.length ∧ ∃ O' ρ' m0, StOk K O0 C H0 O' H' m0 ρ' σ' ∧ Tr O H1 O' H' ∧ forL (fun x ρ m => (Out.of m (putT t x ρ)).bind fun ρ1 m => evS φ b ρ1 m) w (xs.drop i) ρ' m0 = .ok f m',
    ⟨xs.length, by simp, Nat.zero_le _, O, wipeE ρ w, m2, s1.forget w, .refl, ev⟩, ?_⟩
  rintro i j σ2 H2 ⟨rfl, hi, O2, ρ2, m0, s2, t2, ev2⟩
  by_cases hlt : i < xs.length
  · obtain ⟨x0, hx0⟩ : ∃ d, xs[i]? = some d := ⟨xs[i], by simp [hlt]⟩
    have hdrop : xs.drop i = x0 :: xs.drop (i + 1) := by
      rw [List.drop_eq_getElem_cons hlt]
      congr 1
      rw [List.getElem?_eq_getElem hlt] at hx0
      exact Option.some.inj hx0
    rw [hdrop] at ev2
    obtain ⟨fb, m3, e3, ev3⟩ := bind_eq_ok (show ((Out.of m0 (putT t x0 ρ2)).bind fun ρ1 m => evS φ b ρ1 m).bind (fun f m => match f with
      | .nx ρ1 => forL (fun x ρ m => (Out.of m (putT t x ρ)).bind fun ρ1 m => evS φ b ρ1 m) w (xs.drop (i + 1)) (wipeE ρ1 w) m
      | .ct ρ1 => forL (fun x ρ m => (Out.of m (putT t x ρ)).bind fun ρ1 m => evS φ b ρ1 m) w (xs.drop (i + 1)) (wipeE ρ1 w) m
      | .bk ρ1 => .ok (.nx (wipeE ρ1 w)) m
      | .rt d => .ok (.rt d) m) = .ok f m' from ev2)
    obtain ⟨ρ3, m4, e4', e5⟩ := bind_eq_ok e3
    obtain ⟨e4, rfl⟩ := of_eq_ok e4'
    refine .inr ⟨wk.go i _ _ H2 hlt (gAt t2), fun σ' H' => (i + 1 ≤ xs.length ∧ ∃ O' ρ' m0, StOk K O0 C H0 O' H' m0 ρ' σ' ∧ Tr O H1 O' H' ∧ forL (fun x ρ m => (Out.of m (putT t x ρ)).bind fun ρ1 m => evS φ b ρ1 m) w (xs.drop (i + 1)) ρ' m0 = .ok f m'),
      fun σ' H' h => ⟨xs.length - (i + 1), by omega, rfl, h.1, h.2⟩, fun x H' hy => ?_⟩
    obtain ⟨ky, rx⟩ := wk.yld i _ _ H2 x H' x0 hx0 (gAt t2) hy
    have s3 := s2.next (ky C) (s2.M.grow ky)
    have t3 : Tr O H1 O2 H' := t2.trans (.keep s2.M.sub (ky C))
    refine ⟨O2, C, ρ2, x0, ρ3, s3.en, rx, e4, fun σ4 En4 w4 => ?_⟩
    have s4 := s3.tgt e4 En4 w4
    refine ⟨O0, C, H0, O2, ρ3, m0, fb, m3, bs, s4, e5, ?_⟩
    cases fb with
    | nx ρ5 => exact fun O' σ' H' s' t' => ⟨hlt, O', wipeE ρ5 w, m3, s'.forget w, t3.trans t', ev3⟩
    | ct ρ5 => exact fun O' σ' H' s' t' => ⟨hlt, O', wipeE ρ5 w, m3, s'.forget w, t3.trans t', ev3⟩
    | bk ρ5 => cases ev3; exact fun O' σ' H' s' t' => q.forget w O' σ' H' s' (t1.trans (t3.trans t'))
    | rt d => cases ev3; exact q
  · have e : i = xs.length := by omega
    subst e
    rw [List.drop_length] at ev2
    cases ev2
    exact .inl ⟨wk.stop _ _ H2 (gAt t2), q O2 σ2 H2 s2 (t1.trans t2)⟩
end
end Ev

set_option maxHeartbeats 4000000
namespace Ev
open PySem PySem.Spec PyProof.Rows L2
def blkHit (scope : Scope) (x : Str) : Bool := scope.names.any fun (n, k) => n == x && (k == .local || k == .cell)
/-- the store of a comprehension's value ahead of its variables' end -/
def swC (sc : Scope) (x : Str) (p : Pos) (v : Expr) : Bool := match v with
  | .ListComp _ _ s _ => (sc.names.lookup x == some .local) && p.line == v.pos.line && !blkHit s x
  | .SetComp _ _ s _ => (sc.names.lookup x == some .local) && p.line == v.pos.line && !blkHit s x
  | .DictComp _ _ _ s _ => (sc.names.lookup x == some .local) && p.line == v.pos.line && !blkHit s x
  | _ => false
def notComp : Expr → Bool
  | .ListComp .. => false
  | .SetComp .. => false
  | .DictComp .. => false
  | _ => true
def isLc : Expr → Bool
  | .ListComp .. => true
  | _ => false
def starred : Expr → Bool
  | .Starred .. => true
  | _ => false
def locNames (sc : Scope) (line : Nat) (ts : List Expr) : List Str := ts.filterMap fun
  | .Name id pos => if sc.names.lookup id == some .local && pos.line == line then some id else none
  | _ => none
/-- the stores from the right: none not so, some names; not modelled -/
def swS (sc : Scope) (ts vs : List Expr) : Option (Option (List Str)) :=
  if !(ts.length == 2 || ts.length == 3) || vs.length != ts.length then some none
  else if vs.any starred then some none
  else
    let names := locNames sc ((ts.head?.map (·.pos.line)).getD 0) ts
    if names.length != ts.length || names.eraseDups.length != names.length then some none
    else if vs.all (foldedForSure 8) then some none
    else if vs.all (constantsAlone 8) then none
    else some (some names)
section
variable {env : PySem.Env} {sc : Scope}
theorem swC_eq (hs : env.scope = sc) (hk : sc.kind = .function) {x : Str} {p : Pos} {v : Expr} {line : Nat} : swapsWith v (some (.Name x p)) line env = pure (swC sc x p v) := by
  have hb : (env.blockKind == .function) = true := by
    unfold Env.blockKind
    rw [hs, hk]; rfl
  subst hs
  cases v <;> first
    | rfl
    | (show pure (env.blockKind == .function && _ && _ && _) = _; rw [hb]; rfl)
theorem notComp_eq {v : Expr} (h : notComp v = true) {t : Option Expr} {line : Nat} : swapsWith v t line env = pure false := by
  cases v <;> first | rfl | cases h
theorem swapsT {v : Expr} {es : List Expr} {k : Nat} {p : Pos} {line : Nat} : swapsWithSole [.Tuple es k p] v line env = pure false := by cases v <;> rfl
theorem swapsSub {v o i : Expr} {p : Pos} {line : Nat} : swapsWithSole [.Subscript o i p] v line env = pure false := by cases v <;> rfl
theorem swapsS {v : Expr} {es : List Expr} {k : Nat} {p : Pos} (h : ∀ vs k2 p2, v = .Tuple vs k2 p2 → False) : swappedStores [.Tuple es k p] v env = pure none := by
  cases v with
  | Tuple a b c => exact (h a b c rfl).elim
  | _ => rfl
theorem swapsN {v : Expr} {x : Str} {p : Pos} : swappedStores [.Name x p] v env = pure none := by cases v <;> rfl
theorem swapsB {v o i : Expr} {p : Pos} : swappedStores [.Subscript o i p] v env = pure none := by cases v <;> rfl
theorem swS_eq (hs : env.scope = sc) (hk : sc.kind = .function) {ts vs : List Expr} {k k2 : Nat} {p p2 : Pos} {o : Option (List Str)} (h : swS sc ts vs = some o) : swappedStores [.Tuple ts k p] (.Tuple vs k2 p2) env = pure o := by
  have hb : (env.blockKind != .function) = false := by
    unfold Env.blockKind
    rw [hs, hk]; rfl
  subst hs
  unfold swS at h
  unfold swappedStores
  show (if (!(ts.length == 2 || ts.length == 3) || vs.length != ts.length || env.blockKind != .function) = true then pure none else if (vs.any fun | .Starred .. => true | _ => false) = true then pure none else
    if ((locNames env.scope ((ts.head?.map (·.pos.line)).getD 0) ts).length != ts.length || (locNames env.scope ((ts.head?.map (·.pos.line)).getD 0) ts).eraseDups.length != (locNames env.scope ((ts.head?.map (·.pos.line)).getD 0) ts).length) = true then pure none else
    if vs.all (foldedForSure 8) = true then pure none else if vs.all (constantsAlone 8) = true then _ else pure (some (locNames env.scope ((ts.head?.map (·.pos.line)).getD 0) ts))) = pure o
  rw [hb, Bool.or_false]
  have hst : (vs.any fun | .Starred .. => true | _ => false) = vs.any starred := rfl
  rw [hst]
  split at h
  · rename_i h1
    cases h
    rw [if_pos h1]
  · rename_i h1
    rw [if_neg h1]
    split at h
    · rename_i h2
      cases h
      rw [if_pos h2]
    · rename_i h2
      rw [if_neg h2]
      dsimp only at h
      split at h
      · rename_i h3
        cases h
        rw [if_pos h3]
      · rename_i h3
        rw [if_neg h3]
        split at h
        · rename_i h4
          cases h
          rw [if_pos h4]
        · rename_i h4
          rw [if_neg h4]
          split at h
          · cases h
          · rename_i h5
            cases h
            rw [if_neg h5]
end
structure CkS where
  one : Cc → Stmt → Bool
  blk : Cc → List Stmt → Bool
def CkS.o (f : Cc → Stmt → Bool) : CkS := ⟨f, fun _ _ => false⟩
def locC (c : Cc) (x : Str) : Bool := c.sc.names.lookup x == some .local
def isFrz : S → Bool
  | .frz _ => true
  | _ => false
def isCmp : E → Bool
  | .comp .. => true
  | _ => false
def nameOk (G : Gc) (c : Cc) (i : Nat) (x : Str) (p : Pos) (e : E) (v : Expr) : Bool := stC c i x && (chk G e).e c v && (!swC c.sc x p v || (isLc v && locC c x && isCmp e))
def chkS (G : Gc) : S → CkS
  | .skip => ⟨fun _ st => match st with
    | .Pass _ => true
    | .Expr (.Constant (.str _) _ _) _ => true
    | _ => false, fun _ l => l.isEmpty⟩
  | .seq a r => ⟨fun _ _ => false, fun c l => if isFrz a then (chkS G r).blk c l else match l with
    | st :: rest => (chkS G a).one c st && (chkS G r).blk c rest
    | [] => false⟩
  | .expr e => .o fun c st => match st with
    | .Expr x _ => notComp x && (chk G e).e c x
    | _ => false
  | .asg (.name i) e => .o fun c st => match st with
    | .Assign [.Name x p] v _ => !isBr (kd e) && nameOk G c i x p e v
    | _ => false
  | .asg (.tup ts) e => .o fun c st => match st with
    | .Assign [.Tuple es k p] v _ => !isBr (kd e) && chkG c (.tup ts) (.Tuple es k p) && (chk G e).e c v && (match v with
      | .Tuple vs _ _ => decide (swS c.sc es vs = some none)
      | _ => true)
    | _ => false
  | .own i e => .o fun c st => match st with
    | .Assign [.Name x p] v _ => isFr (kd e) && nameOk G c i x p e v
    | _ => false
  | .par [(i, false), (j, false)] es => .o fun c st => match st with
    | .Assign [.Tuple [.Name x px, .Name y py] k p] (.Tuple [a, b] _ _) _ => stC c i x && stC c j y && locC c x && locC c y && decide (i ≠ j) && smallN (argN es) && (chk G es).a true c [a, b]
        && decide (swS c.sc [.Name x px, .Name y py] [a, b] = some (some [x, y]))
    | _ => false
  | .par [(i, false), (j, false), (l, false)] es => .o fun c st => match st with
    | .Assign [.Tuple [.Name x px, .Name y py, .Name z pz] k p] (.Tuple [a, b, d] _ _) _ => stC c i x && stC c j y && stC c l z && locC c x && locC c y && locC c z && decide (i ≠ j) && decide (i ≠ l) && decide (j ≠ l)
        && smallN (argN es) && (chk G es).a true c [a, b, d] && decide (swS c.sc [.Name x px, .Name y py, .Name z pz] [a, b, d] = some (some [x, y, z]))
    | _ => false
  | .app i e => .o fun c st => match st with
    | .Expr (.Call (.Attribute (.Name x _) a apos) [y] [] cpos) _ => a == ("append" : Str) && nmC c i x && apos.endLine == cpos.line && noStar [y] && !isBr (kd e) && (chk G e).e c y
    | _ => false
  | .sub i k e => .o fun c st => match st with
    | .Assign [.Subscript (.Name x _) y _] v _ => nmC c i x && plainI y && !isBr (kd e) && (chk G k).e c y && (chk G e).e c v
    | _ => false
  | .subc i k e => .o fun c st => match st with
    | .Assign [.Subscript (.Name x _) y _] v _ => nmC c i x && plainI y && !isBr (kd e) && (chk G k).e c y && (chk G e).e c v
    | _ => false
  | .aug i op e => .o fun c st => match st with
    | .AugAssign (.Name x _) o y _ => stC c i x && decide (o = pyB op) && augOk op && (chk G e).e c y
    | _ => false
  | .ite t a b => .o fun c st => match st with
    | .If x xs ys _ => (chk G t).t c x && (chkS G a).blk c xs && (chkS G b).blk c ys
    | _ => false
  | .for w t k it b => .o fun c st => match st with
    | .For tg iter body [] _ => !brA it && itC G k (argN it) (chk G it).a c tg iter && chkG c t tg && (chkS G b).blk c body
    | _ => false
  | .whl n w t b => .o fun c st => match st with
    | .While x body [] _ => (chk G t).t c x && (chkS G b).blk c body
    | _ => false
  | .ret e => .o fun c st => match st with
    | .Return (some x) _ => !isBr (kd e) && (chk G e).e c x
    | .Return none _ => (match e with | .cst .non => true | _ => false)
    | _ => false
  | .brk => .o fun _ st => match st with
    | .Break _ => true
    | _ => false
  | .cnt => .o fun _ st => match st with
    | .Continue _ => true
    | _ => false
  | .rais _ _ => .o fun _ st => match st with
    | .Raise _ _ _ => true
    | _ => false
  | _ => .o fun _ _ => false
structure XS (G : Gc) (φ : Phi) (c : Cc) (X : Cx) : Prop where
  g : XG G φ c X
  kind : c.sc.kind = .function
  pas : PassesOwn (model X.prog X.w) X.A X.env X.xe
structure OkS (G : Gc) (φ : Phi) (s : S) : Prop where
  one : ∀ (c : Cc) (X : Cx) (st : Stmt), XS G φ c X → (chkS G s).one c st = true → PS X st (tS X.K φ s)
  blk : ∀ (c : Cc) (X : Cx) (l : List Stmt), XS G φ c X → (chkS G s).blk c l = true → PSs X l (tS X.K φ s)
section
variable {G : Gc} {φ : Phi}
theorem OkS.o {s : S} {f : Cc → Stmt → Bool} (hc : chkS G s = .o f) (h : ∀ (c : Cc) (X : Cx) (st : Stmt), XS G φ c X → f c st = true → PS X st (tS X.K φ s)) : OkS G φ s := by
  refine ⟨fun c X st g hh => h c X st g (by rw [hc] at hh; exact hh), fun c X l g hh => ?_⟩
  rw [hc] at hh
  exact absurd (show false = true from hh) (by decide)
theorem tAsg_imp {X : Cx} {D : Ends} {σ : SSt} {H : Hp} {t t' : TE} {g : TG} (i : ∀ σ H Q, t σ H Q → t' σ H Q) (h : tAsg t g D σ H) : tAsg t' g D σ H := i _ _ _ h
/-- name = a list comprehension, whatever the order of its end -/
theorem ps_name {c : Cc} {X : Cx} {i : Nat} {x : Str} {p : Pos} {e : E} {v : Expr} {pos : Pos} (g : XS G φ c X) (h : nameOk G c i x p e v = true) : PS X (.Assign [.Name x p] v pos) (tAsg (tE X.K φ e) (gName i)) := by
  unfold nameOk at h
  simp only [Bool.and_eq_true, Bool.or_eq_true, Bool.not_eq_true'] at h
  obtain ⟨⟨h1, h2⟩, h3⟩ := h
  obtain ⟨hi, hl, hf⟩ := st_of g.g h1
  cases hsw : swC c.sc x p v with
  | false =>
    exact ps_set g.g.nd hi hl ((soundE e).e c X v g.g h2) (by rw [swC_eq g.g.sc g.kind, hsw]) hf
  | true =>
    rw [hsw] at h3
    obtain ⟨⟨h4, h5⟩, h6⟩ := h3.resolve_left (by decide)
    have hloc : X.env.scope.names.lookup x = some .local := by
      rw [g.g.sc]
      exact eq_of_beq h5
    cases v with
    | ListComp x' gs scope vp =>
      cases e with
      | comp own t k it ifs elt =>
        dsimp only [chk, Ck.mk'] at h2
        split at h2
        case h_2 => cases h2
        rename_i hv
        cases hv
        simp only [Bool.and_eq_true, decide_eq_true_eq] at h2
        obtain ⟨⟨⟨⟨⟨⟨⟨⟨k0, k1⟩, k2⟩, k3⟩, k4⟩, k5⟩, k6⟩, k7⟩, k8⟩ := h2
        have ok : BlkOk c.N c.sc scope (ownN c own) := blkOk_by k1
        have ok' : BlkOk X.N X.env.scope scope (ownN c own) := by rw [g.g.eN, g.g.sc]; exact ok
        obtain ⟨hi', hs⟩ := itC_ok (soundE it).a (fun a ha => (soundE it).h a _ ha) g.g k5
        have hw := ps_setLc (i := i) (y := x) (py := p) (te := tE X.K φ elt) (g := tG X.K t) (tt := tT X.K φ ifs) (pos := vp) (spos := pos) g.g.calm g.g.nd hi hloc (by rw [swC_eq g.g.sc g.kind, hsw]) hi' ok'
          (fun s H C cl fp => (soundG t).1 (inComp c scope) _ _ (g.g.blk (s := s) (H := H) (cl := cl) (C := C) (fp := fp) ok) k6)
          (fun s H C cl fp => by
            have gb := g.g.blk (s := s) (H := H) (cl := cl) (C := C) (fp := fp) ok
            split at k7
            · split at k7
              · exact ⟨fun pins s σ H Q I q => pts_nil.run pins s σ H Q I (by
                  obtain ⟨O, C, ρ, m, r, m', t, M, En, ev, hh, q⟩ := q
                  cases ev
                  cases hh
                  exact q H Keep.refl M)⟩
              · cases k7
            · exact pts_one ((soundE ifs).t (inComp c scope) _ _ gb k7)
            · cases k7)
          (fun s H C cl fp => (soundE elt).e (inComp c scope) _ _ (g.g.blk (s := s) (H := H) (cl := cl) (C := C) (fp := fp) ok) k8) (fun x => hs _ x)
        rw [k0] at hw
        exact ps_imp hw fun D σ H q => tE_comp (fun i hi => by
          have := List.all_eq_true.mp k3 i hi
          rwa [List.contains_iff_mem] at this) (no_of k4) q
      | _ => cases h6
    | _ => cases h4
theorem sub_arm {X : Cx} {o i : Expr} {pos : Pos} (h : plainI i = true) : ∀ v, assign (.Subscript o i pos) X.env v = (do
      let ov ← holding [v] (eval o X.env)
      let iv ← holding [v, ov] (eval i X.env)
      standAt pos
      holding [v, ov, iv] (setItem ov iv v)
      release [v, ov, iv] []) := by
  intro v
  cases i <;> first | rfl | cases h
theorem ps_subE {c : Cc} {X : Cx} {i : Nat} {x : Str} {px p pos : Pos} {k e : E} {y v : Expr} (g : XS G φ c X) (h1 : nmC c i x = true) (h2 : plainI y = true) (h3 : (chk G k).e c y = true) (h4 : (chk G e).e c v = true) :
    PS X (.Assign [.Subscript (.Name x px) y p] v pos) (tAsg (tE X.K φ e) (gSub (tVar i) (tE X.K φ k) rSetL)) :=
  ps_asg ((soundE e).e c X v g.g h4) (pg_sub (nm_of g.g h1) ((soundE k).e c X y g.g h3) set_list (sub_arm h2)) swapsSub swapsB
theorem lt_argN {es : E} (h : smallN (argN es) = true) : ∀ ρ m r m', evE φ es ρ m = .ok r m' → ∃ l, r = .tup l := fun ρ m r m' ev => by
  obtain ⟨n, hn, _⟩ := smallN_line h
  obtain ⟨l, e, _⟩ := args_argN es n ρ m m' r hn ev
  exact ⟨l, e⟩
theorem soundS (s : S) : OkS G φ s := by
  induction s with
  | skip =>
    refine ⟨fun c X st g h => ?_, fun c X l g h => ?_⟩
    · dsimp only [chkS] at h
      split at h
      · exact ps_imp ps_pass fun D σ H q => tS_skip q
      · exact ps_imp ps_doc fun D σ H q => tS_skip q
      · cases h
    · cases l with
      | nil => exact pss_imp pss_nil fun D σ H q => tS_skip q
      | cons a r => cases h
  | seq a r ih1 ih2 =>
    refine ⟨fun c X st g h => absurd (show false = true from h) (by decide), fun c X l g h => ?_⟩
    dsimp only [chkS] at h
    split at h
    · rename_i hf
      cases a with
      | frz i => exact pss_imp (ih2.blk c X l g h) fun D σ H q => tS_frz q
      | _ => cases hf
    · split at h
      · rw [Bool.and_eq_true] at h
        exact pss_imp (pss_cons (ih1.one c X _ g h.1) (ih2.blk c X _ g h.2)) fun D σ H q => tS_seq q
      · cases h
  | expr e =>
    refine .o rfl fun c X st g h => ?_
    split at h
    · rw [Bool.and_eq_true] at h
      exact ps_imp (ps_expr ((soundE e).e c X _ g.g h.2) (notComp_eq h.1)) fun D σ H q => tS_expr q
    · cases h
  | asg t e =>
    cases t with
    | name i =>
      refine .o rfl fun c X st g h => ?_
      split at h
      · rw [Bool.and_eq_true] at h
        exact ps_imp (ps_name g h.2) fun D σ H q => tS_asgN (no_of h.1) q
      · cases h
    | tup ts =>
      refine .o rfl fun c X st g h => ?_
      split at h
      · rename_i es k p v pos
        simp only [Bool.and_eq_true] at h
        obtain ⟨⟨⟨h1, h2⟩, h3⟩, h4⟩ := h
        have hw : swappedStores [.Tuple es k p] v X.env = pure none := by
          split at h4
          · exact swS_eq g.g.sc g.kind (of_decide_eq_true h4)
          · rename_i hv
            exact swapsS fun vs k2 p2 e => hv vs k2 p2 e
        exact ps_imp (ps_asg ((soundE e).e c X _ g.g h3) ((soundG (.tup ts)).1 c X _ g.g h2) swapsT hw) fun D σ H q => tS_asg (no_of h1) q
      · cases h
    | _ => exact .o rfl fun c X st g h => absurd (show false = true from h) (by decide)
  | own i e =>
    refine .o rfl fun c X st g h => ?_
    split at h
    · rw [Bool.and_eq_true] at h
      exact ps_imp (ps_name g h.2) fun D σ H q => tS_own h.1 q
    · cases h
  | par fl es =>
    match fl with
    | [(i, false), (j, false)] =>
      refine .o rfl fun c X st g h => ?_
      split at h
      · simp only [Bool.and_eq_true, decide_eq_true_eq] at h
        obtain ⟨⟨⟨⟨⟨⟨⟨h1, h2⟩, h3⟩, h4⟩, h5⟩, h6⟩, h7⟩, h8⟩ := h
        refine ps_imp (ps_par g.g.calm g.g.nd (st_of g.g h1).1 (st_of g.g h2).1 h5 (by rw [g.g.sc]; exact eq_of_beq h3) (by rw [g.g.sc]; exact eq_of_beq h4) ((soundE es).a true c X _ g.g h7) (swS_eq g.g.sc g.kind h8) swapsT) fun D σ H q => tS_par2 (lt_argN h6) q
      · cases h
    | [(i, false), (j, false), (l, false)] =>
      refine .o rfl fun c X st g h => ?_
      split at h
      · simp only [Bool.and_eq_true, decide_eq_true_eq] at h
        obtain ⟨⟨⟨⟨⟨⟨⟨⟨⟨⟨⟨h1, h2⟩, h3⟩, h4⟩, h5⟩, h6⟩, h7⟩, h8⟩, h9⟩, ha⟩, hb⟩, hd⟩ := h
        refine ps_imp (ps_par3 g.g.calm g.g.nd (st_of g.g h1).1 (st_of g.g h2).1 (st_of g.g h3).1 h7 h8 h9 (by rw [g.g.sc]; exact eq_of_beq h4) (by rw [g.g.sc]; exact eq_of_beq h5) (by rw [g.g.sc]; exact eq_of_beq h6) ((soundE es).a true c X _ g.g hb) (swS_eq g.g.sc g.kind hd) swapsT) fun D σ H q => tS_par3 (lt_argN ha) q
      · cases h
    | [] => exact .o rfl fun c X st g h => absurd (show false = true from h) (by decide)
    | [_] => exact .o (f := fun _ _ => false) (by rename_i a; obtain ⟨i, b⟩ := a; cases b <;> rfl) fun c X st g h => absurd (show false = true from h) (by decide)
    | [(_, true), _] => exact .o (f := fun _ _ => false) rfl fun c X st g h => absurd (show false = true from h) (by decide)
    | [(_, false), (_, true)] => exact .o (f := fun _ _ => false) rfl fun c X st g h => absurd (show false = true from h) (by decide)
    | [(_, true), _, _] => exact .o (f := fun _ _ => false) rfl fun c X st g h => absurd (show false = true from h) (by decide)
    | [(_, false), (_, true), _] => exact .o (f := fun _ _ => false) rfl fun c X st g h => absurd (show false = true from h) (by decide)
    | [(_, false), (_, false), (_, true)] => exact .o (f := fun _ _ => false) rfl fun c X st g h => absurd (show false = true from h) (by decide)
    | (_, a) :: (_, b) :: (_, d) :: _ :: _ => exact .o (f := fun _ _ => false) (by cases a <;> cases b <;> cases d <;> rfl) fun c X st g h => absurd (show false = true from h) (by decide)
  | app i e =>
    refine .o rfl fun c X st g h => ?_
    split at h
    · rename_i x px a apos y cpos pos
      simp only [Bool.and_eq_true] at h
      obtain ⟨⟨⟨⟨⟨h1, h2⟩, h3⟩, h4⟩, h5⟩, h6⟩ := h
      cases eq_of_beq h1
      have hp : PE X (.Call (.Attribute (.Name x px) "append" apos) [y] [] cpos) (tBM X.K "list" rAppend (tVar i) (tCons (tE X.K φ e) tNil)) :=
        pe_bm PySem.F.plainAttrs_list PySem.F.slot_list_append PySem.F.type_list_append mt_append (nm_of g.g h2) (pa_cons ((soundE e).e c X y g.g h6) pa_nil (star_cons h4)) rfl
          (by rw [star_cons h4]; rfl) h3 (star_cons h4) rfl
      exact ps_imp (ps_expr hp rfl) fun D σ H q => tS_app (no_of h5) q
    · cases h
  | sub i k e =>
    refine .o rfl fun c X st g h => ?_
    split at h
    · simp only [Bool.and_eq_true] at h
      obtain ⟨⟨⟨⟨h1, h2⟩, h3⟩, h4⟩, h5⟩ := h
      exact ps_imp (ps_subE g h1 h2 h4 h5) fun D σ H q => tS_sub (no_of h3) q
    · cases h
  | subc i k e =>
    refine .o rfl fun c X st g h => ?_
    split at h
    · simp only [Bool.and_eq_true] at h
      obtain ⟨⟨⟨⟨h1, h2⟩, h3⟩, h4⟩, h5⟩ := h
      exact ps_imp (ps_subE g h1 h2 h4 h5) fun D σ H q => tS_subc (no_of h3) q
    · cases h
  | aug i op e =>
    refine .o rfl fun c X st g h => ?_
    split at h
    · simp only [Bool.and_eq_true, decide_eq_true_eq] at h
      obtain ⟨⟨⟨h1, rfl⟩, h3⟩, h4⟩ := h
      obtain ⟨hi, hl, hf⟩ := st_of g.g h1
      exact ps_imp (ps_aug g.g.nd hi hl ((soundE e).e c X _ g.g h4) (ip_E op h3) hf) fun D σ H q => tS_aug q
    · cases h
  | ite t a b ih1 ih2 =>
    refine .o rfl fun c X st g h => ?_
    split at h
    · simp only [Bool.and_eq_true] at h
      exact ps_imp (ps_if ((soundE t).t c X _ g.g h.1.1) (ih1.blk c X _ g h.1.2) (ih2.blk c X _ g h.2)) fun D σ H q => tS_ite q
    · cases h
  | «for» w t k it b ih =>
    refine .o rfl fun c X st g h => ?_
    split at h
    · simp only [Bool.and_eq_true] at h
      obtain ⟨⟨⟨h1, h2⟩, h3⟩, h4⟩ := h
      obtain ⟨hi, hs⟩ := itC_ok (soundE it).a (fun a ha => (soundE it).h a _ ha) g.g h2
      exact ps_imp (ps_for g.pas g.g.calm hi ((soundG t).1 c X _ g.g h3) (ih.blk c X _ g h4) (fun x => hs _ x)) fun D σ H q => tS_for (no_of h1) q
    · cases h
  | whl n w t b ih =>
    refine .o rfl fun c X st g h => ?_
    split at h
    · simp only [Bool.and_eq_true] at h
      exact ps_imp (ps_while g.pas ((soundE t).t c X _ g.g h.1) (ih.blk c X _ g h.2)) fun D σ H q => tS_while q
    · cases h
  | ret e =>
    refine .o rfl fun c X st g h => ?_
    split at h
    · rw [Bool.and_eq_true] at h
      exact ps_imp (ps_ret ((soundE e).e c X _ g.g h.2)) fun D σ H q => tS_ret (no_of h.1) q
    · split at h
      · exact ps_imp ps_retN fun D σ H q => tS_retN q
      · cases h
    · cases h
  | brk =>
    refine .o rfl fun c X st g h => ?_
    split at h
    · exact ps_imp ps_break fun D σ H q => tS_brk q
    · cases h
  | cnt =>
    refine .o rfl fun c X st g h => ?_
    split at h
    · exact ps_imp ps_continue fun D σ H q => tS_cnt q
    · cases h
  | rais k es =>
    refine .o rfl fun c X st g h => ?_
    split at h
    · refine ps_imp ps_never fun D σ H q => ?_
      obtain ⟨O0, C, H0, O, ρ, m, f, m', b, s, ev, q⟩ := q
      obtain ⟨_, _, _, e⟩ := bind_eq_ok (show (evE φ es ρ m).bind (fun r m => Out.exc k (argsOf r) m) = .ok f m' from ev)
      cases e
    · cases h
  | _ => exact .o rfl fun c X st g h => absurd (show false = true from h) (by decide)
end
end Ev

set_option maxHeartbeats 4000000
namespace Ev
open PySem PySem.Spec PyProof.Rows L2
structure Ent where
  d : He.DefD
  ps : List Str
  N : List Str
  body : S
def cellsC (sc : Scope) : List Str := (sc.names.filter fun y => y.2 == .cell).map (·.1)
def fnScB (N P : List Str) (sc : Scope) : Bool := decide (sc.kind = .function) && !sc.isCoroutine && !sc.isGenerator && decide N.Nodup && decide (N.take P.length = P) && P.all (fun x => decide (sc.names.lookup x = some .local) || decide (sc.names.lookup x = some .cell)) && sc.names.all fun y => decide (y.2 ≠ .free)
theorem fnScB_ok {N P : List Str} {sc : Scope} (h : fnScB N P sc = true) : FnScope N P sc := by
  unfold fnScB at h
  simp only [Bool.and_eq_true, decide_eq_true_eq, Bool.not_eq_true'] at h
  obtain ⟨⟨⟨⟨⟨⟨h1, h2⟩, h3⟩, h4⟩, h5⟩, h6⟩, h7⟩ := h
  refine ⟨h1, h2, h3, h4, h5, fun x hx => ?_, fun y hy => ?_⟩
  · have := List.all_eq_true.mp h6 x hx
    simp only [Bool.or_eq_true, decide_eq_true_eq] at this
    exact this
  · exact of_decide_eq_true (List.all_eq_true.mp h7 y hy)
def fnsOf : Nat → List Ent → List (Str × Nat × Nat)
  | _, [] => []
  | i, e :: r => (e.d.at_.1, i, e.ps.length) :: fnsOf (i + 1) r
theorem fnsOf_get : ∀ (es : List Ent) (i : Nat) (x : Str) (f n : Nat), (fnsOf i es).lookup x = some (f, n) → ∃ e j, es[j]? = some e ∧ f = i + j ∧ e.d.at_.1 = x ∧ e.ps.length = n
  | [], _, _, _, _, h => by cases h
  | e :: r, i, x, f, n, h => by
    have h : ((e.d.at_.1, i, e.ps.length) :: fnsOf (i + 1) r).lookup x = some (f, n) := h
    rw [List.lookup_cons] at h
    cases q : x == e.d.at_.1 with
    | true =>
      rw [q] at h
      cases h
      exact ⟨e, 0, rfl, rfl, (eq_of_beq q).symm, rfl⟩
    | false =>
      rw [q] at h
      obtain ⟨e', j, h1, h2, h3, h4⟩ := fnsOf_get r (i + 1) x f n h
      exact ⟨e', j + 1, by simpa using h1, by omega, h3, h4⟩
def tabOf (es : List Ent) : Tab := fun i => (es[i]?).map fun e => ⟨e.d.name, e.ps, e.N, e.body⟩
/-- names: not bound by the module; ints; gcd -/
structure Nms where
  blt : List Str
  cns : List (Str × Int)
  gcds : List Str
def gcOf (n : Nms) (es : List Ent) : Gc := ⟨n.blt, fnsOf 0 es, n.cns, n.gcds⟩
def entB (G : Gc) (e : Ent) : Bool := fnScB e.N e.ps e.d.scope && (chkS G e.body).blk ⟨e.N, e.d.scope, cellsC e.d.scope⟩ e.d.body
section
variable {K : Frag} {O C O0 : List Addr} {H H0 : Hp} {m : Mem} {ρ : Env} {σ : SSt}
theorem StOk.back (s : StOk K O0 C H0 O H m ρ σ) (b : Bs O0 C H0) : MemOk K O0 C H m :=
  have hO : ∀ a, Alv H a → a ∉ O → a ∉ O0 := fun a _ n q => n (s.sub a q)
  ⟨s.M.len, fun n a d e1 e2 => (s.M.at_ n a d e1 e2).move2 (Z := []) (by simp) Keep.refl hO (fun _ _ e => e) (by simp), b.c, s.M.nd, fun a q => s.M.al a (s.sub a q)⟩
theorem startE_get {n i : Nat} {ds : List D} {x : Sl} (h : (startE n ds)[i]? = some (some x)) : ∃ d, ds[i]? = some d ∧ x = .val d := by
  unfold startE at h
  by_cases hi : i < ds.length
  · rw [List.getElem?_append_left (by simpa using hi)] at h
    rw [List.getElem?_map] at h
    cases q : ds[i]? with
    | none => rw [q] at h; cases h
    | some d => rw [q] at h; cases h; exact ⟨d, rfl, rfl⟩
  · rw [List.getElem?_append_right (by simpa using hi)] at h
    have := List.mem_of_getElem? h
    rw [List.mem_replicate] at this
    cases this.2
theorem EnvOk.start {N : List Str} {ds : List D} {vs : List V} (r : RpAll K O C H ds vs) (hn : ds.length ≤ N.length) : EnvOk K O C H (startE N.length ds) (L2.start N vs) := by
  have hl := r.length
  refine ⟨by unfold startE L2.start; simp; omega, fun i d e => ?_, fun i d e => ?_, fun i j d e a ne e1 => ?_⟩
  · obtain ⟨d', h1, h2⟩ := startE_get e
    cases h2
    obtain ⟨v, h3, h4⟩ := r.get h1
    refine ⟨v, ?_, h4⟩
    have : i < vs.length := (List.getElem?_eq_some_iff.mp h3).1
    unfold L2.start
    rw [List.getElem?_append_left (by simpa using this), List.getElem?_map, h3]
    rfl
  · obtain ⟨d', h1, h2⟩ := startE_get e
    cases h2
  · obtain ⟨d', h1, h2⟩ := startE_get e1
    cases h2
end
section
variable {P : Program} {w : World} {K : Frag} {mg : Str → Option Value} {base : Heap} {es : List Ent} {blt : Nms}
/-- what the head tells of the functions -/
structure Says (K : Frag) (mg : Str → Option Value) (es : List Ent) (blt : Nms) : Prop where
  fn : ∀ (i : Nat) e, es[i]? = some e → (∃ fd, FunD K e.d.name e.d.qual e.d.params e.d.body e.d.scope [] [] (He.fAd K e.d.at_) fd ∧ Binds K fd e.ps []) ∧ mg e.d.at_.1 = some (.ref (He.fAd K e.d.at_))
  ok : ∀ (i : Nat) e, es[i]? = some e → entB (gcOf blt es) e = true
  free : ∀ x, blt.blt.contains x = true → mg x = none
  cns : ∀ x i, blt.cns.lookup x = some i → ∃ t, mg x = some (.int i t)
  gcds : ∀ x, blt.gcds.contains x = true → mg x = some (.builtin "math.gcd")
theorem cx_xs (Y : Says K mg es blt) {k : Nat} (ih : ∀ (i : Nat) e fd, es[i]? = some e → FunD K e.d.name e.d.qual e.d.params e.d.body e.d.scope [] [] (He.fAd K e.d.at_) fd → FnOk P w K mg base CX0 k (He.fAd K e.d.at_) fd e.ps (spF K (callK (tabOf es) k) e.ps.length i))
    {N ps : List Str} {sc : Scope} (S : FnScope N ps sc) {qual : Str} {f : Addr} {cd : Value} {A : Around} {outer : List PySem.Env} {s : Shared} {H : Hp} {E : XK} (hr : Room k (A.deeper (envOfC qual sc s.heap.objs.size f cd))) :
    XS (gcOf blt es) (callK (tabOf es) k) ⟨N, sc, cellsC sc⟩ (cxOf CX0 P w K mg base N qual sc f cd A outer s H E) := by
  refine ⟨⟨rfl, S.nd, rfl, rfl, fun _ _ => rfl, Y.free, ?_, Y.cns, Y.gcds, fun x f n hl => ?_⟩, S.kind, passes_of rfl⟩
  · have := hr.un
    show (A.deeper (envOfC qual sc s.heap.objs.size f cd)).units + 80 < cLine
    omega
  · obtain ⟨e, j, h1, h2, h3, h4⟩ := fnsOf_get es 0 x f n hl
    obtain ⟨⟨fd, F, B⟩, hm⟩ := Y.fn j e h1
    refine ⟨k, _, fd, e.ps, ?_, hr, ?_, F.kp, B⟩
    · have := ih j e fd h1 F
      rw [h2, ← h4, Nat.zero_add]
      exact this
    · rw [← h3]; exact hm
theorem all_ok (Y : Says K mg es blt) : ∀ (k : Nat) (i : Nat) e fd, es[i]? = some e → FunD K e.d.name e.d.qual e.d.params e.d.body e.d.scope [] [] (He.fAd K e.d.at_) fd → FnOk P w K mg base CX0 k (He.fAd K e.d.at_) fd e.ps (spF K (callK (tabOf es) k) e.ps.length i)
  | 0, i, e, fd, he, F => ⟨fun vs H Q E h => h.1, fun A outer s H args us vs Q E _ _ _ _ h => by
      obtain ⟨_, O, C, m, ds, r, m', _, _, hh, _⟩ := h
      cases hh⟩
  | k + 1, i, e, fd, he, F => by
    have hB := Y.ok i e he
    unfold entB at hB
    rw [Bool.and_eq_true] at hB
    have S := fnScB_ok hB.1
    refine F.ok S (fun vs H Q E h => h.1) fun cdv A outer s H vs Q E hr h => ?_
    have X := cx_xs (P := P) (w := w) (base := base) Y (all_ok Y k) S (qual := e.d.qual) (f := He.fAd K e.d.at_) (cd := cdv) (A := A) (outer := outer) (s := s) (H := H) (E := E) hr
    refine ⟨_, (soundS e.body).blk _ _ _ X hB.2, ?_⟩
    obtain ⟨hl, O, C, m, ds, r, m', M, R, hf, q⟩ := h
    have hlen := R.length
    have hf : (match tabOf es i with
      | some fn => if ds.length = fn.ps.length then fin m (evS (callK (tabOf es) k) fn.body (startE fn.N.length ds) m) else .no
      | none => .no) = .ok r m' := hf
    have ht : tabOf es i = some ⟨e.d.name, e.ps, e.N, e.body⟩ := by unfold tabOf; rw [he]; rfl
    rw [ht] at hf
    dsimp only at hf
    split at hf
    case isFalse => cases hf
    rename_i hdl
    have hN : ds.length ≤ e.N.length := by
      have := congrArg List.length S.pre
      rw [List.length_take] at this
      omega
    have En := EnvOk.start (N := e.N) R hN
    have b : Bs O C H := ⟨M.sub, M.al⟩
    have st : StOk K O C H O H m (startE e.N.length ds) (L2.start e.N vs) := ⟨M, En, Keep.refl, fun _ q => q, fun j d a e1 _ => by
      obtain ⟨_, _, z⟩ := startE_get e1
      cases z⟩
    cases ho : evS (callK (tabOf es) k) e.body (startE e.N.length ds) m with
    | no => rw [ho] at hf; cases hf
    | exc c l m1 => rw [ho] at hf; cases hf
    | ok f m1 =>
      rw [ho] at hf
      have fit : ∀ {d r m'}, finD m m1 d = .ok r m' → ∀ H', MemOk K O C H' m1 → r = d ∧ m' = m1 := by
        intro d r m' hd H' M1
        have hm : m1.length = m.length := by rw [M1.len, M.len]
        unfold finD at hd
        rw [if_pos hm] at hd
        cases hd
        exact ⟨rfl, rfl⟩
      refine ⟨O, C, H, O, _, m, f, m1, b, st, ho, ?_⟩
      cases f with
      | rt d =>
        intro v H' k' M1 rp
        obtain ⟨rfl, rfl⟩ := fit hf H' M1
        exact q v H' k' M1 rp
      | nx ρ' =>
        intro O' σ' H' s' t'
        have M1 := s'.back b
        obtain ⟨rfl, rfl⟩ := fit hf H' M1
        exact q .non H' s'.kp M1 .non
      | bk ρ' => cases hf
      | ct ρ' => cases hf
def intsD (ns : List Int) : D := .lst (ns.map .int)
def rowE (seed : Int) : E := .lst (.cons (.slot 0) (.cons (.cst (.int 0)) (.cons (.cst (.int seed)) (.cons (.cst (.int 0)) .nil))))
def rowD (ns : List Int) (seed : Int) : D := .lst [intsD ns, .int 0, .int seed, .int 0]
def envL (n : Nat) (ns : List Int) : Env := some (.val (intsD ns)) :: some (.val (.ref 0)) :: List.replicate n none
structure LawEnt where
  d : He.DefD
  N : List Str
  seed : Int
  body : S
def lawB (G : Gc) (l : LawEnt) : Bool := fnScB l.N (l.N.take 1) l.d.scope && decide (2 ≤ l.N.length) && (match l.d.body with
  | .Assign [.Name x p] v _ :: rest => nameOk G ⟨l.N, l.d.scope, cellsC l.d.scope⟩ 1 x p (rowE l.seed) v && (chkS G l.body).blk ⟨l.N, l.d.scope, cellsC l.d.scope⟩ rest
  | _ => false)
def spLaw (K : Frag) : Sp := fun vs H Q _ => ∃ (a : Addr) (ns : List Int), vs = [.ref a] ∧ ns.length ≤ 63 ∧ SqL K H a (ns.map V.int) ∧ ∀ H', Q (.bl true) H'
theorem RpAll.ofInts {O C : List Addr} {H : Hp} : ∀ ns : List Int, RpAll K O C H (ns.map D.int) (ns.map V.int)
  | [] => .nil
  | n :: r => .cons (.int n) (RpAll.ofInts r)
theorem law_ok (Y : Says K mg es blt) {l : LawEnt} {fd : FuncData} {f : Addr} (F : FunD K l.d.name l.d.qual l.d.params l.d.body l.d.scope [] [] f fd) (hB : lawB (gcOf blt es) l = true) (k : Nat)
    (law : ∀ ns : List Int, ns.length ≤ 63 → ∃ m', evS (callK (tabOf es) k) l.body (envL (l.N.length - 2) ns) [rowD ns l.seed] = .ok (.rt (.bl true)) m') :
    FnOk P w K mg base CX0 (k + 1) f fd (l.N.take 1) (spLaw K) := by
  unfold lawB at hB
  simp only [Bool.and_eq_true, decide_eq_true_eq] at hB
  obtain ⟨⟨h1, h2⟩, h3⟩ := hB
  have S := fnScB_ok h1
  have l1 : (l.N.take 1).length = 1 := by rw [List.length_take]; omega
  refine F.ok S (fun vs H Q E h => by obtain ⟨a, ns, rfl, _⟩ := h; rw [l1]; rfl) fun cdv A outer s H vs Q E hr h => ?_
  have X := cx_xs (P := P) (w := w) (base := base) Y (all_ok Y k) S (qual := l.d.qual) (f := f) (cd := cdv) (A := A) (outer := outer) (s := s) (H := H) (E := E) hr
  split at h3
  case h_2 => cases h3
  rename_i x p v pos rest hb
  rw [Bool.and_eq_true] at h3
  rw [hb]
  refine ⟨_, pss_cons (ps_name X h3.1) ((soundS l.body).blk _ _ _ X h3.2), ?_⟩
  obtain ⟨a, ns, rfl, hz, hS, hq⟩ := h
  have lim : (ns.map V.int).length ≤ sizeLine := by rw [List.length_map, sizeLine_eq]; omega
  have rp : Rp K [] [] H (intsD ns) (.ref a) := by
    refine .lst ?_ lim (RpAll.ofInts ns)
    rcases hS with h | h
    · exact .inl ⟨h, by simp⟩
    · exact .inr (.inr h)
  have M0 : MemOk K [] [] H [] := ⟨rfl, fun n a d e => by simp at e, by simp, List.nodup_nil, by simp⟩
  have En0 : EnvOk K [] [] H (startE l.N.length [intsD ns]) (L2.start l.N [.ref a]) := EnvOk.start (.cons rp .nil) (by show 1 ≤ _; omega)
  have hst : startE l.N.length [intsD ns] = some (.val (intsD ns)) :: List.replicate (l.N.length - 1) none := rfl
  obtain ⟨m', ev⟩ := law ns hz
  refine ⟨[], [], _, [], rowD ns l.seed, [], M0, En0, ?_, fun v H1 k1 M1 R1 F1 => ?_⟩
  · rw [hst]; rfl
  obtain ⟨p', xs, rfl, hp, e2, z, r⟩ := R1
  have ne : ∀ b, Alv H b → b ∉ ([] : List Addr) → b ∉ [p'] := fun b ⟨o, e⟩ _ => by
    simp only [List.mem_singleton]
    exact ne_of_none e hp
  have r2 : RpAll K [p'] [p'] H1 [intsD ns, .int 0, .int l.seed, .int 0] xs := r.move (Z := []) (by simp) Keep.refl (fun _ q => q) (by simp)
  have rp2 : Rp K [p'] [p'] H1 (intsD ns) (.ref a) := rp.move2 (Z := []) (by simp) k1 ne (by simp)
  have M2 : MemOk K [p'] [p'] H1 [rowD ns l.seed] := by
    refine ⟨rfl, fun n b d e1 e2' => ?_, fun _ q => q, by simp, fun b q => ?_⟩
    · cases n with
      | zero => cases e1; cases e2'; exact ⟨xs, e2, z, r2⟩
      | succ n => simp at e1
    · simp only [List.mem_singleton] at q
      subst q
      exact ⟨_, e2⟩
  have rp1 : Rp K [p'] [p'] H1 (.ref 0) (.ref p') := .ref rfl
  have hN : l.N.length = 2 + (l.N.length - 2) := by omega
  have En2 : EnvOk K [p'] [p'] H1 (envL (l.N.length - 2) ns) ((L2.start l.N [.ref a]).set 1 (some (.ref p'))) := by
    have e1 : (L2.start l.N [.ref a]).set 1 (some (V.ref p')) = some (V.ref a) :: some (V.ref p') :: List.replicate (l.N.length - 2) none := by
      unfold L2.start
      show some (V.ref a) :: (List.replicate (l.N.length - 1) none).set 0 (some (V.ref p')) = _
      have : l.N.length - 1 = (l.N.length - 2) + 1 := by omega
      rw [this, List.replicate_succ]
      rfl
    rw [e1]
    have gt : ∀ (i : Nat) (x : Sl), (envL (l.N.length - 2) ns)[i]? = some (some x) → (i = 0 ∧ x = .val (intsD ns)) ∨ (i = 1 ∧ x = .val (.ref 0)) := by
      intro i x h
      match i, h with
      | 0, h => cases h; exact .inl ⟨rfl, rfl⟩
      | 1, h => cases h; exact .inr ⟨rfl, rfl⟩
      | i + 2, h =>
        have h : (List.replicate (l.N.length - 2) (none : Option Sl))[i]? = some (some x) := h
        have := List.mem_of_getElem? h
        rw [List.mem_replicate] at this
        cases this.2
    refine ⟨by simp [envL], fun i d e => ?_, fun i d e => ?_, fun i j d e b ne e1 => ?_⟩
    · rcases gt i _ e with ⟨rfl, q⟩ | ⟨rfl, q⟩
      · cases q; exact ⟨_, rfl, rp2⟩
      · cases q; exact ⟨_, rfl, rp1⟩
    · rcases gt i _ e with ⟨rfl, q⟩ | ⟨rfl, q⟩ <;> cases q
    · rcases gt i _ e1 with ⟨rfl, q⟩ | ⟨rfl, q⟩ <;> cases q
  have b2 : Bs [p'] [p'] H1 := ⟨fun _ q => q, M2.al⟩
  refine ⟨[p'], [p'], H1, [p'], _, _, _, m', b2, ⟨M2, En2, Keep.refl, fun _ q => q, fun j d b e1 _ => ?_⟩, ev, fun v H2 k2 M3 rv => ?_⟩
  · obtain ⟨b', q1, _⟩ := En2.own j d e1
    match j, e1 with
    | 0, e1 => cases e1
    | 1, e1 => cases e1
    | j + 2, e1 =>
      have e1 : (List.replicate (l.N.length - 2) (none : Option Sl))[j]? = some (some (.own d)) := e1
      have := List.mem_of_getElem? e1
      rw [List.mem_replicate] at this
      cases this.2
  · cases rv
    exact hq H2
end
end Ev

set_option maxHeartbeats 4000000
namespace Ev
/-- what the first gives without cells, the second gives with any -/
def Up {α β : Type} (R : α → β → Prop) (o : Out α) (o' : Mem → Out β) : Prop := ∀ a m1, o = .ok a m1 → m1 = [] ∧ ∀ m, ∃ a', o' m = .ok a' m ∧ R a a'
section
variable {α β γ δ : Type} {R : α → β → Prop} {Q : γ → δ → Prop}
theorem Up.bind {o : Out α} {o' : Mem → Out β} {f : α → Mem → Out γ} {f' : β → Mem → Out δ} (h : Up R o o') (g : ∀ a a', R a a' → Up Q (f a []) (f' a')) : Up Q (o.bind f) (fun m => (o' m).bind f') := by
  intro c m1 e
  obtain ⟨a, m2, e1, e2⟩ := bind_eq_ok e
  obtain ⟨rfl, h1⟩ := h a m2 e1
  obtain ⟨a0, _, r0⟩ := h1 []
  have m0 := (g a a0 r0 c m1 e2).1
  refine ⟨m0, fun m => ?_⟩
  obtain ⟨a', e3, r⟩ := h1 m
  obtain ⟨c', e4, q⟩ := (g a a' r c m1 e2).2 m
  refine ⟨c', ?_, q⟩
  show (o' m).bind f' = _
  rw [e3]; exact e4
theorem Up.ok {a : α} {b : β} (h : R a b) : Up R (.ok a []) (fun m => .ok b m) := fun c m1 e => by cases e; exact ⟨rfl, fun m => ⟨b, rfl, h⟩⟩
theorem Up.no {o' : Mem → Out β} : Up R (.no : Out α) o' := fun c m1 e => by cases e
theorem Up.exc {c : Nat} {l : List D} {m : Mem} {o' : Mem → Out β} : Up R (.exc c l m : Out α) o' := fun c m1 e => by cases e
theorem Up.of {x : Option α} : Up Eq (Out.of [] x) (fun m => Out.of m x) := by
  cases x with
  | none => exact .no
  | some a => exact .ok rfl
end
def Pure (φ φ' : Phi) : Prop := ∀ f ds, Up Eq (φ f ds []) (φ' f ds)
structure Le (ρ ρ' : Env) : Prop where
  len : ρ.length = ρ'.length
  at_ : ∀ (i : Nat) x, ρ[i]? = some (some x) → ρ'[i]? = some (some x)
theorem Le.refl {ρ : Env} : Le ρ ρ := ⟨rfl, fun _ _ h => h⟩
theorem Le.trans {ρ ρ1 ρ2 : Env} (a : Le ρ ρ1) (b : Le ρ1 ρ2) : Le ρ ρ2 := ⟨a.len.trans b.len, fun i x h => b.at_ i x (a.at_ i x h)⟩
theorem Le.set {ρ ρ' : Env} (h : Le ρ ρ') (i : Nat) (x : Option Sl) : Le (setE ρ i x) (setE ρ' i x) := by
  refine ⟨by simp [setE, h.len], fun j y e => ?_⟩
  unfold setE at e ⊢
  by_cases hj : i = j
  · subst hj
    by_cases hl : i < ρ.length
    · rw [List.getElem?_set_self hl] at e
      rw [List.getElem?_set_self (by rw [← h.len]; exact hl)]
      exact e
    · rw [List.getElem?_eq_none (by simpa using hl)] at e; cases e
  · rw [List.getElem?_set_ne hj] at e ⊢
    exact h.at_ j y e
theorem Le.wipe {ρ ρ' : Env} (h : Le ρ ρ') : ∀ vs : List Nat, Le (wipeE ρ vs) (wipeE ρ' vs)
  | [] => h
  | v :: vs => (h.wipe vs).set v none
theorem Le.put : ∀ (t : T) (d : D) {ρ ρ' ρ1 : Env}, Le ρ ρ' → putT t d ρ = some ρ1 → ∃ ρ1', putT t d ρ' = some ρ1' ∧ Le ρ1 ρ1'
  | .name i, d, ρ, ρ', ρ1, h, e => by
    have e : (if i < ρ.length then some (setE ρ i (some (.val d))) else none) = some ρ1 := e
    split at e
    · rename_i hl
      cases e
      refine ⟨_, ?_, h.set i _⟩
      show (if i < ρ'.length then _ else _) = _
      rw [if_pos (by rw [← h.len]; exact hl)]
    · cases e
  | .tup ts, d, ρ, ρ', ρ1, h, e => by
    cases d with
    | tup l => exact Le.put ts (.tup l) h e
    | _ => cases e
  | .nil, d, ρ, ρ', ρ1, h, e => by
    cases d with
    | tup l =>
      cases l with
      | nil => cases e; exact ⟨ρ', rfl, h⟩
      | cons => cases e
    | _ => cases e
  | .cons t ts, d, ρ, ρ', ρ1, h, e => by
    cases d with
    | tup l =>
      cases l with
      | nil => cases e
      | cons x r =>
        obtain ⟨ρ2, e1, e2⟩ := Option.bind_eq_some_iff.mp (show (putT t x ρ).bind (fun ρ1 => putT ts (.tup r) ρ1) = some ρ1 from e)
        obtain ⟨ρ2', f1, h2⟩ := Le.put t x h e1
        obtain ⟨ρ3', f2, h3⟩ := Le.put ts (.tup r) h2 e2
        refine ⟨ρ3', ?_, h3⟩
        show (putT t x ρ').bind (fun ρ1 => putT ts (.tup r) ρ1) = _
        rw [f1]; exact f2
    | _ => cases e
theorem Le.putU {t : T} {d : D} {ρ ρ' : Env} (h : Le ρ ρ') : Up Le (Out.of [] (putT t d ρ)) (fun m => Out.of m (putT t d ρ')) := by
  intro a m1 e
  obtain ⟨e1, rfl⟩ := of_eq_ok e
  obtain ⟨ρ1', f, h1⟩ := h.put t d e1
  exact ⟨rfl, fun m => ⟨ρ1', by rw [f]; rfl, h1⟩⟩
theorem compL_up {g : D → Mem → Out (Option D)} {g' : D → Mem → Out (Option D)} (h : ∀ x, Up Eq (g x []) (g' x)) : ∀ (l acc : List D), Up Eq (compL g l acc []) (compL g' l acc)
  | [], acc => .ok rfl
  | x :: r, acc => Up.bind (h x) fun a a' e => by
    subst e
    cases a with
    | some y => exact compL_up h r (acc ++ [y])
    | none => exact compL_up h r acc
theorem dcompL_up {g : D → Mem → Out (Option (D × D))} {g' : D → Mem → Out (Option (D × D))} (h : ∀ x, Up Eq (g x []) (g' x)) : ∀ (l acc : List D), Up Eq (dcompL g l acc []) (dcompL g' l acc)
  | [], acc => .ok rfl
  | x :: r, acc => Up.bind (h x) fun a a' e => by
    subst e
    cases a with
    | some y =>
      obtain ⟨k, v⟩ := y
      show Up Eq (if isKeyD k = true then _ else _) fun m => if isKeyD k = true then _ else _
      split
      · exact dcompL_up h r _
      · exact .no
    | none => exact dcompL_up h r acc
theorem up_tru {α β : Type} {R : α → β → Prop} {x : D} {a b : Out α} {a' b' : Mem → Out β} (ha : Up R a a') (hb : Up R b b') :
    Up R (match truD x with | some true => a | some false => b | none => .no) (fun m => match truD x with | some true => a' m | some false => b' m | none => .no) := by
  cases truD x with
  | none => exact .no
  | some t => cases t; exact hb; exact ha
theorem evE_up {φ φ' : Phi} (P : Pure φ φ') (e : E) : ∀ {ρ ρ' : Env}, Le ρ ρ' → Up Eq (evE φ e ρ []) (evE φ' e ρ') := by
  induction e with
  | slot i =>
    intro ρ ρ' h
    show Up Eq (match ρ[i]? with | some (some (.val d)) => .ok d [] | _ => .no) fun m => match ρ'[i]? with | some (some (.val d)) => .ok d m | _ => .no
    split
    · rename_i d hd
      rw [h.at_ i _ hd]
      exact .ok rfl
    · exact .no
  | brw i =>
    intro ρ ρ' h
    show Up Eq (match ρ[i]? with | some (some (.own d)) => .ok d [] | _ => .no) fun m => match ρ'[i]? with | some (some (.own d)) => .ok d m | _ => .no
    split
    · rename_i d hd
      rw [h.at_ i _ hd]
      exact .ok rfl
    · exact .no
  | idxc i e ih =>
    intro ρ ρ' h a m1 e1
    have e1 : (match ρ[i]? with | some (some (.val (.ref n))) => (evE φ e ρ []).bind fun y m => (Out.of m m[n]?).bind fun x m => Out.of m (idxD x y) | _ => .no) = .ok a m1 := e1
    split at e1
    · obtain ⟨y, m2, h1, h2⟩ := bind_eq_ok e1
      obtain ⟨rfl, _⟩ := ih h _ _ h1
      simp [Out.bind] at h2
    · cases e1
  | cst d => exact fun h => .ok rfl
  | nil => exact fun h => .ok rfl
  | cons a b iha ihb => exact fun h => (iha h).bind fun x x' e => by subst e; exact (ihb h).bind fun y y' e => by subst e; exact .of
  | tup a ih => exact fun h => ih h
  | lst a ih => exact fun h => (ih h).bind fun x x' e => by subst e; exact .ok rfl
  | dsp a ih => exact fun h => .no
  | bin o a b iha ihb => exact fun h => (iha h).bind fun x x' e => by subst e; exact (ihb h).bind fun y y' e => by subst e; exact .of
  | neg a ih =>
    exact fun h => (ih h).bind fun x x' e => by
      subst e
      cases x with
      | int i => exact .ok rfl
      | _ => exact .no
  | cmp o a b iha ihb => exact fun h => (iha h).bind fun x x' e => by subst e; exact (ihb h).bind fun y y' e => by subst e; exact .of
  | chn o p a b c iha ihb ihc =>
    exact fun h => (iha h).bind fun x x' e => by
      subst e
      exact (ihb h).bind fun y y' e => by
        subst e
        exact Up.of.bind fun r r' e => by
          subst e
          cases r with
          | bl t =>
            cases t
            · exact .ok rfl
            · exact (ihc h).bind fun z z' e => by subst e; exact .of
          | _ => exact .no
  | and a b iha ihb => exact fun h => (iha h).bind fun x x' e => by subst e; exact up_tru (ihb h) (.ok rfl)
  | or a b iha ihb => exact fun h => (iha h).bind fun x x' e => by subst e; exact up_tru (.ok rfl) (ihb h)
  | not a ih =>
    exact fun h => (ih h).bind fun x x' e => by
      subst e
      show Up Eq (match truD x with | some t => Out.ok (D.bl (!t)) [] | none => .no) fun m => match truD x with | some t => Out.ok (D.bl (!t)) m | none => .no
      cases truD x with
      | none => exact .no
      | some t => exact .ok rfl
  | ite c a b ihc iha ihb => exact fun h => (ihc h).bind fun x x' e => by subst e; exact up_tru (iha h) (ihb h)
  | idx a b iha ihb => exact fun h => (iha h).bind fun x x' e => by subst e; exact (ihb h).bind fun y y' e => by subst e; exact .of
  | slc a b c iha ihb ihc => exact fun h => (iha h).bind fun x x' e => by subst e; exact (ihb h).bind fun y y' e => by subst e; exact (ihc h).bind fun z z' e => by subst e; exact .of
  | skipE => exact fun h => .ok rfl
  | rev a ih => exact fun h => (ih h).bind fun x x' e => by subst e; exact .of
  | call f es ih => exact fun h => (ih h).bind fun x x' e => by subst e; exact P f _
  | callv i =>
    intro ρ ρ' h
    show Up Eq (match ρ[i]? with | some (some (.val (.clo f l))) => φ f l [] | _ => .no) fun m => match ρ'[i]? with | some (some (.val (.clo f l))) => φ' f l m | _ => .no
    split
    · rename_i f l hd
      rw [h.at_ i _ hd]
      exact P f l
    · exact .no
  | prim p es ih => exact fun h => (ih h).bind fun x x' e => by subst e; exact .of
  | meth q o es iho ih => exact fun h => (iho h).bind fun x x' e => by subst e; exact (ih h).bind fun y y' e => by subst e; exact .of
  | comp own t k it ifs elt ih0 ih1 ih2 =>
    exact fun h => (ih0 h).bind fun x x' e => by
      subst e
      exact Up.of.bind fun xs xs' e => by
        subst e
        refine compL_up (fun y => ?_) xs []
        intro a m1 e1
        split at e1
        · rename_i ρ1 hρ
          obtain ⟨ρ1', hρ', h1⟩ := (h.wipe own).put t y hρ
          have U : Up Eq ((evE φ ifs ρ1 []).bind fun c m => match truD c with | some true => (evE φ elt ρ1 m).bind fun y m => .ok (some y) m | some false => .ok none m | none => .no)
            (fun m => (evE φ' ifs ρ1' m).bind fun c m => match truD c with | some true => (evE φ' elt ρ1' m).bind fun y m => .ok (some y) m | some false => .ok none m | none => .no) :=
            (ih1 h1).bind fun c c' e => by
              subst e
              exact up_tru ((ih2 h1).bind fun y y' e => by subst e; exact .ok rfl) (.ok rfl)
          obtain ⟨m0, U⟩ := U a m1 e1
          exact ⟨m0, fun m => by rw [hρ']; exact U m⟩
        · cases e1
  | dcomp own t k it ifs key val ih0 ih1 ih2 ih3 =>
    exact fun h => (ih0 h).bind fun x x' e => by
      subst e
      exact Up.of.bind fun xs xs' e => by
        subst e
        refine dcompL_up (fun y => ?_) xs []
        intro a m1 e1
        split at e1
        · rename_i ρ1 hρ
          obtain ⟨ρ1', hρ', h1⟩ := (h.wipe own).put t y hρ
          have U : Up Eq ((evE φ ifs ρ1 []).bind fun c m => match truD c with | some true => (evE φ key ρ1 m).bind fun y m => (evE φ val ρ1 m).bind fun z m => .ok (some (y, z)) m | some false => .ok none m | none => .no)
            (fun m => (evE φ' ifs ρ1' m).bind fun c m => match truD c with | some true => (evE φ' key ρ1' m).bind fun y m => (evE φ' val ρ1' m).bind fun z m => .ok (some (y, z)) m | some false => .ok none m | none => .no) :=
            (ih1 h1).bind fun c c' e => by
              subst e
              exact up_tru ((ih2 h1).bind fun y y' e => by subst e; exact (ih3 h1).bind fun y y' e => by subst e; exact .ok rfl) (.ok rfl)
          obtain ⟨m0, U⟩ := U a m1 e1
          exact ⟨m0, fun m => by rw [hρ']; exact U m⟩
        · cases e1
  | sitems a ih => exact fun h => (ih h).bind fun x x' e => by subst e; exact .of
  | fld i n =>
    intro ρ ρ' h
    show Up Eq (match ρ[i]? with | some (some (.val (.exc _ l))) => Out.of [] l[n]? | _ => .no) fun m => match ρ'[i]? with | some (some (.val (.exc _ l))) => Out.of m l[n]? | _ => .no
    split
    · rename_i f l hd
      rw [h.at_ i _ hd]
      exact .of
    · exact .no
def FlLe : Flow → Flow → Prop
  | .nx ρ, .nx ρ' => Le ρ ρ'
  | .bk ρ, .bk ρ' => Le ρ ρ'
  | .ct ρ, .ct ρ' => Le ρ ρ'
  | .rt d, .rt d' => d = d'
  | _, _ => False
theorem up_flow {f f' : Flow} (h : FlLe f f') {a c b : Env → Out Flow} {d : D → Out Flow} {a' c' b' : Env → Mem → Out Flow} {d' : D → Mem → Out Flow} (ha : ∀ ρ ρ', Le ρ ρ' → Up FlLe (a ρ) (a' ρ')) (hc : ∀ ρ ρ', Le ρ ρ' → Up FlLe (c ρ) (c' ρ')) (hb : ∀ ρ ρ', Le ρ ρ' → Up FlLe (b ρ) (b' ρ')) (hd : ∀ x, Up FlLe (d x) (d' x)) :
    Up FlLe (match (generalizing := false) f with | .nx ρ => a ρ | .ct ρ => c ρ | .bk ρ => b ρ | .rt x => d x) (fun m => match (generalizing := false) f' with | .nx ρ => a' ρ m | .ct ρ => c' ρ m | .bk ρ => b' ρ m | .rt x => d' x m) := by
  cases f <;> cases f' <;> first | exact h.elim | exact ha _ _ h | exact hc _ _ h | exact hb _ _ h | (cases h; exact hd _)
theorem forL_up {g g' : D → Env → Mem → Out Flow} {w : List Nat} (h : ∀ x ρ ρ', Le ρ ρ' → Up FlLe (g x ρ []) (g' x ρ')) : ∀ (l : List D) {ρ ρ' : Env}, Le ρ ρ' → Up FlLe (forL g w l ρ []) (forL g' w l ρ')
  | [], ρ, ρ', hl => .ok hl
  | x :: r, ρ, ρ', hl => (h x ρ ρ' hl).bind fun f f' e => up_flow e (a := fun ρ => forL g w r (wipeE ρ w) []) (a' := fun ρ => forL g' w r (wipeE ρ w)) (fun _ _ h1 => forL_up h r (h1.wipe w)) (c := fun ρ => forL g w r (wipeE ρ w) []) (c' := fun ρ => forL g' w r (wipeE ρ w)) (fun _ _ h1 => forL_up h r (h1.wipe w))
      (b := fun ρ => .ok (.nx (wipeE ρ w)) []) (b' := fun ρ m => .ok (.nx (wipeE ρ w)) m) (fun _ _ h1 => .ok (h1.wipe w)) (d := fun d => .ok (.rt d) []) (d' := fun d m => .ok (.rt d) m) fun x => .ok rfl
theorem whlL_up {c c' : Env → Mem → Out D} {g g' : Env → Mem → Out Flow} {w : List Nat} (hc : ∀ ρ ρ', Le ρ ρ' → Up Eq (c ρ []) (c' ρ')) (h : ∀ ρ ρ', Le ρ ρ' → Up FlLe (g ρ []) (g' ρ')) : ∀ (n : Nat) {ρ ρ' : Env}, Le ρ ρ' → Up FlLe (whlL c g w n ρ []) (whlL c' g' w n ρ')
  | 0, ρ, ρ', hl => .no
  | n + 1, ρ, ρ', hl => (hc ρ ρ' hl).bind fun x x' e => by
    subst e
    exact up_tru ((h ρ ρ' hl).bind fun f f' e => up_flow e (a := fun ρ => whlL c g w n (wipeE ρ w) []) (a' := fun ρ => whlL c' g' w n (wipeE ρ w)) (fun _ _ h1 => whlL_up hc h n (h1.wipe w)) (c := fun ρ => whlL c g w n (wipeE ρ w) []) (c' := fun ρ => whlL c' g' w n (wipeE ρ w)) (fun _ _ h1 => whlL_up hc h n (h1.wipe w))
      (b := fun ρ => .ok (.nx (wipeE ρ w)) []) (b' := fun ρ m => .ok (.nx (wipeE ρ w)) m) (fun _ _ h1 => .ok (h1.wipe w)) (d := fun d => .ok (.rt d) []) (d' := fun d m => .ok (.rt d) m) fun x => .ok rfl) (.ok hl)
theorem Le.par : ∀ (fl : List (Nat × Bool)) (l : List D) {ρ ρ' ρ1 : Env}, Le ρ ρ' → parE fl l ρ = some ρ1 → ∃ ρ1', parE fl l ρ' = some ρ1' ∧ Le ρ1 ρ1'
  | [], [], ρ, ρ', ρ1, h, e => by cases e; exact ⟨_, rfl, h⟩
  | [], _ :: _, ρ, ρ', ρ1, h, e => by cases e
  | _ :: _, [], ρ, ρ', ρ1, h, e => by cases e
  | (i, b) :: r, x :: xs, ρ, ρ', ρ1, h, e => by
    have e : (if i < ρ.length then parE r xs (setE ρ i (some (if b then .own x else .val x))) else none) = some ρ1 := e
    split at e
    · rename_i hl
      obtain ⟨ρ1', f, h1⟩ := Le.par r xs (h.set i _) e
      refine ⟨ρ1', ?_, h1⟩
      show (if i < ρ'.length then _ else _) = _
      rw [if_pos (by rw [← h.len]; exact hl)]
      exact f
    · cases e
theorem evS_up {φ φ' : Phi} (P : Pure φ φ') (s : S) : ∀ {ρ ρ' : Env}, Le ρ ρ' → Up FlLe (evS φ s ρ []) (evS φ' s ρ') := by
  induction s with
  | skip => exact fun h => .ok h
  | seq a b iha ihb =>
    exact fun h => (iha h).bind fun f f' e => by
      cases f <;> cases f' <;> first | exact e.elim | exact ihb e | exact .ok e
  | expr e => exact fun h => (evE_up P e h).bind fun x x' q => .ok h
  | asg t e => exact fun h => (evE_up P e h).bind fun x x' q => by subst q; exact h.putU.bind fun ρ1 ρ1' h1 => .ok h1
  | own i e =>
    intro ρ ρ' h
    refine (evE_up P e h).bind fun x x' q => ?_
    subst q
    show Up FlLe (if (isOwnable x && decide (i < ρ.length)) = true then _ else _) fun m => if (isOwnable x && decide (i < ρ'.length)) = true then _ else _
    rw [h.len]
    split
    · exact .ok (h.set i _)
    · exact .no
  | par fl es =>
    intro ρ ρ' h
    refine (evE_up P es h).bind fun x x' q => ?_
    subst q
    intro a m1 e1
    obtain ⟨ρ1, m2, e2', e3⟩ := bind_eq_ok e1
    obtain ⟨e2, rfl⟩ := of_eq_ok e2'
    cases e3
    obtain ⟨ρ1', f, h1⟩ := Le.par fl _ h e2
    exact ⟨rfl, fun m => ⟨.nx ρ1', by rw [f]; rfl, h1⟩⟩
  | app i e =>
    intro ρ ρ' h
    refine (evE_up P e h).bind fun x x' q => ?_
    subst q
    show Up FlLe (match ρ[i]? with | some (some (.own (.lst l))) => if l.length < LIM then .ok (.nx (setE ρ i (some (.own (.lst (l ++ [x])))))) [] else .no | _ => .no) fun m => match ρ'[i]? with | some (some (.own (.lst l))) => if l.length < LIM then .ok (.nx (setE ρ' i (some (.own (.lst (l ++ [x])))))) m else .no | _ => .no
    split
    · rename_i l hd
      rw [h.at_ i _ hd]
      dsimp only
      split
      · exact .ok (h.set i _)
      · exact .no
    · exact .no
  | sub i k v =>
    intro ρ ρ' h
    refine (evE_up P v h).bind fun x x' q => ?_
    subst q
    refine (evE_up P k h).bind fun y y' q => ?_
    subst q
    show Up FlLe (match ρ[i]? with | some (some (.own (.lst l))) => (Out.of [] (putL l y x)).bind fun d m => .ok (.nx (setE ρ i (some (.own d)))) m | _ => .no) fun m => match ρ'[i]? with | some (some (.own (.lst l))) => (Out.of m (putL l y x)).bind fun d m => .ok (.nx (setE ρ' i (some (.own d)))) m | _ => .no
    split
    · rename_i l hd
      rw [h.at_ i _ hd]
      exact Up.of.bind fun d d' e => by subst e; exact .ok (h.set i _)
    · exact .no
  | subc i k v =>
    intro ρ ρ' h
    refine (evE_up P v h).bind fun x x' q => ?_
    subst q
    refine (evE_up P k h).bind fun y y' q => ?_
    subst q
    intro a m1 e1
    split at e1
    · simp at e1
    · cases e1
  | pop i j => exact fun h => .no
  | aug i op e =>
    intro ρ ρ' h
    show Up FlLe (match ρ[i]? with | some (some (.val x)) => (evE φ e ρ []).bind fun y m => (match x, y with | .int a, .int b => Out.of m (binD op (.int a) (.int b)) | _, _ => .no).bind fun z m => .ok (.nx (setE ρ i (some (.val z)))) m | _ => .no)
      fun m => match ρ'[i]? with | some (some (.val x)) => (evE φ' e ρ' m).bind fun y m => (match x, y with | .int a, .int b => Out.of m (binD op (.int a) (.int b)) | _, _ => .no).bind fun z m => .ok (.nx (setE ρ' i (some (.val z)))) m | _ => .no
    split
    · rename_i x hd
      rw [h.at_ i _ hd]
      refine (evE_up P e h).bind fun y y' q => ?_
      subst q
      cases x with
      | int a =>
        cases y with
        | int b => exact Up.of.bind fun z z' e => by subst e; exact .ok (h.set i _)
        | _ => exact Up.no (α := Flow)
      | _ => exact Up.no (α := Flow)
    · exact .no
  | frz i =>
    intro ρ ρ' h
    show Up FlLe (match ρ[i]? with | some (some (.own d)) => .ok (.nx (setE ρ i (some (.val d)))) [] | _ => .no) fun m => match ρ'[i]? with | some (some (.own d)) => .ok (.nx (setE ρ' i (some (.val d)))) m | _ => .no
    split
    · rename_i d hd
      rw [h.at_ i _ hd]
      exact .ok (h.set i _)
    · exact .no
  | ite c a b iha ihb => exact fun h => (evE_up P c h).bind fun x x' q => by subst q; exact up_tru (iha h) (ihb h)
  | «for» w t k it b ih =>
    exact fun h => (evE_up P it h).bind fun x x' q => by
      subst q
      exact Up.of.bind fun xs xs' q => by
        subst q
        exact forL_up (fun x ρ ρ' h1 => h1.putU.bind fun ρ2 ρ2' h2 => ih h2) xs (h.wipe w)
  | whl n w c b ih => exact fun h => whlL_up (fun ρ ρ' h1 => evE_up P c h1) (fun ρ ρ' h1 => ih h1) n (h.wipe w)
  | ret e => exact fun h => (evE_up P e h).bind fun x x' q => .ok q
  | brk => exact fun h => .ok h
  | cnt => exact fun h => .ok h
  | rais c es =>
    intro ρ ρ' h a m1 e
    obtain ⟨_, _, _, e⟩ := bind_eq_ok e
    cases e
def callO (nat : Nat → List D → Option D) (Φ : Tab) : Nat → Phi
  | 0, _, _, _ => .no
  | k + 1, f, ds, m => match (if 3 ≤ k then nat f ds else none) with
    | some d => .ok d m
    | none => match Φ f with
      | some fn => if ds.length = fn.ps.length then fin m (evS (callO nat Φ k) fn.body (startE fn.N.length ds) m) else .no
      | none => .no
/-- what is told is so -/
def Tells (nat : Nat → List D → Option D) (Φ : Tab) : Prop := ∀ f ds d, nat f ds = some d → ∀ k m, callK Φ (k + 4) f ds m = .ok d m
theorem fin_up {o : Out Flow} {o' : Mem → Out Flow} (h : Up FlLe o o') : Up Eq (fin [] o) (fun m => fin m (o' m)) := by
  intro a m1 e
  cases o with
  | no => cases e
  | exc c l m => cases e
  | ok f m2 =>
    obtain ⟨rfl, h1⟩ := h f m2 rfl
    cases f with
    | nx ρ =>
      cases e
      refine ⟨rfl, fun m => ?_⟩
      obtain ⟨f', e1, r⟩ := h1 m
      cases f' <;> first | exact r.elim | skip
      refine ⟨_, ?_, rfl⟩
      show fin m (o' m) = _
      rw [e1]
      show finD m m .non = _
      unfold finD
      rw [if_pos rfl]
    | rt d =>
      cases e
      refine ⟨rfl, fun m => ?_⟩
      obtain ⟨f', e1, r⟩ := h1 m
      cases f' <;> first | exact r.elim | skip
      cases r
      refine ⟨_, ?_, rfl⟩
      show fin m (o' m) = _
      rw [e1]
      show finD m m _ = _
      unfold finD
      rw [if_pos rfl]
    | bk ρ => cases e
    | ct ρ => cases e
theorem callO_up {nat : Nat → List D → Option D} {Φ : Tab} (T : Tells nat Φ) : ∀ k, Pure (callO nat Φ k) (callK Φ k)
  | 0 => fun f ds => .no
  | k + 1 => fun f ds => by
    intro a m1 e
    have e : (match (if 3 ≤ k then nat f ds else none) with
      | some d => Out.ok d []
      | none => match Φ f with
        | some fn => if ds.length = fn.ps.length then fin [] (evS (callO nat Φ k) fn.body (startE fn.N.length ds) []) else .no
        | none => .no) = .ok a m1 := e
    split at e
    · rename_i d hd
      cases e
      split at hd
      · rename_i hk
        obtain ⟨j, rfl⟩ : ∃ j, k = j + 3 := ⟨k - 3, by omega⟩
        exact ⟨rfl, fun m => ⟨a, T f ds a hd j m, rfl⟩⟩
      · cases hd
    · split at e
      · rename_i fn hf
        split at e
        · rename_i hl
          obtain ⟨m0, h1⟩ := fin_up (evS_up (callO_up T k) fn.body (Le.refl (ρ := startE fn.N.length ds))) a m1 e
          refine ⟨m0, fun m => ?_⟩
          obtain ⟨a', e1, r⟩ := h1 m
          refine ⟨a', ?_, r⟩
          show (match Φ f with
            | some fn => if ds.length = fn.ps.length then fin m (evS (callK Φ k) fn.body (startE fn.N.length ds) m) else .no
            | none => .no) = _
          rw [hf]
          dsimp only
          rw [if_pos hl]
          exact e1
        · cases e
      · cases e
theorem seq_nx {φ : Phi} {s r : S} {ρ ρ1 : Env} {m m1 : Mem} (h : evS φ s ρ m = .ok (.nx ρ1) m1) : evS φ (.seq s r) ρ m = evS φ r ρ1 m1 := by
  show (evS φ s ρ m).bind _ = _
  rw [h]
  rfl
theorem seq_rt {φ : Phi} {s r : S} {ρ : Env} {d : D} {m m1 : Mem} (h : evS φ s ρ m = .ok (.rt d) m1) : evS φ (.seq s r) ρ m = .ok (.rt d) m1 := by
  show (evS φ s ρ m).bind _ = _
  rw [h]
  rfl
theorem call_at {Φ : Tab} {f k : Nat} {fn : Fn} {ds : List D} {m : Mem} (h : Φ f = some fn) (hl : ds.length = fn.ps.length) : callK Φ (k + 1) f ds m = fin m (evS (callK Φ k) fn.body (startE fn.N.length ds) m) := by
  show (match Φ f with
    | some fn => if ds.length = fn.ps.length then fin m (evS (callK Φ k) fn.body (startE fn.N.length ds) m) else .no
    | none => .no) = _
  rw [h]
  dsimp only
  rw [if_pos hl]
theorem loop_range {g : D → Env → Mem → Out Flow} {m : Mem} {k : Nat} (I : Nat → Env → Prop) (step : ∀ i, i < k → ∀ ρ, I i ρ → ∃ ρ', g (.int (i : Int)) ρ m = .ok (.nx ρ') m ∧ I (i + 1) ρ') :
    ∀ (n s : Nat) (ρ : Env), s + n = k → I s ρ → ∃ ρ', forL g [] ((List.range' s n).map fun (i : Nat) => D.int (i : Int)) ρ m = .ok (.nx ρ') m ∧ I k ρ'
  | 0, s, ρ, h, i => ⟨ρ, rfl, by have e : s = k := by omega
                                 rw [← e]; exact i⟩
  | n + 1, s, ρ, h, i => by
    obtain ⟨ρ1, e1, i1⟩ := step s (by omega) ρ i
    obtain ⟨ρ2, e2, i2⟩ := loop_range I step n (s + 1) ρ1 (by omega) i1
    refine ⟨ρ2, ?_, i2⟩
    show (g (.int (s : Int)) ρ m).bind _ = _
    rw [e1]
    exact e2
/-- for i in range(k) -/
theorem for_range {φ : Phi} {t : T} {b : S} {it : E} {ρ : Env} {m : Mem} {k : Nat} (I : Nat → Env → Prop) (hit : evE φ it ρ m = .ok (.tup [.int (k : Int)]) m) (hk : k ≤ 1000000) (h0 : I 0 ρ)
    (step : ∀ i, i < k → ∀ ρ, I i ρ → ∃ ρ1 ρ', putT t (.int (i : Int)) ρ = some ρ1 ∧ evS φ b ρ1 m = .ok (.nx ρ') m ∧ I (i + 1) ρ') : ∃ ρ', evS φ (.for [] t .rng it b) ρ m = .ok (.nx ρ') m ∧ I k ρ' := by
  obtain ⟨ρ', e, i⟩ := loop_range (g := fun x ρ m => (Out.of m (putT t x ρ)).bind fun ρ1 m => evS φ b ρ1 m) (m := m) I (fun i hi ρ h => by
    obtain ⟨ρ1, ρ2, e1, e2, h2⟩ := step i hi ρ h
    exact ⟨ρ2, by rw [e1]; exact e2, h2⟩) k 0 ρ (by omega) h0
  refine ⟨ρ', ?_, i⟩
  show (evE φ it ρ m).bind _ = _
  rw [hit]
  have hr : itemsD .rng (argsOf (.tup [.int (k : Int)])) = some ((List.range' 0 k).map fun (i : Nat) => D.int (i : Int)) := by
    show rngD 0 k = _
    unfold rngD
    rw [if_pos (by simp; omega), ← List.range_eq_range']
    simp
  show (Out.of m (itemsD .rng (argsOf (.tup [.int (k : Int)])))).bind _ = _
  rw [hr]
  exact e
mutual
def sameD : D → D → Bool
  | .non, .non => true
  | .bl a, .bl b => a == b
  | .int a, .int b => decide (a = b)
  | .str a, .str b => decide (a = b)
  | .tup a, .tup b => sameDs a b
  | .lst a, .lst b => sameDs a b
  | _, _ => false
def sameDs : List D → List D → Bool
  | [], [] => true
  | x :: xs, y :: ys => sameD x y && sameDs xs ys
  | _, _ => false
end
mutual
theorem sameD_eq : ∀ (x y : D), sameD x y = true → x = y
  | .non, y, h => by cases y <;> first | rfl | cases h
  | .bl a, y, h => by
    cases y <;> first | (cases h; done) | skip
    rw [eq_of_beq (show (a == _) = true from h)]
  | .int a, y, h => by
    cases y <;> first | (cases h; done) | skip
    rw [of_decide_eq_true (show decide (a = _) = true from h)]
  | .str a, y, h => by
    cases y <;> first | (cases h; done) | skip
    rw [of_decide_eq_true (show decide (a = _) = true from h)]
  | .tup a, y, h => by
    cases y <;> first | (cases h; done) | skip
    rw [sameDs_eq a _ h]
  | .lst a, y, h => by
    cases y <;> first | (cases h; done) | skip
    rw [sameDs_eq a _ h]
  | .dic _, y, h => by cases y <;> cases h
  | .ref _, y, h => by cases y <;> cases h
  | .clo _ _, y, h => by cases y <;> cases h
  | .exc _ _, y, h => by cases y <;> cases h
theorem sameDs_eq : ∀ (x y : List D), sameDs x y = true → x = y
  | [], [], _ => rfl
  | [], _ :: _, h => by cases h
  | _ :: _, [], h => by cases h
  | x :: xs, y :: ys, h => by
    have h : (sameD x y && sameDs xs ys) = true := h
    rw [Bool.and_eq_true] at h
    rw [sameD_eq x y h.1, sameDs_eq xs ys h.2]
end
/-- the slots ks alone -/
def keepE (ks : List Nat) (ρ : Env) : Env := ρ.mapIdx fun i x => if ks.contains i then x else none
def sameAt (ρ ρ' : Env) (i : Nat) : Bool := match ρ[i]?, ρ'[i]? with
  | some (some (.val x)), some (some (.val y)) => sameD x y
  | _, _ => false
theorem keep_le {ks : List Nat} {ρ ρ' : Env} (hl : ρ.length = ρ'.length) (h : ks.all (sameAt ρ ρ') = true) : Le (keepE ks ρ) ρ' := by
  refine ⟨by simp [keepE, hl], fun i x e => ?_⟩
  unfold keepE at e
  rw [List.getElem?_mapIdx] at e
  obtain ⟨y, e1, e2⟩ := Option.map_eq_some_iff.mp e
  split at e2
  · rename_i hk
    subst e2
    have hs := List.all_eq_true.mp h i (List.contains_iff_mem.mp hk)
    unfold sameAt at hs
    rw [e1] at hs
    split at hs
    · rename_i a b q1 q2
      cases q1
      rw [q2, sameD_eq _ _ hs]
    · cases hs
  · cases e2
def takeS : Nat → S → S
  | n + 1, .seq s r => .seq s (takeS n r)
  | _, _ => .skip
def dropS : Nat → S → S
  | n + 1, .seq s r => dropS n r
  | _, s => s
theorem evS_split {φ : Phi} : ∀ (n : Nat) (s : S) (ρ : Env) (m : Mem), evS φ s ρ m = (evS φ (takeS n s) ρ m).bind fun f m => match f with
    | .nx ρ1 => evS φ (dropS n s) ρ1 m
    | f => .ok f m
  | 0, s, ρ, m => rfl
  | n + 1, .seq s r, ρ, m => by
    show (evS φ s ρ m).bind _ = ((evS φ s ρ m).bind _).bind _
    cases evS φ s ρ m with
    | no => rfl
    | exc c l m1 => rfl
    | ok f m1 =>
      cases f with
      | nx ρ1 => exact evS_split n r ρ1 m1
      | _ => rfl
  | n + 1, .skip, ρ, m | n + 1, .expr _, ρ, m | n + 1, .asg _ _, ρ, m | n + 1, .own _ _, ρ, m | n + 1, .par _ _, ρ, m | n + 1, .app _ _, ρ, m | n + 1, .sub _ _ _, ρ, m
  | n + 1, .subc _ _ _, ρ, m | n + 1, .pop _ _, ρ, m | n + 1, .aug _ _ _, ρ, m | n + 1, .frz _, ρ, m | n + 1, .ite _ _ _, ρ, m | n + 1, .for _ _ _ _ _, ρ, m | n + 1, .whl _ _ _ _, ρ, m
  | n + 1, .ret _, ρ, m | n + 1, .brk, ρ, m | n + 1, .cnt, ρ, m | n + 1, .rais _ _, ρ, m => rfl
end Ev

set_option maxHeartbeats 4000000
namespace Ev
def asgn : S → List Nat
  | .seq a b => asgn a ++ asgn b
  | .asg t _ => slotsT t
  | .own i _ => [i]
  | .par fl _ => fl.map (·.1)
  | .app i _ => [i]
  | .sub i _ _ => [i]
  | .aug i _ _ => [i]
  | .frz i => [i]
  | .ite _ a b => asgn a ++ asgn b
  | .for w t _ _ b => w ++ (slotsT t ++ asgn b)
  | .whl _ w _ b => w ++ asgn b
  | _ => []
def FlAt (ρ : Env) (i : Nat) : Flow → Prop
  | .nx ρ' => ρ'[i]? = ρ[i]?
  | .bk ρ' => ρ'[i]? = ρ[i]?
  | .ct ρ' => ρ'[i]? = ρ[i]?
  | .rt _ => True
theorem FlAt.from {ρ ρ1 : Env} {i : Nat} (h : ρ1[i]? = ρ[i]?) : ∀ {f : Flow}, FlAt ρ1 i f → FlAt ρ i f
  | .nx _, e => e.trans h
  | .bk _, e => e.trans h
  | .ct _, e => e.trans h
  | .rt _, _ => trivial
theorem set_off {ρ : Env} {i j : Nat} {x : Option Sl} (h : i ≠ j) : (setE ρ j x)[i]? = ρ[i]? := by
  unfold setE
  rw [List.getElem?_set_ne (Ne.symm h)]
theorem wipe_off {ρ : Env} {i : Nat} : ∀ {w : List Nat}, i ∉ w → (wipeE ρ w)[i]? = ρ[i]?
  | [], _ => rfl
  | v :: w, h => by
    rw [List.mem_cons, not_or] at h
    show (setE (wipeE ρ w) v none)[i]? = _
    rw [set_off h.1, wipe_off h.2]
theorem put_off {i : Nat} : ∀ (t : T) (d : D) {ρ ρ1 : Env}, putT t d ρ = some ρ1 → i ∉ slotsT t → ρ1[i]? = ρ[i]?
  | .name j, d, ρ, ρ1, e, h => by
    have e : (if j < ρ.length then some (setE ρ j (some (.val d))) else none) = some ρ1 := e
    split at e
    · cases e
      exact set_off (by simpa [slotsT] using h)
    · cases e
  | .tup ts, d, ρ, ρ1, e, h => by
    cases d with
    | tup l => exact put_off ts (.tup l) e h
    | _ => cases e
  | .nil, d, ρ, ρ1, e, h => by
    cases d with
    | tup l =>
      cases l with
      | nil => cases e; rfl
      | cons => cases e
    | _ => cases e
  | .cons t ts, d, ρ, ρ1, e, h => by
    cases d with
    | tup l =>
      cases l with
      | nil => cases e
      | cons x r =>
        obtain ⟨ρ2, e1, e2⟩ := Option.bind_eq_some_iff.mp (show (putT t x ρ).bind (fun ρ1 => putT ts (.tup r) ρ1) = some ρ1 from e)
        have h : i ∉ slotsT t ++ slotsT ts := h
        rw [List.mem_append, not_or] at h
        exact (put_off ts _ e2 h.2).trans (put_off t x e1 h.1)
    | _ => cases e
theorem par_off {i : Nat} : ∀ (fl : List (Nat × Bool)) (l : List D) {ρ ρ1 : Env}, parE fl l ρ = some ρ1 → i ∉ fl.map (·.1) → ρ1[i]? = ρ[i]?
  | [], [], ρ, ρ1, e, h => by cases e; rfl
  | [], _ :: _, ρ, ρ1, e, h => by cases e
  | _ :: _, [], ρ, ρ1, e, h => by cases e
  | (j, b) :: r, x :: xs, ρ, ρ1, e, h => by
    have e : (if j < ρ.length then parE r xs (setE ρ j (some (if b then .own x else .val x))) else none) = some ρ1 := e
    rw [List.map_cons, List.mem_cons, not_or] at h
    split at e
    · exact (par_off r xs e h.2).trans (set_off h.1)
    · cases e
theorem forL_off {i : Nat} {g : D → Env → Mem → Out Flow} {w : List Nat} (hw : i ∉ w) (hg : ∀ x ρ m f m', g x ρ m = .ok f m' → FlAt ρ i f) : ∀ (l : List D) {ρ : Env} {m m' : Mem} {f : Flow}, forL g w l ρ m = .ok f m' → FlAt ρ i f
  | [], ρ, m, m', f, e => by cases e; rfl
  | x :: r, ρ, m, m', f, e => by
    obtain ⟨f1, m1, e1, e2⟩ := bind_eq_ok (show (g x ρ m).bind _ = _ from e)
    have h1 := hg _ _ _ _ _ e1
    cases f1 with
    | nx ρ1 => exact (forL_off hw hg r e2).from ((wipe_off hw).trans h1)
    | ct ρ1 => exact (forL_off hw hg r e2).from ((wipe_off hw).trans h1)
    | bk ρ1 => cases e2; exact (wipe_off hw).trans h1
    | rt d => cases e2; trivial
theorem whlL_off {i : Nat} {c : Env → Mem → Out D} {g : Env → Mem → Out Flow} {w : List Nat} (hw : i ∉ w) (hg : ∀ ρ m f m', g ρ m = .ok f m' → FlAt ρ i f) : ∀ (n : Nat) {ρ : Env} {m m' : Mem} {f : Flow}, whlL c g w n ρ m = .ok f m' → FlAt ρ i f
  | 0, ρ, m, m', f, e => by cases e
  | n + 1, ρ, m, m', f, e => by
    obtain ⟨x, m0, e0, e⟩ := bind_eq_ok (show (c ρ m).bind _ = _ from e)
    split at e
    · obtain ⟨f1, m1, e1, e2⟩ := bind_eq_ok e
      have h1 := hg _ _ _ _ e1
      cases f1 with
      | nx ρ1 => exact (whlL_off hw hg n e2).from ((wipe_off hw).trans h1)
      | ct ρ1 => exact (whlL_off hw hg n e2).from ((wipe_off hw).trans h1)
      | bk ρ1 => cases e2; exact (wipe_off hw).trans h1
      | rt d => cases e2; trivial
    · cases e; rfl
    · cases e
theorem evS_off {φ : Phi} {i : Nat} (s : S) : ∀ {ρ : Env} {m m' : Mem} {f : Flow}, evS φ s ρ m = .ok f m' → i ∉ asgn s → FlAt ρ i f := by
  induction s with
  | skip => intro ρ m m' f e h; cases e; rfl
  | seq a b iha ihb =>
    intro ρ m m' f e h
    have h : i ∉ asgn a ++ asgn b := h
    rw [List.mem_append, not_or] at h
    obtain ⟨f1, m1, e1, e2⟩ := bind_eq_ok (show (evS φ a ρ m).bind _ = _ from e)
    have h1 := iha e1 h.1
    cases f1 with
    | nx ρ1 => exact (ihb e2 h.2).from h1
    | bk ρ1 => cases e2; exact h1
    | ct ρ1 => cases e2; exact h1
    | rt d => cases e2; trivial
  | expr e => intro ρ m m' f e h; obtain ⟨_, _, _, e2⟩ := bind_eq_ok e; cases e2; rfl
  | asg t x =>
    intro ρ m m' f e h
    obtain ⟨_, _, _, e⟩ := bind_eq_ok e
    obtain ⟨ρ1, _, e1, e⟩ := bind_eq_ok e
    cases e
    exact put_off t _ (of_eq_ok e1).1 h
  | own j x =>
    intro ρ m m' f e h
    obtain ⟨y, m1, _, e⟩ := bind_eq_ok e
    have e : (if (isOwnable y && decide (j < ρ.length)) = true then Out.ok (Flow.nx (setE ρ j (some (.own y)))) m1 else .no) = .ok f m' := e
    split at e
    · cases e; exact set_off (by simpa [asgn] using h)
    · cases e
  | par fl es =>
    intro ρ m m' f e h
    obtain ⟨_, _, _, e⟩ := bind_eq_ok e
    obtain ⟨ρ1, _, e1, e⟩ := bind_eq_ok e
    cases e
    exact par_off fl _ (of_eq_ok e1).1 h
  | app j x =>
    intro ρ m m' f e h
    obtain ⟨y, m1, _, e⟩ := bind_eq_ok e
    split at e
    · split at e
      · cases e; exact set_off (by simpa [asgn] using h)
      · cases e
    · cases e
  | sub j k v =>
    intro ρ m m' f e h
    obtain ⟨y, m1, _, e⟩ := bind_eq_ok e
    obtain ⟨z, m2, _, e⟩ := bind_eq_ok e
    split at e
    · obtain ⟨d, _, _, e⟩ := bind_eq_ok e
      cases e; exact set_off (by simpa [asgn] using h)
    · cases e
  | subc j k v =>
    intro ρ m m' f e h
    obtain ⟨y, m1, _, e⟩ := bind_eq_ok e
    obtain ⟨z, m2, _, e⟩ := bind_eq_ok e
    split at e
    · split at e
      · obtain ⟨d, _, _, e⟩ := bind_eq_ok e
        cases e; rfl
      · cases e
    · cases e
  | pop i j => intro ρ m m' f e h; cases e
  | aug j op x =>
    intro ρ m m' f e h
    have e : (match ρ[j]? with
      | some (some (.val x')) => (evE φ x ρ m).bind fun y m => (match x', y with
        | .int a, .int b => Out.of m (binD op (.int a) (.int b))
        | _, _ => .no).bind fun z m => Out.ok (Flow.nx (setE ρ j (some (.val z)))) m
      | _ => .no) = .ok f m' := e
    split at e
    · obtain ⟨_, _, _, e⟩ := bind_eq_ok e
      obtain ⟨_, _, _, e⟩ := bind_eq_ok e
      cases e; exact set_off (by simpa [asgn] using h)
    · cases e
  | frz j =>
    intro ρ m m' f e h
    have e : (match ρ[j]? with
      | some (some (.own d)) => Out.ok (Flow.nx (setE ρ j (some (.val d)))) m
      | _ => .no) = .ok f m' := e
    split at e
    · cases e; exact set_off (by simpa [asgn] using h)
    · cases e
  | ite c a b iha ihb =>
    intro ρ m m' f e h
    have h : i ∉ asgn a ++ asgn b := h
    rw [List.mem_append, not_or] at h
    obtain ⟨x, m1, _, e⟩ := bind_eq_ok e
    split at e
    · exact iha e h.1
    · exact ihb e h.2
    · cases e
  | «for» w t k it b ih =>
    intro ρ m m' f e h
    have h : i ∉ w ++ (slotsT t ++ asgn b) := h
    rw [List.mem_append, not_or, List.mem_append, not_or] at h
    obtain ⟨_, _, _, e⟩ := bind_eq_ok e
    obtain ⟨xs, _, _, e⟩ := bind_eq_ok e
    refine (forL_off h.1 (fun x ρ m f m' e => ?_) xs e).from (wipe_off h.1)
    obtain ⟨ρ1, _, e1, e⟩ := bind_eq_ok e
    exact (ih e h.2.2).from (put_off t _ (of_eq_ok e1).1 h.2.1)
  | whl n w c b ih =>
    intro ρ m m' f e h
    have h : i ∉ w ++ asgn b := h
    rw [List.mem_append, not_or] at h
    exact (whlL_off h.1 (fun ρ m f m' e => ih e h.2) n e).from (wipe_off h.1)
  | ret e => intro ρ m m' f e h; obtain ⟨_, _, _, e2⟩ := bind_eq_ok e; cases e2; trivial
  | brk => intro ρ m m' f e h; cases e; rfl
  | cnt => intro ρ m m' f e h; cases e; rfl
  | rais c es => intro ρ m m' f e h; obtain ⟨_, _, _, e2⟩ := bind_eq_ok e; cases e2
/-- a told part, in a greater environment -/
theorem part_nx {φ φ' : Phi} (P : Pure φ φ') {s : S} {ρ ρ1 ρ' : Env} {m0 : Mem} (e : evS φ s ρ [] = .ok (.nx ρ1) m0) (h : Le ρ ρ') (m : Mem) : ∃ ρ1', evS φ' s ρ' m = .ok (.nx ρ1') m ∧ Le ρ1 ρ1' ∧ ∀ i, i ∉ asgn s → ρ1'[i]? = ρ'[i]? := by
  obtain ⟨f, e1, h1⟩ := ((evS_up P s h) _ _ e).2 m
  cases f <;> first | exact h1.elim | skip
  exact ⟨_, e1, h1, fun i hi => evS_off s e1 hi⟩
theorem part_rt {φ φ' : Phi} (P : Pure φ φ') {s : S} {ρ ρ' : Env} {d : D} {m0 : Mem} (e : evS φ s ρ [] = .ok (.rt d) m0) (h : Le ρ ρ') (m : Mem) : evS φ' s ρ' m = .ok (.rt d) m := by
  obtain ⟨f, e1, h1⟩ := ((evS_up P s h) _ _ e).2 m
  cases f <;> first | exact h1.elim | skip
  cases h1
  exact e1
theorem split_nx {φ : Phi} {n : Nat} {s : S} {ρ ρ1 : Env} {m m1 : Mem} (h : evS φ (takeS n s) ρ m = .ok (.nx ρ1) m1) : evS φ s ρ m = evS φ (dropS n s) ρ1 m1 := by
  rw [evS_split n s ρ m, h]
  rfl
theorem Le.setR {ρ ρ' : Env} {i : Nat} {x : Sl} (h : Le ρ ρ') (e : ρ'[i]? = some (some x)) : Le (setE ρ i (some x)) ρ' := by
  refine ⟨by simp [setE, h.len], fun j y q => ?_⟩
  unfold setE at q
  by_cases hj : i = j
  · subst hj
    have hl : i < ρ.length := by rw [h.len]; exact (List.getElem?_eq_some_iff.mp e).1
    rw [List.getElem?_set_self hl] at q
    cases q
    exact e
  · rw [List.getElem?_set_ne hj] at q
    exact h.at_ j y q
end Ev

set_option maxHeartbeats 4000000
namespace Ev
open PySem PySem.Spec PyProof.Rows L2
def gcdB (K : Frag) (gs : List Str) : Bool := gs.all fun x => He.eqO (PySem.W.nsIn K mainGlobals x) (some (some (.builtin "math.gcd")))
def obsH (gs : List Str) (fa : List He.Fa) (fn : List He.DefD) (K : Frag) : He.AlD := (gcdB K gs && (He.obsD fa fn K).1, (He.obsD fa fn K).2)
def obsHG (n : Nat) (gs : List Str) (fa : List He.Fa) (fn : List He.DefD) (g : Addr → Option Obj) : He.AlD := obsH gs fa fn (He.frG g (He.asD g n))
def SaysH (gs : List Str) (fa : List He.Fa) (fn : List He.DefD) (K : Frag) : Prop := obsH gs fa fn K = He.valD fn
def hookH (n : Nat) (gs : List Str) (fa : List He.Fa) (fn : List He.DefD) : PySem.W.Hook where
  α := He.AlD
  obs := fun s => obsHG n gs fa fn s.heap.get?
  val := fun _ => He.valD fn
  says := fun _ h => ∃ K : Frag, K.In h ∧ SaysH gs fa fn K
  of := fun _ _ e => ⟨_, He.frG_in, e⟩
  keeps := fun _ _ _ x k => let ⟨K, hK, c⟩ := x; ⟨K, PySem.W.Frag.In.keeps hK k, c⟩
theorem obsHG_eq {n : Nat} {gs : List Str} {fa : List He.Fa} {fn : List He.DefD} {g : Addr → Option Obj} {s : Shared} (h : ∀ a, g a = s.heap.get? a) : obsHG n gs fa fn g = (hookH n gs fa fn).obs s := by
  obtain rfl : g = s.heap.get? := funext h
  rfl
theorem SaysH.parts {gs : List Str} {fa : List He.Fa} {fn : List He.DefD} {K : Frag} (c : SaysH gs fa fn K) : gcdB K gs = true ∧ He.SaysD fa fn K := by
  have c1 : (obsH gs fa fn K).1 = true := congrArg (fun z : He.AlD => z.1) c
  have c1 : (gcdB K gs && (He.obsD fa fn K).1) = true := c1
  have c2 : (obsH gs fa fn K).2 = (He.valD fn).2 := congrArg (fun z : He.AlD => z.2) c
  rw [Bool.and_eq_true] at c1
  exact ⟨c1.1, Prod.ext c1.2 c2⟩
/-- the values go to the parameters -/
def BindB (d : He.DefD) (ps : List Str) : Prop := ∀ (kV doc pm : Value) (an : Option Addr) (cdv ct : Value) (us : List Value), us.length = ps.length → bindArgs (PySem.W.fnOf d.name d.qual d.params d.body d.scope .none kV doc pm an cdv ct) ⟨us, []⟩ = pure (ps.zip us)
def plainD (d : He.DefD) : Bool := d.dfl.isEmpty && d.kwd.isEmpty && d.at_.2.isNone
def faOf (n : Nms) (es : List Ent) (l : LawEnt) : List He.Fa := .glo l.d.at_.1 :: es.map (fun e => He.Fa.glo e.d.at_.1) ++ (n.blt.map He.Fa.free ++ n.cns.map fun p => He.Fa.int p.1 p.2)
def fnOfE (es : List Ent) (l : LawEnt) : List He.DefD := es.map (·.d) ++ [l.d]
section
variable {K : Frag} {h : Heap} {mg : Str → Option Value} {n : Nms} {es : List Ent} {l : LawEnt}
theorem fact_mem {fa : List He.Fa} {fn : List He.DefD} (c : He.SaysD fa fn K) {f : He.Fa} (hf : f ∈ fa) : f.ok K = true := by
  obtain ⟨i, hi⟩ := List.mem_iff_getElem?.mp hf
  exact c.fact i hi
theorem def_plain {fa : List He.Fa} {fn : List He.DefD} (c : He.SaysD fa fn K) {d : He.DefD} (hd : d ∈ fn) (hp : plainD d = true) : ∃ fd, FunD K d.name d.qual d.params d.body d.scope [] [] (He.fAd K d.at_) fd := by
  obtain ⟨i, hi⟩ := List.mem_iff_getElem?.mp hd
  obtain ⟨fd, F⟩ := c.def_ i hi
  unfold plainD at hp
  simp only [Bool.and_eq_true, List.isEmpty_iff] at hp
  have e1 : d.dvs K = [] := by unfold He.DefD.dvs; rw [hp.1.1]; rfl
  have e2 : d.kws K = [] := by unfold He.DefD.kws; rw [hp.1.2]; rfl
  rw [e1, e2] at F
  exact ⟨fd, F⟩
theorem at_ga {d : He.DefD} (hp : plainD d = true) : He.fAd K d.at_ = He.ga K d.at_.1 := by
  unfold plainD at hp
  simp only [Bool.and_eq_true, Option.isNone_iff_eq_none] at hp
  unfold He.fAd
  rw [hp.2]
theorem lookup_mem {α : Type} {x : Str} {v : α} : ∀ {l : List (Str × α)}, l.lookup x = some v → (x, v) ∈ l
  | [], h => by cases h
  | (y, w) :: r, h => by
    rw [List.lookup_cons] at h
    cases q : x == y with
    | true =>
      rw [q] at h
      cases h
      rw [eq_of_beq q]
      exact List.mem_cons_self
    | false =>
      rw [q] at h
      exact List.mem_cons_of_mem _ (lookup_mem h)
theorem says_of (X : K.In h) (G : h.Ns mainGlobals mg) (c : SaysH n.gcds (faOf n es l) (fnOfE es l) K) (hb : ∀ e ∈ es, BindB e.d e.ps) (hd : es.all (fun e => plainD e.d) = true) (hok : es.all (entB (gcOf n es)) = true) : Says K mg es n := by
  obtain ⟨cg, cd⟩ := c.parts
  refine ⟨fun i e he => ?_, fun i e he => List.all_eq_true.mp hok e (List.mem_of_getElem? he), fun x hx => ?_, fun x i hx => ?_, fun x hx => ?_⟩
  · have hm := List.mem_of_getElem? he
    have hp := List.all_eq_true.mp hd e hm
    obtain ⟨fd, F⟩ := def_plain cd (d := e.d) (by unfold fnOfE; exact List.mem_append_left _ (List.mem_map_of_mem hm)) hp
    refine ⟨⟨fd, F, F.bindsN (hb e hm)⟩, ?_⟩
    rw [at_ga hp]
    exact He.glo_ok X G (fact_mem cd (by unfold faOf; exact List.mem_append_left _ (List.mem_cons_of_mem _ (List.mem_map_of_mem hm))))
  · rw [List.contains_iff_mem] at hx
    exact He.free_ok X G (fact_mem cd (by unfold faOf; exact List.mem_append_right _ (List.mem_append_left _ (List.mem_map_of_mem hx))))
  · have hm := lookup_mem hx
    exact He.int_ok X G (fact_mem cd (f := .int x i) (by unfold faOf; exact List.mem_append_right _ (List.mem_append_right _ (List.mem_map.mpr ⟨(x, i), hm, rfl⟩))))
  · rw [List.contains_iff_mem] at hx
    exact PySem.W.mg_of X G (He.eqO_ok (List.all_eq_true.mp cg x hx))
theorem law_facts {P : Program} {w : World} {fL : Addr} (X : K.In h) (G : h.Ns mainGlobals mg) (hfa : mg l.d.at_.1 = some (.ref fL)) (c : SaysH n.gcds (faOf n es l) (fnOfE es l) K) (hb : ∀ e ∈ es, BindB e.d e.ps) (hd : es.all (fun e => plainD e.d) = true) (hok : es.all (entB (gcOf n es)) = true)
    (hl : plainD l.d = true) (hlb : lawB (gcOf n es) l = true) (hbl : BindB l.d (l.N.take 1)) {x : Str} (hx : l.N.take 1 = [x]) (k : Nat)
    (law : ∀ ns : List Int, ns.length ≤ 63 → ∃ m', evS (callK (tabOf es) k) l.body (envL (l.N.length - 2) ns) [rowD ns l.seed] = .ok (.rt (.bl true)) m') :
    ∃ fd : FuncData, (∀ (s : Shared) (v : Value), BindsTo s fd ⟨[v], []⟩ [(x, v)]) ∧ ∀ base : Heap, FnOk P w K mg base CX0 (k + 1) fL fd [x] (spLaw K) := by
  obtain ⟨cg, cd⟩ := c.parts
  obtain ⟨fd, F⟩ := def_plain cd (d := l.d) (by unfold fnOfE; simp) hl
  have e := hfa.symm.trans (He.glo_ok X G (fact_mem cd (f := .glo l.d.at_.1) (by unfold faOf; exact List.mem_append_left _ List.mem_cons_self)))
  cases e
  rw [at_ga hl] at F
  rw [hx] at hbl
  have b := FunD.bindsA (ps := [x]) F hbl
  have S := says_of (l := l) X G c hb hd hok
  refine ⟨fd, fun s v => b s [v] rfl, fun base => ?_⟩
  have r := law_ok (P := P) (w := w) (base := base) S F hlb k law
  rw [hx] at r
  exact r
end
end Ev

namespace K54
open PySem PySem.Spec PyProof.Rows L2 Ev
def top (i : Nat) : Stmt := PySem.Challenge.pw_rockystairs_k54_across_sums_over_fields.main.body.getD i (.Pass ⟨0, 0, 0, 0⟩)
def mkD (g x : Str) (i : Nat) : He.DefD := ⟨(g, none), x, x, defArgs (top i), defBody (top i), defScope (top i), [], []⟩
def b__law_taken : S :=
 (.seq (.ite (.cmp .gt (.idxc 0 (.cst (.int 3))) (.cst (.int 0))) (.seq (.asg (.name 2) (.bin .mod (.prim .int (.cons (.idxc 0 (.cst (.int 3))) .nil)) (.slot 1)))
 (.seq (.subc 0 (.cst (.int 3)) (.bin .fdiv (.idxc 0 (.cst (.int 3))) (.slot 1)))
 (.seq (.ret (.slot 2))
 .skip))) .skip)
 (.seq (.subc 0 (.cst (.int 1)) (.bin .add (.idxc 0 (.cst (.int 1))) (.cst (.int 1))))
 (.seq (.ite (.cmp .gt (.idxc 0 (.cst (.int 1))) (.prim .len (.cons (.idxc 0 (.cst (.int 0))) .nil))) (.seq (.subc 0 (.cst (.int 2)) (.bin .mod (.prim .int (.cons (.bin .add (.bin .mul (.idxc 0 (.cst (.int 2))) (.cst (.int 48271))) (.cst (.int 11))) .nil)) (.cst (.int 2147483647))))
 (.seq (.ret (.bin .mod (.prim .int (.cons (.bin .fdiv (.idxc 0 (.cst (.int 2))) (.cst (.int 7))) .nil)) (.slot 1)))
 .skip)) .skip)
 (.seq (.asg (.name 3) (.idx (.idxc 0 (.cst (.int 0))) (.bin .sub (.idxc 0 (.cst (.int 1))) (.cst (.int 1)))))
 (.seq (.subc 0 (.cst (.int 2)) (.bin .mod (.prim .int (.cons (.bin .add (.bin .add (.bin .mul (.idxc 0 (.cst (.int 2))) (.cst (.int 48271))) (.slot 3)) (.cst (.int 11))) .nil)) (.cst (.int 2147483647))))
 (.seq (.ite (.cmp .ge (.slot 3) (.bin .pow (.cst (.int 10)) (.cst (.int 18)))) (.seq (.subc 0 (.cst (.int 3)) (.bin .fdiv (.slot 3) (.slot 1)))
 .skip) .skip)
 (.seq (.ret (.bin .mod (.prim .int (.cons (.slot 3) .nil)) (.slot 1)))
 .skip)))))))
def e__law_taken : Ent := ⟨mkD "_law_taken" "_law_taken" 36, ["_law_row", "_law_many"], ["_law_row", "_law_many", "_law_found", "_law_cell"], b__law_taken⟩
def b__law_drawn_ratio : S :=
 (.seq (.ret (.call 13 (.cons (.slot 0) (.cons (.lst (.cons (.tup (.cons (.cst (.int 0)) (.cons (.cst (.int 1)) .nil))) (.cons (.tup (.cons (.cst (.int 1)) (.cons (.cst (.int 1)) .nil))) (.cons (.tup (.cons (.cst (.int 1)) (.cons (.cst (.int 2)) .nil))) (.cons (.tup (.cons (.cst (.int 1)) (.cons (.cst (.int 3)) .nil))) (.cons (.tup (.cons (.cst (.int 2)) (.cons (.cst (.int 3)) .nil))) (.cons (.tup (.cons (.cst (.int 3)) (.cons (.cst (.int 4)) .nil))) (.cons (.tup (.cons (.cst (.int 1)) (.cons (.cst (.int 10)) .nil))) (.cons (.tup (.cons (.cst (.int 98)) (.cons (.cst (.int 99)) .nil))) (.cons (.tup (.cons (.cst (.int 5)) (.cons (.cst (.int 7)) .nil))) .nil)))))))))) .nil))))
 .skip)
def e__law_drawn_ratio : Ent := ⟨mkD "_law_drawn_ratio" "_law_drawn_ratio" 38, ["_law_row"], ["_law_row"], b__law_drawn_ratio⟩
def b_stairs_by_corners : S :=
 (.seq (.expr (.call 14 (.cons (.slot 0) (.cons (.slot 1) .nil))))
 (.seq (.ret (.prim .tuple (.cons (.comp [2] (.name 2) .rng (.cons (.bin .add (.prim .min2 (.cons (.slot 0) (.cons (.slot 1) .nil))) (.cst (.int 1))) .nil) (.cst (.bl true)) (.bin .mul (.call 15 (.cons (.slot 0) (.cons (.slot 2) .nil))) (.call 15 (.cons (.slot 1) (.cons (.slot 2) .nil))))) .nil)))
 .skip))
def e_stairs_by_corners : Ent := ⟨mkD "stairs_by_corners" "stairs_by_corners" 29, ["many", "wide"], ["many", "wide", "size"], b_stairs_by_corners⟩
def b_count_stairs : S :=
 (.seq (.expr (.call 16 (.cons (.slot 0) .nil)))
 (.seq (.ret (.call 15 (.cons (.bin .add (.idx (.slot 0) (.cst (.int 0))) (.idx (.slot 0) (.cst (.int 1)))) (.cons (.idx (.slot 0) (.cst (.int 0))) .nil))))
 .skip))
def e_count_stairs : Ent := ⟨mkD "count_stairs" "count_stairs" 20, ["field"], ["field"], b_count_stairs⟩
def b__law_choose : S :=
 (.seq (.asg (.name 2) (.ite (.cmp .ge (.slot 1) (.cst (.int 0))) (.cst (.int 1)) (.cst (.int 0))))
 (.seq (.for [] (.name 3) .rng (.cons (.prim .max2 (.cons (.cst (.int 0)) (.cons (.slot 1) .nil))) .nil) (.seq (.asg (.name 2) (.bin .fdiv (.bin .mul (.slot 2) (.bin .sub (.slot 0) (.slot 3))) (.bin .add (.slot 3) (.cst (.int 1)))))
 .skip))
 (.seq (.ret (.ite (.cmp .le (.slot 1) (.slot 0)) (.slot 2) (.cst (.int 0))))
 .skip)))
def e__law_choose : Ent := ⟨mkD "_law_choose" "_law_choose" 39, ["_law_many", "_law_some"], ["_law_many", "_law_some", "_law_found", "_law_step"], b__law_choose⟩
def b_sum_of_kinds : S :=
 (.seq (.expr (.call 14 (.cons (.slot 0) (.cons (.slot 1) .nil))))
 (.seq (.expr (.call 17 (.cons (.slot 2) (.cons (.cst (.int 0)) (.cons (.bin .mul (.slot 0) (.slot 1)) .nil)))))
 (.seq (.asg (.name 3) (.cst (.int 0)))
 (.seq (.for [] (.name 4) .rng (.cons (.bin .add (.prim .min2 (.cons (.slot 0) (.cons (.slot 1) .nil))) (.cst (.int 1))) .nil) (.seq (.aug 3 .add (.bin .mul (.bin .mul (.call 15 (.cons (.slot 0) (.cons (.slot 4) .nil))) (.call 15 (.cons (.slot 1) (.cons (.slot 4) .nil)))) (.call 15 (.cons (.bin .sub (.bin .mul (.slot 0) (.slot 1)) (.slot 4)) (.cons (.bin .sub (.slot 2) (.slot 4)) .nil)))))
 .skip))
 (.seq (.ret (.slot 3))
 .skip)))))
def e_sum_of_kinds : Ent := ⟨mkD "sum_of_kinds" "sum_of_kinds" 27, ["many", "wide", "number"], ["many", "wide", "number", "found", "size"], b_sum_of_kinds⟩
def b_count_fields : S :=
 (.seq (.expr (.call 14 (.cons (.slot 0) (.cons (.slot 1) .nil))))
 (.seq (.expr (.call 17 (.cons (.slot 2) (.cons (.cst (.int 0)) (.cons (.bin .mul (.slot 0) (.slot 1)) .nil)))))
 (.seq (.ret (.call 15 (.cons (.bin .mul (.slot 0) (.slot 1)) (.cons (.slot 2) .nil))))
 .skip)))
def e_count_fields : Ent := ⟨mkD "count_fields" "count_fields" 26, ["many", "wide", "number"], ["many", "wide", "number"], b_count_fields⟩
def b__law_power : S :=
 (.seq (.asg (.name 2) (.cst (.int 1)))
 (.seq (.for [] (.name 3) .rng (.cons (.slot 1) .nil) (.seq (.asg (.name 2) (.bin .mul (.slot 2) (.slot 0)))
 .skip))
 (.seq (.ret (.slot 2))
 .skip)))
def e__law_power : Ent := ⟨mkD "_law_power" "_law_power" 40, ["_law_base", "_law_times"], ["_law_base", "_law_times", "_law_found", "_law_turn"], b__law_power⟩
def b_mean_kinds_of : S :=
 (.seq (.expr (.call 14 (.cons (.slot 0) (.cons (.slot 1) .nil))))
 (.seq (.expr (.call 18 (.cons (.slot 2) .nil)))
 (.seq (.ret (.call 19 (.cons (.dcomp [3] (.name 3) .rng (.cons (.bin .add (.prim .min2 (.cons (.slot 0) (.cons (.slot 1) .nil))) (.cst (.int 1))) .nil) (.cst (.bl true)) (.slot 3) (.bin .mul (.call 15 (.cons (.slot 0) (.cons (.slot 3) .nil))) (.call 15 (.cons (.slot 1) (.cons (.slot 3) .nil))))) (.cons (.slot 2) .nil))))
 .skip)))
def e_mean_kinds_of : Ent := ⟨mkD "mean_kinds_of" "mean_kinds_of" 25, ["many", "wide", "ratio"], ["many", "wide", "ratio", "size"], b_mean_kinds_of⟩
def b__law_ratio : S :=
 (.seq (.par [(2, false), (3, false)] (.cons (.prim .abs (.cons (.slot 0) .nil)) (.cons (.slot 1) .nil)))
 (.seq (.for [] (.name 4) .rng (.cons (.cst (.int 900)) .nil) (.seq (.ite (.cmp .eq (.slot 3) (.cst (.int 0))) (.seq .brk
 .skip) .skip)
 (.seq (.par [(2, false), (3, false)] (.cons (.slot 3) (.cons (.bin .mod (.prim .int (.cons (.slot 2) .nil)) (.slot 3)) .nil)))
 .skip)))
 (.seq (.ret (.tup (.cons (.bin .fdiv (.slot 0) (.slot 2)) (.cons (.bin .fdiv (.slot 1) (.slot 2)) .nil))))
 .skip)))
def e__law_ratio : Ent := ⟨mkD "_law_ratio" "_law_ratio" 41, ["_law_top", "_law_bottom"], ["_law_top", "_law_bottom", "_law_one", "_law_other", "_law_turn"], b__law_ratio⟩
def b_mean_of_fields : S :=
 (.seq (.ret (.call 20 (.cons (.call 5 (.cons (.slot 0) (.cons (.slot 1) (.cons (.slot 2) .nil)))) (.cons (.call 15 (.cons (.bin .mul (.slot 0) (.slot 1)) (.cons (.slot 2) .nil))) .nil))))
 .skip)
def e_mean_of_fields : Ent := ⟨mkD "mean_of_fields" "mean_of_fields" 28, ["many", "wide", "number"], ["many", "wide", "number"], b_mean_of_fields⟩
def b_fewest_kinds : S :=
 (.seq (.expr (.call 21 (.cons (.slot 0) (.cons (.slot 1) (.cons (.slot 2) .nil)))))
 (.seq (.ret (.ite (.cmp .lt (.slot 2) (.bin .add (.slot 0) (.slot 1))) (.bin .add (.slot 2) (.cst (.int 1))) (.cst .non)))
 .skip))
def e_fewest_kinds : Ent := ⟨mkD "fewest_kinds" "fewest_kinds" 33, ["many", "wide", "number"], ["many", "wide", "number"], b_fewest_kinds⟩
def b_most_kinds : S :=
 (.seq (.expr (.call 21 (.cons (.slot 0) (.cons (.slot 1) (.cons (.slot 2) .nil)))))
 (.seq (.ret (.ite (.cmp .le (.slot 2) (.prim .min2 (.cons (.slot 0) (.cons (.slot 1) .nil)))) (.bin .shl (.cst (.int 1)) (.slot 2)) (.cst .non)))
 .skip))
def e_most_kinds : Ent := ⟨mkD "most_kinds" "most_kinds" 34, ["many", "wide", "number"], ["many", "wide", "number"], b_most_kinds⟩
def b__law_pick : S :=
 (.seq (.ret (.idx (.slot 1) (.call 0 (.cons (.slot 0) (.cons (.prim .len (.cons (.slot 1) .nil)) .nil)))))
 .skip)
def e__law_pick : Ent := ⟨mkD "_law_pick" "_law_pick" 37, ["_law_row", "_law_things"], ["_law_row", "_law_things"], b__law_pick⟩
def b_need_sides_chances : S :=
 (.seq (.expr (.call 17 (.cons (.slot 0) (.cons (.cst (.int 1)) (.cons (.cst (.int 6)) .nil)))))
 (.seq (.expr (.call 17 (.cons (.slot 1) (.cons (.cst (.int 1)) (.cons (.cst (.int 6)) .nil)))))
 .skip))
def e_need_sides_chances : Ent := ⟨mkD "need_sides_chances" "need_sides" 23, ["many", "wide"], ["many", "wide"], b_need_sides_chances⟩
def b_choose : S :=
 (.seq (.ite (.not (.chn .le .le (.cst (.int 0)) (.slot 1) (.slot 0))) (.seq (.ret (.cst (.int 0)))
 .skip) .skip)
 (.seq (.asg (.name 2) (.cst (.int 1)))
 (.seq (.for [] (.name 3) .rng (.cons (.slot 1) .nil) (.seq (.asg (.name 2) (.bin .fdiv (.bin .mul (.slot 2) (.bin .sub (.slot 0) (.slot 3))) (.bin .add (.slot 3) (.cst (.int 1)))))
 .skip))
 (.seq (.ret (.slot 2))
 .skip))))
def e_choose : Ent := ⟨mkD "choose" "choose" 18, ["many", "some"], ["many", "some", "found", "step"], b_choose⟩
def b_need_field : S :=
 (.seq (.ite (.or (.not (.call 23 (.cons (.slot 0) (.cons (.cst (.int 3)) (.cons (.cst (.int 3)) .nil))))) (.not (.prim .all (.cons (.comp [1] (.name 1) .val (.cons (.slc (.slot 0) .skipE (.cst (.int 2))) .nil) (.cst (.bl true)) (.call 22 (.cons (.slot 1) (.cons (.cst (.int 1)) (.cons (.cst (.int 6)) .nil))))) .nil)))) (.seq (.rais 0 .nil)
 .skip) .skip)
 (.seq (.ite (.not (.call 23 (.cons (.idx (.slot 0) (.cst (.int 2))) (.cons (.cst (.int 0)) (.cons (.bin .mul (.cst (.int 6)) (.cst (.int 6))) .nil))))) (.seq (.rais 0 .nil)
 .skip) .skip)
 (.seq (.for [] (.tup (.cons (.name 2) (.cons (.name 3) .nil))) .enum (.cons (.idx (.slot 0) (.cst (.int 2))) .nil) (.seq (.ite (.or (.not (.call 24 (.cons (.slot 3) (.cons (.idx (.slot 0) (.cst (.int 0))) (.cons (.idx (.slot 0) (.cst (.int 1))) .nil))))) (.and (.cmp .gt (.slot 2) (.cst (.int 0))) (.cmp .le (.slot 3) (.idx (.idx (.slot 0) (.cst (.int 2))) (.bin .sub (.slot 2) (.cst (.int 1))))))) (.seq (.rais 0 .nil)
 .skip) .skip)
 .skip))
 .skip)))
def e_need_field : Ent := ⟨mkD "need_field" "need_field" 13, ["field"], ["field", "side", "index", "rock"], b_need_field⟩
def b_need_number : S :=
 (.seq (.ite (.not (.call 22 (.cons (.slot 0) (.cons (.slot 1) (.cons (.slot 2) .nil))))) (.seq (.rais 0 .nil)
 .skip) .skip)
 .skip)
def e_need_number : Ent := ⟨mkD "need_number" "need_number" 10, ["value", "low", "high"], ["value", "low", "high"], b_need_number⟩
def b_need_ratio : S :=
 (.seq (.ite (.or (.not (.call 23 (.cons (.slot 0) (.cons (.cst (.int 2)) (.cons (.cst (.int 2)) .nil))))) (.or (.not (.call 22 (.cons (.idx (.slot 0) (.cst (.int 1))) (.cons (.cst (.int 1)) (.cons (.cst (.int 99)) .nil))))) (.not (.call 22 (.cons (.idx (.slot 0) (.cst (.int 0))) (.cons (.cst (.int 0)) (.cons (.idx (.slot 0) (.cst (.int 1))) .nil))))))) (.seq (.rais 0 .nil)
 .skip) .skip)
 (.seq (.ite (.cmp .ne (.prim .gcd (.cons (.idx (.slot 0) (.cst (.int 0))) (.cons (.idx (.slot 0) (.cst (.int 1))) .nil))) (.cst (.int 1))) (.seq (.rais 0 .nil)
 .skip) .skip)
 .skip))
def e_need_ratio : Ent := ⟨mkD "need_ratio" "need_ratio" 14, ["ratio"], ["ratio"], b_need_ratio⟩
def b_mean_by : S :=
 (.seq (.asg (.name 2) (.tup (.cons (.cst (.int 0)) (.cons (.cst (.int 1)) .nil))))
 (.seq (.for [] (.tup (.cons (.name 3) (.cons (.name 4) .nil))) .val (.cons (.sitems (.slot 0)) .nil) (.seq (.asg (.name 2) (.call 25 (.cons (.slot 2) (.cons (.call 20 (.cons (.bin .mul (.slot 4) (.call 26 (.cons (.idx (.slot 1) (.cst (.int 0))) (.cons (.slot 3) .nil)))) (.cons (.call 26 (.cons (.idx (.slot 1) (.cst (.int 1))) (.cons (.slot 3) .nil))) .nil))) .nil))))
 .skip))
 (.seq (.ret (.slot 2))
 .skip)))
def e_mean_by : Ent := ⟨mkD "mean_by" "mean_by" 22, ["counts", "ratio"], ["counts", "ratio", "found", "free", "many"], b_mean_by⟩
def b_low : S :=
 (.seq (.asg (.name 2) (.prim .gcd (.cons (.slot 0) (.cons (.slot 1) .nil))))
 (.seq (.ret (.tup (.cons (.bin .fdiv (.slot 0) (.slot 2)) (.cons (.bin .fdiv (.slot 1) (.slot 2)) .nil))))
 .skip))
def e_low : Ent := ⟨mkD "low" "low" 15, ["top", "bottom"], ["top", "bottom", "shared"], b_low⟩
def b_need_sides_extremes : S :=
 (.seq (.expr (.call 17 (.cons (.slot 0) (.cons (.cst (.int 1)) (.cons (.cst (.int 6)) .nil)))))
 (.seq (.expr (.call 17 (.cons (.slot 1) (.cons (.cst (.int 1)) (.cons (.cst (.int 6)) .nil)))))
 (.seq (.expr (.call 17 (.cons (.slot 2) (.cons (.cst (.int 0)) (.cons (.bin .mul (.slot 0) (.slot 1)) .nil)))))
 .skip)))
def e_need_sides_extremes : Ent := ⟨mkD "need_sides_extremes" "need_sides" 31, ["many", "wide", "number"], ["many", "wide", "number"], b_need_sides_extremes⟩
def b_within : S :=
 (.seq (.ret (.and (.call 27 (.cons (.slot 0) .nil)) (.chn .le .le (.slot 1) (.slot 0) (.slot 2))))
 .skip)
def e_within : Ent := ⟨mkD "within" "within" 9, ["value", "low", "high"], ["value", "low", "high"], b_within⟩
def b_tuple_of : S :=
 (.seq (.ret (.and (.prim .isTup (.cons (.slot 0) .nil)) (.chn .le .le (.slot 1) (.prim .len (.cons (.slot 0) .nil)) (.slot 2))))
 .skip)
def e_tuple_of : Ent := ⟨mkD "tuple_of" "tuple_of" 11, ["value", "low", "high"], ["value", "low", "high"], b_tuple_of⟩
def b_is_square_of : S :=
 (.seq (.ret (.and (.call 23 (.cons (.slot 0) (.cons (.cst (.int 2)) (.cons (.cst (.int 2)) .nil)))) (.and (.call 22 (.cons (.idx (.slot 0) (.cst (.int 0))) (.cons (.cst (.int 0)) (.cons (.bin .sub (.slot 1) (.cst (.int 1))) .nil)))) (.call 22 (.cons (.idx (.slot 0) (.cst (.int 1))) (.cons (.cst (.int 0)) (.cons (.bin .sub (.slot 2) (.cst (.int 1))) .nil)))))))
 .skip)
def e_is_square_of : Ent := ⟨mkD "is_square_of" "is_square_of" 12, ["value", "rows", "columns"], ["value", "rows", "columns"], b_is_square_of⟩
def b_plus : S :=
 (.seq (.ret (.call 20 (.cons (.bin .add (.bin .mul (.idx (.slot 0) (.cst (.int 0))) (.idx (.slot 1) (.cst (.int 1)))) (.bin .mul (.idx (.slot 1) (.cst (.int 0))) (.idx (.slot 0) (.cst (.int 1))))) (.cons (.bin .mul (.idx (.slot 0) (.cst (.int 1))) (.idx (.slot 1) (.cst (.int 1)))) .nil))))
 .skip)
def e_plus : Ent := ⟨mkD "plus" "plus" 16, ["one", "other"], ["one", "other"], b_plus⟩
def b_power : S :=
 (.seq (.asg (.name 2) (.cst (.int 1)))
 (.seq (.for [] (.name 3) .rng (.cons (.slot 1) .nil) (.seq (.aug 2 .mul (.slot 0))
 .skip))
 (.seq (.ret (.slot 2))
 .skip)))
def e_power : Ent := ⟨mkD "power" "power" 17, ["base", "exponent"], ["base", "exponent", "found", "turn"], b_power⟩
def b_whole : S :=
 (.seq (.ret (.and (.prim .isInt (.cons (.slot 0) .nil)) (.not (.prim .isBool (.cons (.slot 0) .nil)))))
 .skip)
def e_whole : Ent := ⟨mkD "whole" "whole" 8, ["value"], ["value"], b_whole⟩
def es : List Ent := [e__law_taken, e__law_drawn_ratio, e_stairs_by_corners, e_count_stairs, e__law_choose, e_sum_of_kinds, e_count_fields, e__law_power, e_mean_kinds_of, e__law_ratio, e_mean_of_fields, e_fewest_kinds, e_most_kinds, e__law_pick, e_need_sides_chances, e_choose, e_need_field, e_need_number, e_need_ratio, e_mean_by, e_low, e_need_sides_extremes, e_within, e_tuple_of, e_is_square_of, e_plus, e_power, e_whole]
def b_law : S :=
 (.seq (.asg (.tup (.cons (.name 2) (.cons (.name 3) (.cons (.name 4) .nil)))) (.tup (.cons (.bin .add (.cst (.int 1)) (.call 0 (.cons (.slot 1) (.cons (.cst (.int 6)) .nil)))) (.cons (.bin .add (.cst (.int 1)) (.call 0 (.cons (.slot 1) (.cons (.cst (.int 6)) .nil)))) (.cons (.call 1 (.cons (.slot 1) .nil)) .nil)))))
 (.seq (.asg (.tup (.cons (.name 5) (.cons (.name 6) .nil))) (.tup (.cons (.bin .mul (.slot 2) (.slot 3)) (.cons (.call 2 (.cons (.slot 2) (.cons (.slot 3) .nil))) .nil))))
 (.seq (.ite (.or (.cmp .ne (.prim .sum (.cons (.slot 6) .nil)) (.call 3 (.cons (.tup (.cons (.slot 2) (.cons (.slot 3) (.cons (.tup .nil) .nil)))) .nil))) (.cmp .ne (.slot 6) (.call 2 (.cons (.slot 3) (.cons (.slot 2) .nil))))) (.seq (.ret (.cst (.bl false)))
 .skip) .skip)
 (.seq (.ite (.or (.cmp .ne (.idx (.slot 6) (.cst (.int 1))) (.slot 5)) (.cmp .ne (.prim .len (.cons (.slot 6) .nil)) (.bin .add (.prim .min2 (.cons (.slot 2) (.cons (.slot 3) .nil))) (.cst (.int 1))))) (.seq (.ret (.cst (.bl false)))
 .skip) .skip)
 (.seq (.ite (.cmp .ne (.comp [7] (.name 7) .rng (.cons (.prim .len (.cons (.slot 6) .nil)) .nil) (.cst (.bl true)) (.idx (.slot 6) (.slot 7))) (.comp [7] (.name 7) .rng (.cons (.prim .len (.cons (.slot 6) .nil)) .nil) (.cst (.bl true)) (.bin .mul (.call 4 (.cons (.slot 2) (.cons (.slot 7) .nil))) (.call 4 (.cons (.slot 3) (.cons (.slot 7) .nil)))))) (.seq (.ret (.cst (.bl false)))
 .skip) .skip)
 (.seq (.asg (.name 8) (.comp [9] (.name 9) .rng (.cons (.bin .add (.slot 5) (.cst (.int 1))) .nil) (.cst (.bl true)) (.call 5 (.cons (.slot 2) (.cons (.slot 3) (.cons (.slot 9) .nil))))))
 (.seq (.asg (.name 10) (.comp [9] (.name 9) .rng (.cons (.bin .add (.slot 5) (.cst (.int 1))) .nil) (.cst (.bl true)) (.call 6 (.cons (.slot 2) (.cons (.slot 3) (.cons (.slot 9) .nil))))))
 (.seq (.ite (.or (.cmp .ne (.prim .sum (.cons (.slot 10) .nil)) (.call 7 (.cons (.cst (.int 2)) (.cons (.slot 5) .nil)))) (.cmp .ne (.idx (.slot 8) (.cst (.int 0))) (.cst (.int 1)))) (.seq (.ret (.cst (.bl false)))
 .skip) .skip)
 (.seq (.ite (.or (.cmp .ne (.idx (.slot 8) (.neg (.cst (.int 1)))) (.prim .sum (.cons (.slot 6) .nil))) (.or (.cmp .ne (.idx (.slot 8) (.cst (.int 1))) (.bin .mul (.cst (.int 2)) (.slot 5))) (.cmp .ne (.slot 10) (.rev (.slot 10))))) (.seq (.ret (.cst (.bl false)))
 .skip) .skip)
 (.seq (.asg (.name 11) (.cst (.int 0)))
 (.seq (.for [] (.name 9) .rng (.cons (.bin .add (.slot 5) (.cst (.int 1))) .nil) (.seq (.asg (.name 11) (.bin .add (.slot 11) (.bin .mul (.bin .mul (.idx (.slot 8) (.slot 9)) (.call 7 (.cons (.idx (.slot 4) (.cst (.int 0))) (.cons (.slot 9) .nil)))) (.call 7 (.cons (.bin .sub (.idx (.slot 4) (.cst (.int 1))) (.idx (.slot 4) (.cst (.int 0)))) (.cons (.bin .sub (.slot 5) (.slot 9)) .nil))))))
 .skip))
 (.seq (.ite (.cmp .ne (.call 8 (.cons (.slot 2) (.cons (.slot 3) (.cons (.slot 4) .nil)))) (.call 9 (.cons (.slot 11) (.cons (.call 7 (.cons (.idx (.slot 4) (.cst (.int 1))) (.cons (.slot 5) .nil))) .nil)))) (.seq (.ret (.cst (.bl false)))
 .skip) .skip)
 (.seq (.ite (.cmp .ne (.prim .sum (.cons (.slot 8) .nil)) (.prim .sum (.cons (.comp [7] (.name 7) .rng (.cons (.prim .len (.cons (.slot 6) .nil)) .nil) (.cst (.bl true)) (.bin .mul (.idx (.slot 6) (.slot 7)) (.call 7 (.cons (.cst (.int 2)) (.cons (.bin .sub (.slot 5) (.slot 7)) .nil))))) .nil))) (.seq (.ret (.cst (.bl false)))
 .skip) .skip)
 (.seq (.ite (.cmp .ne (.call 8 (.cons (.slot 2) (.cons (.slot 3) (.cons (.slot 4) .nil)))) (.call 8 (.cons (.slot 3) (.cons (.slot 2) (.cons (.slot 4) .nil))))) (.seq (.ret (.cst (.bl false)))
 .skip) .skip)
 (.seq (.ite (.cmp .ne (.call 8 (.cons (.slot 2) (.cons (.slot 3) (.cons (.tup (.cons (.cst (.int 0)) (.cons (.cst (.int 1)) .nil))) .nil)))) (.tup (.cons (.cst (.int 1)) (.cons (.cst (.int 1)) .nil)))) (.seq (.ret (.cst (.bl false)))
 .skip) .skip)
 (.seq (.asg (.name 9) (.call 0 (.cons (.slot 1) (.cons (.bin .add (.slot 5) (.cst (.int 1))) .nil))))
 (.seq (.asg (.name 12) (.call 10 (.cons (.slot 2) (.cons (.slot 3) (.cons (.slot 9) .nil)))))
 (.seq (.ite (.or (.cmp .ne (.slot 12) (.call 9 (.cons (.idx (.slot 8) (.slot 9)) (.cons (.idx (.slot 10) (.slot 9)) .nil)))) (.cmp .ne (.slot 12) (.call 10 (.cons (.slot 3) (.cons (.slot 2) (.cons (.slot 9) .nil)))))) (.seq (.ret (.cst (.bl false)))
 .skip) .skip)
 (.seq (.par [(13, false), (14, false)] (.cons (.call 11 (.cons (.slot 2) (.cons (.slot 3) (.cons (.slot 9) .nil)))) (.cons (.call 12 (.cons (.slot 2) (.cons (.slot 3) (.cons (.slot 9) .nil)))) .nil)))
 (.seq (.ite (.or (.cmp .ne (.cmp .is (.slot 13) (.cst .non)) (.cmp .ge (.slot 9) (.bin .add (.slot 2) (.slot 3)))) (.cmp .ne (.cmp .is (.slot 14) (.cst .non)) (.cmp .gt (.slot 9) (.prim .min2 (.cons (.slot 2) (.cons (.slot 3) .nil)))))) (.seq (.ret (.cst (.bl false)))
 .skip) .skip)
 (.seq (.ite (.and (.cmp .isnot (.slot 13) (.cst .non)) (.or (.cmp .ne (.slot 13) (.bin .add (.slot 9) (.cst (.int 1)))) (.cmp .lt (.idx (.slot 12) (.cst (.int 0))) (.bin .mul (.slot 13) (.idx (.slot 12) (.cst (.int 1))))))) (.seq (.ret (.cst (.bl false)))
 .skip) .skip)
 (.seq (.ret (.or (.cmp .is (.slot 14) (.cst .non)) (.and (.cmp .eq (.slot 14) (.call 7 (.cons (.cst (.int 2)) (.cons (.slot 9) .nil)))) (.cmp .le (.idx (.slot 12) (.cst (.int 0))) (.bin .mul (.slot 14) (.idx (.slot 12) (.cst (.int 1))))))))
 .skip))))))))))))))))))))))
def law : LawEnt := ⟨mkD "law" "law" 42, ["_law_script", "_law_row", "_law_high", "_law_wide", "_law_ratio_here", "_law_many", "_law_corners", "_law_size", "_law_sums", "_law_number", "_law_fields", "_law_total", "_law_mean", "_law_least", "_law_most"], 8254, b_law⟩
def nms : Nms := ⟨["abs", "all", "bool", "enumerate", "int", "isinstance", "len", "max", "min", "range", "sorted", "sum", "tuple"], [("MOST_SIDE", 6)], ["gcd"]⟩
end K54

set_option maxHeartbeats 1000000
namespace Ev
theorem idxD_lst (l : List D) (i : Int) : idxD (.lst l) (.int i) = (ixD l.length i).bind fun j => l[j]? := rfl
/-- the law's row -/
def RowIs (ns : List Int) (m : Mem) : Prop := ∃ a b c : Int, 0 ≤ a ∧ m = [.lst [intsD ns, .int a, .int b, .int c]]
abbrev tkS : S := K54.b__law_taken
theorem cmp_gt (i j : Int) : cmpD .gt (.int i) (.int j) = some (.bl (decide (j < i))) := by
  simp [cmpD, ordD, okD, alkD, ordB, ltB]
theorem cmp_ge (i j : Int) : cmpD .ge (.int i) (.int j) = some (.bl (!decide (i < j))) := by
  simp [cmpD, ordD, okD, alkD, ordB, ltB]
theorem cmp_lt (i j : Int) : cmpD .lt (.int i) (.int j) = some (.bl (decide (i < j))) := by
  simp [cmpD, ordD, okD, alkD, ordB, ltB]
theorem cmp_le (i j : Int) : cmpD .le (.int i) (.int j) = some (.bl (!decide (j < i))) := by
  simp [cmpD, ordD, okD, alkD, ordB, ltB]
theorem cmp_eqI (i j : Int) : cmpD .eq (.int i) (.int j) = some (.bl (decide (i = j))) := by
  simp only [cmpD, okD]
  simp only [eqD]
  rfl
theorem mod_ok {i j : Int} (h : 0 < j) : modD (.int i) (.int j) = some (.int (i % j)) := by simp [modD, h]
theorem fdiv_ok {i j : Int} (h : 0 < j) (h2 : j < 1073741824) : fdivD (.int i) (.int j) = some (.int (i / j)) := by simp [fdivD, h, h2]
theorem mul_ok {i j : Int} (h : -(2 ^ 64) < j) (h2 : j < 2 ^ 64) : mulD (.int i) (.int j) = some (.int (i * j)) := by
  unfold mulD
  dsimp only
  rw [if_pos]
  unfold mulOk
  rw [decide_eq_true h, decide_eq_true h2]
  simp
theorem mul_ok1 {i j : Int} (h : -18446744073709551616 < j) (h2 : j < 18446744073709551616) : mulD (.int i) (.int j) = some (.int (i * j)) := by
  have e : ((2 : Int) ^ 64) = 18446744073709551616 := by decide
  exact mul_ok (by rw [e]; exact h) (by rw [e]; exact h2)
theorem mul_ok2 {i j : Int} (h : 0 ≤ j) (h2 : j ≤ 1000000) : mulD (.int i) (.int j) = some (.int (i * j)) := mul_ok1 (Int.lt_of_lt_of_le (by decide) h) (Int.lt_of_le_of_lt h2 (by decide))
theorem taken_ok {φ : Phi} {ns : List Int} {many : Int} {m : Mem} (hr : RowIs ns m) (h1 : 0 < many) (h2 : many < 1073741824) :
    ∃ x m', fin m (evS φ tkS (startE 4 [.ref 0, .int many]) m) = .ok (.int x) m' ∧ 0 ≤ x ∧ x < many ∧ RowIs ns m' := by
  obtain ⟨a, b, c, ha, rfl⟩ := hr
  have hmod : ∀ i : Int, 0 ≤ i % many ∧ i % many < many := fun i => ⟨Int.emod_nonneg _ (by omega), Int.emod_lt_of_pos _ h1⟩
  have p18 : powD (.int 10) (.int 18) = some (.int 1000000000000000000) := by simp [powD]
  by_cases hc : 0 < c
  · refine ⟨c % many, [.lst [intsD ns, .int a, .int b, .int (c / many)]], ?_, (hmod c).1, (hmod c).2, a, b, _, ha, rfl⟩
    simp [tkS, K54.b__law_taken, evS, evE, startE, setE, idxD, ixD, cmp_gt, truD, hc, binD, mod_ok h1, fdiv_ok h1 h2, primD, intP, argsOf, consD, putT, putL, fin, finD]
  · by_cases hl : (ns.length : Int) < a + 1
    · refine ⟨(((b * 48271 + 11) % 2147483647) / 7) % many, [.lst [intsD ns, .int (a + 1), .int ((b * 48271 + 11) % 2147483647), .int c]], ?_, (hmod _).1, (hmod _).2, _, _, _, by omega, rfl⟩
      simp [tkS, K54.b__law_taken, evS, evE, startE, setE, idxD, ixD, cmp_gt, truD, hc, hl, binD, mod_ok h1, fdiv_ok h1 h2, mod_ok, fdiv_ok, mul_ok, addD, primD, intP, lenD, intsD, argsOf, consD, putT, putL, fin, finD]
    · have hlt : a.toNat < ns.length := by omega
      have hix : idxD (intsD ns) (.int a) = some (.int ns[a.toNat]) := by
        simp only [intsD, idxD, List.length_map]
        have : ixD ns.length a = some a.toNat := by
          unfold ixD
          rw [if_pos ha, if_pos (by omega)]
        rw [this]
        simp [hlt]
      by_cases hg : ns[a.toNat] < 1000000000000000000
      · refine ⟨ns[a.toNat] % many, [.lst [intsD ns, .int (a + 1), .int ((b * 48271 + ns[a.toNat] + 11) % 2147483647), .int c]], ?_, (hmod _).1, (hmod _).2, _, _, _, by omega, rfl⟩
        have hlen : lenD [intsD ns] = some (.int ns.length) := by simp [lenD, intsD]
        have e1 : a + 1 - 1 = a := by omega
        simp [tkS, K54.b__law_taken, evS, evE, startE, setE, cmp_gt, cmp_ge, truD, hc, hl, hg, binD, mod_ok h1, fdiv_ok h1 h2, mod_ok, fdiv_ok, mul_ok, addD, subD, p18, primD, intP, hlen, e1, hix, argsOf, consD, putT, putL, fin, finD, idxD_lst, ixD]
      · refine ⟨ns[a.toNat] % many, [.lst [intsD ns, .int (a + 1), .int ((b * 48271 + ns[a.toNat] + 11) % 2147483647), .int (ns[a.toNat] / many)]], ?_, (hmod _).1, (hmod _).2, _, _, _, by omega, rfl⟩
        have hlen : lenD [intsD ns] = some (.int ns.length) := by simp [lenD, intsD]
        have e1 : a + 1 - 1 = a := by omega
        simp [tkS, K54.b__law_taken, evS, evE, startE, setE, cmp_gt, cmp_ge, truD, hc, hl, hg, binD, mod_ok h1, fdiv_ok h1 h2, mod_ok, fdiv_ok, mul_ok, addD, subD, p18, primD, intP, hlen, e1, hix, argsOf, consD, putT, putL, fin, finD, idxD_lst, ixD]
end Ev

set_option maxHeartbeats 1000000
namespace Ev
open K54
def chN (n : Nat) : Nat → Nat
  | 0 => 1
  | i + 1 => chN n i * (n - i) / (i + 1)
theorem chN_mul {n i : Nat} (h : i < n) (hn : n ≤ 1000) : mulD (.int (chN n i : Int)) (.int ((n : Int) - i)) = some (.int (chN n i * ((n : Int) - i))) := mul_ok2 (by omega) (by omega)
theorem chN_div {n i : Nat} (h : i < n) (hn : n ≤ 1000) : fdivD (.int ((chN n i : Int) * ((n : Int) - (i : Int)))) (.int ((i : Int) + 1)) = some (.int (chN n (i + 1) : Int)) := by
  rw [fdiv_ok (by omega) (by omega)]
  congr 2
  show _ = ((chN n i * (n - i) / (i + 1) : Nat) : Int)
  rw [Int.natCast_ediv, Int.natCast_mul, Int.natCast_sub (by omega)]
  rfl
abbrev chB : S := (.seq (.asg (.name 2) (.bin .fdiv (.bin .mul (.slot 2) (.bin .sub (.slot 0) (.slot 3))) (.bin .add (.slot 3) (.cst (.int 1))))) .skip)
theorem chB_ok {φ : Phi} {n k f st p q : Int} {m : Mem} (h2 : mulD (.int f) (.int (n - st)) = some (.int p)) (h1 : fdivD (.int p) (.int (st + 1)) = some (.int q)) :
    evS φ chB [some (.val (.int n)), some (.val (.int k)), some (.val (.int f)), some (.val (.int st))] m = .ok (.nx [some (.val (.int n)), some (.val (.int k)), some (.val (.int q)), some (.val (.int st))]) m := by
  simp [chB, evS, evE, binD, subD, addD, h1, h2, putT, setE]
theorem ch_for {φ : Phi} {it : E} {n k : Nat} {m : Mem} (hit : evE φ it [some (.val (.int n)), some (.val (.int k)), some (.val (.int 1)), none] m = .ok (.tup [.int (k : Int)]) m) (h : k ≤ n) (hn : n ≤ 1000) :
    ∃ s, evS φ (.for [] (.name 3) .rng it chB) [some (.val (.int n)), some (.val (.int k)), some (.val (.int 1)), none] m = .ok (.nx [some (.val (.int n)), some (.val (.int k)), some (.val (.int (chN n k))), s]) m := by
  obtain ⟨ρ', e, s, rfl⟩ := for_range (φ := φ) (t := .name 3) (it := it) (m := m) (k := k) (ρ := [some (.val (.int n)), some (.val (.int k)), some (.val (.int 1)), none])
    (b := chB) (fun i ρ => ∃ s, ρ = [some (.val (.int n)), some (.val (.int k)), some (.val (.int (chN n i))), s]) hit (by omega) ⟨_, rfl⟩ (by
      rintro i hi ρ ⟨s, rfl⟩
      exact ⟨_, _, rfl, chB_ok (chN_mul (by omega) hn) (chN_div (by omega) hn), _, rfl⟩)
  exact ⟨s, e⟩
theorem choose_head {φ : Phi} {n k : Int} {m : Mem} (h : ¬ n < k) (h0 : ¬ k < 0) : evS φ (.ite (.not (.chn .le .le (.cst (.int 0)) (.slot 1) (.slot 0))) (.seq (.ret (.cst (.int 0))) .skip) .skip) [some (.val (.int n)), some (.val (.int k)), none, none] m = .ok (.nx [some (.val (.int n)), some (.val (.int k)), none, none]) m := by
  simp [evS, evE, cmp_le, truD, h, h0]
theorem choose_ok {φ : Phi} {n k : Nat} {m : Mem} (h : k ≤ n) (hn : n ≤ 1000) : fin m (evS φ b_choose (startE 4 [.int n, .int k]) m) = .ok (.int (chN n k)) m := by
  have hs : startE 4 [.int (n : Int), .int (k : Int)] = [some (.val (.int n)), some (.val (.int k)), none, none] := rfl
  obtain ⟨s, e⟩ := ch_for (φ := φ) (m := m) (it := .cons (.slot 1) .nil) rfl h hn
  have e1 : evS φ b_choose [some (.val (.int n)), some (.val (.int k)), none, none] m = .ok (.rt (.int (chN n k))) m := by
    refine (seq_nx (choose_head (by omega) (by omega))).trans ?_
    refine (seq_nx (ρ1 := [some (.val (.int n)), some (.val (.int k)), some (.val (.int 1)), none]) (m1 := m) rfl).trans ?_
    refine (seq_nx e).trans ?_
    exact seq_rt rfl
  rw [hs, e1]
  show finD m m _ = _
  unfold finD
  rw [if_pos rfl]
theorem lchoose_end {φ : Phi} {n k f : Int} {s : Option Sl} {m : Mem} (h : ¬ n < k) : evS φ (.ret (.ite (.cmp .le (.slot 1) (.slot 0)) (.slot 2) (.cst (.int 0)))) [some (.val (.int n)), some (.val (.int k)), some (.val (.int f)), s] m = .ok (.rt (.int f)) m := by
  simp [evS, evE, cmp_le, truD, h]
theorem lchoose_head {φ : Phi} {n k : Int} {m : Mem} (h0 : ¬ k < 0) : evS φ (.asg (.name 2) (.ite (.cmp .ge (.slot 1) (.cst (.int 0))) (.cst (.int 1)) (.cst (.int 0)))) [some (.val (.int n)), some (.val (.int k)), none, none] m = .ok (.nx [some (.val (.int n)), some (.val (.int k)), some (.val (.int 1)), none]) m := by
  simp [evS, evE, cmp_ge, truD, h0, putT, setE]
theorem max0 {φ : Phi} {k : Int} {ρ : Env} {m : Mem} (hk : ¬ k < 0) (h : ρ[1]? = some (some (.val (.int k)))) : evE φ (.cons (.prim .max2 (.cons (.cst (.int 0)) (.cons (.slot 1) .nil))) .nil) ρ m = .ok (.tup [.int k]) m := by
  have e : (if k > 0 then k else 0) = k := by split <;> omega
  simp only [evE, h, bind_ok, consD, of_some, argsOf, primD, max2D, e]
theorem lchoose_ok {φ : Phi} {n k : Nat} {m : Mem} (h : k ≤ n) (hn : n ≤ 1000) : fin m (evS φ b__law_choose (startE 4 [.int n, .int k]) m) = .ok (.int (chN n k)) m := by
  have hs : startE 4 [.int (n : Int), .int (k : Int)] = [some (.val (.int n)), some (.val (.int k)), none, none] := rfl
  obtain ⟨s, e⟩ := ch_for (φ := φ) (m := m) (it := .cons (.prim .max2 (.cons (.cst (.int 0)) (.cons (.slot 1) .nil))) .nil) (max0 (by omega) rfl) h hn
  have e1 : evS φ b__law_choose [some (.val (.int n)), some (.val (.int k)), none, none] m = .ok (.rt (.int (chN n k))) m := by
    refine (seq_nx (lchoose_head (by omega))).trans ?_
    refine (seq_nx e).trans ?_
    exact seq_rt (lchoose_end (by omega))
  rw [hs, e1]
  show finD m m _ = _
  unfold finD
  rw [if_pos rfl]
theorem pow_mul {n i : Nat} (hn : n ≤ 1000) : mulD (.int ((n ^ i : Nat) : Int)) (.int n) = some (.int ((n ^ (i + 1) : Nat) : Int)) := by
  rw [mul_ok2 (by omega) (by omega), Nat.pow_succ, Int.natCast_mul]
abbrev pwB : S := (.seq (.asg (.name 2) (.bin .mul (.slot 2) (.slot 0))) .skip)
abbrev pwB2 : S := (.seq (.aug 2 .mul (.slot 0)) .skip)
theorem pwB_ok {φ : Phi} {n k f st p : Int} {m : Mem} (h2 : mulD (.int f) (.int n) = some (.int p)) :
    evS φ pwB [some (.val (.int n)), some (.val (.int k)), some (.val (.int f)), some (.val (.int st))] m = .ok (.nx [some (.val (.int n)), some (.val (.int k)), some (.val (.int p)), some (.val (.int st))]) m := by
  simp [pwB, evS, evE, binD, h2, putT, setE]
theorem pwB2_ok {φ : Phi} {n k f st p : Int} {m : Mem} (h2 : mulD (.int f) (.int n) = some (.int p)) :
    evS φ pwB2 [some (.val (.int n)), some (.val (.int k)), some (.val (.int f)), some (.val (.int st))] m = .ok (.nx [some (.val (.int n)), some (.val (.int k)), some (.val (.int p)), some (.val (.int st))]) m := by
  simp [pwB2, evS, evE, binD, h2, putT, setE]
theorem pw_for {φ : Phi} {b : S} {n k : Nat} {m : Mem} (hk : k ≤ 1000) (hn : n ≤ 1000)
    (hb : ∀ i : Nat, evS φ b [some (.val (.int n)), some (.val (.int k)), some (.val (.int ((n ^ i : Nat) : Int))), some (.val (.int (i : Int)))] m = .ok (.nx [some (.val (.int n)), some (.val (.int k)), some (.val (.int ((n ^ (i + 1) : Nat) : Int))), some (.val (.int (i : Int)))]) m) :
    ∃ s, evS φ (.for [] (.name 3) .rng (.cons (.slot 1) .nil) b) [some (.val (.int n)), some (.val (.int k)), some (.val (.int 1)), none] m = .ok (.nx [some (.val (.int n)), some (.val (.int k)), some (.val (.int ((n ^ k : Nat) : Int))), s]) m := by
  obtain ⟨ρ', e, s, rfl⟩ := for_range (φ := φ) (t := .name 3) (it := .cons (.slot 1) .nil) (m := m) (k := k) (ρ := [some (.val (.int n)), some (.val (.int k)), some (.val (.int 1)), none])
    (b := b) (fun i ρ => ∃ s, ρ = [some (.val (.int n)), some (.val (.int k)), some (.val (.int ((n ^ i : Nat) : Int))), s]) rfl (by omega) ⟨none, by rw [Nat.pow_zero]; rfl⟩ (by
      rintro i hi ρ ⟨s, rfl⟩
      exact ⟨_, _, rfl, hb i, _, rfl⟩)
  exact ⟨s, e⟩
theorem lpower_ok {φ : Phi} {n k : Nat} {m : Mem} (hk : k ≤ 1000) (hn : n ≤ 1000) : fin m (evS φ b__law_power (startE 4 [.int n, .int k]) m) = .ok (.int ((n ^ k : Nat) : Int)) m := by
  have hs : startE 4 [.int (n : Int), .int (k : Int)] = [some (.val (.int n)), some (.val (.int k)), none, none] := rfl
  obtain ⟨s, e⟩ := pw_for (φ := φ) (m := m) (b := pwB) hk hn fun i => pwB_ok (pow_mul hn)
  have e1 : evS φ b__law_power [some (.val (.int n)), some (.val (.int k)), none, none] m = .ok (.rt (.int ((n ^ k : Nat) : Int))) m := by
    refine (seq_nx (ρ1 := [some (.val (.int n)), some (.val (.int k)), some (.val (.int 1)), none]) (m1 := m) rfl).trans ?_
    refine (seq_nx e).trans ?_
    exact seq_rt rfl
  rw [hs, e1]
  show finD m m _ = _
  unfold finD
  rw [if_pos rfl]
theorem power_ok {φ : Phi} {n k : Nat} {m : Mem} (hk : k ≤ 1000) (hn : n ≤ 1000) : fin m (evS φ b_power (startE 4 [.int n, .int k]) m) = .ok (.int ((n ^ k : Nat) : Int)) m := by
  have hs : startE 4 [.int (n : Int), .int (k : Int)] = [some (.val (.int n)), some (.val (.int k)), none, none] := rfl
  obtain ⟨s, e⟩ := pw_for (φ := φ) (m := m) (b := pwB2) hk hn fun i => pwB2_ok (pow_mul hn)
  have e1 : evS φ b_power [some (.val (.int n)), some (.val (.int k)), none, none] m = .ok (.rt (.int ((n ^ k : Nat) : Int))) m := by
    refine (seq_nx (ρ1 := [some (.val (.int n)), some (.val (.int k)), some (.val (.int 1)), none]) (m1 := m) rfl).trans ?_
    refine (seq_nx e).trans ?_
    exact seq_rt rfl
  rw [hs, e1]
  show finD m m _ = _
  unfold finD
  rw [if_pos rfl]
end Ev

set_option maxHeartbeats 1000000
namespace Ev
open K54
theorem whole_at {k : Nat} {v : Int} {m : Mem} : callK (tabOf es) (k + 1) 27 [.int v] m = .ok (.bl true) m := by
  rw [call_at (fn := ⟨e_whole.d.name, e_whole.ps, e_whole.N, b_whole⟩) rfl rfl]
  show finD m m _ = _
  unfold finD
  rw [if_pos rfl]
  rfl
theorem within_run {φ : Phi} {v lo hi : Int} {m : Mem} (hw : φ 27 [.int v] m = .ok (.bl true) m) (h1 : ¬ v < lo) (h2 : ¬ hi < v) : evS φ b_within [some (.val (.int v)), some (.val (.int lo)), some (.val (.int hi))] m = .ok (.rt (.bl true)) m := by
  simp [b_within, evS, evE, consD, argsOf, hw, truD, cmp_le, h1, h2]
theorem within_at {k : Nat} {v lo hi : Int} {m : Mem} (h1 : ¬ v < lo) (h2 : ¬ hi < v) : callK (tabOf es) (k + 2) 22 [.int v, .int lo, .int hi] m = .ok (.bl true) m := by
  rw [call_at (fn := ⟨e_within.d.name, e_within.ps, e_within.N, b_within⟩) rfl rfl]
  have e := within_run (φ := callK (tabOf es) (k + 1)) (m := m) whole_at h1 h2
  have hs : startE e_within.N.length [.int v, .int lo, .int hi] = [some (.val (.int v)), some (.val (.int lo)), some (.val (.int hi))] := rfl
  dsimp only
  rw [hs, e]
  show finD m m _ = _
  unfold finD
  rw [if_pos rfl]
theorem neednum_run {φ : Phi} {v lo hi : Int} {m : Mem} (hw : φ 22 [.int v, .int lo, .int hi] m = .ok (.bl true) m) : evS φ b_need_number [some (.val (.int v)), some (.val (.int lo)), some (.val (.int hi))] m = .ok (.nx [some (.val (.int v)), some (.val (.int lo)), some (.val (.int hi))]) m := by
  simp [b_need_number, evS, evE, consD, argsOf, hw, truD]
theorem neednum_at {k : Nat} {v lo hi : Int} {m : Mem} (h1 : ¬ v < lo) (h2 : ¬ hi < v) : callK (tabOf es) (k + 3) 17 [.int v, .int lo, .int hi] m = .ok .non m := by
  rw [call_at (fn := ⟨e_need_number.d.name, e_need_number.ps, e_need_number.N, b_need_number⟩) rfl rfl]
  have e := neednum_run (φ := callK (tabOf es) (k + 2)) (m := m) (within_at h1 h2)
  have hs : startE e_need_number.N.length [.int v, .int lo, .int hi] = [some (.val (.int v)), some (.val (.int lo)), some (.val (.int hi))] := rfl
  dsimp only
  rw [hs, e]
  show finD m m _ = _
  unfold finD
  rw [if_pos rfl]
theorem needsides_run {φ : Phi} {v u : Int} {m : Mem} (hw : φ 17 [.int v, .int 1, .int 6] m = .ok .non m) (hu : φ 17 [.int u, .int 1, .int 6] m = .ok .non m) : evS φ b_need_sides_chances [some (.val (.int v)), some (.val (.int u))] m = .ok (.nx [some (.val (.int v)), some (.val (.int u))]) m := by
  simp [b_need_sides_chances, evS, evE, consD, argsOf, hw, hu]
theorem needsides_at {k : Nat} {v u : Int} {m : Mem} (h1 : ¬ v < 1) (h2 : ¬ 6 < v) (h3 : ¬ u < 1) (h4 : ¬ 6 < u) : callK (tabOf es) (k + 4) 14 [.int v, .int u] m = .ok .non m := by
  rw [call_at (fn := ⟨e_need_sides_chances.d.name, e_need_sides_chances.ps, e_need_sides_chances.N, b_need_sides_chances⟩) rfl rfl]
  have e := needsides_run (φ := callK (tabOf es) (k + 3)) (m := m) (neednum_at h1 h2) (neednum_at h3 h4)
  have hs : startE e_need_sides_chances.N.length [.int v, .int u] = [some (.val (.int v)), some (.val (.int u))] := rfl
  dsimp only
  rw [hs, e]
  show finD m m _ = _
  unfold finD
  rw [if_pos rfl]
/-- what is told ahead -/
def nat (f : Nat) (ds : List D) : Option D := match ds with
  | [.int (.ofNat n), .int (.ofNat k)] => match f with
    | 15 => if k ≤ n && n ≤ 1000 then some (.int (.ofNat (chN n k))) else none
    | 4 => if k ≤ n && n ≤ 1000 then some (.int (.ofNat (chN n k))) else none
    | 26 => if k ≤ 1000 && n ≤ 1000 then some (.int (.ofNat (n ^ k))) else none
    | 7 => if k ≤ 1000 && n ≤ 1000 then some (.int (.ofNat (n ^ k))) else none
    | 14 => if 1 ≤ n && n ≤ 6 && (1 ≤ k && k ≤ 6) then some .non else none
    | _ => none
  | [.int (.ofNat n), .int (.ofNat k), .int (.ofNat l)] => match f with
    | 17 => if k ≤ n && n ≤ l then some .non else none
    | _ => none
  | _ => none
theorem nat_ok : Tells nat (tabOf es) := by
  intro f ds d h k m
  unfold nat at h
  split at h
  · rename_i n j
    split at h
    · split at h
      · rename_i hc
        rw [Bool.and_eq_true, decide_eq_true_eq, decide_eq_true_eq] at hc
        cases h
        rw [call_at (fn := ⟨e_choose.d.name, e_choose.ps, e_choose.N, b_choose⟩) rfl rfl]
        exact choose_ok hc.1 hc.2
      · cases h
    · split at h
      · rename_i hc
        rw [Bool.and_eq_true, decide_eq_true_eq, decide_eq_true_eq] at hc
        cases h
        rw [call_at (fn := ⟨e__law_choose.d.name, e__law_choose.ps, e__law_choose.N, b__law_choose⟩) rfl rfl]
        exact lchoose_ok hc.1 hc.2
      · cases h
    · split at h
      · rename_i hc
        rw [Bool.and_eq_true, decide_eq_true_eq, decide_eq_true_eq] at hc
        cases h
        rw [call_at (fn := ⟨e_power.d.name, e_power.ps, e_power.N, b_power⟩) rfl rfl]
        exact power_ok hc.1 hc.2
      · cases h
    · split at h
      · rename_i hc
        rw [Bool.and_eq_true, decide_eq_true_eq, decide_eq_true_eq] at hc
        cases h
        rw [call_at (fn := ⟨e__law_power.d.name, e__law_power.ps, e__law_power.N, b__law_power⟩) rfl rfl]
        exact lpower_ok hc.1 hc.2
      · cases h
    · split at h
      · rename_i hc
        simp only [Bool.and_eq_true, decide_eq_true_eq] at hc
        cases h
        refine needsides_at ?_ ?_ ?_ ?_ <;> simp <;> omega
      · cases h
    · cases h
  · rename_i n j l
    split at h
    · split at h
      · rename_i hc
        rw [Bool.and_eq_true, decide_eq_true_eq, decide_eq_true_eq] at hc
        cases h
        refine neednum_at ?_ ?_ <;> simp <;> omega
      · cases h
    · cases h
  · cases h
end Ev

set_option maxHeartbeats 0
namespace Ev
open K54
abbrev φo : Phi := callO nat (tabOf es) 8
def s1 : S := takeS 8 (dropS 1 b_law)
def s2 : S := takeS 6 (dropS 9 b_law)
def s3 : S := dropS 16 b_law
def env0 (h w : Nat) : Env := [none, none, some (.val (.int h)), some (.val (.int w)), none, none, none, none, none, none, none, none, none, none, none]
def ratios : List D := [(0, 1), (1, 1), (1, 2), (1, 3), (2, 3), (3, 4), (1, 10), (98, 99), (5, 7)].map fun (p : Int × Int) => .tup [.int p.1, .int p.2]
def ks : List Nat := [2, 3, 5, 6, 8, 10]
def okA (ρ : Env) : Out Flow → Bool
  | .ok (.nx ρ2) _ => decide (ρ.length = ρ2.length) && ks.all (sameAt ρ ρ2)
  | _ => false
def okB : Out Flow → Bool
  | .ok (.rt (.bl true)) _ => true
  | _ => false
def okM (h w : Nat) (ρ : Env) : Bool := decide (ρ.length = 15) && match (ρ[5]? : Option (Option Sl)) with
  | some (some (.val (.int x))) => decide (x = ((h * w : Nat) : Int))
  | _ => false
def okC (h w : Nat) : Out Flow → Bool
  | .ok (.nx ρ) _ => okM h w ρ && (ratios.all (fun r => okA ρ (evS φo s2 (setE ρ 4 (some (.val r))) [])) && (List.range (h * w + 1)).all fun n => okB (evS φo s3 (setE (keepE ks ρ) 9 (some (.val (.int (n : Nat))))) []))
  | _ => false
def chkAll (h w : Nat) : Bool := okC h w (evS φo s1 (env0 h w) [])
theorem okA_of {ρ : Env} : ∀ {o : Out Flow}, okA ρ o = true → ∃ ρ2 m2, o = .ok (.nx ρ2) m2 ∧ Le (keepE ks ρ) ρ2
  | .ok (.nx ρ2) m2, c => by
    have c : (decide (ρ.length = ρ2.length) && ks.all (sameAt ρ ρ2)) = true := c
    rw [Bool.and_eq_true, decide_eq_true_eq] at c
    exact ⟨ρ2, m2, rfl, keep_le c.1 c.2⟩
  | .ok (.bk _) _, c => by cases c
  | .ok (.ct _) _, c => by cases c
  | .ok (.rt _) _, c => by cases c
  | .exc .., c => by cases c
  | .no, c => by cases c
theorem okB_of {o : Out Flow} (c : okB o = true) : ∃ m, o = .ok (.rt (.bl true)) m := by
  unfold okB at c
  split at c
  · exact ⟨_, rfl⟩
  · cases c
theorem okM_of {h w : Nat} {ρ : Env} (c : okM h w ρ = true) : ρ.length = 15 ∧ ρ[5]? = some (some (.val (.int ((h * w : Nat) : Int)))) := by
  unfold okM at c
  rw [Bool.and_eq_true, decide_eq_true_eq] at c
  refine ⟨c.1, ?_⟩
  have c := c.2
  split at c
  · rename_i x hx
    rw [hx, of_decide_eq_true c]
  · cases c
theorem okC_of {h w : Nat} : ∀ {o : Out Flow}, okC h w o = true → ∃ ρ m0, o = .ok (.nx ρ) m0 ∧ ρ.length = 15 ∧ ρ[5]? = some (some (.val (.int ((h * w : Nat) : Int)))) ∧
    (∀ r ∈ ratios, ∃ ρ2 m2, evS φo s2 (setE ρ 4 (some (.val r))) [] = .ok (.nx ρ2) m2 ∧ Le (keepE ks ρ) ρ2) ∧ ∀ n, n ≤ h * w → ∃ m3, evS φo s3 (setE (keepE ks ρ) 9 (some (.val (.int (n : Nat))))) [] = .ok (.rt (.bl true)) m3
  | .ok (.nx ρ) m0, c => by
    have c : (okM h w ρ && (ratios.all (fun r => okA ρ (evS φo s2 (setE ρ 4 (some (.val r))) [])) && (List.range (h * w + 1)).all fun n => okB (evS φo s3 (setE (keepE ks ρ) 9 (some (.val (.int (n : Nat))))) []))) = true := c
    rw [Bool.and_eq_true, Bool.and_eq_true] at c
    obtain ⟨c1, c2, c3⟩ := c
    obtain ⟨d1, d2⟩ := okM_of c1
    exact ⟨ρ, m0, rfl, d1, d2, fun r hr => okA_of (List.all_eq_true.mp c2 r hr), fun n hn => okB_of (List.all_eq_true.mp c3 n (List.mem_range.mpr (by omega)))⟩
  | .ok (.bk _) _, c => by cases c
  | .ok (.ct _) _, c => by cases c
  | .ok (.rt _) _, c => by cases c
  | .exc .., c => by cases c
  | .no, c => by cases c
section
variable {φ : Phi} {ns : List Int}
theorem pick_run {m m' : Mem} {l : List D} {x : Int} {d : D} (h : φ 0 [.ref 0, .int (l.length : Nat)] m = .ok (.int x) m') (hd : idxD (.lst l) (.int x) = some d) : fin m (evS φ b__law_pick (startE 2 [.ref 0, .lst l]) m) = finD m m' d := by
  have hs : startE 2 [.ref 0, .lst l] = [some (.val (.ref 0)), some (.val (.lst l))] := rfl
  have e : evS φ b__law_pick [some (.val (.ref 0)), some (.val (.lst l))] m = .ok (.rt d) m' := by
    simp [b__law_pick, evS, evE, primD, lenD, argsOf, consD, h, hd]
  rw [hs, e]
  rfl
theorem row_len {m m' : Mem} (h : RowIs ns m) (h' : RowIs ns m') : m'.length = m.length := by
  obtain ⟨_, _, _, _, rfl⟩ := h
  obtain ⟨_, _, _, _, rfl⟩ := h'
  rfl
theorem finD_row {m m' : Mem} {d : D} (h : RowIs ns m) (h' : RowIs ns m') : finD m m' d = .ok d m' := by
  unfold finD
  rw [if_pos (row_len h h')]
theorem taken_at {k : Nat} {many : Int} {m : Mem} (hr : RowIs ns m) (h1 : 0 < many) (h2 : many < 1073741824) : ∃ x m', callK (tabOf es) (k + 1) 0 [.ref 0, .int many] m = .ok (.int x) m' ∧ 0 ≤ x ∧ x < many ∧ RowIs ns m' := by
  rw [call_at (fn := ⟨e__law_taken.d.name, e__law_taken.ps, e__law_taken.N, b__law_taken⟩) rfl rfl]
  exact taken_ok hr h1 h2
theorem ratio_run {m : Mem} {o : Out D} (h : φ 13 [.ref 0, .lst ratios] m = o) : evS φ b__law_drawn_ratio [some (.val (.ref 0))] m = o.bind fun x m => .ok (.rt x) m := by
  subst h
  show ((φ 13 [.ref 0, .lst ratios] m).bind fun x m => Out.ok (Flow.rt x) m).bind _ = _
  cases φ 13 [.ref 0, .lst ratios] m <;> rfl
theorem ratio_at {k : Nat} {m : Mem} (hr : RowIs ns m) : ∃ r m', r ∈ ratios ∧ callK (tabOf es) (k + 3) 1 [.ref 0] m = .ok r m' ∧ RowIs ns m' := by
  obtain ⟨x, m', h1, h2, h3, h4⟩ := taken_at (k := k) (many := 9) hr (by omega) (by omega)
  obtain ⟨d, hd, hm⟩ : ∃ d, idxD (.lst ratios) (.int x) = some d ∧ d ∈ ratios := by
    have : x = 0 ∨ x = 1 ∨ x = 2 ∨ x = 3 ∨ x = 4 ∨ x = 5 ∨ x = 6 ∨ x = 7 ∨ x = 8 := by omega
    rcases this with rfl | rfl | rfl | rfl | rfl | rfl | rfl | rfl | rfl <;> exact ⟨_, rfl, by unfold ratios; simp⟩
  have hp : callK (tabOf es) (k + 2) 13 [.ref 0, .lst ratios] m = .ok d m' := by
    rw [call_at (fn := ⟨e__law_pick.d.name, e__law_pick.ps, e__law_pick.N, b__law_pick⟩) rfl rfl]
    exact (pick_run (φ := callK (tabOf es) (k + 1)) (l := ratios) h1 hd).trans (finD_row hr h4)
  refine ⟨d, m', hm, ?_, h4⟩
  rw [call_at (fn := ⟨e__law_drawn_ratio.d.name, e__law_drawn_ratio.ps, e__law_drawn_ratio.N, b__law_drawn_ratio⟩) rfl rfl]
  have e := ratio_run (φ := callK (tabOf es) (k + 2)) hp
  show fin m (evS _ b__law_drawn_ratio [some (.val (.ref 0))] m) = _
  rw [e]
  exact finD_row hr h4
/-- the first draws -/
theorem draws_run {m0 m1 m2 m3 : Mem} {a b : Int} {r : D} {s : Sl} (h1 : φ 0 [.ref 0, .int 6] m0 = .ok (.int a) m1) (h2 : φ 0 [.ref 0, .int 6] m1 = .ok (.int b) m2) (h3 : φ 1 [.ref 0] m2 = .ok r m3) :
    evS φ (takeS 1 b_law) [some s, some (.val (.ref 0)), none, none, none, none, none, none, none, none, none, none, none, none, none] m0 = .ok (.nx [some s, some (.val (.ref 0)), some (.val (.int (1 + a))), some (.val (.int (1 + b))), some (.val r), none, none, none, none, none, none, none, none, none, none]) m3 := by
  simp [takeS, b_law, evS, evE, consD, argsOf, h1, h2, h3, binD, addD, putT, setE]
theorem number_run {m m' : Mem} {ρ : Env} {x y : Int} (h1 : ρ[1]? = some (some (.val (.ref 0)))) (h5 : ρ[5]? = some (some (.val (.int y)))) (h9 : 9 < ρ.length) (h : φ 0 [.ref 0, .int (y + 1)] m = .ok (.int x) m') :
    evS φ (takeS 1 (dropS 15 b_law)) ρ m = .ok (.nx (setE ρ 9 (some (.val (.int x))))) m' := by
  simp [takeS, dropS, b_law, evS, evE, h1, h5, consD, argsOf, binD, addD, h, putT, h9]
end
theorem off1 : 1 ∉ asgn s1 ∧ 4 ∉ asgn s1 ∧ 1 ∉ asgn s2 := by decide +kernel
theorem law54 (hc : ∀ h w, 1 ≤ h → h ≤ 6 → 1 ≤ w → w ≤ 6 → chkAll h w = true) (ns : List Int) : ∃ m', evS (callK (tabOf es) 8) law.body (envL (law.N.length - 2) ns) [rowD ns law.seed] = .ok (.rt (.bl true)) m' := by
  have hr0 : RowIs ns [rowD ns law.seed] := ⟨0, _, 0, by omega, rfl⟩
  obtain ⟨a, m1, t1, a0, a6, r1⟩ := taken_at (k := 7) (many := 6) hr0 (by omega) (by omega)
  obtain ⟨b, m2, t2, b0, b6, r2⟩ := taken_at (k := 7) (many := 6) r1 (by omega) (by omega)
  obtain ⟨r, m3, hr, t3, r3⟩ := ratio_at (k := 5) r2
  have st := draws_run (s := .val (intsD ns)) t1 t2 t3
  obtain ⟨h, rfl⟩ : ∃ h : Nat, a = (h : Int) := ⟨a.toNat, by omega⟩
  obtain ⟨w, rfl⟩ : ∃ h : Nat, b = (h : Int) := ⟨b.toNat, by omega⟩
  have eh : (1 : Int) + (h : Int) = ((h + 1 : Nat) : Int) := by omega
  have ew : (1 : Int) + (w : Int) = ((w + 1 : Nat) : Int) := by omega
  rw [eh, ew] at st
  obtain ⟨ρ1, n1, e1, ql, q5, cA, cB⟩ := okC_of (hc (h + 1) (w + 1) (by omega) (by omega) (by omega) (by omega))
  have P := callO_up nat_ok 8
  have le0 : Le (env0 (h + 1) (w + 1)) [some (.val (intsD ns)), some (.val (.ref 0)), some (.val (.int ((h + 1 : Nat) : Int))), some (.val (.int ((w + 1 : Nat) : Int))), some (.val r), none, none, none, none, none, none, none, none, none, none] := by
    refine ⟨rfl, fun i x e => ?_⟩
    unfold env0 at e
    match i, e with
    | 0, e => cases e
    | 1, e => cases e
    | 2, e => exact e
    | 3, e => exact e
    | 4, e => cases e
    | i + 5, e => exact e
  obtain ⟨ρ1', f1, l1, off1'⟩ := part_nx P e1 le0 m3
  obtain ⟨ρ2, n2, e2, kp⟩ := cA r hr
  have l2 : Le (setE ρ1 4 (some (.val r))) ρ1' := l1.setR (by rw [off1' 4 off1.2.1]; rfl)
  obtain ⟨ρ2', f2, l3, off2'⟩ := part_nx P e2 l2 m3
  have l4 := kp.trans l3
  have h5 : ρ2'[5]? = some (some (.val (.int (((h + 1) * (w + 1) : Nat) : Int)))) := by
    refine l4.at_ 5 _ ?_
    unfold keepE
    rw [List.getElem?_mapIdx, q5]
    rfl
  have h1 : ρ2'[1]? = some (some (.val (.ref 0))) := by
    rw [off2' 1 off1.2.2, off1' 1 off1.1]
    rfl
  have h9 : 9 < ρ2'.length := by
    have z1 := l3.len
    have z2 := kp.len
    have z3 := l1.len
    have z4 : (keepE ks ρ1).length = ρ1.length := by simp [keepE]
    omega
  obtain ⟨x, m4, t4, x0, x1, r4⟩ := taken_at (k := 7) (many := (((h + 1) * (w + 1) : Nat) : Int) + 1) r3 (by omega) (by
    have z : (h + 1) * (w + 1) ≤ 6 * 6 := Nat.mul_le_mul (by omega) (by omega)
    omega)
  obtain ⟨n, rfl⟩ : ∃ n : Nat, x = (n : Int) := ⟨x.toNat, by omega⟩
  obtain ⟨n3, e3⟩ := cB n (by omega)
  have f3 := part_rt P e3 (l4.set 9 _) m4
  refine ⟨m4, ?_⟩
  refine (split_nx (n := 1) st).trans ?_
  refine (split_nx (n := 8) (s := dropS 1 b_law) f1).trans ?_
  refine (split_nx (n := 6) (s := dropS 9 b_law) f2).trans ?_
  refine (split_nx (n := 1) (s := dropS 15 b_law) (number_run h1 h5 h9 t4)).trans ?_
  exact f3
end Ev

set_option maxHeartbeats 0
namespace Ev
theorem c11 : chkAll 1 1 = true := by decide +kernel
theorem c12 : chkAll 1 2 = true := by decide +kernel
theorem c13 : chkAll 1 3 = true := by decide +kernel
theorem c14 : chkAll 1 4 = true := by decide +kernel
theorem c15 : chkAll 1 5 = true := by decide +kernel
theorem c16 : chkAll 1 6 = true := by decide +kernel
theorem c21 : chkAll 2 1 = true := by decide +kernel
theorem c22 : chkAll 2 2 = true := by decide +kernel
theorem c23 : chkAll 2 3 = true := by decide +kernel
theorem c24 : chkAll 2 4 = true := by decide +kernel
theorem c25 : chkAll 2 5 = true := by decide +kernel
theorem c26 : chkAll 2 6 = true := by decide +kernel
theorem c31 : chkAll 3 1 = true := by decide +kernel
theorem c32 : chkAll 3 2 = true := by decide +kernel
theorem c33 : chkAll 3 3 = true := by decide +kernel
theorem c34 : chkAll 3 4 = true := by decide +kernel
theorem c35 : chkAll 3 5 = true := by decide +kernel
theorem c36 : chkAll 3 6 = true := by decide +kernel
theorem c41 : chkAll 4 1 = true := by decide +kernel
theorem c42 : chkAll 4 2 = true := by decide +kernel
theorem c43 : chkAll 4 3 = true := by decide +kernel
theorem c44 : chkAll 4 4 = true := by decide +kernel
theorem c45 : chkAll 4 5 = true := by decide +kernel
theorem c46 : chkAll 4 6 = true := by decide +kernel
theorem c51 : chkAll 5 1 = true := by decide +kernel
theorem c52 : chkAll 5 2 = true := by decide +kernel
theorem c53 : chkAll 5 3 = true := by decide +kernel
theorem c54 : chkAll 5 4 = true := by decide +kernel
theorem c55 : chkAll 5 5 = true := by decide +kernel
theorem c56 : chkAll 5 6 = true := by decide +kernel
theorem c61 : chkAll 6 1 = true := by decide +kernel
theorem c62 : chkAll 6 2 = true := by decide +kernel
theorem c63 : chkAll 6 3 = true := by decide +kernel
theorem c64 : chkAll 6 4 = true := by decide +kernel
theorem c65 : chkAll 6 5 = true := by decide +kernel
theorem c66 : chkAll 6 6 = true := by decide +kernel
theorem chk54 (h w : Nat) (h1 : 1 ≤ h) (h2 : h ≤ 6) (w1 : 1 ≤ w) (w2 : w ≤ 6) : chkAll h w = true := by
  have e : h = 1 ∨ h = 2 ∨ h = 3 ∨ h = 4 ∨ h = 5 ∨ h = 6 := by omega
  have q : w = 1 ∨ w = 2 ∨ w = 3 ∨ w = 4 ∨ w = 5 ∨ w = 6 := by omega
  rcases e with rfl | rfl | rfl | rfl | rfl | rfl
  · rcases q with rfl | rfl | rfl | rfl | rfl | rfl
    · exact c11
    · exact c12
    · exact c13
    · exact c14
    · exact c15
    · exact c16
  · rcases q with rfl | rfl | rfl | rfl | rfl | rfl
    · exact c21
    · exact c22
    · exact c23
    · exact c24
    · exact c25
    · exact c26
  · rcases q with rfl | rfl | rfl | rfl | rfl | rfl
    · exact c31
    · exact c32
    · exact c33
    · exact c34
    · exact c35
    · exact c36
  · rcases q with rfl | rfl | rfl | rfl | rfl | rfl
    · exact c41
    · exact c42
    · exact c43
    · exact c44
    · exact c45
    · exact c46
  · rcases q with rfl | rfl | rfl | rfl | rfl | rfl
    · exact c51
    · exact c52
    · exact c53
    · exact c54
    · exact c55
    · exact c56
  · rcases q with rfl | rfl | rfl | rfl | rfl | rfl
    · exact c61
    · exact c62
    · exact c63
    · exact c64
    · exact c65
    · exact c66
end Ev

namespace K54
open PySem PySem.Spec PyProof.Rows L2 Ev
theorem bd__law_taken : BindB e__law_taken.d e__law_taken.ps := fun _ _ _ _ _ _ us hl => match us, hl with
  | [_, _], _ => rfl
theorem bd__law_drawn_ratio : BindB e__law_drawn_ratio.d e__law_drawn_ratio.ps := fun _ _ _ _ _ _ us hl => match us, hl with
  | [_], _ => rfl
theorem bd_stairs_by_corners : BindB e_stairs_by_corners.d e_stairs_by_corners.ps := fun _ _ _ _ _ _ us hl => match us, hl with
  | [_, _], _ => rfl
theorem bd_count_stairs : BindB e_count_stairs.d e_count_stairs.ps := fun _ _ _ _ _ _ us hl => match us, hl with
  | [_], _ => rfl
theorem bd__law_choose : BindB e__law_choose.d e__law_choose.ps := fun _ _ _ _ _ _ us hl => match us, hl with
  | [_, _], _ => rfl
theorem bd_sum_of_kinds : BindB e_sum_of_kinds.d e_sum_of_kinds.ps := fun _ _ _ _ _ _ us hl => match us, hl with
  | [_, _, _], _ => rfl
theorem bd_count_fields : BindB e_count_fields.d e_count_fields.ps := fun _ _ _ _ _ _ us hl => match us, hl with
  | [_, _, _], _ => rfl
theorem bd__law_power : BindB e__law_power.d e__law_power.ps := fun _ _ _ _ _ _ us hl => match us, hl with
  | [_, _], _ => rfl
theorem bd_mean_kinds_of : BindB e_mean_kinds_of.d e_mean_kinds_of.ps := fun _ _ _ _ _ _ us hl => match us, hl with
  | [_, _, _], _ => rfl
theorem bd__law_ratio : BindB e__law_ratio.d e__law_ratio.ps := fun _ _ _ _ _ _ us hl => match us, hl with
  | [_, _], _ => rfl
theorem bd_mean_of_fields : BindB e_mean_of_fields.d e_mean_of_fields.ps := fun _ _ _ _ _ _ us hl => match us, hl with
  | [_, _, _], _ => rfl
theorem bd_fewest_kinds : BindB e_fewest_kinds.d e_fewest_kinds.ps := fun _ _ _ _ _ _ us hl => match us, hl with
  | [_, _, _], _ => rfl
theorem bd_most_kinds : BindB e_most_kinds.d e_most_kinds.ps := fun _ _ _ _ _ _ us hl => match us, hl with
  | [_, _, _], _ => rfl
theorem bd__law_pick : BindB e__law_pick.d e__law_pick.ps := fun _ _ _ _ _ _ us hl => match us, hl with
  | [_, _], _ => rfl
theorem bd_need_sides_chances : BindB e_need_sides_chances.d e_need_sides_chances.ps := fun _ _ _ _ _ _ us hl => match us, hl with
  | [_, _], _ => rfl
theorem bd_choose : BindB e_choose.d e_choose.ps := fun _ _ _ _ _ _ us hl => match us, hl with
  | [_, _], _ => rfl
theorem bd_need_field : BindB e_need_field.d e_need_field.ps := fun _ _ _ _ _ _ us hl => match us, hl with
  | [_], _ => rfl
theorem bd_need_number : BindB e_need_number.d e_need_number.ps := fun _ _ _ _ _ _ us hl => match us, hl with
  | [_, _, _], _ => rfl
theorem bd_need_ratio : BindB e_need_ratio.d e_need_ratio.ps := fun _ _ _ _ _ _ us hl => match us, hl with
  | [_], _ => rfl
theorem bd_mean_by : BindB e_mean_by.d e_mean_by.ps := fun _ _ _ _ _ _ us hl => match us, hl with
  | [_, _], _ => rfl
theorem bd_low : BindB e_low.d e_low.ps := fun _ _ _ _ _ _ us hl => match us, hl with
  | [_, _], _ => rfl
theorem bd_need_sides_extremes : BindB e_need_sides_extremes.d e_need_sides_extremes.ps := fun _ _ _ _ _ _ us hl => match us, hl with
  | [_, _, _], _ => rfl
theorem bd_within : BindB e_within.d e_within.ps := fun _ _ _ _ _ _ us hl => match us, hl with
  | [_, _, _], _ => rfl
theorem bd_tuple_of : BindB e_tuple_of.d e_tuple_of.ps := fun _ _ _ _ _ _ us hl => match us, hl with
  | [_, _, _], _ => rfl
theorem bd_is_square_of : BindB e_is_square_of.d e_is_square_of.ps := fun _ _ _ _ _ _ us hl => match us, hl with
  | [_, _, _], _ => rfl
theorem bd_plus : BindB e_plus.d e_plus.ps := fun _ _ _ _ _ _ us hl => match us, hl with
  | [_, _], _ => rfl
theorem bd_power : BindB e_power.d e_power.ps := fun _ _ _ _ _ _ us hl => match us, hl with
  | [_, _], _ => rfl
theorem bd_whole : BindB e_whole.d e_whole.ps := fun _ _ _ _ _ _ us hl => match us, hl with
  | [_], _ => rfl
theorem bd_all : ∀ e ∈ es, BindB e.d e.ps := by
  unfold es
  refine List.forall_mem_cons.mpr ⟨bd__law_taken, ?_⟩
  refine List.forall_mem_cons.mpr ⟨bd__law_drawn_ratio, ?_⟩
  refine List.forall_mem_cons.mpr ⟨bd_stairs_by_corners, ?_⟩
  refine List.forall_mem_cons.mpr ⟨bd_count_stairs, ?_⟩
  refine List.forall_mem_cons.mpr ⟨bd__law_choose, ?_⟩
  refine List.forall_mem_cons.mpr ⟨bd_sum_of_kinds, ?_⟩
  refine List.forall_mem_cons.mpr ⟨bd_count_fields, ?_⟩
  refine List.forall_mem_cons.mpr ⟨bd__law_power, ?_⟩
  refine List.forall_mem_cons.mpr ⟨bd_mean_kinds_of, ?_⟩
  refine List.forall_mem_cons.mpr ⟨bd__law_ratio, ?_⟩
  refine List.forall_mem_cons.mpr ⟨bd_mean_of_fields, ?_⟩
  refine List.forall_mem_cons.mpr ⟨bd_fewest_kinds, ?_⟩
  refine List.forall_mem_cons.mpr ⟨bd_most_kinds, ?_⟩
  refine List.forall_mem_cons.mpr ⟨bd__law_pick, ?_⟩
  refine List.forall_mem_cons.mpr ⟨bd_need_sides_chances, ?_⟩
  refine List.forall_mem_cons.mpr ⟨bd_choose, ?_⟩
  refine List.forall_mem_cons.mpr ⟨bd_need_field, ?_⟩
  refine List.forall_mem_cons.mpr ⟨bd_need_number, ?_⟩
  refine List.forall_mem_cons.mpr ⟨bd_need_ratio, ?_⟩
  refine List.forall_mem_cons.mpr ⟨bd_mean_by, ?_⟩
  refine List.forall_mem_cons.mpr ⟨bd_low, ?_⟩
  refine List.forall_mem_cons.mpr ⟨bd_need_sides_extremes, ?_⟩
  refine List.forall_mem_cons.mpr ⟨bd_within, ?_⟩
  refine List.forall_mem_cons.mpr ⟨bd_tuple_of, ?_⟩
  refine List.forall_mem_cons.mpr ⟨bd_is_square_of, ?_⟩
  refine List.forall_mem_cons.mpr ⟨bd_plus, ?_⟩
  refine List.forall_mem_cons.mpr ⟨bd_power, ?_⟩
  refine List.forall_mem_cons.mpr ⟨bd_whole, ?_⟩
  exact fun e h => absurd h List.not_mem_nil
theorem bd_law : BindB law.d (law.N.take 1) := fun _ _ _ _ _ _ us hl => match us, hl with
  | [_], _ => rfl
abbrev RR : PySem.W.OpenRow := PySem.W.OpenLaw.row PySem.Challenge.rw_rockystairs_k54_across_sums_over_fields
abbrev hk : PySem.W.Hook := hookH 4 nms.gcds (faOf nms es law) (fnOfE es law)
def ob (s : PySem.W.SharedT) : He.AlD := obsHG 4 nms.gcds (faOf nms es law) (fnOfE es law) (HandSHeadRun.getT s)
theorem ob_is (s : PySem.W.SharedT) : ob s = hk.obs s.abs := obsHG_eq (HandSHeadRun.getT_eq s)
def loose : List Str := [Str.ofString "StairError", Str.ofString "BadField", Str.ofString "BadNumber", Str.ofString "BadRatio", Str.ofString "MOST_SIDE", Str.ofString "whole", Str.ofString "within", Str.ofString "need_number", Str.ofString "tuple_of", Str.ofString "is_square_of", Str.ofString "need_field", Str.ofString "need_ratio", Str.ofString "low", Str.ofString "plus", Str.ofString "power", Str.ofString "choose", Str.ofString "count_stairs", Str.ofString "mean_by", Str.ofString "need_sides", Str.ofString "need_sides_chances", Str.ofString "mean_kinds_of", Str.ofString "count_fields", Str.ofString "sum_of_kinds", Str.ofString "mean_of_fields", Str.ofString "stairs_by_corners", Str.ofString "need_sides_extremes", Str.ofString "fewest_kinds", Str.ofString "most_kinds", Str.ofString "_law_taken", Str.ofString "_law_pick", Str.ofString "_law_drawn_ratio", Str.ofString "_law_choose", Str.ofString "_law_power", Str.ofString "_law_ratio"]
theorem run (w : World) : HandSHeadRun.RunEqI RR (PySem.W.view RR.prog [0, 42]) hk ob 6000 loose w := by
  unfold HandSHeadRun.RunEqI
  kernel_rfl
theorem chk_all : es.all (entB (gcOf nms es)) = true := by kernel_rfl
theorem chk_plain : es.all (fun e => plainD e.d) = true := by kernel_rfl
theorem chk_law : lawB (gcOf nms es) law = true := by kernel_rfl
end K54
open PySem PySem.W PySem.Calls PyProof.Rows
theorem PySem.Challenge.cw_rockystairs_k54_across_sums_over_fields_holds : PySem.Challenge.rw_rockystairs_k54_across_sums_over_fields.Holds := by
  w_on
  o_law
  refine HandSHeadRun.head_imp (r := K54.RR) (q := view K54.RR.prog [0, 42]) (H := K54.hk) (ob := K54.ob) (M := 6000) (loose := K54.loose) (d := HandSHeadRun.topDef K54.RR.prog 42)
    (kwd := []) K54.ob_is K54.run (by kernel_rfl) (by kernel_rfl) (by kernel_rfl) (by rfl) (by first | assumption | decide +kernel) (by decide +kernel)
    ⟨rfl, rfl, rfl, rfl, rfl, by decide +kernel⟩ ?hw ?hc
  case hw => w_witness2
  case hc =>
    refine L2.walk_ofE (l := PySem.Challenge.rw_rockystairs_k54_across_sums_over_fields) (n := 63) (k := 9) (x := "_law_script") (CX := L2.CX0) rfl (by decide) (by kernel_rfl) ⟨rfl, by decide, by decide⟩ ?F (fun _ _ _ _ z => z)
    intro w mg fa h Y G hmg
    obtain ⟨K, KX, c⟩ := Y
    have e0 : (HandSHeadRun.topDef K54.RR.prog 42).name = K54.law.d.at_.1 := by kernel_rfl
    have hmg' : mg K54.law.d.at_.1 = some (.ref fa) := by
      rw [← e0]
      exact hmg
    obtain ⟨fd, hb, hF⟩ := Ev.law_facts (P := PySem.Challenge.rw_rockystairs_k54_across_sums_over_fields.prog) (w := w) (l := K54.law) KX G hmg' c K54.bd_all K54.chk_plain K54.chk_all (by rfl) K54.chk_law K54.bd_law (x := "_law_script") (by rfl) 8 (fun ns _ => Ev.law54 Ev.chk54 ns)
    exact ⟨K, fd, Ev.spLaw K, KX, hb, fun H a ns hl _ hS => ⟨a, ns, rfl, hl, hS, fun _ => rfl⟩, fun base _ _ => hF base⟩

