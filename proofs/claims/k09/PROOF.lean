import PyProof.Rows.All
import Wide.All
import OpenK.AllK
import Wide.FinOn
import HandS.ForExc
import HandS.Comp
import HandS.ForMost
import HandS.Exc
import HandS.ExcOwn
import HandS.Lambda
import HandS.Walk
import HandS.Conv
import HandS.Zip
import HandS.TupAny
import HandS.TupMul
import HandS.Wide
import HandS.IsInst
import HandS.Style
import HandS.MakeKw
import HandS.ExcIs
import HandS.HeadWalk
import HandS.MakeKwOnly
import HandS.SortInts
import HandS.Strs
import HandS.SetFor
import KE.GoesMore
import HandS.Dict
import HandS.OwnEq
import PyProof.InstNe
import HandS.HeadHook4
import HandS.NestedK
import PyProof.ExcBaseAll.ValueError
import HandS.Head2
import PySem.Challenge.RW_sharesheld_k09_whole_judge_of_programs
set_option Elab.async false
set_option linter.all false
set_option maxRecDepth 100000
/-! FwA: plain data, the small code, its evaluator. No heap here. -/
namespace Fw
open PySem

/-! ### data -/
/-- a Python value without addresses -/
inductive D where
  | non | bl (b : Bool) | int (i : Int) | str (s : Str)
  | tup (xs : List D) | lst (xs : List D)
  | dic (ks vs : List D)
  | ins (c : Nat) (fs : List D)
  | exc (c : Nat) (fs : List D)
  | st
  | scr (n : Nat)          -- the law's script, of which the length is asked alone

/-- the state of the draws -/
structure RS where
  great : List Int
  cells : List Int
  left : Int
  turn : Int

inductive Res (α : Type) where
  | ok (a : α) (s : RS)
  | err (c : Nat) (fs : List D) (s : RS)
  | stuck

namespace Res
def bind {α β : Type} (r : Res α) (k : α → RS → Res β) : Res β := match r with
  | ok a s => k a s
  | err c fs s => err c fs s
  | stuck => stuck
@[simp] theorem bind_ok {α β : Type} (a : α) (s : RS) (k : α → RS → Res β) : (ok a s).bind k = k a s := rfl
@[simp] theorem bind_err {α β : Type} (c : Nat) (fs : List D) (s : RS) (k : α → RS → Res β) : (err c fs s : Res α).bind k = err c fs s := rfl
@[simp] theorem bind_stuck {α β : Type} (k : α → RS → Res β) : (stuck : Res α).bind k = stuck := rfl
theorem bind_assoc {α β γ : Type} (r : Res α) (f : α → RS → Res β) (g : β → RS → Res γ) : (r.bind f).bind g = r.bind fun a s => (f a s).bind g := by
  cases r <;> rfl
end Res
/-- a pure partial result at a state -/
def liftO {α : Type} (o : Option α) (s : RS) : Res α := match o with
  | some a => .ok a s
  | none => .stuck
@[simp] theorem liftO_some {α : Type} (a : α) (s : RS) : liftO (some a) s = .ok a s := rfl
@[simp] theorem liftO_none {α : Type} (s : RS) : liftO (none : Option α) s = .stuck := rfl

/-! ### equality of data -/
mutual
def D.eqv : D → D → Bool
  | .non, .non => true
  | .bl a, .bl b => a == b
  | .bl a, .int j => (if a then 1 else 0) == j
  | .int i, .bl b => i == (if b then 1 else 0)
  | .int i, .int j => i == j
  | .str x, .str y => x == y
  | .tup xs, .tup ys => D.eqvs xs ys
  | .lst xs, .lst ys => D.eqvs xs ys
  | _, _ => false
def D.eqvs : List D → List D → Bool
  | [], [] => true
  | x :: xs, y :: ys => D.eqv x y && D.eqvs xs ys
  | _, _ => false
end
mutual
/-- None, bools, ints, texts, lists and tuples of these, at most n deep -/
def D.dle : Nat → D → Bool
  | _, .non => true
  | _, .bl _ => true
  | _, .int _ => true
  | _, .str _ => true
  | n + 1, .tup xs => D.dles n xs
  | n + 1, .lst xs => D.dles n xs
  | _, _ => false
def D.dles : Nat → List D → Bool
  | _, [] => true
  | n, x :: xs => D.dle n x && D.dles n xs
end
mutual
/-- None, bools, ints, texts, lists and tuples of these -/
def D.pln : D → Bool
  | .non => true
  | .bl _ => true
  | .int _ => true
  | .str _ => true
  | .tup xs => D.plns xs
  | .lst xs => D.plns xs
  | _ => false
def D.plns : List D → Bool
  | [] => true
  | x :: xs => D.pln x && D.plns xs
end
mutual
/-- no list, no dict within -/
def D.lf : D → Bool
  | .tup xs => D.lfs xs
  | .lst _ => false
  | .dic _ _ => false
  | .ins _ fs => D.lfs fs
  | .exc _ fs => D.lfs fs
  | .scr _ => false
  | _ => true
def D.lfs : List D → Bool
  | [] => true
  | x :: xs => D.lf x && D.lfs xs
end

/-! ### code -/
inductive BOp where
  | add | sub | mul | fdiv | mod | pow
  deriving DecidableEq
inductive COp where
  | eq | ne | lt | le | gt | ge | isN | notN | inn | nin
  deriving DecidableEq
inductive Ty where
  | int | bool | str | tuple | list | dict | cls (c : Nat) | err
  deriving DecidableEq
inductive Blt where
  | len | abs | min2 | max2 | minl | maxl | sum | any | all | int
  deriving DecidableEq
/-- what a loop or a comprehension walks -/
inductive ItK where
  | plain | rng1 | rng2 | enum | zip | srt | sset
  deriving DecidableEq
def isRng : ItK → Bool
  | .rng1 => true | .rng2 => true | _ => false
/-- a target -/
inductive Pat where
  | v (i : Nat) | tnil | tcons (p ps : Pat)
  deriving DecidableEq

inductive Cd where
  | var (i : Nat)
  | lit (d : D)
  | nil | cons (a r : Cd)
  | tup (a : Cd) | lst (a : Cd)
  | bin (o : BOp) (a b : Cd)
  | cmp (o : COp) (a b : Cd)
  | chain (o1 o2 : COp) (a b c : Cd)
  | and (a b : Cd) | or (a b : Cd) | not (a : Cd) | neg (a : Cd)
  | ite (c a b : Cd)
  | idx (a b : Cd) | slc (l h : Bool) (a lo hi : Cd) | rev (a : Cd)      -- l, h: is there a lower, an upper part
  | blt (f : Blt) (a : Cd)
  | seqT (k : ItK) (src : Cd) | seqL (k : ItK) (src : Cd)
  | perm (n k : Nat) (p : List Nat) (a b : Cd)            -- the n values of a, then the k of b, in another sequence
  | call (f : Nat) (a : Cd)
  | mk (c : Nat) (a : Cd)
  | fld (a : Cd) (f : Nat)
  | isa (a : Cd) (t : Ty)
  | caught (a : Cd)
  | rp (a : Cd)          -- repr(a)
  | stI (k : Nat) (a : Cd) | stC (a : Cd) | stE (a : Cd) | stP (a : Cd)          -- of the draws' state: left (0), turn (1); cells; is great not empty; great's first, taken
  | comp (k : ItK) (src : Cd) (vs : List Nat) (p : Pat) (c e : Cd)          -- vs: the block's own names
  | comp2 (k : ItK) (src : Cd) (vs : List Nat) (p : Pat) (c : Cd) (k2 : ItK) (src2 : Cd) (p2 : Pat) (c2 e : Cd)

inductive Sd where
  | skip
  | seq (s r : Sd)
  | asg (p : Pat) (e : Cd) (ms : List Nat)
  | asgF (i : Nat) (e : Cd) (ms : List Nat)
  | asgP (ts : List (Nat × Bool)) (e : Cd)          -- names in a row; true: a new list
  | app (i : Nat) (e : Cd) (ms : List Nat)
  | popA (i j : Nat) (e : Cd) (ms : List Nat)       -- i.append(j.pop(e))
  | sto (i : Nat) (e k : Cd) (ms : List Nat)
  | fldS (f : Nat) (e : Cd)
  | ite (c : Cd) (a b : Sd) (ms : List Nat)
  | for_ (k : ItK) (src : Cd) (p : Pat) (body : Sd) (ms : List Nat)
  | whl (c : Cd) (body : Sd) (ms : List Nat)
  | ret (e : Cd) (ms : List Nat)
  | raise (c : Nat) (a : Cd)
  | stS (k : Nat) (a e : Cd)
  | expr (e : Cd) (ms : List Nat)
  | brk | cnt
  | forget (is : List Nat)          -- names of which nothing is told from here on

/-! ### operations -/
def b2i (b : Bool) : Int := if b then 1 else 0
/-- a product within the line -/
def mulOk (i j : Int) : Bool := decide (i.natAbs < 2 ^ 64) || decide (j.natAbs < 2 ^ 64) || decide (i.natAbs.log2 + j.natAbs.log2 < 1000000)
def szOk (n : Nat) : Bool := decide (n ≤ 16777216)
def binD : BOp → D → D → Option D
  | .add, .int i, .int j => some (.int (i + j))
  | .add, .str x, .str y => if szOk (x.length + y.length) then some (.str (x ++ y)) else none
  | .add, .tup xs, .tup ys => if szOk (xs.length + ys.length) then some (.tup (xs ++ ys)) else none
  | .add, .lst xs, .lst ys => if szOk (xs.length + ys.length) then some (.lst (xs ++ ys)) else none
  | .sub, .int i, .int j => some (.int (i - j))
  | .mul, .int i, .int j => if mulOk i j then some (.int (i * j)) else none
  | .mul, .lst xs, .int j => if decide (-(2 ^ 63) ≤ j) && decide (j < 2 ^ 63) && szOk (xs.length * j.toNat) then some (.lst (List.replicate j.toNat xs).flatten) else none
  | .mul, .tup xs, .int j => if j = 1 then some (.tup xs) else if !xs.isEmpty && decide (2 ≤ j) && decide (j ≤ 1000) && decide (xs.length ≤ 1000) then some (.tup (List.replicate j.toNat xs).flatten) else none
  | .fdiv, .int i, .int j => if decide (j ≠ 0) && decide (j.natAbs.log2 < 9000) then some (.int (i.fdiv j)) else none
  | .mod, .int i, .int j => if decide (j ≠ 0) then some (.int (i.fmod j)) else none
  | .pow, .int i, .int j => if decide (0 ≤ j) && decide (j ≤ 1000000) && decide (i.natAbs < 2 ^ 64) then some (.int (i ^ j.toNat)) else none
  | _, _, _ => none
/-- two values that == may look at -/
def eqOk (a b : D) : Bool := a.pln && b.pln && (a.dle 20 || b.dle 20)
def inOk (x : D) (ys : List D) : Bool := x.pln && D.plns ys && x.dle 20
/-- a tuple of anything == () -/
def nilEq : D → D → Option Bool
  | .tup xs, .tup [] => some xs.isEmpty
  | _, _ => none
def cmpD : COp → D → D → Option Bool
  | .eq, a, b => if eqOk a b then some (a.eqv b) else nilEq a b
  | .ne, a, b => if eqOk a b then some (!a.eqv b) else none
  | .lt, .int i, .int j => some (decide (i < j))
  | .le, .int i, .int j => some (decide (i ≤ j))
  | .gt, .int i, .int j => some (decide (j < i))
  | .ge, .int i, .int j => some (decide (j ≤ i))
  | .isN, .bl a, .bl b => some (a == b)
  | .notN, .bl a, .bl b => some (a != b)
  | .isN, .non, .non => some true
  | .isN, _, .non => some false
  | .notN, .non, .non => some false
  | .notN, _, .non => some true
  | .inn, x, .tup xs => if inOk x xs then some (xs.any fun y => y.eqv x) else none
  | .inn, x, .lst xs => if inOk x xs then some (xs.any fun y => y.eqv x) else none
  | .nin, x, .tup xs => if inOk x xs then some (!xs.any fun y => y.eqv x) else none
  | .nin, x, .lst xs => if inOk x xs then some (!xs.any fun y => y.eqv x) else none
  | _, _, _ => none
/-- a place in a sequence, as Python counts -/
def ixD (n : Nat) (i : Int) : Option Nat := L2.ixN n i
def idxD : D → D → Option D
  | .tup xs, .int i => (L2.ixN xs.length i).bind fun j => xs[j]?
  | .lst xs, .int i => (L2.ixN xs.length i).bind fun j => xs[j]?
  | _, _ => none
/-- a slice of a list -/
def cutD (xs : List D) (lo hi : Option Int) : List D := (xs.drop (HT.sIx xs.length 0 lo)).take (HT.sIx xs.length xs.length hi - HT.sIx xs.length 0 lo)

def intsD : List D → Option (List Int)
  | [] => some []
  | .int i :: r => (intsD r).map (i :: ·)
  | _ => none
def boolsD : List D → Option (List Bool)
  | [] => some []
  | .bl b :: r => (boolsD r).map (b :: ·)
  | _ => none
def maxI : Int → List Int → Int
  | m, [] => m
  | m, y :: r => maxI (if m < y then y else m) r
def minI : Int → List Int → Int
  | m, [] => m
  | m, y :: r => minI (if y < m then y else m) r
def bltD : Blt → List D → Option D
  | .len, [.tup xs] => some (.int xs.length)
  | .len, [.lst xs] => some (.int xs.length)
  | .len, [.scr n] => some (.int n)
  | .len, [.str x] => if szOk x.length then some (.int x.length) else none
  | .abs, [.int i] => some (.int (if i < 0 then -i else i))
  | .min2, [.int i, .int j] => some (.int (if j < i then j else i))
  | .max2, [.int i, .int j] => some (.int (if j > i then j else i))
  | .minl, [.lst xs] => match intsD xs with
    | some (i :: r) => some (.int (minI i r))
    | _ => none
  | .maxl, [.lst xs] => match intsD xs with
    | some (i :: r) => some (.int (maxI i r))
    | _ => none
  | .sum, [.lst xs] => (intsD xs).map fun is => .int is.sum
  | .any, [.lst xs] => (boolsD xs).map fun bs => .bl (bs.any id)
  | .all, [.lst xs] => (boolsD xs).map fun bs => .bl (bs.all id)
  | .int, [.int i] => some (.int i)
  | .int, [.bl b] => some (.int (if b then 1 else 0))
  | _, _ => none
def rngD (a b : Int) : List D := (List.range (b - a).toNat).map fun i => D.int (a + (i : Nat))
def rgOk (a b : Int) : Bool := decide (-(2 ^ 62) ≤ a) && decide (a < 2 ^ 62) && decide (-(2 ^ 62) ≤ b) && decide (b < 2 ^ 62) && decide ((b - a).toNat ≤ 16777216)
def enumD : Nat → List D → List D
  | _, [] => []
  | n, x :: xs => .tup [.int n, x] :: enumD (n + 1) xs
def zipD : List D → List D → List D
  | x :: xs, y :: ys => .tup [x, y] :: zipD xs ys
  | _, _ => []
/-- a number put into a list of numbers in sequence -/
def insS (x : Int) : List Int → List Int
  | [] => [x]
  | y :: l => if x ≤ y then x :: y :: l else y :: insS x l
/-- the same, each number once -/
def insU (x : Int) : List Int → List Int
  | [] => [x]
  | y :: l => if x < y then x :: y :: l else if x = y then y :: l else y :: insU x l
def srtI (l : List Int) : List Int := l.foldr insS []
def usrtI (l : List Int) : List Int := l.foldr insU []
/-- the items of what a loop walks -/
def itemsD : ItK → List D → Option (List D)
  | .plain, [.lst xs] => some xs
  | .plain, [.tup xs] => some xs
  | .rng1, [.int b] => if rgOk 0 b then some (rngD 0 b) else none
  | .rng2, [.int a, .int b] => if rgOk a b then some (rngD a b) else none
  | .enum, [.lst xs] => some (enumD 0 xs)
  | .zip, [.lst xs, .lst ys] => some (zipD xs ys)
  | .zip, [.tup xs, .tup ys] => some (zipD xs ys)
  | .zip, [.lst xs, .tup ys] => some (zipD xs ys)
  | .zip, [.tup xs, .lst ys] => some (zipD xs ys)
  | .srt, [.lst xs] => (intsD xs).map fun is => (srtI is).map D.int
  | .sset, [.tup xs] => (intsD xs).bind fun is => if is.length < 64 then some ((usrtI is).map D.int) else none
  | _, _ => none

/-! ### what the classes are -/
/-- a class of the text: an exception (its base, its fields) or a class with an __init__ -/
structure ClsD where
  exc : Bool
  base : Option Nat          -- of an exception: the class above it
  fields : List Nat          -- names of attributes, by number
  init : Nat                 -- the def of __init__, by its place among the defs
  eq : Option Nat            -- the def of __eq__
abbrev ClsT := Nat → Option ClsD
/-- is class a of (or below) class b: n steps at most -/
def subC (T : ClsT) : Nat → Nat → Nat → Bool
  | 0, a, b => a == b
  | n + 1, a, b => a == b || match (T a).bind (·.base) with
    | some p => subC T n p b
    | none => false
/-- a class that is there -/
def tyOk (T : ClsT) : Ty → Bool
  | .cls b => (T b).isSome
  | _ => true
/-- its class is there -/
def insOk (T : ClsT) : D → Bool
  | .ins c _ => match T c with
    | some k => !k.exc
    | none => false
  | .exc c fs => match T c with
    | some k => k.exc && fs.isEmpty
    | none => false
  | _ => true
def isaD (T : ClsT) (d : D) (t : Ty) : Option Bool := if tyOk T t && insOk T d then (match d, t with
  | .non, _ => some false
  | .bl _, t => some (t == .int || t == .bool)
  | .int _, t => some (t == .int)
  | .str _, t => some (t == .str)
  | .tup _, t => some (t == .tuple)
  | .lst _, t => some (t == .list)
  | .dic _ _, t => some (t == .dict)
  | .ins c _, .cls b => some (subC T 8 c b)
  | .ins c _, _ => some false
  | .exc c _, .cls b => some (subC T 8 c b)
  | .exc c _, .err => some true
  | .exc c _, _ => some false
  | _, _ => none) else none
def fldD (T : ClsT) : D → Nat → Option D
  | .ins c fs, f => (T c).bind fun k => (k.fields.idxOf? f).bind fun i => fs[i]?
  | _, _ => none

/-! ### the evaluator: expressions -/
abbrev Ev := List (Option D)
def isPs : Pat → Bool
  | .v _ => false
  | _ => true
/-- a name, a tuple of names, stored -/
def setP {α : Type} (inj : D → α) : Pat → D → List α → Option (List α)
  | .v i, d, σ => some (σ.set i (inj d))
  | .tnil, .tup [], σ => some σ
  | .tcons p ps, .tup (x :: xs), σ => if isPs ps then (setP inj p x σ).bind (setP inj ps (.tup xs)) else none
  | _, _, _ => none
/-- names forgotten -/
def wipeE (e : Ev) : List Nat → Ev
  | [] => e
  | v :: vs => (wipeE e vs).set v none
def asB : D → Option Bool
  | .bl b => some b
  | _ => none
def asTup : D → Option (List D)
  | .tup xs => some xs
  | _ => none
def asLst : D → Option (List D)
  | .lst xs => some xs
  | _ => none
def asI : D → Option Int
  | .int i => some i
  | _ => none
/-- item by item; what gives none is left out -/
def compL (f : D → RS → Res (Option D)) : List D → RS → Res (List D)
  | [], s => .ok [] s
  | x :: xs, s => (f x s).bind fun o s => (compL f xs s).bind fun r s => .ok (match o with | some y => y :: r | none => r) s
/-- no error leaves a comprehension -/
def noErr {α : Type} (r : Res α) : Res α := match r with
  | .ok a s => .ok a s
  | _ => .stuck
@[simp] theorem noErr_ok {α : Type} (a : α) (s : RS) : noErr (.ok a s) = .ok a s := rfl
@[simp] theorem noErr_stuck {α : Type} : noErr (.stuck : Res α) = .stuck := rfl
@[simp] theorem noErr_err {α : Type} (c : Nat) (fs : List D) (s : RS) : noErr (.err c fs s : Res α) = .stuck := rfl
def slcD : D → Option Int → Option Int → Option D
  | .tup xs, lo, hi => some (.tup (cutD xs lo hi))
  | .lst xs, lo, hi => some (.lst (cutD xs lo hi))
  | _, _, _ => none
def revD : D → Option D
  | .tup xs => some (.tup xs.reverse)
  | .lst xs => some (.lst xs.reverse)
  | _ => none
/-- so many -/
def asTupN (n : Nat) : D → Option (List D)
  | .tup xs => if xs.length = n then some xs else none
  | _ => none
/-- the classes, and what calls do -/
structure Mod where
  cls : ClsT
  call : Nat → List D → RS → Res D
  make : Nat → List D → RS → Res D
  base : Nat                       -- the class of errors that is caught
/-- its type is known -/
def typed (T : ClsT) : D → Bool
  | .st => false
  | .scr _ => false
  | d => insOk T d
/-- the def of the own ==, where the left one has it -/
def eqOf (m : Mod) (o : COp) (x y : D) : Option (Nat × Bool) := match o, x with
  | .eq, .ins c _ => if typed m.cls x && typed m.cls y then ((m.cls c).bind (·.eq)).map fun f => (f, false) else none
  | .ne, .ins c _ => if typed m.cls x && typed m.cls y then ((m.cls c).bind (·.eq)).map fun f => (f, true) else none
  | _, _ => none
def notD (k : Bool) : D → RS → Res D
  | .bl b, s => .ok (.bl (b != k)) s
  | _, _ => .stuck
def cmpE (m : Mod) (o : COp) (x y : D) (s : RS) : Res D := match eqOf m o x y with
  | some (f, k) => (noErr (m.call f [x, y] s)).bind (notD k)
  | none => liftO ((cmpD o x y).map D.bl) s
mutual
def toPy : D → PyData
  | .bl b => .bool b
  | .int i => .int i
  | .str x => .str x
  | .tup xs => .tuple (toPys xs)
  | .lst xs => .list (toPys xs)
  | _ => .none
def toPys : List D → List PyData
  | [] => []
  | x :: xs => toPy x :: toPys xs
end
/-- repr's text -/
def rpD (x : D) : Option D := if x.pln && (toPy x).showable && szOk (toPy x).shown.length && decide ((toPy x).depth ≤ 60) && PyData.strOk (toPy x).shown then some (.str (toPy x).shown) else none
def evE (m : Mod) : Cd → Ev → RS → Res D
  | .var i, σ, s => match σ[i]? with
    | some (some d) => .ok d s
    | _ => .stuck
  | .lit d, _, s => .ok d s
  | .nil, _, s => .ok (.tup []) s
  | .cons a r, σ, s => (evE m a σ s).bind fun x s => (evE m r σ s).bind fun y s => match y with
    | .tup xs => .ok (.tup (x :: xs)) s
    | _ => .stuck
  | .tup a, σ, s => (evE m a σ s).bind fun x s => match x with
    | .tup xs => if szOk xs.length then .ok (.tup xs) s else .stuck
    | _ => .stuck
  | .lst a, σ, s => (evE m a σ s).bind fun x s => match x with
    | .tup xs => if szOk xs.length then .ok (.lst xs) s else .stuck
    | _ => .stuck
  | .bin o a b, σ, s => (evE m a σ s).bind fun x s => (evE m b σ s).bind fun y s => liftO (binD o x y) s
  | .cmp o a b, σ, s => (evE m a σ s).bind fun x s => (evE m b σ s).bind fun y s => cmpE m o x y s
  | .chain o1 o2 a b c, σ, s => (evE m a σ s).bind fun x s => (evE m b σ s).bind fun y s => (liftO (cmpD o1 x y) s).bind fun k s =>
      if k then (evE m c σ s).bind fun z s => liftO ((cmpD o2 y z).map D.bl) s else .ok (.bl false) s
  | .and a b, σ, s => (evE m a σ s).bind fun x s => (liftO (asB x) s).bind fun k s => if k then evE m b σ s else .ok (.bl false) s
  | .or a b, σ, s => (evE m a σ s).bind fun x s => (liftO (asB x) s).bind fun k s => if k then .ok (.bl true) s else evE m b σ s
  | .not a, σ, s => (evE m a σ s).bind fun x s => (liftO (asB x) s).bind fun k s => .ok (.bl (!k)) s
  | .neg a, σ, s => (evE m a σ s).bind fun x s => match x with
    | .int i => .ok (.int (-i)) s
    | _ => .stuck
  | .ite c a b, σ, s => (evE m c σ s).bind fun x s => (liftO (asB x) s).bind fun k s => if k then evE m a σ s else evE m b σ s
  | .idx a b, σ, s => (evE m a σ s).bind fun x s => (evE m b σ s).bind fun y s => liftO (idxD x y) s
  | .slc l h a lo hi, σ, s => (evE m a σ s).bind fun x s =>
      (if l then (evE m lo σ s).bind fun y s => (liftO (asI y) s).bind fun i s => .ok (some i) s else .ok none s).bind fun lo' s =>
      (if h then (evE m hi σ s).bind fun y s => (liftO (asI y) s).bind fun i s => .ok (some i) s else .ok none s).bind fun hi' s => liftO (slcD x lo' hi') s
  | .rev a, σ, s => (evE m a σ s).bind fun x s => liftO (revD x) s
  | .rp a, σ, s => (evE m a σ s).bind fun x s => liftO (rpD x) s
  | .blt f a, σ, s => (evE m a σ s).bind fun x s => liftO ((asTup x).bind (bltD f)) s
  | .seqT k a, σ, s => (evE m a σ s).bind fun x s => liftO (((asTup x).bind (itemsD k)).map D.tup) s
  | .seqL k a, σ, s => (evE m a σ s).bind fun x s => liftO (((asTup x).bind (itemsD k)).map D.lst) s
  | .perm n k p a b, σ, s => (evE m a σ s).bind fun x s => (liftO (asTupN n x) s).bind fun xs s => (evE m b σ s).bind fun y s => (liftO (asTupN k y) s).bind fun ys s => liftO ((p.mapM fun i => (xs ++ ys)[i]?).map D.tup) s
  | .call f a, σ, s => (evE m a σ s).bind fun x s => (liftO (asTup x) s).bind fun xs s => m.call f xs s
  | .mk c a, σ, s => (evE m a σ s).bind fun x s => (liftO (asTup x) s).bind fun xs s => m.make c xs s
  | .fld a f, σ, s => (evE m a σ s).bind fun x s => liftO (fldD m.cls x f) s
  | .isa a t, σ, s => (evE m a σ s).bind fun x s => liftO ((isaD m.cls x t).map D.bl) s
  | .caught a, σ, s => match evE m a σ s with
    | .ok _ s => .ok .non s
    | .err c fs s => if subC m.cls 8 c m.base then .ok (.exc c fs) s else .stuck
    | .stuck => .stuck
  | .stI k a, σ, s => (evE m a σ s).bind fun x s => match x with
    | .st => .ok (.int (if k = 0 then s.left else s.turn)) s
    | _ => .stuck
  | .stC a, σ, s => (evE m a σ s).bind fun x s => match x with
    | .st => .ok (.lst (s.cells.map D.int)) s
    | _ => .stuck
  | .stE a, σ, s => (evE m a σ s).bind fun x s => match x with
    | .st => .ok (.bl (!s.great.isEmpty)) s
    | _ => .stuck
  | .stP a, σ, s => (evE m a σ s).bind fun x s => match x, s.great with
    | .st, z :: r => .ok (.int z) { s with great := r }
    | _, _ => .stuck
  | .comp k src vs p c e, σ, s => ((evE m src σ s).bind fun x s => liftO ((asTup x).bind (itemsD k)) s).bind fun xs s =>
      (noErr (compL (fun d s => (liftO (setP some p d (wipeE σ vs)) s).bind fun σ s => (evE m c σ s).bind fun b s => (liftO (asB b) s).bind fun b s =>
        if b then (evE m e σ s).bind fun y s => .ok (some y) s else .ok none s) xs s)).bind fun r s => .ok (.lst r) s
  | .comp2 k src vs p c k2 src2 p2 c2 e, σ, s => ((evE m src σ s).bind fun x s => liftO ((asTup x).bind (itemsD k)) s).bind fun xs s =>
      (noErr (compL (fun d s => (liftO (setP some p d (wipeE σ vs)) s).bind fun σ s => (evE m c σ s).bind fun b s => (liftO (asB b) s).bind fun b s =>
        if b then ((evE m src2 σ s).bind fun x s => liftO ((asTup x).bind (itemsD k2)) s).bind fun ys s =>
          (compL (fun d s => (liftO (setP some p2 d σ) s).bind fun σ s => (evE m c2 σ s).bind fun b s => (liftO (asB b) s).bind fun b s =>
            if b then (evE m e σ s).bind fun y s => .ok (some y) s else .ok none s) ys s).bind fun r s => .ok (some (.lst r)) s
        else .ok none s) xs s)).bind fun r s => (liftO (flatD r) s).bind fun r s => if szOk r.length then .ok (.lst r) s else .stuck
where
  flatD : List D → Option (List D)
    | [] => some []
    | .lst x :: r => (flatD r).map (x ++ ·)
    | _ => none

/-! ### statements -/
/-- a name's slot: empty, a value that is shared, an own list -/
inductive Sl where
  | un | val (d : D) | own (d : D)
inductive SRes where
  | nx (σ : List Sl) (s : RS)
  | rt (d : D) (s : RS)
  | bk (σ : List Sl) (s : RS)
  | ct (σ : List Sl) (s : RS)
  | err (c : Nat) (fs : List D) (s : RS)
  | stuck
def SRes.andThen (r : SRes) (k : List Sl → RS → SRes) : SRes := match r with
  | .nx σ s => k σ s
  | r => r
/-- what an expression sees of a slot: own lists only where they are named -/
def view1 (b : Bool) : Sl → Option D
  | .un => none
  | .val d => some d
  | .own (.lst xs) => if b then some (.lst xs) else none
  | .own _ => none
def viewS (ms : List Nat) : Nat → List Sl → Ev
  | _, [] => []
  | i, x :: r => view1 (ms.contains i) x :: viewS ms (i + 1) r
def share1 (b : Bool) : Sl → Sl
  | .own (.lst xs) => if b then .val (.lst xs) else .own (.lst xs)
  | x => x
/-- own lists that were named become shared -/
def shareS (ms : List Nat) : Nat → List Sl → List Sl
  | _, [] => []
  | i, x :: r => share1 (ms.contains i) x :: shareS ms (i + 1) r
/-- behind a value that an expression has given -/
def settle (ms : List Nat) (d : D) (σ : List Sl) : List Sl := if ms.isEmpty || d.lf then σ else shareS ms 0 σ
def SRes.ofR {α : Type} (r : Res α) (k : α → RS → SRes) : SRes := match r with
  | .ok a s => k a s
  | .err c fs s => .err c fs s
  | .stuck => .stuck
def forL (body : D → List Sl → RS → SRes) : List D → List Sl → RS → SRes
  | [], σ, s => .nx σ s
  | x :: xs, σ, s => match body x σ s with
    | .nx σ s => forL body xs σ s
    | .ct σ s => forL body xs σ s
    | .bk σ s => .nx σ s
    | r => r
def whlL (c : List Sl → RS → Res Bool) (body : List Sl → RS → SRes) : Nat → List Sl → RS → SRes
  | 0, _, _ => .stuck
  | n + 1, σ, s => SRes.ofR (c σ s) fun b s => if b then (match body σ s with
    | .nx σ s => whlL c body n σ s
    | .ct σ s => whlL c body n σ s
    | .bk σ s => .nx σ s
    | r => r) else .nx σ s
/-- an own list -/
def ownL (σ : List Sl) (i : Nat) : Bool := match σ[i]? with
  | some (.own (.lst _)) => true
  | _ => false
/-- left (0) or turn is stored -/
def setI (k : Nat) (i : Int) (s : RS) : RS := if k = 0 then { s with left := i } else { s with turn := i }
/-- names in a row take their values -/
def setF : List (Nat × Bool) → List D → List Sl → Option (List Sl)
  | [], [], σ => some σ
  | (i, false) :: ts, d :: ds, σ => setF ts ds (σ.set i (.val d))
  | (i, true) :: ts, .lst xs :: ds, σ => setF ts ds (σ.set i (.own (.lst xs)))
  | _, _, _ => none
/-- nothing is told of these -/
def forgetS : List Nat → List Sl → List Sl
  | [], σ => σ
  | i :: is, σ => (forgetS is σ).set i .un
/-- what j.pop(k) gives is put to i's end -/
def popX (σ : List Sl) (i j : Nat) (k : Int) : Option (List Sl) := match σ[i]?, σ[j]? with
  | some (.own (.lst xs)), some (.own (.lst ys)) => match ys[k.toNat]? with
    | some y => if decide (0 ≤ k) && szOk (xs.length + 1) && szOk ys.length then some ((σ.set j (.own (.lst (ys.eraseIdx k.toNat)))).set i (.own (.lst (xs ++ [y])))) else none
    | none => none
  | _, _ => none
/-- w: the most turns of a while -/
def evS (m : Mod) (w : Nat) : Sd → List Sl → RS → SRes
  | .skip, σ, s => .nx σ s
  | .seq a b, σ, s => (evS m w a σ s).andThen (evS m w b)
  | .asg p e ms, σ, s => SRes.ofR (evE m e (viewS ms 0 σ) s) fun d s => match setP Sl.val p d (settle ms d σ) with
    | some σ => .nx σ s
    | none => .stuck
  | .asgF i e ms, σ, s => SRes.ofR (evE m e (viewS ms 0 σ) s) fun d s => match d with
    | .lst xs => .nx ((if ms.isEmpty || D.lfs xs then σ else shareS ms 0 σ).set i (.own d)) s
    | _ => .stuck
  | .asgP ts e, σ, s => SRes.ofR (evE m e (viewS [] 0 σ) s) fun d s => match (asTup d).bind fun ds => setF ts ds σ with
    | some σ => .nx σ s
    | none => .stuck
  | .app i e ms, σ, s => if ownL σ i then SRes.ofR (evE m e (viewS ms 0 σ) s) fun d s => match (settle ms d σ)[i]? with
    | some (.own (.lst xs)) => if szOk (xs.length + 1) then .nx ((settle ms d σ).set i (.own (.lst (xs ++ [d])))) s else .stuck
    | _ => .stuck else .stuck
  | .popA i j e ms, σ, s => if ownL σ i && (ownL σ j && !(i == j)) then SRes.ofR ((evE m e (viewS ms 0 σ) s).bind fun x s => liftO (asI x) s) fun k s => match popX σ i j k with
    | some σ => .nx σ s
    | none => .stuck else .stuck
  | .sto i e k ms, σ, s => SRes.ofR (evE m e (viewS ms 0 σ) s) fun d s => if ownL (settle ms d σ) i then SRes.ofR ((evE m k (viewS ms 0 (settle ms d σ)) s).bind fun x s => liftO (asI x) s) fun j s => match (settle ms d σ)[i]? with
    | some (.own (.lst xs)) => match L2.ixN xs.length j with
      | some n => .nx ((settle ms d σ).set i (.own (.lst (xs.set n d)))) s
      | none => .stuck
    | _ => .stuck else .stuck
  | .fldS f e, σ, s => SRes.ofR (evE m e (viewS [] 0 σ) s) fun d s => match σ.head? with
    | some (.own (.ins c fs)) => match m.cls c with
      | some k => if k.fields[fs.length]? = some f then .nx (σ.set 0 (.own (.ins c (fs ++ [d])))) s else .stuck
      | none => .stuck
    | _ => .stuck
  | .ite c a b ms, σ, s => SRes.ofR ((evE m c (viewS ms 0 σ) s).bind fun x s => liftO (asB x) s) fun k s => if k then evS m w a σ s else evS m w b σ s
  | .for_ k src p body ms, σ, s => SRes.ofR (evE m src (viewS ms 0 σ) s) fun x s => match (asTup x).bind (itemsD k) with
    | some xs => forL (fun d σ s => match setP Sl.val p d σ with
      | some σ => evS m w body σ s
      | none => .stuck) xs (if isRng k || ms.isEmpty then σ else shareS ms 0 σ) s
    | none => .stuck
  | .whl c body ms, σ, s => whlL (fun σ s => (evE m c (viewS ms 0 σ) s).bind fun x s => liftO (asB x) s) (evS m w body) w σ s
  | .ret e ms, σ, s => SRes.ofR (evE m e (viewS ms 0 σ) s) fun d s => .rt d s
  | .raise c a, σ, s => SRes.ofR (evE m a (viewS [] 0 σ) s) fun d s => match d with
    | .tup fs => .err c fs s
    | _ => .stuck
  | .stS k a e, σ, s => SRes.ofR ((evE m e (viewS [] 0 σ) s).bind fun x s => liftO (asI x) s) fun i s => SRes.ofR (evE m a (viewS [] 0 σ) s) fun x s => match x with
    | .st => .nx σ (setI k i s)
    | _ => .stuck
  | .expr e ms, σ, s => SRes.ofR (evE m e (viewS ms 0 σ) s) fun d s => .nx (settle ms d σ) s
  | .brk, σ, s => .bk σ s
  | .cnt, σ, s => .ct σ s
  | .forget is, σ, s => .nx (forgetS is σ) s

/-! ### defs -/
inductive FnK where
  | plain | init (c : Nat) | prim (p : List D → RS → Res D)
structure FnC where
  kind : FnK
  arity : Nat
  slots : Nat
  body : Sd
abbrev FnT := Nat → Option FnC
/-- the values at the entry -/
def startS (n : Nat) (xs : List Sl) : List Sl := xs ++ List.replicate (n - xs.length) .un
def endRes (r : SRes) : Res D := match r with
  | .nx _ s => .ok .non s
  | .rt d s => .ok d s
  | .err c fs s => .err c fs s
  | _ => .stuck
/-- an __init__'s end: the instance -/
def endMk (c n : Nat) (r : SRes) : Res D := match r with
  | .nx (Sl.own (D.ins c' fs) :: _) s => if c' = c ∧ fs.length = n then .ok (.ins c fs) s else .stuck
  | .err c fs s => .err c fs s
  | _ => .stuck
structure Prog where
  cls : ClsT
  fns : FnT
  base : Nat
/-- n: the depth of calls; w: the most turns of a while -/
def Prog.mod (P : Prog) (w : Nat) : Nat → Mod
  | 0 => ⟨P.cls, fun _ _ _ => .stuck, fun _ _ _ => .stuck, P.base⟩
  | n + 1 => ⟨P.cls,
      fun f xs s => match P.fns f with
        | some F => match F.kind with
          | .plain => if xs.length = F.arity then endRes (evS (P.mod w n) w F.body (startS F.slots (xs.map Sl.val)) s) else .stuck
          | .prim p => p xs s
          | .init _ => .stuck
        | none => .stuck,
      fun c xs s => match P.cls c with
        | some k => match P.fns k.init with
          | some F => if F.arity = xs.length + 1 then endMk c k.fields.length (evS (P.mod w n) w F.body (startS F.slots (.own (.ins c []) :: xs.map Sl.val)) s) else .stuck
          | none => .stuck
        | none => .stuck, P.base⟩
end Fw

/-! FwB: data over the abstract heap; what a code promises of an expression. -/
namespace Fw
open PySem L2

/-- the ghosts of a run: the draws' dict, its two lists, the tables of code objects, the classes -/
structure Gh where
  p0 : Addr
  g0 : Addr
  c0 : Addr
  T : List (Addr × Str)
  ca : Nat → Addr
  cf : Nat → List Str

/-- a caught exception's object: its class, its own dict -/
def XcO (cls : Value) (d : Option Addr) (a : Addr) : HO := .ext fun h => ∃ oe vs, h.get? a = some oe ∧ oe.cls = cls ∧ oe.dict = d ∧ oe.data = .fields vs

mutual
/-- v is d over H -/
inductive Rep (K : PySem.W.Frag) (G : Gh) (H : Hp) : V → D → Prop
  | non : Rep K G H .non .non
  | bl (b : Bool) : Rep K G H (.bl b) (.bl b)
  | int (i : Int) : Rep K G H (.int i) (.int i)
  | str (x : Str) (h : PyData.strOk x = true) : Rep K G H (.str x) (.str x)
  | tup {a : Addr} {vs : List V} {ds : List D} (h : SqT K H a vs) (r : Reps K G H vs ds) : Rep K G H (.ref a) (.tup ds)
  | lst {a : Addr} {vs : List V} {ds : List D} (h : H a = some (.lst vs)) (r : Reps K G H vs ds) : Rep K G H (.ref a) (.lst ds)
  | dicE {a : Addr} (h : H a = some (.dK [])) : Rep K G H (.ref a) (.dic [] [])
  | ins {a dx : Addr} {c : Nat} {fs : List (Str × V)} {ds : List D} (h : H a = some (.ins (G.ca c) dx fs)) (hf : fs.map (·.1) = G.cf c) (r : Reps K G H (fs.map (·.2)) ds) : Rep K G H (.ref a) (.ins c ds)
  | exc {a : Addr} {c : Nat} (h : H a = some (XcO (.ref (G.ca c)) none a)) : Rep K G H (.ref a) (.exc c [])
  | excF {a d : Addr} {c : Nat} {fs : List (Str × V)} {ds : List D} (h : H a = some (XcO (.ref (G.ca c)) (some d) a)) (hd : H d = some (.xd fs)) (hf : fs.map (·.1) = G.cf c) (r : Reps K G H (fs.map (·.2)) ds) (ne : ds ≠ []) : Rep K G H (.ref a) (.exc c ds)
  | st : Rep K G H (.ref G.p0) .st
  | scr {a : Addr} {vs : List V} {n : Nat} (h : SqL K H a vs) (e : vs.length = n) : Rep K G H (.ref a) (.scr n)
inductive Reps (K : PySem.W.Frag) (G : Gh) (H : Hp) : List V → List D → Prop
  | nil : Reps K G H [] []
  | cons {v : V} {vs : List V} {d : D} {ds : List D} (h : Rep K G H v d) (r : Reps K G H vs ds) : Reps K G H (v :: vs) (d :: ds)
end

/-- more is tracked -/
abbrev Sub (H H' : Hp) : Prop := Same H H'

section
variable {K : PySem.W.Frag} {G : Gh} {H H' : Hp}
theorem sqT_mono {a : Addr} {xs : List V} (e : Sub H H') (h : SqT K H a xs) : SqT K H' a xs := by
  rcases h with (h | ⟨o, h⟩) | h
  · exact .inl (.inl (e _ _ h))
  · exact .inl (.inr ⟨o, e _ _ h⟩)
  · exact .inr h
mutual
theorem Rep.mono (e : Sub H H') : ∀ {v : V} {d : D}, Rep K G H v d → Rep K G H' v d
  | _, _, .non => .non
  | _, _, .bl b => .bl b
  | _, _, .int i => .int i
  | _, _, .str x h => .str x h
  | _, _, .tup h r => .tup (sqT_mono e h) (Reps.mono e r)
  | _, _, .lst h r => .lst (e _ _ h) (Reps.mono e r)
  | _, _, .dicE h => .dicE (e _ _ h)
  | _, _, .ins h hf r => .ins (e _ _ h) hf (Reps.mono e r)
  | _, _, .exc h => .exc (e _ _ h)
  | _, _, .excF h hd hf r ne => .excF (e _ _ h) (e _ _ hd) hf (Reps.mono e r) ne
  | _, _, .st => .st
  | _, _, .scr h q => .scr (Same.seq e h) q
theorem Reps.mono (e : Sub H H') : ∀ {vs : List V} {ds : List D}, Reps K G H vs ds → Reps K G H' vs ds
  | _, _, .nil => .nil
  | _, _, .cons h r => .cons (Rep.mono e h) (Reps.mono e r)
end
theorem Reps.length : ∀ {vs : List V} {ds : List D}, Reps K G H vs ds → vs.length = ds.length
  | _, _, .nil => rfl
  | _, _, .cons _ r => congrArg Nat.succ (Reps.length r)
theorem Reps.get : ∀ {vs : List V} {ds : List D}, Reps K G H vs ds → ∀ {i : Nat} {d : D}, ds[i]? = some d → ∃ v, vs[i]? = some v ∧ Rep K G H v d
  | _, _, .nil, i, d, h => by simp at h
  | _, _, .cons h r, 0, d, e => ⟨_, rfl, by cases (Option.some.inj e); exact h⟩
  | _, _, .cons h r, i + 1, d, e => by
    obtain ⟨v, a, b⟩ := Reps.get r (i := i) (d := d) (by simpa using e)
    exact ⟨v, by simpa using a, b⟩
theorem Reps.getV : ∀ {vs : List V} {ds : List D}, Reps K G H vs ds → ∀ {i : Nat} {v : V}, vs[i]? = some v → ∃ d, ds[i]? = some d ∧ Rep K G H v d
  | _, _, .nil, i, d, h => by simp at h
  | _, _, .cons h r, 0, d, e => ⟨_, rfl, by cases (Option.some.inj e); exact h⟩
  | _, _, .cons h r, i + 1, d, e => by
    obtain ⟨v, a, b⟩ := Reps.getV r (i := i) (v := d) (by simpa using e)
    exact ⟨v, by simpa using a, b⟩
theorem Reps.append : ∀ {vs ws : List V} {ds es : List D}, Reps K G H vs ds → Reps K G H ws es → Reps K G H (vs ++ ws) (ds ++ es)
  | _, _, _, _, .nil, s => s
  | _, _, _, _, .cons h r, s => .cons h (Reps.append r s)
theorem Reps.take : ∀ {vs : List V} {ds : List D} (n : Nat), Reps K G H vs ds → Reps K G H (vs.take n) (ds.take n)
  | _, _, 0, _ => .nil
  | _, _, _ + 1, .nil => .nil
  | _, _, n + 1, .cons h r => .cons h (Reps.take n r)
theorem Reps.drop : ∀ {vs : List V} {ds : List D} (n : Nat), Reps K G H vs ds → Reps K G H (vs.drop n) (ds.drop n)
  | _, _, 0, r => r
  | _, _, _ + 1, .nil => .nil
  | _, _, n + 1, .cons h r => Reps.drop n r
theorem Reps.reverse {vs : List V} {ds : List D} (r : Reps K G H vs ds) : Reps K G H vs.reverse ds.reverse := by
  have go : ∀ {vs : List V} {ds : List D}, Reps K G H vs ds → ∀ {ws : List V} {es : List D}, Reps K G H ws es → Reps K G H (vs.reverseAux ws) (ds.reverseAux es) := by
    intro vs
    induction vs with
    | nil => intro ds r ws es q; cases r; exact q
    | cons v vs ih =>
      intro ds r ws es q
      cases r with
      | cons h r => exact ih r (.cons h q)
  exact go r .nil
theorem Reps.set : ∀ {vs : List V} {ds : List D} (n : Nat) {v : V} {d : D}, Reps K G H vs ds → Rep K G H v d → Reps K G H (vs.set n v) (ds.set n d)
  | _, _, _, _, _, .nil, _ => .nil
  | _, _, 0, _, _, .cons _ r, q => .cons q r
  | _, _, n + 1, _, _, .cons h r, q => .cons h (Reps.set n r q)
theorem Reps.rep {vs : List V} {ds : List D} (r : Reps K G H vs ds) : ∀ k : Nat, Reps K G H (List.replicate k vs).flatten (List.replicate k ds).flatten
  | 0 => .nil
  | k + 1 => by
    rw [List.replicate_succ, List.replicate_succ, List.flatten_cons, List.flatten_cons]
    exact Reps.append r (Reps.rep r k)
theorem Reps.nil_iff {vs : List V} {ds : List D} (r : Reps K G H vs ds) : vs = [] ↔ ds = [] := by
  cases r <;> simp
theorem cut_reps {vs : List V} {ds : List D} (r : Reps K G H vs ds) (lo hi : Option Int) : Reps K G H (cutV vs lo hi) (cutD ds lo hi) := by
  unfold cutV cutD
  rw [r.length]
  exact Reps.take _ (Reps.drop _ r)
end

/-- the draws' state over H -/
structure StAt (G : Gh) (H : Hp) (s : RS) : Prop where
  dic : H G.p0 = some (.dK [(.inr "great", .ref G.g0), (.inr "cells", .ref G.c0), (.inr "left", .int s.left), (.inr "turn", .int s.turn)])
  great : H G.g0 = some (.lst (s.great.map V.int))
  cells : H G.c0 = some (.lst (s.cells.map V.int))
  ne : G.g0 ≠ G.c0
/-- Hs: what is shared and never changes; H: all that is tracked -/
structure Ok (G : Gh) (Hs H : Hp) (s : RS) : Prop where
  sub : Sub Hs H
  st : StAt G H s
  np : Hs G.p0 = none
  ng : Hs G.g0 = none
  cs : Hs G.c0 = some (.lst (s.cells.map V.int))
  tb : LamX.Tabs G.T H
  nt : ∀ a ps, Hs a ≠ some (.tbl ps)
/-- what a call keeps: each object, and what is nobody else's -/
def Kp (G : Gh) (Hs H Hs' H' : Hp) : Prop := ∀ a o, H a = some o → a ≠ G.p0 → a ≠ G.g0 → (∀ ps, o ≠ .tbl ps) → H' a = some o ∧ ((∀ φ, o ≠ .ext φ) → Hs a = none → Hs' a = none)
theorem Kp.refl (G : Gh) (Hs H : Hp) : Kp G Hs H Hs H := fun _ _ h _ _ _ => ⟨h, fun _ => id⟩
theorem Kp.trans {G : Gh} {Hs Hs1 Hs2 H H1 H2 : Hp} (a : Kp G Hs H Hs1 H1) (b : Kp G Hs1 H1 Hs2 H2) : Kp G Hs H Hs2 H2 := fun c o h h1 h2 h3 =>
  have p := a c o h h1 h2 h3
  have q := b c o p.1 h1 h2 h3
  ⟨q.1, fun hn z => q.2 hn (p.2 hn z)⟩
theorem Sub.upd {H : Hp} {p : Addr} {o : HO} (h : H p = none) : Sub H (upd H p o) := fun a u e => by
  rw [upd_ne (ne_of_none e h)]
  exact e
theorem Kp.new {G : Gh} {Hs H : Hp} {p : Addr} {o : HO} (h : H p = none) : Kp G Hs H Hs (upd H p o) := fun a u e _ _ _ => ⟨Sub.upd h a u e, fun _ => id⟩
theorem Kp.add {G : Gh} {Hs H : Hp} {p : Addr} {o : HO} (h : H p = none) : Kp G Hs H (upd Hs p o) (upd H p o) := fun a u e _ _ _ => ⟨Sub.upd h a u e, fun _ z => by
  rw [upd_ne (ne_of_none e h)]
  exact z⟩
/-- nothing stands at p but a table of code objects, perhaps -/
def Nw (H : Hp) (p : Addr) : Prop := ∀ o, H p = some o → ∃ ps, o = .tbl ps
theorem Nw.of {H : Hp} {p : Addr} (h : H p = none) : Nw H p := fun o e => by
  rw [h] at e
  cases e
theorem Nw.ne {H : Hp} {p a : Addr} {o : HO} (n : Nw H p) (h : H a = some o) (t : ∀ ps, o ≠ .tbl ps) : p ≠ a := fun z => by
  subst z
  obtain ⟨ps, q⟩ := n o h
  exact t ps q
theorem Kp.share {G : Gh} {Hs H Hs' H' : Hp} {p : Addr} {o : HO} (k : Kp G Hs H Hs' H') (n : Nw H p) : Kp G Hs H (upd Hs' p o) H' := fun a u e h1 h2 h3 => ⟨(k a u e h1 h2 h3).1, fun hn z => by
  rw [upd_ne (n.ne e h3).symm]
  exact (k a u e h1 h2 h3).2 hn z⟩
section
variable {G : Gh} {Hs H : Hp} {s : RS} {p : Addr} {o : HO}
theorem Ok.hs (x : Ok G Hs H s) {a : Addr} {u : HO} (e : Hs a = some u) : a ≠ G.p0 ∧ a ≠ G.g0 ∧ ∀ ps, u ≠ .tbl ps := by
  refine ⟨ne_of_none e x.np, ne_of_none e x.ng, fun ps z => ?_⟩
  subst z
  exact x.nt a ps e
theorem Ok.keep (x : Ok G Hs H s) {Hs' H' : Hp} (k : Kp G Hs H Hs' H') : Sub Hs H' := fun a u e => let ⟨h1, h2, h3⟩ := x.hs e; (k a u (x.sub a u e) h1 h2 h3).1
theorem Ok.free (x : Ok G Hs H s) (h : H p = none) : Hs p = none := by
  cases e : Hs p with
  | none => rfl
  | some u =>
    rw [x.sub p u e] at h
    cases h
theorem StAt.new (x : StAt G H s) (h : H p = none) : StAt G (upd H p o) s :=
  ⟨by rw [upd_ne (ne_of_none x.dic h)]; exact x.dic, by rw [upd_ne (ne_of_none x.great h)]; exact x.great, by rw [upd_ne (ne_of_none x.cells h)]; exact x.cells, x.ne⟩
/-- a new object, shared -/
theorem Ok.add (x : Ok G Hs H s) (h : H p = none) (n : ∀ ps, o ≠ .tbl ps) : Ok G (upd Hs p o) (upd H p o) s := by
  refine ⟨fun a u e => ?_, x.st.new h, ?_, ?_, by rw [upd_ne (ne_of_none x.st.cells h)]; exact x.cs, x.tb.ext (Sub.upd h), fun a ps e => ?_⟩
  · by_cases hb : a = p
    · subst hb
      rw [upd_same] at e ⊢
      exact e
    · rw [upd_ne hb] at e ⊢
      exact x.sub a u e
  · rw [upd_ne (ne_of_none x.st.dic h)]
    exact x.np
  · rw [upd_ne (ne_of_none x.st.great h)]
    exact x.ng
  · by_cases hb : a = p
    · subst hb
      rw [upd_same] at e
      exact n ps (Option.some.inj e)
    · rw [upd_ne hb] at e
      exact x.nt a ps e
/-- a new object of one's own -/
theorem Ok.new (x : Ok G Hs H s) (h : H p = none) : Ok G Hs (upd H p o) s :=
  ⟨fun a u e => Sub.upd h a u (x.sub a u e), x.st.new h, x.np, x.ng, x.cs, x.tb.ext (Sub.upd h), x.nt⟩
theorem Sub.upd' {Hs H : Hp} {p a : Addr} {o u : HO} (h : H p = some o) (hc : H a = some u) (hs : Hs a = some u) : L2.upd Hs p o a = some u := by
  by_cases e : a = p
  · subst e
    rw [upd_same]
    rw [h] at hc
    exact hc
  · rw [upd_ne e]
    exact hs
/-- an object of one's own becomes shared -/
theorem Ok.share (x : Ok G Hs H s) (h : H p = some o) (h1 : p ≠ G.p0) (h2 : p ≠ G.g0) (n : ∀ ps, o ≠ .tbl ps) : Ok G (upd Hs p o) H s := by
  refine ⟨fun a u e => ?_, x.st, ?_, ?_, Sub.upd' h x.st.cells x.cs, x.tb, fun a ps e => ?_⟩
  · by_cases hb : a = p
    · subst hb
      rw [upd_same] at e
      rw [← e]
      exact h
    · rw [upd_ne hb] at e
      exact x.sub a u e
  · rw [upd_ne h1.symm]
    exact x.np
  · rw [upd_ne h2.symm]
    exact x.ng
  · by_cases hb : a = p
    · subst hb
      rw [upd_same] at e
      exact n ps (Option.some.inj e)
    · rw [upd_ne hb] at e
      exact x.nt a ps e
end

theorem tabs_put {T : List (Addr × Str)} {H : Hp} {p : Addr} {u o : HO} (t : LamX.Tabs T H) (h : H p = some u) (n1 : ∀ ps, u ≠ .tbl ps) (n2 : ∀ φ, u ≠ .ext φ) : LamX.Tabs T (upd H p o) := fun q hq => by
  obtain ⟨ps, h1, h2, h3⟩ := t q hq
  refine ⟨ps, ?_, h2, fun pos cv hc => ?_⟩
  · rw [upd_ne fun z => n1 ps (by rw [z, h] at h1; exact Option.some.inj h1)]
    exact h1
  · obtain ⟨c, e1, e2⟩ := h3 pos cv hc
    refine ⟨c, e1, ?_⟩
    rw [upd_ne fun z => n2 _ (by rw [z, h] at e2; exact Option.some.inj e2)]
    exact e2
/-- an object of one's own, changed -/
theorem Ok.put {G : Gh} {Hs H : Hp} {s : RS} {p : Addr} {u o : HO} (x : Ok G Hs H s) (h : H p = some u) (h1 : p ≠ G.p0) (h2 : p ≠ G.g0) (h3 : p ≠ G.c0) (hs : Hs p = none) (n1 : ∀ ps, u ≠ .tbl ps) (n2 : ∀ φ, u ≠ .ext φ) : Ok G Hs (upd H p o) s :=
  ⟨fun a v e => by
    rw [upd_ne (ne_of_none e hs)]
    exact x.sub a v e, ⟨by rw [upd_ne h1.symm]; exact x.st.dic, by rw [upd_ne h2.symm]; exact x.st.great, by rw [upd_ne h3.symm]; exact x.st.cells, x.st.ne⟩, x.np, x.ng, x.cs, tabs_put x.tb h n1 n2, x.nt⟩
theorem Kp.put {G : Gh} {Hs H Hs' H' : Hp} {p : Addr} {o : HO} (k : Kp G Hs H Hs' H') (h : Nw H p) : Kp G Hs H Hs' (upd H' p o) := fun a u e h1 h2 h3 => ⟨by
  rw [upd_ne (h.ne e h3).symm]
  exact (k a u e h1 h2 h3).1, (k a u e h1 h2 h3).2⟩
/-! ### what is wanted behind a code -/
section
variable (K : PySem.W.Frag) (G : Gh) (E : XK)
/-- an exception as data -/
def RepX (Hs : Hp) (cls : Value) (dd : Option Addr) (c : Nat) (ds : List D) : Prop :=
  cls = .ref (G.ca c) ∧ ((ds = [] ∧ dd = none) ∨ ∃ d fs, dd = some d ∧ Hs d = some (.xd fs) ∧ fs.map (·.1) = G.cf c ∧ Reps K G Hs (fs.map (·.2)) ds ∧ ds ≠ [])
/-- the end of a value: fr: a list is new and nobody's yet -/
def PV (fr : Bool) (Hs H : Hp) (d : D) (s' : RS) (Q : VK) : Prop := match fr, d with
  | true, .lst ds => ∀ (p : Addr) (vs : List V) (Hs' H' : Hp), Sub Hs Hs' → Ok G Hs' H' s' → Kp G Hs H Hs' H' → Hs' p = none → Nw H p → H' p = some (.lst vs) → Reps K G Hs' vs ds → Q (.ref p) H'
  | _, _ => ∀ (v : V) (Hs' H' : Hp), Sub Hs Hs' → Ok G Hs' H' s' → Kp G Hs H Hs' H' → Rep K G Hs' v d → Q v H'
/-- the end of something that R tells -/
def PR {α β : Type} (R : Hp → β → α → Prop) (Hs H : Hp) (a : α) (s' : RS) (Q : β → Hp → Prop) : Prop := ∀ (v : β) (Hs' H' : Hp), Sub Hs Hs' → Ok G Hs' H' s' → Kp G Hs H Hs' H' → R Hs' v a → Q v H'
def PX (Hs H : Hp) (c : Nat) (fs : List D) (s' : RS) : Prop := ∀ (cls : Value) (dd : Option Addr) (Hs' H' : Hp), Sub Hs Hs' → Ok G Hs' H' s' → Kp G Hs H Hs' H' → RepX K G Hs' cls dd c fs → E cls dd H'
/-- of a result: P the wish of its value -/
def Post {α : Type} (Hs H : Hp) (r : Res α) (P : α → RS → Prop) : Prop := match r with
  | .ok a s' => P a s'
  | .err c fs s' => PX K G E Hs H c fs s'
  | .stuck => False
/-- the slots -/
structure EnvR (Hs : Hp) (σ : St) (e : Ev) : Prop where
  len : e.length ≤ σ.length
  get : ∀ (i : Nat) (d : D), e[i]? = some (some d) → ∃ v, σ[i]? = some (some v) ∧ Rep K G Hs v d
def tE (fr : Bool) (f : Ev → RS → Res D) : TE := fun σ H Q => ∃ Hs e s, Ok G Hs H s ∧ EnvR K G Hs σ e ∧ Post K G E Hs H (f e s) fun d s' => PV K G fr Hs H d s' Q
def tT (f : Ev → RS → Res D) : TT := fun σ H Q => ∃ Hs e s, Ok G Hs H s ∧ EnvR K G Hs σ e ∧ Post K G E Hs H (f e s) fun d s' => ∃ b, d = .bl b ∧ PR G (fun _ (x : Bool) (y : Bool) => x = y) Hs H b s' Q
def tA (f : Ev → RS → Res D) : TA := fun σ H Q => ∃ Hs e s, Ok G Hs H s ∧ EnvR K G Hs σ e ∧ Post K G E Hs H (f e s) fun d s' => ∃ ds, d = .tup ds ∧ PR G (Reps K G) Hs H ds s' Q
end

section
variable {K : PySem.W.Frag} {G : Gh} {E : XK} {Hs Hs1 H H1 : Hp} {s s0 s1 : RS}
theorem EnvR.mono {σ : St} {e : Ev} (x : EnvR K G Hs σ e) (h : Sub Hs Hs1) : EnvR K G Hs1 σ e := ⟨x.len, fun i d q => let ⟨v, a, b⟩ := x.get i d q; ⟨v, a, b.mono h⟩⟩
theorem PV.imp {fr : Bool} {d : D} {Q Q' : VK} (h : PV K G fr Hs H d s Q) (i : ∀ v H, Q v H → Q' v H) : PV K G fr Hs H d s Q' := by
  cases fr with
  | false => exact fun v Hs' H' a b c e => i _ _ (h v Hs' H' a b c e)
  | true => cases d <;> first
    | exact fun v Hs' H' a b c e => i _ _ (h v Hs' H' a b c e)
    | exact fun p vs Hs' H' a b c e f g k => i _ _ (h p vs Hs' H' a b c e f g k)
/-- the plain wish serves where the finer one is asked for -/
theorem PV.fresh {d : D} {Q : VK} (o : Ok G Hs H s0) (h : PV K G false Hs H d s Q) : PV K G true Hs H d s Q := by
  cases d with
  | lst ds =>
    intro p vs Hs' H' a b c e f g k
    have n1 : p ≠ G.p0 := f.ne o.st.dic (fun ps z => by cases z)
    have n2 : p ≠ G.g0 := f.ne o.st.great (fun ps z => by cases z)
    exact h (.ref p) (upd Hs' p (.lst vs)) H' (a.trans (Sub.upd e)) (b.share g n1 n2 (fun ps z => by cases z)) (c.share f) (.lst upd_same (k.mono (Sub.upd e)))
  | _ => exact h
/-- .. and back, where the value is no list -/
theorem PV.plain {d : D} {fr : Bool} {Q : VK} (n : ∀ ds, d ≠ .lst ds) (h : PV K G fr Hs H d s Q) : PV K G false Hs H d s Q := by
  cases fr with
  | false => exact h
  | true => cases d <;> first
    | exact h
    | exact absurd rfl (n _)
theorem PV.of_plain {d : D} {fr : Bool} {Q : VK} (n : ∀ ds, d ≠ .lst ds) (h : PV K G false Hs H d s Q) : PV K G fr Hs H d s Q := by
  cases fr with
  | false => exact h
  | true => cases d <;> first
    | exact h
    | exact absurd rfl (n _)
theorem Kp.nw0 (k : Kp G Hs H Hs1 H1) (o1 : Ok G Hs1 H1 s1) {p : Addr} (n : Nw H1 p) : Nw H p := fun u r => by
  refine Classical.byContradiction fun h3 => ?_
  have h1 : p ≠ G.p0 := n.ne o1.st.dic (fun ps z => by cases z)
  have h2 : p ≠ G.g0 := n.ne o1.st.great (fun ps z => by cases z)
  exact h3 (n u (k p u r h1 h2 fun ps z => h3 ⟨ps, z⟩).1)
theorem Kp.nw (k : Kp G Hs H Hs1 H1) (o : Ok G Hs H s0) (o1 : Ok G Hs1 H1 s1) {p : Addr} (n : Nw H1 p) : Nw H p := k.nw0 o1 n
/-- from a later state -/
theorem PV.later {fr : Bool} {d : D} {Q : VK} (o : Ok G Hs H s0) (e : Sub Hs Hs1) (o1 : Ok G Hs1 H1 s1) (k : Kp G Hs H Hs1 H1) (h : PV K G fr Hs H d s Q) : PV K G fr Hs1 H1 d s Q := by
  cases fr with
  | false => exact fun v Hs' H' a b c r => h v Hs' H' (e.trans a) b (k.trans c) r
  | true => cases d <;> first
    | exact fun v Hs' H' a b c r => h v Hs' H' (e.trans a) b (k.trans c) r
    | exact fun p vs Hs' H' a b c n1 n2 q r => h p vs Hs' H' (e.trans a) b (k.trans c) n1 (k.nw o o1 n2) q r
theorem PR.later {α β : Type} {R : Hp → β → α → Prop} {a : α} {Q : β → Hp → Prop} (e : Sub Hs Hs1) (k : Kp G Hs H Hs1 H1) (h : PR G R Hs H a s Q) : PR G R Hs1 H1 a s Q :=
  fun v Hs' H' x y z r => h v Hs' H' (e.trans x) y (k.trans z) r
theorem PX.later {c : Nat} {fs : List D} (e : Sub Hs Hs1) (k : Kp G Hs H Hs1 H1) (h : PX K G E Hs H c fs s) : PX K G E Hs1 H1 c fs s :=
  fun v d Hs' H' x y z r => h v d Hs' H' (e.trans x) y (k.trans z) r
theorem Post.imp {α : Type} {r : Res α} {P P' : α → RS → Prop} (h : Post K G E Hs H r P) (i : ∀ a s, r = .ok a s → P a s → P' a s) : Post K G E Hs H r P' := by
  cases r with
  | ok a s => exact i a s rfl h
  | err c fs s => exact h
  | stuck => exact h
/-- one behind the other -/
theorem Post.bind {α β : Type} {r : Res α} {k : α → RS → Res β} {P : β → RS → Prop} (h : Post K G E Hs H (r.bind k) P) : Post K G E Hs H r fun a s' => Post K G E Hs H (k a s') P := by
  cases r with
  | ok a s => exact h
  | err c fs s => exact h
  | stuck => exact h
theorem Post.liftO {α : Type} {o : Option α} {P : α → RS → Prop} (h : Post K G E Hs H (Fw.liftO o s) P) : ∃ a, o = some a ∧ P a s := by
  cases o with
  | none => exact h.elim
  | some a => exact ⟨a, rfl, h⟩
theorem Post.ok {α : Type} {r : Res α} {P : α → RS → Prop} {a : α} (e : r = .ok a s) (h : Post K G E Hs H r P) : P a s := by
  subst e
  exact h
theorem Post.later {α : Type} {r : Res α} {P P' : α → RS → Prop} (e : Sub Hs Hs1) (k : Kp G Hs H Hs1 H1) (h : Post K G E Hs H r P) (i : ∀ a s, P a s → P' a s) : Post K G E Hs1 H1 r P' := by
  cases r with
  | ok a s => exact i a s h
  | err c fs s => exact PX.later e k h
  | stuck => exact h
end

/-! ### weakening of readings -/
section
variable {X : Cx} {e : Expr}
theorem _root_.L2.PE.weak {t t' : TE} (h : PE X e t) (i : ∀ σ H Q, t' σ H Q → t σ H Q) : PE X e t' := ⟨fun pins s σ H Q I q => h.run pins s σ H Q I (i σ H Q q)⟩
theorem _root_.L2.PT.weak {t t' : TT} (h : PT X e t) (i : ∀ σ H Q, t' σ H Q → t σ H Q) : PT X e t' := ⟨fun pins s σ H Q I q => h.run pins s σ H Q I (i σ H Q q)⟩
theorem _root_.L2.PA.weak {es : List Expr} {t t' : TA} (h : PA X es t) (i : ∀ σ H Q, t' σ H Q → t σ H Q) : PA X es t' := ⟨fun ps pins s σ H Q I q => h.run ps pins s σ H Q I (i σ H Q q)⟩
theorem _root_.L2.PS.weak {st : Stmt} {t t' : TS} (h : PS X st t) (i : ∀ D σ H, t' D σ H → t D σ H) : PS X st t' := ⟨fun pins s σ H D I q => h.run pins s σ H D I (i D σ H q)⟩
theorem _root_.L2.PSs.weak {st : List Stmt} {t t' : TS} (h : PSs X st t) (i : ∀ D σ H, t' D σ H → t D σ H) : PSs X st t' := ⟨fun pins s σ H D I q => h.run pins s σ H D I (i D σ H q)⟩
end

section
variable {K : PySem.W.Frag} {G : Gh} {E : XK} {X : Cx} {e : Expr}
/-- a finer reading gives the plain one -/
theorem tE_plain {f : Ev → RS → Res D} (h : PE X e (tE K G E true f)) : PE X e (tE K G E false f) := h.weak fun σ H Q ⟨Hs, en, s, o, r, p⟩ =>
  ⟨Hs, en, s, o, r, p.imp fun d s' _ q => PV.fresh o q⟩
/-- where no value is a list -/
theorem tE_fine {f : Ev → RS → Res D} (n : ∀ e s ds s', f e s ≠ .ok (.lst ds) s') (h : PE X e (tE K G E false f)) : PE X e (tE K G E true f) := h.weak fun σ H Q ⟨Hs, en, s, o, r, p⟩ =>
  ⟨Hs, en, s, o, r, p.imp fun d s' z q => PV.plain (fun ds y => n en s ds s' (by rw [z, y])) q⟩
/-- from an expression's wish to a reading of what follows -/
theorem tE_run {f : Ev → RS → Res D} {σ : St} {H : Hp} {Hs : Hp} {en : Ev} {s : RS} {P : D → RS → Prop} {Q : VK} (o : Ok G Hs H s) (r : EnvR K G Hs σ en) (p : Post K G E Hs H (f en s) P)
    (q : ∀ d s' v Hs' H', P d s' → Sub Hs Hs' → Ok G Hs' H' s' → Kp G Hs H Hs' H' → Rep K G Hs' v d → EnvR K G Hs' σ en → Q v H') : tE K G E false f σ H Q :=
  ⟨Hs, en, s, o, r, p.imp fun d s' _ z v Hs' H' a b c rp => q d s' v Hs' H' z a b c rp (r.mono a)⟩
theorem tA_run {f : Ev → RS → Res D} {σ : St} {H : Hp} {Hs : Hp} {en : Ev} {s : RS} {P : D → RS → Prop} {Q : List V → Hp → Prop} (o : Ok G Hs H s) (r : EnvR K G Hs σ en) (p : Post K G E Hs H (f en s) P)
    (q : ∀ d s', P d s' → ∃ ds, d = .tup ds ∧ ∀ vs Hs' H', Sub Hs Hs' → Ok G Hs' H' s' → Kp G Hs H Hs' H' → Reps K G Hs' vs ds → EnvR K G Hs' σ en → Q vs H') : tA K G E f σ H Q :=
  ⟨Hs, en, s, o, r, p.imp fun d s' _ z => let ⟨ds, e, k⟩ := q d s' z; ⟨ds, e, fun vs Hs' H' a b c rp => k vs Hs' H' a b c rp (r.mono a)⟩⟩
theorem tT_run {f : Ev → RS → Res D} {σ : St} {H : Hp} {Hs : Hp} {en : Ev} {s : RS} {P : D → RS → Prop} {Q : Bool → Hp → Prop} (o : Ok G Hs H s) (r : EnvR K G Hs σ en) (p : Post K G E Hs H (f en s) P)
    (q : ∀ d s', P d s' → ∃ b, d = .bl b ∧ ∀ Hs' H', Sub Hs Hs' → Ok G Hs' H' s' → Kp G Hs H Hs' H' → EnvR K G Hs' σ en → Q b H') : tT K G E f σ H Q :=
  ⟨Hs, en, s, o, r, p.imp fun d s' _ z => let ⟨b, e, k⟩ := q d s' z; ⟨b, e, fun b' Hs' H' a y c rp => by subst rp; exact k Hs' H' a y c (r.mono a)⟩⟩
end
end Fw

/-! FwBa: a tuple times 1 is itself. -/
namespace Fw
open PySem PySem.Spec L2 PyProof.Rows
theorem mul_one_meets (l : Addr) (its : Array Value) (n : Nat) (dd : Option Addr) (sl : Array (Option Value)) (u : Tok) :
    Meets (Builtin.«tuple.__mul__» ⟨[.ref l, .int 1 u], []⟩) (fun _ R s => s.heap.get? l = some { cls := .type "tuple", dict := dd, data := .seq its n, slots := sl } ∧ R (.ok (.ret (Value.ref l))) s) :=
  .of_wp fun prog w A R s h => by
    obtain ⟨hp, g, d, tk, os⟩ := s
    obtain ⟨hl, h⟩ := h
    have f1 := AutoSeq1.idx_int
    have c0 : (decide ((1 : Int) < -(2 ^ 63)) || decide ((1 : Int) ≥ 2 ^ 63)) = false := by decide
    have c1 : (its.isEmpty || (1 : Int) == 1) = true := by simp
    wp_walk using wpAny_loadPart' hl
    exact ⟨_, rfl, h⟩
/-- t * 1, t a tuple -/
def rMul1 (K : PySem.W.Frag) : R2 := fun x y H Q => ∃ l xs, x = .ref l ∧ y = .int 1 ∧ SqT K H l xs ∧ Q (.ref l) H
theorem op_mul1 {X : Cx} : OpR X (binaryOp .Mult) (rMul1 X.K) := by
  rintro pins s σ H x y v u Q I rx ry ⟨l, xs, rfl, rfl, hT, q⟩
  cases rx
  obtain ⟨t, rfl⟩ := ry
  obtain ⟨its, r, ⟨⟨cls, dd, data, sl⟩, ho, hc, n, hd⟩, hs⟩ := I.tuple hT
  cases (show cls = _ from hc)
  cases (show data = _ from hd)
  have isT : s.TypeIs (.ref l) "tuple" := ⟨_, ho, rfl⟩
  refine wpAny_binaryOp_repeat_ref (T := "tuple") (U := "int") (by decide) isT (fun s' => typeIs_int s' 1 t) noFill_tuple_mul F.fills_int_mul F.slot_int_rmul repeat_tuple F.slot_int_index.lookup ?_
  refine call_meets F.slot_int_rmul (typeIs_int s 1 t) F.entry_int_rmul (F.args_int_rmul_2 _ _) (int_rmul_tuple 1 t l _ n dd sl) ⟨ho, rfl, isT, ?_⟩
  exact call_meets F.slot_tuple_mul isT F.entry_tuple_mul (F.args_tuple_mul_2 _ _) (mul_one_meets l _ n dd sl t) ⟨ho, ⟨.ref l, H, I, rfl, q⟩⟩
end Fw

/-! FwC: operators, comparisons, subscripts, built-ins by values. -/
namespace Fw
open PySem L2 PyProof.Rows

def opB : BOp → Operator
  | .add => .Add | .sub => .Sub | .mul => .Mult | .fdiv => .FloorDiv | .mod => .Mod | .pow => .Pow
def opC : COp → CmpOp
  | .eq => .Eq | .ne => .NotEq | .lt => .Lt | .le => .LtE | .gt => .Gt | .ge => .GtE | .isN => .Is | .notN => .IsNot | .inn => .In | .nin => .NotIn
section
variable (K : PySem.W.Frag) (G : Gh)
/-- what a two-place operation on data asks of two values -/
def r2D (fr : Bool) (g : D → D → Option D) : R2 := fun x y H Q => ∃ Hs s dx dy d, Ok G Hs H s ∧ Rep K G Hs x dx ∧ Rep K G Hs y dy ∧ g dx dy = some d ∧ PV K G fr Hs H d s Q
def r2B (g : D → D → Option Bool) : R2 := fun x y H Q => ∃ Hs s dx dy b, Ok G Hs H s ∧ Rep K G Hs x dx ∧ Rep K G Hs y dy ∧ g dx dy = some b ∧ ∀ Hs' H', Sub Hs Hs' → Ok G Hs' H' s → Kp G Hs H Hs' H' → Q (.bl b) H'
end
section
variable {K : PySem.W.Frag} {G : Gh} {fr : Bool} {Hs H : Hp} {s : RS} {Q : VK}
theorem PV.now {d : D} {v : V} (o : Ok G Hs H s) (r : Rep K G Hs v d) (h : PV K G false Hs H d s Q) : Q v H := h v Hs H (Same.refl _) o (Kp.refl _ _ _) r
theorem PV.int {i : Int} (o : Ok G Hs H s) (h : PV K G fr Hs H (.int i) s Q) : Q (.int i) H := PV.now o (.int i) (PV.plain (fun _ z => by cases z) h)
theorem PV.bl {b : Bool} (o : Ok G Hs H s) (h : PV K G fr Hs H (.bl b) s Q) : Q (.bl b) H := PV.now o (.bl b) (PV.plain (fun _ z => by cases z) h)
theorem PV.non (o : Ok G Hs H s) (h : PV K G fr Hs H .non s Q) : Q .non H := PV.now o .non (PV.plain (fun _ z => by cases z) h)
/-- a new tuple -/
theorem PV.newT {ds : List D} {vs : List V} (o : Ok G Hs H s) (r : Reps K G Hs vs ds) (h : PV K G fr Hs H (.tup ds) s Q) (p : Addr) (n : H p = none) : Q (.ref p) (upd H p (.tup vs)) := by
  have h := PV.plain (fun _ z => by cases z) h
  exact h (.ref p) (upd Hs p (.tup vs)) _ (Sub.upd (o.free n)) (o.add n fun ps z => by cases z) (Kp.add n) (.tup (SqT.of upd_same) (r.mono (Sub.upd (o.free n))))
/-- a new list -/
theorem PV.newL {ds : List D} {vs : List V} (o : Ok G Hs H s) (r : Reps K G Hs vs ds) (h : PV K G true Hs H (.lst ds) s Q) (p : Addr) (n : H p = none) : Q (.ref p) (upd H p (.lst vs)) :=
  h p vs Hs _ (Same.refl _) (o.new n) (Kp.new n) (o.free n) (.of n) upd_same r
end

section
variable {X : Cx} {G : Gh}
theorem szOk_line {n : Nat} (h : szOk n = true) : n ≤ sizeLine := by
  rw [sizeLine_eq]
  exact of_decide_eq_true h
theorem strOk_app {x y : Str} (a : PyData.strOk x = true) (b : PyData.strOk y = true) : PyData.strOk (x ++ y) = true := by
  unfold PyData.strOk at a b ⊢
  show (x.cps ++ y.cps).all _ = true
  rw [Array.all_append, a, b]
  rfl
/-- a two-place operation on data -/
theorem op_bin (o : BOp) (op : Operator) (hop : op = opB o) : OpR X (binaryOp op) (r2D X.K G true (binD o)) := by
  intro pins s σ H x y v u Q I rx ry h
  obtain ⟨Hs, t, dx, dy, d, ok, px, py, e, q⟩ := h
  cases o with
  | add =>
    subst hop
    cases px with
    | int i => cases py with
      | int j =>
        cases e
        exact op_add pins s σ H _ _ v u Q I rx ry ⟨i, j, rfl, rfl, q.int ok⟩
      | _ => cases e
    | str a ha => cases py with
      | str b hb =>
        by_cases hz : szOk (a.length + b.length) = true
        · have e' : D.str (a ++ b) = d := by
            have e1 : (if szOk (a.length + b.length) = true then some (D.str (a ++ b)) else none) = some d := e
            rw [if_pos hz] at e1
            exact Option.some.inj e1
          subst e'
          exact op_add_str pins s σ H _ _ v u Q I rx ry ⟨a, b, rfl, rfl, szOk_line hz, PV.now ok (.str _ (strOk_app ha hb)) (PV.plain (fun _ z => by cases z) q)⟩
        · have e1 : (if szOk (a.length + b.length) = true then some (D.str (a ++ b)) else none) = some d := e
          rw [if_neg hz] at e1
          cases e1
      | _ => cases e
    | @tup a vs xs ha ra => cases py with
      | @tup b ws ys hb rb =>
        by_cases hz : szOk (xs.length + ys.length) = true
        · have e1 : (if szOk (xs.length + ys.length) = true then some (D.tup (xs ++ ys)) else none) = some d := e
          rw [if_pos hz] at e1
          cases e1
          have hl : vs.length + ws.length ≤ sizeLine := by rw [ra.length, rb.length]; exact szOk_line hz
          have q' := PV.plain (fun _ z => by cases z) q
          refine op_catA pins s σ H _ _ v u Q I rx ry ⟨a, b, vs, ws, rfl, rfl, sqT_mono ok.sub ha, sqT_mono ok.sub hb, hl, fun z => ?_, fun _ z => ?_, fun _ _ p n => q'.newT ok (ra.append rb) p n⟩
          · have z' := ra.nil_iff.mp z
            subst z'
            exact q'.now ok (.tup hb (by simpa using rb))
          · have z' := rb.nil_iff.mp z
            subst z'
            exact q'.now ok (.tup ha (by simpa using ra))
        · have e1 : (if szOk (xs.length + ys.length) = true then some (D.tup (xs ++ ys)) else none) = some d := e
          rw [if_neg hz] at e1
          cases e1
      | _ => cases e
    | @lst a vs xs ha ra => cases py with
      | @lst b ws ys hb rb =>
        by_cases hz : szOk (xs.length + ys.length) = true
        · have e1 : (if szOk (xs.length + ys.length) = true then some (D.lst (xs ++ ys)) else none) = some d := e
          rw [if_pos hz] at e1
          cases e1
          have hl : vs.length + ws.length ≤ sizeLine := by rw [ra.length, rb.length]; exact szOk_line hz
          exact op_cat pins s σ H _ _ v u Q I rx ry ⟨a, b, vs, ws, rfl, rfl, ok.sub _ _ ha, ok.sub _ _ hb, hl, fun p n => q.newL ok (ra.append rb) p n⟩
        · have e1 : (if szOk (xs.length + ys.length) = true then some (D.lst (xs ++ ys)) else none) = some d := e
          rw [if_neg hz] at e1
          cases e1
      | _ => cases e
    | _ => cases e
  | sub =>
    subst hop
    cases px with
    | int i => cases py with
      | int j =>
        cases e
        exact op_sub pins s σ H _ _ v u Q I rx ry ⟨i, j, rfl, rfl, q.int ok⟩
      | _ => cases e
    | _ => cases py <;> cases e
  | mul =>
    subst hop
    cases px with
    | int i => cases py with
      | int j =>
        have e1 : (if mulOk i j = true then some (D.int (i * j)) else none) = some d := e
        by_cases hz : mulOk i j = true
        · rw [if_pos hz] at e1
          cases e1
          unfold mulOk at hz
          simp only [Bool.or_eq_true, decide_eq_true_eq] at hz
          obtain ⟨t1, rfl⟩ := rx
          obtain ⟨t2, rfl⟩ := ry
          refine mul_int ⟨.int (i * j), H, I.tok _, ⟨_, rfl⟩, q.int ok⟩ ?_
          rcases hz with (hz | hz) | hz
          · exact .of_left (intBits_le_64 (by omega) (by omega))
          · exact .of_right (intBits_le_64 (by omega) (by omega))
          · exact CMulW.ok hz
        · rw [if_neg hz] at e1
          cases e1
      | _ => cases e
    | @tup a vs xs ha ra => cases py with
      | int j =>
        have e0 : (if j = 1 then some (D.tup xs) else if (!xs.isEmpty && decide (2 ≤ j) && decide (j ≤ 1000) && decide (xs.length ≤ 1000)) = true then some (D.tup (List.replicate j.toNat xs).flatten) else none) = some d := e
        by_cases hj1 : j = 1
        · subst hj1
          rw [if_pos rfl] at e0
          cases e0
          have q' := PV.plain (fun _ z => by cases z) q
          exact op_mul1 pins s σ H _ _ v u Q I rx ry ⟨a, vs, rfl, rfl, sqT_mono ok.sub ha, PV.now ok (.tup ha ra) q'⟩
        have e1 : (if (!xs.isEmpty && decide (2 ≤ j) && decide (j ≤ 1000) && decide (xs.length ≤ 1000)) = true then some (D.tup (List.replicate j.toNat xs).flatten) else none) = some d := by
          rw [if_neg hj1] at e0
          exact e0
        split at e1
        · rename_i hz
          cases e1
          simp only [Bool.and_eq_true, decide_eq_true_eq, Bool.not_eq_true', List.isEmpty_eq_false_iff] at hz
          obtain ⟨⟨⟨h1, h2⟩, h3⟩, h4⟩ := hz
          have q' := PV.plain (fun _ z => by cases z) q
          exact op_repT pins s σ H _ _ v u Q I rx ry ⟨a, j, vs, rfl, rfl, sqT_mono ok.sub ha, fun z => h1 (ra.nil_iff.mp z), h2, h3, by rw [ra.length]; exact h4, fun p n => q'.newT ok (ra.rep _) p n⟩
        · cases e1
      | _ => cases e
    | @lst a vs xs ha ra => cases py with
      | int j =>
        have e1 : (if (decide (-(2 ^ 63) ≤ j) && decide (j < 2 ^ 63) && szOk (xs.length * j.toNat)) = true then some (D.lst (List.replicate j.toNat xs).flatten) else none) = some d := e
        split at e1
        · rename_i hz
          cases e1
          simp only [Bool.and_eq_true, decide_eq_true_eq] at hz
          obtain ⟨⟨h1, h2⟩, h3⟩ := hz
          exact op_rep pins s σ H _ _ v u Q I rx ry ⟨a, j, vs, rfl, rfl, ok.sub _ _ ha, h1, h2, by rw [ra.length]; exact szOk_line h3, fun p n => q.newL ok (ra.rep _) p n⟩
        · cases e1
      | _ => cases e
    | _ => cases py <;> cases e
  | fdiv =>
    subst hop
    cases px with
    | int i => cases py with
      | int j =>
        have e1 : (if (decide (j ≠ 0) && decide (j.natAbs.log2 < 9000)) = true then some (D.int (i.fdiv j)) else none) = some d := e
        split at e1
        · rename_i hz
          cases e1
          simp only [Bool.and_eq_true, decide_eq_true_eq] at hz
          obtain ⟨t1, rfl⟩ := rx
          obtain ⟨t2, rfl⟩ := ry
          exact floordiv_int hz.1 ⟨.int (i.fdiv j), H, I.tok _, ⟨_, rfl⟩, q.int ok⟩ (.inl (PyProof.noPylong_of_log2 hz.2))
        · cases e1
      | _ => cases e
    | _ => cases py <;> cases e
  | mod =>
    subst hop
    cases px with
    | int i => cases py with
      | int j =>
        have e1 : (if decide (j ≠ 0) = true then some (D.int (i.fmod j)) else none) = some d := e
        split at e1
        · rename_i hz
          cases e1
          exact op_modN pins s σ H _ _ v u Q I rx ry ⟨i, j, rfl, rfl, of_decide_eq_true hz, q.int ok⟩
        · cases e1
      | _ => cases e
    | _ => cases py <;> cases e
  | pow =>
    subst hop
    cases px with
    | int i => cases py with
      | int j =>
        have e1 : (if (decide (0 ≤ j) && decide (j ≤ 1000000) && decide (i.natAbs < 2 ^ 64)) = true then some (D.int (i ^ j.toNat)) else none) = some d := e
        split at e1
        · rename_i hz
          cases e1
          simp only [Bool.and_eq_true, decide_eq_true_eq] at hz
          exact op_pow pins s σ H _ _ v u Q I rx ry ⟨i, j, rfl, rfl, ⟨hz.1.1, hz.1.2, hz.2⟩, q.int ok⟩
        · cases e1
      | _ => cases e
    | _ => cases py <;> cases e
end

/-! ### data as the library has it -/
section
variable {K : PySem.W.Frag} {G : Gh} {H H' : Hp}
mutual
theorem Rep.dp (e : Sub H H') : ∀ {d : D} {v : V}, Rep K G H v d → d.pln = true → Dp K H' v (toPy d) ∧ (toPy d).canLay0 = true
  | .non, _, .non, _ => ⟨.non, rfl⟩
  | .bl b, _, .bl _, _ => ⟨.bl b, rfl⟩
  | .int i, _, .int _, _ => ⟨.int i, rfl⟩
  | .str x, _, .str _ h, _ => ⟨.str x, h⟩
  | .tup xs, _, .tup h r, p => let ⟨a, b⟩ := Reps.dp e r p; ⟨.tup (sqT_mono e h) a, b⟩
  | .lst xs, _, .lst h r, p => let ⟨a, b⟩ := Reps.dp e r p; ⟨.lst (SqL.of (e _ _ h)) a, b⟩
theorem Reps.dp (e : Sub H H') : ∀ {ds : List D} {vs : List V}, Reps K G H vs ds → D.plns ds = true → DpAll K H' vs (toPys ds) ∧ PyData.canLayAll0 (toPys ds) = true
  | [], _, .nil, _ => ⟨.nil, rfl⟩
  | d :: ds, _, .cons h r, p => by
    have p' : d.pln = true ∧ D.plns ds = true := by simpa [D.plns] using p
    obtain ⟨a, b⟩ := Rep.dp e h p'.1
    obtain ⟨a2, b2⟩ := Reps.dp e r p'.2
    exact ⟨.cons a a2, by show (_ && _) = true; rw [b, b2]; rfl⟩
end
end
mutual
theorem eqv_py : ∀ a b : D, a.pln = true → b.pln = true → PyData.eqv (toPy a) (toPy b) = a.eqv b
  | .non, b, _, q => by cases b <;> first | rfl | cases q
  | .bl x, b, _, q => by cases b <;> first | rfl | cases q
  | .int x, b, _, q => by cases b <;> first | rfl | cases q
  | .str x, b, _, q => by cases b <;> first | rfl | cases q
  | .tup xs, b, p, q => by
    cases b <;> first | rfl | (cases q; done) | exact eqvs_py xs _ p q
  | .lst xs, b, p, q => by
    cases b <;> first | rfl | (cases q; done) | exact eqvs_py xs _ p q
  | .dic _ _, _, p, _ => by cases p
  | .ins _ _, _, p, _ => by cases p
  | .exc _ _, _, p, _ => by cases p
  | .st, _, p, _ => by cases p
  | .scr _, _, p, _ => by cases p
theorem eqvs_py : ∀ as bs : List D, D.plns as = true → D.plns bs = true → PyData.eqvAll (toPys as) (toPys bs) = D.eqvs as bs
  | [], [], _, _ => rfl
  | [], _ :: _, _, _ => rfl
  | _ :: _, [], _, _ => rfl
  | a :: as, b :: bs, p, q => by
    have p' : a.pln = true ∧ D.plns as = true := by simpa [D.plns] using p
    have q' : b.pln = true ∧ D.plns bs = true := by simpa [D.plns] using q
    show (_ && _) = (_ && _)
    rw [eqv_py a b p'.1 q'.1, eqvs_py as bs p'.2 q'.2]
end
mutual
theorem dle_py : ∀ (n : Nat) (a : D), a.dle n = true → (toPy a).depth ≤ n
  | _, .non, _ => Nat.zero_le _
  | _, .bl _, _ => Nat.zero_le _
  | _, .int _, _ => Nat.zero_le _
  | _, .str _, _ => Nat.zero_le _
  | n + 1, .tup xs, p => Nat.succ_le_succ (dles_py n xs p)
  | n + 1, .lst xs, p => Nat.succ_le_succ (dles_py n xs p)
  | 0, .tup _, p => by cases p
  | 0, .lst _, p => by cases p
  | _, .dic _ _, p => by cases p
  | _, .ins _ _, p => by cases p
  | _, .exc _ _, p => by cases p
  | _, .st, p => by cases p
  | _, .scr _, p => by cases p
theorem dles_py : ∀ (n : Nat) (as : List D), D.dles n as = true → PyData.depthAll (toPys as) ≤ n
  | _, [], _ => Nat.zero_le _
  | n, a :: as, p => by
    have p' : a.dle n = true ∧ D.dles n as = true := by simpa [D.dles] using p
    exact Nat.max_le.mpr ⟨dle_py n a p'.1, dles_py n as p'.2⟩
end
theorem toPys_map : ∀ xs : List D, toPys xs = xs.map toPy
  | [] => rfl
  | x :: xs => congrArg (toPy x :: ·) (toPys_map xs)
theorem plns_mem : ∀ {xs : List D}, D.plns xs = true → ∀ y ∈ xs, y.pln = true
  | x :: xs, p, y, h => by
    have p' : x.pln = true ∧ D.plns xs = true := by simpa [D.plns] using p
    rcases List.mem_cons.mp h with e | h
    · rw [e]
      exact p'.1
    · exact plns_mem p'.2 y h
theorem any_py {x : D} (hx : x.pln = true) {ys : List D} (hy : D.plns ys = true) : ((toPys ys).any fun z => PyData.eqv z (toPy x)) = ys.any fun y => y.eqv x := by
  rw [toPys_map, List.any_map]
  induction ys with
  | nil => rfl
  | cons y ys ih =>
    have p' : y.pln = true ∧ D.plns ys = true := by simpa [D.plns] using hy
    rw [List.any_cons, List.any_cons, ih p'.2]
    exact congrArg (· || _) (eqv_py y x p'.1 hx)

section
variable {X : Cx} {G : Gh}
theorem none_rep {K : PySem.W.Frag} {H : Hp} {v : V} {d : D} (r : Rep K G H v d) : decide (v = .non) = (match d with | .non => true | _ => false) := by
  cases r <;> simp
theorem nil_len {ds : List D} {n : Nat} (h : n = ds.length) : ((List.range (min n 0)).all (fun _ => true) && n == 0) = ds.isEmpty := by
  subst h
  rw [Bool.eq_iff_iff]
  simp
/-- a comparison of data -/
theorem op_cmp (o : COp) (op : CmpOp) (hop : op = opC o)
    (hu : X.A.units + 64 < cLine) : OpR X (compareOp op) (r2B X.K G (cmpD o)) := by
  intro pins s σ H x y v u Q I rx ry h
  obtain ⟨Hs, t, dx, dy, b, ok, px, py, e, q0⟩ := h
  have q : Q (.bl b) H := q0 Hs H (Same.refl _) ok (Kp.refl _ _ _)
  have two : ∀ {op : CmpOp} {g : Int → Int → Bool}, (∀ i j, dx = .int i → dy = .int j → b = g i j) → (∃ i, dx = .int i) → (∃ j, dy = .int j) → OpR X (compareOp op) (rI0 fun i j => .bl (g i j)) → wpAny (model X.prog X.w) X.A (compareOp op v u) (EP X pins σ Q) X.xe s := by
    intro op g hb hi hj rule
    obtain ⟨i, rfl⟩ := hi
    obtain ⟨j, rfl⟩ := hj
    cases px
    cases py
    refine rule pins s σ H _ _ v u Q I rx ry ⟨i, j, rfl, rfl, ?_⟩
    show Q (.bl (g i j)) H
    rw [← hb i j rfl rfl]
    exact q
  cases o with
  | eq =>
    subst hop
    have e1 : (if eqOk dx dy = true then some (dx.eqv dy) else nilEq dx dy) = some b := e
    split at e1
    · rename_i hz
      cases e1
      unfold eqOk at hz
      simp only [Bool.and_eq_true, Bool.or_eq_true] at hz
      obtain ⟨⟨p1, p2⟩, p3⟩ := hz
      obtain ⟨a1, c1⟩ := px.dp ok.sub p1
      obtain ⟨a2, c2⟩ := py.dp ok.sub p2
      obtain ⟨as, r1⟩ := Dp.reads I _ x v a1 rx
      obtain ⟨bs, r2⟩ := Dp.reads I _ y u a2 ry
      refine SeqAt.compareEq_reads r1 r2 c1 c2 ?_ ⟨.bl _, H, I, rfl, ?_⟩
      · rcases p3 with z | z
        · have := dle_py 20 _ z
          omega
        · have := dle_py 20 _ z
          omega
      · rw [eqv_py _ _ p1 p2]
        exact q
    · unfold nilEq at e1
      split at e1
      · cases e1
        cases px with
        | @tup a1 vs1 ds1 h1 r1 => cases py with
          | @tup a2 vs2 ds2 h2 r2 =>
            cases r2
            cases rx
            cases ry
            obtain ⟨its, ra, pa, _⟩ := I.tuple (sqT_mono ok.sub h1)
            obtain ⟨its2, rb, pb, _⟩ := I.tuple (sqT_mono ok.sub h2)
            cases rb
            refine SeqAt.RcAt.tuples (e := fun _ => true) pa pb (by omega) (fun j _ h => absurd h (by simp)) X.prog X.w X.xe _ ?_
            exact ⟨.bl _, H, I, rfl, (congrArg (fun b => Q (.bl b) H) (nil_len ((ra.length : vs1.length = its.length).symm.trans r1.length))).mpr q⟩
      · cases e1
  | ne =>
    subst hop
    have e1 : (if eqOk dx dy = true then some (!dx.eqv dy) else none) = some b := e
    split at e1
    · rename_i hz
      cases e1
      unfold eqOk at hz
      simp only [Bool.and_eq_true, Bool.or_eq_true] at hz
      obtain ⟨⟨p1, p2⟩, p3⟩ := hz
      obtain ⟨a1, c1⟩ := px.dp ok.sub p1
      obtain ⟨a2, c2⟩ := py.dp ok.sub p2
      obtain ⟨as, r1⟩ := Dp.reads I _ x v a1 rx
      obtain ⟨bs, r2⟩ := Dp.reads I _ y u a2 ry
      refine SeqAt.compareNe_reads r1 r2 c1 c2 ?_ ⟨.bl _, H, I, rfl, ?_⟩
      · rcases p3 with z | z
        · have := dle_py 20 _ z
          omega
        · have := dle_py 20 _ z
          omega
      · rw [eqv_py _ _ p1 p2]
        exact q
    · cases e1
  | lt =>
    subst hop
    cases px <;> first
      | (cases e; done)
      | (cases py <;> first
        | (cases e; done)
        | exact two (g := fun i j => decide (i < j)) (fun i j a b' => by cases a; cases b'; exact (Option.some.inj e).symm) ⟨_, rfl⟩ ⟨_, rfl⟩ op_lt)
  | le =>
    subst hop
    cases px <;> first
      | (cases e; done)
      | (cases py <;> first
        | (cases e; done)
        | exact two (g := fun i j => decide (i ≤ j)) (fun i j a b' => by cases a; cases b'; exact (Option.some.inj e).symm) ⟨_, rfl⟩ ⟨_, rfl⟩ op_le)
  | gt =>
    subst hop
    cases px <;> first
      | (cases e; done)
      | (cases py <;> first
        | (cases e; done)
        | exact two (g := fun i j => decide (j < i)) (fun i j a b' => by cases a; cases b'; exact (Option.some.inj e).symm) ⟨_, rfl⟩ ⟨_, rfl⟩ op_gt)
  | ge =>
    subst hop
    cases px <;> first
      | (cases e; done)
      | (cases py <;> first
        | (cases e; done)
        | exact two (g := fun i j => decide (j ≤ i)) (fun i j a b' => by cases a; cases b'; exact (Option.some.inj e).symm) ⟨_, rfl⟩ ⟨_, rfl⟩ op_ge)
  | isN =>
    subst hop
    have hcase : (∃ a0 b0, dx = .bl a0 ∧ dy = .bl b0 ∧ b = (a0 == b0)) ∨ dy = .non := by
      cases dx <;> cases dy <;> first | exact .inr rfl | exact .inl ⟨_, _, rfl, rfl, (Option.some.inj e).symm⟩ | cases e
    rcases hcase with ⟨a0, b0, rfl, rfl, rfl⟩ | hn
    · cases px
      cases py
      refine op_isBl pins s σ H _ _ v u Q I rx ry ⟨a0, b0, rfl, rfl, ?_⟩
      have hb : (decide (a0 = b0)) = (a0 == b0) := by cases a0 <;> cases b0 <;> rfl
      rw [hb]
      exact q
    subst hn
    cases py
    refine op_isN pins s σ H _ _ v u Q I rx ry ⟨rfl, ?_⟩
    have hb : b = decide (x = .non) := by
      rw [none_rep px]
      cases dx <;> exact (Option.some.inj e).symm
    rw [← hb]
    exact q
  | notN =>
    subst hop
    have hcase : (∃ a0 b0, dx = .bl a0 ∧ dy = .bl b0 ∧ b = (a0 != b0)) ∨ dy = .non := by
      cases dx <;> cases dy <;> first | exact .inr rfl | exact .inl ⟨_, _, rfl, rfl, (Option.some.inj e).symm⟩ | cases e
    rcases hcase with ⟨a0, b0, rfl, rfl, rfl⟩ | hn
    · cases px
      cases py
      refine op_notBl pins s σ H _ _ v u Q I rx ry ⟨a0, b0, rfl, rfl, ?_⟩
      have hb : (!decide (a0 = b0)) = (a0 != b0) := by cases a0 <;> cases b0 <;> rfl
      rw [hb]
      exact q
    subst hn
    cases py
    refine op_notN pins s σ H _ _ v u Q I rx ry ⟨rfl, ?_⟩
    have hb : b = !decide (x = .non) := by
      rw [none_rep px]
      cases dx <;> exact (Option.some.inj e).symm
    rw [← hb]
    exact q
  | inn =>
    subst hop
    have go : ∀ ys : List D, inOk dx ys = true → b = (ys.any fun z => z.eqv dx) → (dy = .tup ys ∨ dy = .lst ys) → wpAny (model X.prog X.w) X.A (compareOp .In v u) (EP X pins σ Q) X.xe s := by
      intro ys hz hb hd
      unfold inOk at hz
      simp only [Bool.and_eq_true] at hz
      obtain ⟨⟨p1, p2⟩, p3⟩ := hz
      obtain ⟨a1, c1⟩ := px.dp ok.sub p1
      obtain ⟨as, r1⟩ := Dp.reads I _ x v a1 rx
      have hd3 := dle_py 20 _ p3
      rcases hd with rfl | rfl
      · obtain ⟨a2, c2⟩ := py.dp ok.sub p2
        obtain ⟨bs, r2⟩ := Dp.reads I _ y u a2 ry
        refine SeqAt.in_tuple_reads r2 r1 c2 c1 (by omega) ⟨.bl _, H, I, rfl, ?_⟩
        rw [any_py p1 p2, ← hb]
        exact q
      · obtain ⟨a2, c2⟩ := py.dp ok.sub p2
        obtain ⟨bs, r2⟩ := Dp.reads I _ y u a2 ry
        refine SeqAt.in_list_reads r2 r1 c2 c1 (by omega) ⟨.bl _, H, I, rfl, ?_⟩
        rw [any_py p1 p2, ← hb]
        exact q
    cases dy with
    | tup ys =>
      have e1 : (if inOk dx ys = true then some (ys.any fun z => z.eqv dx) else none) = some b := by cases dx <;> exact e
      split at e1
      · rename_i hz
        exact go ys hz (Option.some.inj e1).symm (.inl rfl)
      · cases e1
    | lst ys =>
      have e1 : (if inOk dx ys = true then some (ys.any fun z => z.eqv dx) else none) = some b := by cases dx <;> exact e
      split at e1
      · rename_i hz
        exact go ys hz (Option.some.inj e1).symm (.inr rfl)
      · cases e1
    | _ => cases dx <;> cases e
  | nin =>
    subst hop
    have go : ∀ ys : List D, inOk dx ys = true → b = (!ys.any fun z => z.eqv dx) → (dy = .tup ys ∨ dy = .lst ys) → wpAny (model X.prog X.w) X.A (compareOp .NotIn v u) (EP X pins σ Q) X.xe s := by
      intro ys hz hb hd
      unfold inOk at hz
      simp only [Bool.and_eq_true] at hz
      obtain ⟨⟨p1, p2⟩, p3⟩ := hz
      obtain ⟨a1, c1⟩ := px.dp ok.sub p1
      obtain ⟨as, r1⟩ := Dp.reads I _ x v a1 rx
      have hd3 := dle_py 20 _ p3
      rcases hd with rfl | rfl
      · obtain ⟨a2, c2⟩ := py.dp ok.sub p2
        obtain ⟨bs, r2⟩ := Dp.reads I _ y u a2 ry
        refine SeqAt.notIn_tuple_reads r2 r1 c2 c1 (by omega) ⟨.bl _, H, I, rfl, ?_⟩
        rw [any_py p1 p2, ← hb]
        exact q
      · obtain ⟨a2, c2⟩ := py.dp ok.sub p2
        obtain ⟨bs, r2⟩ := Dp.reads I _ y u a2 ry
        refine SeqAt.notIn_list_reads r2 r1 c2 c1 (by omega) ⟨.bl _, H, I, rfl, ?_⟩
        rw [any_py p1 p2, ← hb]
        exact q
    cases dy with
    | tup ys =>
      have e1 : (if inOk dx ys = true then some (!ys.any fun z => z.eqv dx) else none) = some b := by cases dx <;> exact e
      split at e1
      · rename_i hz
        exact go ys hz (Option.some.inj e1).symm (.inl rfl)
      · cases e1
    | lst ys =>
      have e1 : (if inOk dx ys = true then some (!ys.any fun z => z.eqv dx) else none) = some b := by cases dx <;> exact e
      split at e1
      · rename_i hz
        exact go ys hz (Option.some.inj e1).symm (.inr rfl)
      · cases e1
    | _ => cases dx <;> cases e
theorem get_bind {α : Type} {xs : List α} {n : Nat} {i : Int} {d : α} (hn : xs.length = n) (e : ((L2.ixN n i).bind fun j => xs[j]?) = some d) : L2.atI xs i = some d := by
  subst hn
  exact e
theorem idx_rep {K : PySem.W.Frag} {H : Hp} {vs : List V} {ds : List D} {i : Int} {d : D} (r : Reps K G H vs ds) (e : ((L2.ixN ds.length i).bind fun j => ds[j]?) = some d) : ∃ v, L2.atI vs i = some v ∧ Rep K G H v d := by
  cases q : L2.ixN ds.length i with
  | none =>
    rw [q] at e
    cases e
  | some j =>
    rw [q] at e
    obtain ⟨v, a, b⟩ := r.get (i := j) (d := d) e
    refine ⟨v, ?_, b⟩
    unfold L2.atI
    rw [r.length, q]
    exact a
/-- a subscript -/
theorem op_idx : IxR X (r2D X.K G false idxD) := by
  intro ve se pins s σ H x y v u Q I rx ry h hsub
  obtain ⟨Hs, t, dx, dy, d, ok, px, py, e, q⟩ := h
  cases px with
  | @tup a vs xs ha ra =>
    cases py with
    | int i =>
      obtain ⟨w, hw, rw'⟩ := idx_rep ra e
      exact ix_tup ve se pins s σ H _ _ v u Q I rx ry ⟨a, vs, i, w, rfl, rfl, sqT_mono ok.sub ha, hw, q.now ok rw'⟩ hsub
    | _ => cases e
  | @lst a vs xs ha ra =>
    cases py with
    | int i =>
      obtain ⟨w, hw, rw'⟩ := idx_rep ra e
      exact ix_list ve se pins s σ H _ _ v u Q I rx ry ⟨a, vs, i, w, rfl, rfl, SqL.of (ok.sub _ _ ha), hw, q.now ok rw'⟩ hsub
    | _ => cases e
  | _ => cases py <;> cases e
/-- a slice: a list's is new -/
def rSlD (K : PySem.W.Frag) (G : Gh) : V → Option Int → Option Int → Hp → VK → Prop := fun x lo hi H Q => ∃ Hs s dx d, Ok G Hs H s ∧ Rep K G Hs x dx ∧ slcD dx lo hi = some d ∧ PV K G true Hs H d s Q
theorem cut_whole {xs : List D} {lo hi : Option Int} (h : HT.sIx xs.length 0 lo = 0 ∧ HT.sIx xs.length xs.length hi = xs.length) : cutD xs lo hi = xs := by
  unfold cutD
  rw [h.1, h.2]
  simp
theorem op_slc : SlR X (rSlD X.K G) := by
  intro pins s σ H x v vl vu lo hi sl Q I rx hs pl pu h
  obtain ⟨Hs, t, dx, d, ok, px, e, q⟩ := h
  cases px with
  | @tup a vs xs ha ra =>
    cases e
    have q' := PV.plain (fun _ z => by cases z) q
    refine sl_tupA pins s σ H _ v vl vu lo hi sl Q I rx hs pl pu ⟨a, vs, rfl, sqT_mono ok.sub ha, fun hw => ?_, fun _ p n => q'.newT ok (cut_reps ra lo hi) p n⟩
    rw [ra.length] at hw
    rw [cut_whole hw] at q'
    exact q'.now ok (.tup ha ra)
  | @lst a vs xs ha ra =>
    cases e
    exact sl_list pins s σ H _ v vl vu lo hi sl Q I rx hs pl pu ⟨a, vs, rfl, SqL.of (ok.sub _ _ ha), fun p n => q.newL ok (cut_reps ra lo hi) p n⟩
  | _ => cases e
/-- .. negated -/
theorem op_neg : UnR X (unaryOp .USub) (fun x H Q => ∃ Hs s i, Ok G Hs H s ∧ Rep X.K G Hs x (.int i) ∧ PV X.K G false Hs H (.int (-i)) s Q) := by
  intro pins s σ H x v Q I rx h
  obtain ⟨Hs, t, i, ok, px, q⟩ := h
  cases px
  exact un_neg pins s σ H _ v Q I rx ⟨i, rfl, q.int ok⟩

/-! ### built-ins -/
def rBlt (K : PySem.W.Frag) (G : Gh) (f : Blt) : List V → Hp → VK → Prop := fun xs H Q => ∃ Hs s ds d, Ok G Hs H s ∧ Reps K G Hs xs ds ∧ bltD f ds = some d ∧ PV K G false Hs H d s Q
def bltV : Blt → Value
  | .len => .builtin "len" | .abs => .builtin "abs" | .min2 => .builtin "min" | .max2 => .builtin "max" | .minl => .builtin "min" | .maxl => .builtin "max"
  | .sum => .builtin "sum" | .any => .builtin "any" | .all => .builtin "all" | .int => .type "int"
theorem intsD_vals {K : PySem.W.Frag} {H : Hp} : ∀ {ds : List D} {vs : List V} {is : List Int}, intsD ds = some is → Reps K G H vs ds → vs = is.map V.int
  | [], _, _, e, .nil => by
    cases e
    rfl
  | d :: ds, _, is, e, .cons h r => by
    cases d with
    | int i =>
      cases h
      cases q : intsD ds with
      | none =>
        have e' : (intsD ds).map (i :: ·) = some is := e
        rw [q] at e'
        cases e'
      | some js =>
        have e' : (intsD ds).map (i :: ·) = some is := e
        rw [q] at e'
        cases e'
        rw [intsD_vals q r]
        rfl
    | _ => cases e
theorem boolsD_vals {K : PySem.W.Frag} {H : Hp} : ∀ {ds : List D} {vs : List V} {is : List Bool}, boolsD ds = some is → Reps K G H vs ds → vs = is.map V.bl
  | [], _, _, e, .nil => by
    cases e
    rfl
  | d :: ds, _, is, e, .cons h r => by
    cases d with
    | bl i =>
      cases h
      cases q : boolsD ds with
      | none =>
        have e' : (boolsD ds).map (i :: ·) = some is := e
        rw [q] at e'
        cases e'
      | some js =>
        have e' : (boolsD ds).map (i :: ·) = some is := e
        rw [q] at e'
        cases e'
        rw [boolsD_vals q r]
        rfl
    | _ => cases e
theorem maxI_le : ∀ (r : List Int) (m : Int), m ≤ maxI m r ∧ (∀ y ∈ r, y ≤ maxI m r) ∧ (maxI m r = m ∨ maxI m r ∈ r)
  | [], m => ⟨Int.le_refl _, (fun _ h => nomatch h), .inl rfl⟩
  | y :: r, m => by
    obtain ⟨h1, h2, h3⟩ := maxI_le r (if m < y then y else m)
    have hm : m ≤ (if m < y then y else m) ∧ y ≤ (if m < y then y else m) := by split <;> omega
    refine ⟨Int.le_trans hm.1 h1, fun z hz => ?_, ?_⟩
    · rcases List.mem_cons.mp hz with e | hz
      · rw [e]
        exact Int.le_trans hm.2 h1
      · exact h2 z hz
    · rcases h3 with e | e
      · have e' : maxI m (y :: r) = (if m < y then y else m) := e
        rw [e']
        split
        · exact .inr List.mem_cons_self
        · exact .inl rfl
      · exact .inr (List.mem_cons_of_mem _ e)
theorem minI_le : ∀ (r : List Int) (m : Int), minI m r ≤ m ∧ (∀ y ∈ r, minI m r ≤ y) ∧ (minI m r = m ∨ minI m r ∈ r)
  | [], m => ⟨Int.le_refl _, (fun _ h => nomatch h), .inl rfl⟩
  | y :: r, m => by
    obtain ⟨h1, h2, h3⟩ := minI_le r (if y < m then y else m)
    have hm : (if y < m then y else m) ≤ m ∧ (if y < m then y else m) ≤ y := by split <;> omega
    refine ⟨Int.le_trans h1 hm.1, fun z hz => ?_, ?_⟩
    · rcases List.mem_cons.mp hz with e | hz
      · rw [e]
        exact Int.le_trans h1 hm.2
      · exact h2 z hz
    · rcases h3 with e | e
      · have e' : minI m (y :: r) = (if y < m then y else m) := e
        rw [e']
        split
        · exact .inr List.mem_cons_self
        · exact .inl rfl
      · exact .inr (List.mem_cons_of_mem _ e)
theorem call_blt (f : Blt) (hc : X.calm = true) : CallR X (bltV f) (rBlt X.K G f) := by
  intro pins s σ H xs us Q I r h
  obtain ⟨Hs, t, ds, d, ok, pr, e, q⟩ := h
  have one : ∀ {g : D → Option D}, (∀ ys, bltD f ys = match ys with | [y] => g y | _ => none) → ∃ v y, xs = [v] ∧ Rep X.K G Hs v y ∧ g y = some d := by
    intro g hg
    rw [hg] at e
    cases pr with
    | nil => cases e
    | cons h1 r1 => cases r1 with
      | nil => exact ⟨_, _, rfl, h1, e⟩
      | cons _ _ => cases e
  cases f with
  | len =>
    obtain ⟨v, y, rfl, hv, e⟩ := one (g := fun y => bltD .len [y]) (fun ys => by
      cases ys with
      | nil => rfl
      | cons y r => cases r with
        | nil => rfl
        | cons _ _ => cases y <;> rfl)
    cases hv with
    | @tup a vs xs ha ra =>
      cases e
      refine call_len pins s σ H _ us Q I r ⟨_, vs.length, rfl, .inr ⟨vs, sqT_mono ok.sub ha, rfl⟩, ?_⟩
      rw [ra.length]
      exact q.int ok
    | @lst a vs xs ha ra =>
      cases e
      refine call_len pins s σ H _ us Q I r ⟨_, vs.length, rfl, .inl ⟨vs, SqL.of (ok.sub _ _ ha), rfl⟩, ?_⟩
      rw [ra.length]
      exact q.int ok
    | @scr a vs n ha hn =>
      cases e
      refine call_len pins s σ H _ us Q I r ⟨_, vs.length, rfl, .inl ⟨vs, Same.seq ok.sub ha, rfl⟩, ?_⟩
      rw [hn]
      exact q.int ok
    | str x hx =>
      have e1 : (if szOk x.length = true then some (D.int x.length) else none) = some d := e
      split at e1
      · rename_i hz
        cases e1
        exact call_len pins s σ H _ us Q I r ⟨_, x.length, rfl, ⟨szOk_line hz, rfl⟩, q.int ok⟩
      · cases e1
    | _ => cases e
  | abs =>
    obtain ⟨v, y, rfl, hv, e⟩ := one (g := fun y => bltD .abs [y]) (fun ys => by
      cases ys with
      | nil => rfl
      | cons y r => cases r with
        | nil => rfl
        | cons _ _ => cases y <;> rfl)
    cases hv with
    | int i =>
      cases e
      exact call_abs pins s σ H _ us Q I r ⟨i, rfl, q.int ok⟩
    | _ => cases e
  | min2 =>
    cases pr with
    | nil => cases e
    | cons h1 r1 => cases r1 with
      | nil => cases h1 <;> cases e
      | cons h2 r2 => cases r2 with
        | nil => cases h1 <;> first
          | (cases e; done)
          | (cases h2 <;> first
            | (cases e; done)
            | (cases e; exact call_min2 hc pins s σ H _ us Q I r ⟨_, _, rfl, q.int ok⟩))
        | cons _ _ => cases h1 <;> first
          | (cases e; done)
          | (cases h2 <;> cases e)
  | max2 =>
    cases pr with
    | nil => cases e
    | cons h1 r1 => cases r1 with
      | nil => cases h1 <;> cases e
      | cons h2 r2 => cases r2 with
        | nil => cases h1 <;> first
          | (cases e; done)
          | (cases h2 <;> first
            | (cases e; done)
            | (cases e; exact call_max2 hc pins s σ H _ us Q I r ⟨_, _, rfl, q.int ok⟩))
        | cons _ _ => cases h1 <;> first
          | (cases e; done)
          | (cases h2 <;> cases e)
  | minl =>
    obtain ⟨v, y, rfl, hv, e⟩ := one (g := fun y => bltD .minl [y]) (fun ys => by
      cases ys with
      | nil => rfl
      | cons y r => cases r with
        | nil => rfl
        | cons _ _ => cases y <;> rfl)
    cases hv with
    | @lst a vs xs ha ra =>
      have e1 : (match intsD xs with | some (i :: r) => some (D.int (minI i r)) | _ => none) = some d := e
      split at e1
      · rename_i i r' hi
        cases e1
        have hv := intsD_vals hi ra
        obtain ⟨m1, m2, m3⟩ := minI_le r' i
        refine cr_min hc pins s σ H _ us Q I r ⟨a, i :: r', rfl, ?_, by simp, fun m hm hy => ?_⟩
        · rw [← hv]
          exact SqL.of (ok.sub _ _ ha)
        · have e : m = minI i r' := by
            have a1 : m ≤ minI i r' := by
              rcases m3 with z | z
              · rw [z]
                exact hy _ List.mem_cons_self
              · exact hy _ (List.mem_cons_of_mem _ z)
            have a2 : minI i r' ≤ m := by
              rcases List.mem_cons.mp hm with z | z
              · rw [z]
                exact m1
              · exact m2 _ z
            omega
          rw [e]
          exact q.int ok
      · cases e1
    | _ => cases e
  | maxl =>
    obtain ⟨v, y, rfl, hv, e⟩ := one (g := fun y => bltD .maxl [y]) (fun ys => by
      cases ys with
      | nil => rfl
      | cons y r => cases r with
        | nil => rfl
        | cons _ _ => cases y <;> rfl)
    cases hv with
    | @lst a vs xs ha ra =>
      have e1 : (match intsD xs with | some (i :: r) => some (D.int (maxI i r)) | _ => none) = some d := e
      split at e1
      · rename_i i r' hi
        cases e1
        have hv := intsD_vals hi ra
        obtain ⟨m1, m2, m3⟩ := maxI_le r' i
        refine cr_max hc pins s σ H _ us Q I r ⟨a, i :: r', rfl, ?_, by simp, fun m hm hy => ?_⟩
        · rw [← hv]
          exact SqL.of (ok.sub _ _ ha)
        · have e : m = maxI i r' := by
            have a1 : maxI i r' ≤ m := by
              rcases m3 with z | z
              · rw [z]
                exact hy _ List.mem_cons_self
              · exact hy _ (List.mem_cons_of_mem _ z)
            have a2 : m ≤ maxI i r' := by
              rcases List.mem_cons.mp hm with z | z
              · rw [z]
                exact m1
              · exact m2 _ z
            omega
          rw [e]
          exact q.int ok
      · cases e1
    | _ => cases e
  | sum =>
    obtain ⟨v, y, rfl, hv, e⟩ := one (g := fun y => bltD .sum [y]) (fun ys => by
      cases ys with
      | nil => rfl
      | cons y r => cases r with
        | nil => rfl
        | cons _ _ => cases y <;> rfl)
    cases hv with
    | @lst a vs xs ha ra =>
      have e1 : (intsD xs).map (fun is => D.int is.sum) = some d := e
      cases hi : intsD xs with
      | none =>
        rw [hi] at e1
        cases e1
      | some is =>
        rw [hi] at e1
        cases e1
        have hv := intsD_vals hi ra
        refine cr_sum hc pins s σ H _ us Q I r ⟨a, is, rfl, ?_, q.int ok⟩
        rw [← hv]
        exact SqL.of (ok.sub _ _ ha)
    | _ => cases e
  | any =>
    obtain ⟨v, y, rfl, hv, e⟩ := one (g := fun y => bltD .any [y]) (fun ys => by
      cases ys with
      | nil => rfl
      | cons y r => cases r with
        | nil => rfl
        | cons _ _ => cases y <;> rfl)
    cases hv with
    | @lst a vs xs ha ra =>
      have e1 : (boolsD xs).map (fun bs => D.bl (bs.any id)) = some d := e
      cases hi : boolsD xs with
      | none =>
        rw [hi] at e1
        cases e1
      | some is =>
        rw [hi] at e1
        cases e1
        have hv := boolsD_vals hi ra
        refine cr_any hc pins s σ H _ us Q I r ⟨a, is, rfl, ?_, q.bl ok⟩
        rw [← hv]
        exact SqL.of (ok.sub _ _ ha)
    | _ => cases e
  | all =>
    obtain ⟨v, y, rfl, hv, e⟩ := one (g := fun y => bltD .all [y]) (fun ys => by
      cases ys with
      | nil => rfl
      | cons y r => cases r with
        | nil => rfl
        | cons _ _ => cases y <;> rfl)
    cases hv with
    | @lst a vs xs ha ra =>
      have e1 : (boolsD xs).map (fun bs => D.bl (bs.all id)) = some d := e
      cases hi : boolsD xs with
      | none =>
        rw [hi] at e1
        cases e1
      | some is =>
        rw [hi] at e1
        cases e1
        have hv := boolsD_vals hi ra
        refine cr_all hc pins s σ H _ us Q I r ⟨a, is, rfl, ?_, q.bl ok⟩
        rw [← hv]
        exact SqL.of (ok.sub _ _ ha)
    | _ => cases e
  | int =>
    obtain ⟨v, y, rfl, hv, e⟩ := one (g := fun y => bltD .int [y]) (fun ys => by
      cases ys with
      | nil => rfl
      | cons y r => cases r with
        | nil => rfl
        | cons _ _ => cases y <;> rfl)
    cases hv with
    | int i =>
      cases e
      exact call_int1 pins s σ H _ us Q I r (.inl ⟨i, rfl, q.int ok⟩)
    | bl b =>
      cases e
      exact call_int1 pins s σ H _ us Q I r (.inr ⟨b, rfl, q.int ok⟩)
    | _ => cases e
end
end Fw

/-! FwCa: a tuple turned round by a slice; repr of lists and tuples. -/
namespace Fw
open PySem L2 PyProof.Rows PySem.Spec
section
variable {prog : Program} {w : World} {A : Around} {E : Value → Shared → Prop} {s : Shared}
theorem rev_pick (xs : Array Value) : ((List.range xs.size).filterMap fun (m : Nat) => xs[((((xs.size : Nat) : Int) - 1) + (m : Int) * (-1)).toNat]?).toArray = xs.toList.reverse.toArray := by
  congr 1
  apply List.ext_getElem?
  intro i
  have all : ∀ (l : List Nat), (∀ m ∈ l, m < xs.size) → (l.filterMap fun (m : Nat) => xs[((((xs.size : Nat) : Int) - 1) + (m : Int) * (-1)).toNat]?) = l.map fun m => xs.getD (xs.size - 1 - m) .none := by
    intro l
    induction l with
    | nil => intro _; rfl
    | cons m r ih =>
      intro hl
      have hm := hl m List.mem_cons_self
      have e : ((((xs.size : Nat) : Int) - 1) + (m : Int) * (-1)).toNat = xs.size - 1 - m := by omega
      rw [List.filterMap_cons, e, Array.getElem?_eq_getElem (by omega), List.map_cons, ih fun k hk => hl k (List.mem_cons_of_mem _ hk)]
      congr 1
      unfold Array.getD
      rw [dif_pos (by omega)]
      rfl
  rw [all _ fun m hm => List.mem_range.mp hm, List.getElem?_map]
  by_cases hi : i < xs.size
  · rw [List.getElem?_range hi, List.getElem?_reverse (by simpa using hi)]
    simp only [Option.map_some, Array.length_toList, Array.getElem?_toList]
    unfold Array.getD
    rw [dif_pos (by omega), Array.getElem?_eq_getElem (by omega)]
    rfl
  · rw [List.getElem?_eq_none (by simpa using hi), List.getElem?_eq_none (by simpa using hi)]
    rfl
theorem rev_applied {sl : Addr} {vs : Value} {n : Nat} {Q : Int × Int × Nat → Shared → Prop} (hs : s.heap.IsSliceOf sl .none .none vs) (ps : IsPart vs (some (-1))) (h : Q (((n : Nat) : Int) - 1, -1, n) s) :
    wpAny (model prog w) A (Builtin.Slice.sliceApplied (.ref sl) (pure (n : Int))) Q E s := by
  obtain ⟨oz, z1, z2, z3⟩ := id hs
  unfold Builtin.Slice.sliceApplied Builtin.Slice.sliceFields
  refine wpAny_bind (wpAny_bind (wpAny_field z1 z3 (x := .none) rfl ?_))
  refine wpAny_bind (wpAny_field z1 z3 (x := .none) rfl ?_)
  refine wpAny_bind (wpAny_field z1 z3 (x := vs) rfl (wpAny_pure ?_))
  refine wpAny_bind (HT.slicePart_ ps ?_)
  show wpAny _ _ (if ((-1 : Int) == 0) = true then _ else _) _ _ s
  rw [if_neg (by decide)]
  refine wpAny_bind (HT.slicePart_ .none ?_)
  refine wpAny_bind (HT.slicePart_ .none (wpAny_bind (wpAny_pure ?_)))
  show wpAny _ _ (pure ((((n : Nat) : Int) - 1), (-1 : Int), Builtin.Slice.slicePlaces (((n : Nat) : Int) - 1) (-1) (-1))) _ _ s
  have e : Builtin.Slice.slicePlaces (((n : Nat) : Int) - 1) (-1) (-1) = n := by
    unfold Builtin.Slice.slicePlaces
    rw [if_neg (by decide)]
    by_cases hn : n = 0
    · subst hn
      rfl
    · rw [if_pos (by omega), show (-(-1 : Int)) = 1 by decide, Int.ediv_one]
      omega
  rw [e]
  exact wpAny_pure h
theorem rev_item {t sl : Addr} {its : Array Value} {vs : Value} {Q : Value → Shared → Prop} (ht : IsTup s.heap t its) (hs : s.heap.IsSliceOf sl .none .none vs) (ps : IsPart vs (some (-1)))
    (h : Q (.ref s.heap.objs.size) { s with heap := s.heap.push { cls := .type "tuple", data := .seq its.toList.reverse.toArray } }) (hz : its.size ≤ sizeLine) : wpAny (model prog w) A (getItem (.ref t) (.ref sl)) Q E s := by
  have hk : sizeOk (.seq its.toList.reverse.toArray) := by
    show its.toList.reverse.toArray.size ≤ sizeLine
    rw [List.size_toArray, List.length_reverse, Array.length_toList]
    exact hz
  obtain ⟨oz, z1, z2, z3⟩ := id hs
  have tz : s.TypeIs (.ref sl) "slice" := ⟨oz, z1, z2⟩
  unfold getItem
  try with_reducible refine wpAny_holding ?_
  first | refine wpAny_bind (wpAny_pure ?_) | skip
  refine wpAny_bind (wpAny_sequenceKey ht.typeIs (by decide) ?_)
  refine wpAny_bind (wpAny_callSpecial?_slot (name := Str.ofString "__getitem__") ht.typeIs slot_tuple_getitem ?_)
  refine wpAny_call_entry slot_tuple_getitem ht.typeIs entry_tuple_getitem ?_ (args_tuple_getitem _ _)
  show wpAny _ _ (Builtin.Tuple.tupleItemsOf (.ref t) >>= _) _ _ s
  refine wpAny_bind (tupleItemsOf_ ht ?_)
  refine wpAny_bind (wpAny_typeOf tz ?_)
  rw [if_pos (by decide)]
  refine wpAny_bind (rev_applied hs ps ?_)
  have hno : ¬ (((((its.size : Nat) : Int) - 1) == 0 && (-1 : Int) == 1 && its.size == its.size) = true) := by
    intro q
    rw [Bool.and_eq_true, Bool.and_eq_true] at q
    exact absurd q.1.2 (by decide)
  show wpAny _ _ (if ((((its.size : Nat) : Int) - 1) == 0 && (-1 : Int) == 1 && its.size == its.size) = true then _ else _) _ _ s
  rw [if_neg hno, rev_pick]
  first
    | exact wpAny_bind (m := Builtin.Tuple.tupleExact _) (wpAny_newObj_type (wpAny_pure ⟨_, rfl, wpAny_pure h⟩) hk)
    | exact wpAny_bind (m := Builtin.Tuple.tupleExact _) (wpAny_newObj_type (wpAny_bind (wpAny_pure (wpAny_pure ⟨_, rfl, wpAny_pure h⟩))) hk)
    | exact wpAny_bind (wpAny_bind (m := Builtin.Tuple.tupleExact _) (wpAny_newObj_type (wpAny_pure (wpAny_pure ⟨_, rfl, wpAny_pure h⟩)) hk))
    | exact wpAny_bind (wpAny_bind (m := Builtin.Tuple.tupleExact _) (wpAny_newObj_type (wpAny_pure ⟨_, rfl, wpAny_pure h⟩) hk))
end
/-- xs[::-1] of a tuple -/
def tRevT (K : PySem.W.Frag) (te : TE) : TE := fun σ H Q => te σ H fun x H1 => ∃ a xs, x = .ref a ∧ SqT K H1 a xs ∧ ∀ p, H1 p = none → Q (.ref p) (upd H1 p (.tup xs.reverse))
theorem pe_revT {X : Cx} {e : Expr} {te : TE} {k : Nat} {p1 p2 p3 pos : Pos} (he : PE X e te) : PE X (.Subscript e (.Slice none none (some (.UnaryOp .USub (.Constant (.int 1) k p1) p2)) p3) pos) (tRevT X.K te) := by
  refine ⟨fun pins s σ H Q I h => ?_⟩
  refine Subscript_ (thn (he.run pins s σ H _ I h) fun v s1 ⟨x, H1, I1, r1, a, xs, ex, hx, q⟩ => ?_)
  subst ex
  cases r1
  have hst : PO X (some (.UnaryOp .USub (.Constant (.int 1) k p1) p2)) (tPart (tUn (rU fun i => .int (-i)) (tC (.int 1)))) := po_some (pe_un un_neg pe_int)
  refine wpAny_Slice (thn (po_none.run pins s1 σ H1 (fun o Ha => o = none ∧ Ha = H1) I1 ⟨rfl, rfl⟩) fun vl s2 ⟨l, Ha, I2, pl, el, e2⟩ => ?_)
  subst el e2
  cases pl
  refine thn (po_none.run pins s2 σ Ha (fun o Hc => o = none ∧ Hc = Ha) I2 ⟨rfl, rfl⟩) fun vu s3 ⟨u, Hc, I3, pu, eu, e3⟩ => ?_
  subst eu e3
  cases pu
  refine thn (hst.run pins s3 σ Hc (fun o Hd => o = some (-1) ∧ Hd = Hc) I3 ⟨1, rfl, -1, rfl, rfl, rfl⟩) fun vs s4 ⟨o, Hd, I4, ps, eo, e4⟩ => ?_
  subst eo e4
  have I5 : Inv X pins σ Hd { s4 with heap := s4.heap.push { cls := .type "slice", data := .fields #[.none, .none, vs] } } := I4.kept (t' := s4.toks) fun b ob q => Heap.get?_push_of_some _ q
  obtain ⟨its, r, ht, hz⟩ := I5.tuple hx
  have hlen := r.length
  show wpAny (model X.prog X.w) X.A (subscriptTail e (.Slice none none (some (.UnaryOp .USub (.Constant (.int 1) k p1) p2)) p3) (.ref a) (.ref s4.heap.objs.size)) (EP X pins σ Q) X.xe _
  refine tail_any (ops := [.ref a, .ref s4.heap.objs.size]) ht.typeIs slot_tuple_getitem.lookup ?_ (by with_unfolding_all rfl)
  refine rev_item ht (Heap.IsSliceOf.new _ .none .none vs) ps ?_ (by rw [List.size_toArray, ← hlen]; exact hz)
  refine ⟨.ref _, _, I5.laid (t' := s4.toks) (o := .tup xs.reverse) (fun b ob q => Heap.get?_push_of_some _ q) (Nat.le_refl _) ?_, rfl, q _ (I5.hok.fresh (Nat.le_refl _))⟩
  exact ⟨by rw [List.length_reverse]; exact hz, _, r.reverse, IsTup.new _ _⟩
end Fw

/-! FwD: each code of an expression is sound for its construct. -/
namespace Fw
open PySem L2 PyProof.Rows

/-- what a def promises -/
def spD (K : PySem.W.Frag) (G : Gh) (g : List D → RS → Res D) : Sp := fun vs H Q E => ∃ Hs s ds, Ok G Hs H s ∧ Reps K G Hs vs ds ∧ Post K G E Hs H (g ds s) fun d s' => PV K G false Hs H d s' Q
/-- what an __init__ promises: the instance at the first argument is filled. H0: the heap before it was made -/
def spI (K : PySem.W.Frag) (G : Gh) (c : Nat) (g : List D → RS → Res D) : Sp := fun vs H Q E => ∃ Hs s ds H0 x dx ws, vs = .ref x :: ws ∧ Sub H0 H ∧ H0 x = none ∧ H x = some (.ins (G.ca c) dx []) ∧ Hs x = none ∧ Ok G Hs H s ∧ Reps K G Hs ws ds ∧
  Post K G E Hs H0 (g ds s) fun d s' => ∃ es, d = .ins c es ∧ ∀ (dx' : Addr) (fs : List (Str × V)) (Hs' H' : Hp), Sub Hs Hs' → Ok G Hs' H' s' → Kp G Hs H0 Hs' H' → Hs' x = none → H' x = some (.ins (G.ca c) dx' fs) → fs.map (·.1) = G.cf c → Reps K G Hs' (fs.map (·.2)) es → Q .non H'

/-! ### trees of arguments -/
def notStar : Expr → Bool
  | .Starred _ _ => false
  | _ => true
theorem starEach_cons {e : Expr} (h : notStar e = true) (es : List Expr) (env : Env) : starEach (e :: es) env = (false, eval e env) :: starEach es env := by
  cases e <;> first
    | (cases h; done)
    | rfl
theorem star_any : ∀ {es : List Expr} (env : Env) (pos : Pos), es.all notStar = true → (backTo pos (starEach es env)).any (·.1) = false
  | [], _, _, _ => rfl
  | e :: es, env, pos, h => by
    have h' : notStar e = true ∧ es.all notStar = true := by simpa using h
    rw [starEach_cons h'.1]
    exact star_any (es := es) env pos h'.2

section
variable {X : Cx} {G : Gh} {E : XK} {m : Mod} {a b c : Cd} {ea eb ec : Expr} {pos : Pos} {fr : Bool}
/-- the reading of a code -/
abbrev tC' (X : Cx) (G : Gh) (E : XK) (m : Mod) (fr : Bool) (c : Cd) : TE := tE X.K G E fr (evE m c)

theorem sE_var {i : Nat} {x : Str} (hN : X.N[i]? = some x) (hv : Vis X.env.scope x) (hd : (x == ("__debug__" : Str)) = false) (hcd : (x == ("__classdict__" : Str)) = false) : PE X (.Name x pos) (tC' X G E m false (.var i)) :=
  (pe_var hN hv hd hcd).weak fun σ H Q ⟨Hs, e, s, o, r, p⟩ => by
    have q : (match e[i]? with | some (some d) => Res.ok d s | _ => .stuck) = evE m (.var i) e s := rfl
    rw [← q] at p
    cases z : e[i]? with
    | none =>
      rw [z] at p
      exact p.elim
    | some o' => cases o' with
      | none =>
        rw [z] at p
        exact p.elim
      | some d =>
        rw [z] at p
        obtain ⟨v, h1, h2⟩ := r.get i d z
        exact ⟨v, h1, PV.now o h2 p⟩
/-- a constant, whatever the heap -/
theorem sE_lit {d : D} {e : Expr} {v : V} (h : PE X e (tC v)) (r : ∀ Hs, Rep X.K G Hs v d) : PE X e (tC' X G E m false (.lit d)) :=
  h.weak fun σ H Q ⟨Hs, en, s, o, _, p⟩ => PV.now o (r Hs) (show PV X.K G false Hs H d s Q from p)

/-- two codes one behind the other -/
theorem run2 {α : Type} {f g : Ev → RS → Res D} {σ : L2.St} {H : Hp} {Hs : Hp} {en : Ev} {s : RS} {P : α → RS → Prop} {R : V → V → Hp → Prop} {k : D → D → RS → Res α} (o : Ok G Hs H s) (r : EnvR X.K G Hs σ en)
    (p : Post X.K G E Hs H ((f en s).bind fun x s => (g en s).bind fun y s => k x y s) P)
    (q : ∀ dx dy s' v w Hs' H', Post X.K G E Hs' H' (k dx dy s') P → Sub Hs Hs' → Ok G Hs' H' s' → Kp G Hs H Hs' H' → Rep X.K G Hs' v dx → Rep X.K G Hs' w dy → EnvR X.K G Hs' σ en → R v w H') :
    tE X.K G E false f σ H fun x H1 => tE X.K G E false g σ H1 fun y H2 => R x y H2 :=
  tE_run o r p.bind fun dx s1 v Hs1 H1 p1 e1 o1 k1 r1 en1 => tE_run o1 en1 (p1.later e1 k1 (P' := P) (fun _ _ z => z)).bind fun dy s2 w Hs2 H2 p2 e2 o2 k2 r2 en2 =>
    q dx dy s2 v w Hs2 H2 (p2.later e2 k2 (P' := P) (fun _ _ z => z)) (e1.trans e2) o2 (k1.trans k2) (r1.mono e2) r2 en2
/-- a two-place operation -/
theorem sE_bin {o : BOp} {op : Operator} (hop : op = opB o)
    (ha : PE X ea (tC' X G E m false a)) (hb : PE X eb (tC' X G E m false b)) : PE X (.BinOp ea op eb pos) (tC' X G E m true (.bin o a b)) :=
  (pe_op (op_bin (G := G) o op hop) ha hb).weak fun σ H Q ⟨Hs, en, s, ok, r, p⟩ => run2 ok r p fun dx dy s' v w Hs' H' p' e' o' k' r1 r2 _ => by
    obtain ⟨d, hd, q⟩ := p'.liftO
    exact ⟨Hs', s', dx, dy, d, o', r1, r2, hd, q.later ok e' o' k'⟩
theorem asB_some {x : D} {b : Bool} (h : asB x = some b) : x = .bl b := by
  cases x <;> first
    | (cases h; done)
    | (cases h; rfl)
theorem rep_bl {K : PySem.W.Frag} {H : Hp} {v : V} {b : Bool} (h : Rep K G H v (.bl b)) : v = .bl b := by
  cases h
  rfl
/-- == and != of an instance, by the def of its class -/
def EqR (X : Cx) (G : Gh) (E : XK) (m : Mod) : Prop := ∀ (o : COp) (op : CmpOp), op = opC o → OpR X (compareOp op) fun x y H Q => ∃ Hs s dx dy f k, Ok G Hs H s ∧ Rep X.K G Hs x dx ∧ Rep X.K G Hs y dy ∧ eqOf m o dx dy = some (f, k) ∧
  Post X.K G E Hs H ((noErr (m.call f [dx, dy] s)).bind (notD k)) fun d s' => PV X.K G false Hs H d s' Q
def rCmp (X : Cx) (G : Gh) (E : XK) (m : Mod) (o : COp) : R2 := fun x y H Q => ∃ Hs s dx dy, Ok G Hs H s ∧ Rep X.K G Hs x dx ∧ Rep X.K G Hs y dy ∧ Post X.K G E Hs H (cmpE m o dx dy s) fun d s' => PV X.K G false Hs H d s' Q
theorem op_cmpE {o : COp} {op : CmpOp} (hop : op = opC o) (hu : X.A.units + 64 < cLine) (hq : EqR X G E m) : OpR X (compareOp op) (rCmp X G E m o) := by
  intro pins s σ H x y v u Q I rx ry h
  obtain ⟨Hs, t, dx, dy, ok, r1, r2, p⟩ := h
  unfold cmpE at p
  cases e : eqOf m o dx dy with
  | some fk =>
    obtain ⟨f, k⟩ := fk
    rw [e] at p
    exact hq o op hop pins s σ H x y v u Q I rx ry ⟨Hs, t, dx, dy, f, k, ok, r1, r2, e, p⟩
  | none =>
    rw [e] at p
    obtain ⟨d, hd, q⟩ := p.liftO
    cases hc : cmpD o dx dy with
    | none =>
      rw [hc] at hd
      cases hd
    | some b' =>
      rw [hc] at hd
      cases hd
      exact op_cmp (G := G) o op hop hu pins s σ H x y v u Q I rx ry ⟨Hs, t, dx, dy, b', ok, r1, r2, hc, fun Hs2 H2 e2 o2 k2 => q (.bl b') Hs2 H2 e2 o2 k2 (.bl b')⟩
theorem sE_cmp {o : COp} {op : CmpOp} (hop : op = opC o) (hq : EqR X G E m)
    (hu : X.A.units + 64 < cLine) (ha : PE X ea (tC' X G E m false a)) (hb : PE X eb (tC' X G E m false b)) (hm : behindInMarks op eb = false) : PE X (.Compare ea [op] [eb] pos) (tC' X G E m false (.cmp o a b)) :=
  (pe_cmpR (op_cmpE (G := G) hop hu hq) ha hb hm).weak fun σ H Q ⟨Hs, en, s, ok, r, p⟩ => run2 ok r p fun dx dy s' v w Hs' H' p' e' o' k' r1 r2 _ =>
    ⟨Hs', s', dx, dy, o', r1, r2, p'.imp fun d s2 _ q => q.later ok e' o' k'⟩
/-- .. as a test -/
theorem sT_cmp {o : COp} {op : CmpOp} (hop : op = opC o) (hq : EqR X G E m)
    (hu : X.A.units + 64 < cLine) (ha : PE X ea (tC' X G E m false a)) (hb : PE X eb (tC' X G E m false b)) (hm : behindInMarks op eb = false) : PT X (.Compare ea [op] [eb] pos) (tT X.K G E (evE m (.cmp o a b))) :=
  (pt_cmpR (op_cmpE (G := G) hop hu hq) ha hb hm).weak fun σ H Q ⟨Hs, en, s, ok, r, p⟩ => run2 ok r p fun dx dy s' v w Hs' H' p' e' o' k' r1 r2 _ =>
    ⟨Hs', s', dx, dy, o', r1, r2, p'.imp fun d s2 _ ⟨b, hb, q⟩ => by
      subst hb
      intro v Hs2 H2 e2 o2 k2 rv
      exact ⟨b, rep_bl rv, q b Hs2 H2 (e'.trans e2) o2 (k'.trans k2) rfl⟩⟩
/-- a op1 b op2 c -/
theorem sE_chain {o1 o2 : COp} {op1 op2 : CmpOp} (h1 : op1 = opC o1)
    (h2 : op2 = opC o2)
    (hu : X.A.units + 64 < cLine) (ha : PE X ea (tC' X G E m false a)) (hb : PE X eb (tC' X G E m false b)) (hc : PE X ec (tC' X G E m false c)) (hm : lastMarks [op1, op2] [eb, ec] = false) :
    PE X (.Compare ea [op1, op2] [eb, ec] pos) (tC' X G E m false (.chain o1 o2 a b c)) :=
  (pe_chain (op_cmp (G := G) o1 op1 h1 hu) (op_cmp (G := G) o2 op2 h2 hu) ha hb hc hm).weak fun σ H Q ⟨Hs, en, s, ok, r, p⟩ => run2 ok r p fun dx dy s' v w Hs' H' p' e' o' k' r1 r2 en1 => by
    obtain ⟨k, hk, p2⟩ := p'.bind.liftO
    refine ⟨Hs', s', dx, dy, k, o', r1, r2, hk, fun Hs2 H2 e2 oo2 k2 => ⟨k, rfl, ?_⟩⟩
    cases k with
    | false => exact (show PV X.K G false Hs H (.bl false) s' Q from p2) (.bl false) Hs2 H2 (e'.trans e2) oo2 (k'.trans k2) (.bl false)
    | true =>
      rw [if_pos rfl]
      rw [if_pos rfl] at p2
      refine tE_run oo2 (en1.mono e2) (p2.later e2 k2 (fun _ _ z => z)).bind fun dz s3 z Hs3 H3 p3 e3 o3 k3 r3 _ => ?_
      obtain ⟨d, hd, q⟩ := p3.liftO
      cases hc' : cmpD o2 dy dz with
      | none =>
        rw [hc'] at hd
        cases hd
      | some b' =>
        rw [hc'] at hd
        cases hd
        exact ⟨Hs3, s3, dy, dz, b', o3, r2.mono (e2.trans e3), r3, hc', fun Hs4 H4 e4 o4 k4 => q (.bl b') Hs4 H4 (((e'.trans e2).trans e3).trans e4) o4 (((k'.trans k2).trans k3).trans k4) (.bl b')⟩
theorem sT_chain {o1 o2 : COp} {op1 op2 : CmpOp} (h1 : op1 = opC o1) (h2 : op2 = opC o2)
    (hu : X.A.units + 64 < cLine) (ha : PE X ea (tC' X G E m false a)) (hb : PE X eb (tC' X G E m false b)) (hc : PE X ec (tC' X G E m false c)) (hm : lastMarks [op1, op2] [eb, ec] = false) :
    PT X (.Compare ea [op1, op2] [eb, ec] pos) (tT X.K G E (evE m (.chain o1 o2 a b c))) :=
  (pt_chain (op_cmp (G := G) o1 op1 h1 hu) (op_cmp (G := G) o2 op2 h2 hu) ha hb hc hm).weak fun σ H Q ⟨Hs, en, s, ok, r, p⟩ => run2 ok r p fun dx dy s' v w Hs' H' p' e' o' k' r1 r2 en1 => by
    obtain ⟨k, hk, p2⟩ := p'.bind.liftO
    refine ⟨Hs', s', dx, dy, k, o', r1, r2, hk, fun Hs2 H2 e2 oo2 k2 => ⟨k, rfl, ?_⟩⟩
    cases k with
    | false =>
      obtain ⟨b', hb', q⟩ := (show ∃ b, D.bl false = .bl b ∧ PR G (fun _ (x : Bool) (y : Bool) => x = y) Hs H b s' Q from p2)
      cases hb'
      exact ⟨false, rfl, q false Hs2 H2 (e'.trans e2) oo2 (k'.trans k2) rfl⟩
    | true =>
      rw [if_pos rfl]
      rw [if_pos rfl] at p2
      refine tE_run oo2 (en1.mono e2) (p2.later e2 k2 (fun _ _ z => z)).bind fun dz s3 z Hs3 H3 p3 e3 o3 k3 r3 _ => ?_
      obtain ⟨d, hd, b2, hb2, q⟩ := p3.liftO
      cases hc' : cmpD o2 dy dz with
      | none =>
        rw [hc'] at hd
        cases hd
      | some b' =>
        rw [hc'] at hd
        cases hd
        cases hb2
        exact ⟨Hs3, s3, dy, dz, b2, o3, r2.mono (e2.trans e3), r3, hc', fun Hs4 H4 e4 o4 k4 => ⟨b2, rfl, q b2 Hs4 H4 (((e'.trans e2).trans e3).trans e4) o4 (((k'.trans k2).trans k3).trans k4) rfl⟩⟩

/-! ### and, or, not, if -/
theorem sE_and {es : List Expr} (ha : PE X ea (tC' X G E m false a)) (hb : PE X (.BoolOp .And (eb :: es) pos) (tC' X G E m false b)) : PE X (.BoolOp .And (ea :: eb :: es) pos) (tC' X G E m false (.and a b)) :=
  (pe_and ha hb).weak fun σ H Q ⟨Hs, en, s, ok, r, p⟩ => tE_run ok r p.bind fun dx s1 v Hs1 H1 p1 e1 o1 k1 r1 en1 => by
    obtain ⟨k, hk, p2⟩ := p1.bind.liftO
    have hx := asB_some hk
    subst hx
    refine ⟨k, rep_bl r1, ?_⟩
    cases k with
    | false => exact (show PV X.K G false Hs H (.bl false) s1 Q from p2) (.bl false) Hs1 H1 e1 o1 k1 (.bl false)
    | true =>
      rw [if_pos rfl]
      rw [if_pos rfl] at p2
      exact ⟨Hs1, en, s1, o1, en1, p2.later e1 k1 fun d s' q => q.later ok e1 o1 k1⟩
theorem sE_or {es : List Expr} (ha : PE X ea (tC' X G E m false a)) (hb : PE X (.BoolOp .Or (eb :: es) pos) (tC' X G E m false b)) : PE X (.BoolOp .Or (ea :: eb :: es) pos) (tC' X G E m false (.or a b)) :=
  (pe_or ha hb).weak fun σ H Q ⟨Hs, en, s, ok, r, p⟩ => tE_run ok r p.bind fun dx s1 v Hs1 H1 p1 e1 o1 k1 r1 en1 => by
    obtain ⟨k, hk, p2⟩ := p1.bind.liftO
    have hx := asB_some hk
    subst hx
    refine ⟨k, rep_bl r1, ?_⟩
    cases k with
    | true => exact (show PV X.K G false Hs H (.bl true) s1 Q from p2) (.bl true) Hs1 H1 e1 o1 k1 (.bl true)
    | false =>
      rw [if_neg Bool.false_ne_true]
      rw [if_neg Bool.false_ne_true] at p2
      exact ⟨Hs1, en, s1, o1, en1, p2.later e1 k1 fun d s' q => q.later ok e1 o1 k1⟩
theorem sE_not (ha : PE X ea (tC' X G E m false a)) : PE X (.UnaryOp .Not ea pos) (tC' X G E m false (.not a)) :=
  (pe_not ha).weak fun σ H Q ⟨Hs, en, s, ok, r, p⟩ => tE_run ok r p.bind fun dx s1 v Hs1 H1 p1 e1 o1 k1 r1 en1 => by
    obtain ⟨k, hk, p2⟩ := p1.bind.liftO
    have hx := asB_some hk
    subst hx
    exact ⟨k, rep_bl r1, (show PV X.K G false Hs H (.bl (!k)) s1 Q from p2) (.bl (!k)) Hs1 H1 e1 o1 k1 (.bl (!k))⟩
theorem sE_ite (hc : PT X ec (tT X.K G E (evE m c))) (ha : PE X ea (tC' X G E m false a)) (hb : PE X eb (tC' X G E m false b)) : PE X (.IfExp ec ea eb pos) (tC' X G E m false (.ite c a b)) :=
  (pe_ifExp hc ha hb).weak fun σ H Q ⟨Hs, en, s, ok, r, p⟩ => tT_run ok r p.bind fun dx s1 p1 => by
    obtain ⟨k, hk, p2⟩ := p1.bind.liftO
    refine ⟨k, asB_some hk, fun Hs1 H1 e1 o1 k1 en1 => ?_⟩
    cases k with
    | true =>
      rw [if_pos rfl]
      rw [if_pos rfl] at p2
      exact ⟨Hs1, en, s1, o1, en1, p2.later e1 k1 fun d s' q => q.later ok e1 o1 k1⟩
    | false =>
      rw [if_neg Bool.false_ne_true]
      rw [if_neg Bool.false_ne_true] at p2
      exact ⟨Hs1, en, s1, o1, en1, p2.later e1 k1 fun d s' q => q.later ok e1 o1 k1⟩
/-- .. as tests -/
theorem tT_later {f : Ev → RS → Res D} {σ : L2.St} {H H1 : Hp} {Hs Hs1 : Hp} {en : Ev} {s1 : RS} {Q : Bool → Hp → Prop} (e1 : Sub Hs Hs1) (o1 : Ok G Hs1 H1 s1) (k1 : Kp G Hs H Hs1 H1) (en1 : EnvR X.K G Hs1 σ en)
    (p : Post X.K G E Hs H (f en s1) fun d s' => ∃ b, d = .bl b ∧ PR G (fun _ (x : Bool) (y : Bool) => x = y) Hs H b s' Q) : tT X.K G E f σ H1 Q :=
  ⟨Hs1, en, s1, o1, en1, p.later e1 k1 fun d s' ⟨b, hb, q⟩ => ⟨b, hb, q.later e1 k1⟩⟩
theorem sT_and {es : List Expr} (ha : PT X ea (tT X.K G E (evE m a))) (hb : PW X (.BoolOp .And (eb :: es) pos) (tT X.K G E (evE m b))) : PW X (.BoolOp .And (ea :: eb :: es) pos) (tT X.K G E (evE m (.and a b))) :=
  ⟨fun wh pins s σ H Q I h => (pw_and ha hb).run wh pins s σ H Q I <| by
    obtain ⟨Hs, en, s, ok, r, p⟩ := h
    refine tT_run ok r p.bind fun dx s1 p1 => ?_
    obtain ⟨k, hk, p2⟩ := p1.bind.liftO
    refine ⟨k, asB_some hk, fun Hs1 H1 e1 o1 k1 en1 => ?_⟩
    cases k with
    | false =>
      obtain ⟨b', hb', q⟩ := (show ∃ b, D.bl false = .bl b ∧ PR G (fun _ (x : Bool) (y : Bool) => x = y) Hs H b s1 Q from p2)
      cases hb'
      exact q false Hs1 H1 e1 o1 k1 rfl
    | true =>
      rw [if_pos rfl]
      rw [if_pos rfl] at p2
      exact tT_later e1 o1 k1 en1 p2⟩
theorem sT_or {es : List Expr} (ha : PT X ea (tT X.K G E (evE m a))) (hb : PW X (.BoolOp .Or (eb :: es) pos) (tT X.K G E (evE m b))) : PW X (.BoolOp .Or (ea :: eb :: es) pos) (tT X.K G E (evE m (.or a b))) :=
  ⟨fun wh pins s σ H Q I h => (pw_or ha hb).run wh pins s σ H Q I <| by
    obtain ⟨Hs, en, s, ok, r, p⟩ := h
    refine tT_run ok r p.bind fun dx s1 p1 => ?_
    obtain ⟨k, hk, p2⟩ := p1.bind.liftO
    refine ⟨k, asB_some hk, fun Hs1 H1 e1 o1 k1 en1 => ?_⟩
    cases k with
    | true =>
      obtain ⟨b', hb', q⟩ := (show ∃ b, D.bl true = .bl b ∧ PR G (fun _ (x : Bool) (y : Bool) => x = y) Hs H b s1 Q from p2)
      cases hb'
      exact q true Hs1 H1 e1 o1 k1 rfl
    | false =>
      rw [if_neg Bool.false_ne_true]
      rw [if_neg Bool.false_ne_true] at p2
      exact tT_later e1 o1 k1 en1 p2⟩
theorem sT_not (ha : PT X ea (tT X.K G E (evE m a))) : PT X (.UnaryOp .Not ea pos) (tT X.K G E (evE m (.not a))) :=
  (pt_not ha).weak fun σ H Q ⟨Hs, en, s, ok, r, p⟩ => tT_run ok r p.bind fun dx s1 p1 => by
    obtain ⟨k, hk, p2⟩ := p1.bind.liftO
    refine ⟨k, asB_some hk, fun Hs1 H1 e1 o1 k1 en1 => ?_⟩
    obtain ⟨b', hb', q⟩ := (show ∃ b, D.bl (!k) = .bl b ∧ PR G (fun _ (x : Bool) (y : Bool) => x = y) Hs H b s1 Q from p2)
    cases hb'
    exact q _ Hs1 H1 e1 o1 k1 rfl
/-- an expression whose value is a bool -/
theorem sT_val (ha : PE X ea (tC' X G E m false a)) (he : ∀ whole, isTrue ea X.env whole = (do let v ← whole; standAt ea.pos; holding [v] (truthy v))) : PT X ea (tT X.K G E (evE m a)) :=
  (pt_val ha he).weak fun σ H Q ⟨Hs, en, s, ok, r, p⟩ => tE_run ok r p fun dx s1 v Hs1 H1 p1 e1 o1 k1 r1 en1 => by
    obtain ⟨b, hb, q⟩ := p1
    subst hb
    exact ⟨b, rep_bl r1, q b Hs1 H1 e1 o1 k1 rfl⟩
theorem sT_ite (hc : PT X ec (tT X.K G E (evE m c))) (ha : PT X ea (tT X.K G E (evE m a))) (hb : PT X eb (tT X.K G E (evE m b))) : PT X (.IfExp ec ea eb pos) (tT X.K G E (evE m (.ite c a b))) := by
  refine ⟨fun pins s σ H Q I h => ?_⟩
  show wpAny _ _ (do if ← isTrue ec X.env (eval ec X.env) then isTrue ea X.env (eval ea X.env) else isTrue eb X.env (eval eb X.env)) _ _ _
  have h' : tT X.K G E (evE m c) σ H fun k H1 => if k = true then tT X.K G E (evE m a) σ H1 Q else tT X.K G E (evE m b) σ H1 Q := by
    obtain ⟨Hs, en, s, ok, r, p⟩ := h
    refine tT_run ok r p.bind fun dx s1 p1 => ?_
    obtain ⟨k, hk, p2⟩ := p1.bind.liftO
    refine ⟨k, asB_some hk, fun Hs1 H1 e1 o1 k1 en1 => ?_⟩
    cases k with
    | true =>
      rw [if_pos rfl]
      rw [if_pos rfl] at p2
      exact tT_later e1 o1 k1 en1 p2
    | false =>
      rw [if_neg Bool.false_ne_true]
      rw [if_neg Bool.false_ne_true] at p2
      exact tT_later e1 o1 k1 en1 p2
  refine wpAny_bind (thn (hc.run pins s σ H _ I h') fun k s1 ⟨H1, I1, q1⟩ => ?_)
  cases k with
  | true =>
    rw [if_pos rfl] at q1 ⊢
    exact ha.run pins s1 σ H1 Q I1 q1
  | false =>
    rw [if_neg Bool.false_ne_true] at q1 ⊢
    exact hb.run pins s1 σ H1 Q I1 q1

/-! ### subscripts, slices, displays, arguments -/
theorem sE_neg (ha : PE X ea (tC' X G E m false a)) : PE X (.UnaryOp .USub ea pos) (tC' X G E m false (.neg a)) :=
  (pe_un (op_neg (G := G)) ha).weak fun σ H Q ⟨Hs, en, s, ok, r, p⟩ => tE_run ok r p.bind fun dx s1 v Hs1 H1 p1 e1 o1 k1 r1 en1 => by
    cases dx with
    | int i => exact ⟨Hs1, s1, i, o1, r1, (show PV X.K G false Hs H (.int (-i)) s1 Q from p1).later ok e1 o1 k1⟩
    | _ => exact p1.elim
def notSlice : Expr → Bool
  | .Slice _ _ _ _ => false
  | _ => true
theorem plainIx_of {e : Expr} (h : notSlice e = true) : PlainIx e := by
  intro o i
  cases e <;> first
    | (cases h; done)
    | rfl
theorem sE_idx (ha : PE X ea (tC' X G E m false a)) (hb : PE X eb (tC' X G E m false b)) (hs : notSlice eb = true) : PE X (.Subscript ea eb pos) (tC' X G E m false (.idx a b)) :=
  (pe_ix (op_idx (G := G)) ha hb (plainIx_of hs)).weak fun σ H Q ⟨Hs, en, s, ok, r, p⟩ => run2 ok r p fun dx dy s' v w Hs' H' p' e' o' k' r1 r2 _ => by
    obtain ⟨d, hd, q⟩ := p'.liftO
    exact ⟨Hs', s', dx, dy, d, o', r1, r2, hd, q.later ok e' o' k'⟩
/-- a part of a slice -/
def tO (K : PySem.W.Frag) (G : Gh) (E : XK) (m : Mod) (l : Bool) (c : Cd) : TO := fun σ H Q => ∃ Hs e s, Ok G Hs H s ∧ EnvR K G Hs σ e ∧
  Post K G E Hs H (if l then (evE m c e s).bind fun y s => (liftO (asI y) s).bind fun i s => .ok (some i) s else .ok none s) fun o s' => PR G (fun _ (x : Option Int) (y : Option Int) => x = y) Hs H o s' Q
theorem sO_none : PO X none (tO X.K G E m false a) := ⟨fun pins s σ H Q I ⟨Hs, e, s', o, r, p⟩ => po_none.run pins s σ H Q I (by
  exact (show PR G (fun _ (x : Option Int) (y : Option Int) => x = y) Hs H none s' Q from p) none Hs H (Same.refl _) o (Kp.refl _ _ _) rfl)⟩
theorem sO_some (ha : PE X ea (tC' X G E m false a)) : PO X (some ea) (tO X.K G E m true a) := ⟨fun pins s σ H Q I ⟨Hs, e, s', o, r, p⟩ => (po_some ha).run pins s σ H Q I (by
  rw [if_pos rfl] at p
  refine tE_run o r p.bind fun dx s1 v Hs1 H1 p1 e1 o1 k1 r1 en1 => ?_
  obtain ⟨i, hi, q⟩ := p1.bind.liftO
  cases dx with
  | int j =>
    cases hi
    cases r1
    exact ⟨i, rfl, (show PR G (fun _ (x : Option Int) (y : Option Int) => x = y) Hs H (some i) s1 Q from q) (some i) Hs1 H1 e1 o1 k1 rfl⟩
  | _ => cases hi)⟩
theorem sE_slc {l h : Bool} {lo hi : Cd} {el eh : Option Expr} {p2 : Pos} (ha : PE X ea (tC' X G E m false a)) (hl : PO X el (tO X.K G E m l lo)) (hh : PO X eh (tO X.K G E m h hi)) :
    PE X (.Subscript ea (.Slice el eh none p2) pos) (tC' X G E m true (.slc l h a lo hi)) :=
  (pe_slice (op_slc (G := G)) ha hl hh).weak fun σ H Q ⟨Hs, en, s, ok, r, p⟩ => tE_run ok r p.bind fun dx s1 v Hs1 H1 p1 e1 o1 k1 r1 en1 => by
    refine ⟨Hs1, en, s1, o1, en1, (p1.bind.later e1 k1 (fun _ _ z => z)).imp fun o s2 _ p2 => ?_⟩
    intro o' Hs2 H2 e2 o2 k2 eo
    subst eo
    refine ⟨Hs2, en, s2, o2, en1.mono e2, (p2.bind.later (e1.trans e2) (k1.trans k2) (fun _ _ z => z)).imp fun o3 s3 _ p3 => ?_⟩
    intro o'' Hs3 H3 e3 oo3 k3 eo
    subst eo
    obtain ⟨d, hd, q⟩ := p3.liftO
    exact ⟨Hs3, s3, dx, d, oo3, r1.mono (e2.trans e3), hd, q.later ok ((e1.trans e2).trans e3) oo3 ((k1.trans k2).trans k3)⟩
theorem reps_now {Hs H : Hp} {s s' : RS} {ds : List D} {vs : List V} {Q : List V → Hp → Prop} (h : PR G (Reps X.K G) Hs H ds s' Q) {Hs' H' : Hp} (e : Sub Hs Hs') (o : Ok G Hs' H' s') (k : Kp G Hs H Hs' H') (r : Reps X.K G Hs' vs ds) : Q vs H' := h vs Hs' H' e o k r
theorem sA_nil : PA X [] (tA X.K G E (evE m .nil)) := pa_nil.weak fun σ H Q ⟨Hs, en, s, ok, r, p⟩ => by
  obtain ⟨ds, hd, q⟩ := (show ∃ ds, D.tup [] = .tup ds ∧ PR G (Reps X.K G) Hs H ds s Q from p)
  cases hd
  exact q [] Hs H (Same.refl _) ok (Kp.refl _ _ _) .nil
theorem sA_cons {es : List Expr} {r' : Cd} (ha : PE X ea (tC' X G E m false a)) (hr : PA X es (tA X.K G E (evE m r'))) (hs : notStar ea = true) : PA X (ea :: es) (tA X.K G E (evE m (.cons a r'))) :=
  (pa_cons ha hr (starEach_cons hs _ _)).weak fun σ H Q ⟨Hs, en, s, ok, r, p⟩ => tE_run ok r p.bind fun dx s1 v Hs1 H1 p1 e1 o1 k1 r1 en1 => by
    refine tA_run o1 en1 (p1.later e1 k1 (fun _ _ z => z)).bind fun dy s2 p2 => ?_
    cases dy with
    | tup ys =>
      refine ⟨ys, rfl, fun vs Hs2 H2 e2 o2 k2 r2 _ => ?_⟩
      obtain ⟨ds, hd, q⟩ := (show ∃ ds, D.tup (dx :: ys) = .tup ds ∧ PR G (Reps X.K G) Hs H ds s2 Q from p2)
      cases hd
      exact q (v :: vs) Hs2 H2 (e1.trans e2) o2 (k1.trans k2) (.cons (r1.mono e2) r2)
    | _ => exact p2.elim
/-- from arguments to what follows -/
theorem args_run {α : Type} {f : Ev → RS → Res D} {k : D → RS → Res α} {σ : L2.St} {H : Hp} {Hs : Hp} {en : Ev} {s : RS} {P : α → RS → Prop} {Q : List V → Hp → Prop} (hk : ∀ d s, (∀ xs, d ≠ .tup xs) → k d s = .stuck) (o : Ok G Hs H s) (r : EnvR X.K G Hs σ en)
    (p : Post X.K G E Hs H ((f en s).bind k) P)
    (q : ∀ ds s' vs Hs' H', Post X.K G E Hs' H' (k (.tup ds) s') P → Sub Hs Hs' → Ok G Hs' H' s' → Kp G Hs H Hs' H' → Reps X.K G Hs' vs ds → Q vs H') : tA X.K G E f σ H Q :=
  tA_run o r p.bind fun d s' p1 => by
    have hd : ∃ ds, d = .tup ds := by
      cases d with
      | tup ds => exact ⟨ds, rfl⟩
      | _ =>
        rw [hk _ _ (fun xs z => by cases z)] at p1
        exact p1.elim
    obtain ⟨ds, rfl⟩ := hd
    exact ⟨ds, rfl, fun vs Hs' H' e' o' k' r' _ => q ds s' vs Hs' H' (p1.later e' k' fun _ _ z => z) e' o' k' r'⟩
theorem sE_tup {es : List Expr} {k1 : Nat} (ha : PA X es (tA X.K G E (evE m a))) : PE X (.Tuple es k1 pos) (tC' X G E m false (.tup a)) :=
  (pe_tup ha).weak fun σ H Q ⟨Hs, en, s, ok, r, p⟩ => args_run (fun d s n => by cases d <;> first | rfl | exact absurd rfl (n _)) ok r p fun ds s' vs Hs' H' p' e' o' k' r' => by
    have p2 : Post X.K G E Hs' H' (if szOk ds.length then .ok (.tup ds) s' else .stuck) fun d s' => PV X.K G false Hs H d s' Q := p'
    split at p2
    · rename_i hz
      refine ⟨by rw [r'.length]; exact szOk_line hz, fun q n => ?_⟩
      exact ((show PV X.K G false Hs H (.tup ds) s' Q from p2).later ok e' o' k').newT o' r' q n
    · exact p2.elim
theorem sE_lst {es : List Expr} (ha : PA X es (tA X.K G E (evE m a))) : PE X (.List es pos) (tC' X G E m true (.lst a)) :=
  (pe_lst ha).weak fun σ H Q ⟨Hs, en, s, ok, r, p⟩ => args_run (fun d s n => by cases d <;> first | rfl | exact absurd rfl (n _)) ok r p fun ds s' vs Hs' H' p' e' o' k' r' => by
    have p2 : Post X.K G E Hs' H' (if szOk ds.length then .ok (.lst ds) s' else .stuck) fun d s' => PV X.K G true Hs H d s' Q := p'
    split at p2
    · rename_i hz
      refine ⟨by rw [r'.length]; exact szOk_line hz, fun q n => ?_⟩
      exact ((show PV X.K G true Hs H (.lst ds) s' Q from p2).later ok e' o' k').newL o' r' q n
    · exact p2.elim
end
end Fw

/-! FwE: calls, instances, built-ins, isinstance. -/
namespace Fw
open PySem L2 PyProof.Rows
section
variable {X : Cx} {G : Gh} {E : XK} {m : Mod} {a b c : Cd} {ea eb ec : Expr} {es : List Expr} {pos p : Pos} {x : Str}

theorem post_tup {f : Ev → RS → Res D} {k : List D → RS → Res D} {σ : L2.St} {H : Hp} {Hs : Hp} {en : Ev} {s : RS} {P : D → RS → Prop} {Q : List V → Hp → Prop} (o : Ok G Hs H s) (r : EnvR X.K G Hs σ en)
    (p : Post X.K G E Hs H ((f en s).bind fun x s => (liftO (asTup x) s).bind fun xs s => k xs s) P)
    (q : ∀ ds s' vs Hs' H', Post X.K G E Hs' H' (k ds s') P → Sub Hs Hs' → Ok G Hs' H' s' → Kp G Hs H Hs' H' → Reps X.K G Hs' vs ds → Q vs H') : tA X.K G E f σ H Q :=
  args_run (fun d s n => by cases d <;> first | rfl | exact absurd rfl (n _)) o r p q

/-- what is made is of the class -/
def MakeOk (m : Mod) : Prop := ∀ (i : Nat) (ds : List D) (s : RS) (d : D) (s' : RS), m.make i ds s = .ok d s' → ∃ es, d = .ins i es
/-- a new instance, made ready -/
theorem mk_sp {i : Nat} {Hs Hs1 H H1 : Hp} {s s1 : RS} {Q : VK} {ds : List D} {vs : List V} {y dx : Addr} (ok : Ok G Hs H s) (e1 : Sub Hs Hs1) (o1 : Ok G Hs1 H1 s1) (k1 : Kp G Hs H Hs1 H1) (r : Reps X.K G Hs1 vs ds) (hy : H1 y = none) (hdx : H1 dx = none) (hne : dx ≠ y)
    (mk : MakeOk m) (p : Post X.K G E Hs1 H1 (m.make i ds s1) fun d s' => PV X.K G false Hs H d s' Q) : spI X.K G i (m.make i) (.ref y :: (vs ++ [])) (upd (upd H1 dx (.own y)) y (.ins (G.ca i) dx [])) (fun v H2 => v = .non ∧ Q (.ref y) H2) E := by
  have hy' : upd H1 dx (.own y) y = none := by rw [upd_ne (fun z => hne z.symm)]; exact hy
  refine ⟨Hs1, s1, ds, H1, y, dx, vs, by rw [List.append_nil], fun a o h => ?_, hy, upd_same, o1.free hy, (o1.new hdx).new hy', r, p.imp fun d s2 e q => ?_⟩
  · rw [upd_ne (ne_of_none h hy), upd_ne (ne_of_none h hdx)]
    exact h
  · obtain ⟨es, rfl⟩ := mk i ds s1 d s2 e
    refine ⟨es, rfl, fun dx' fs Hs' H' e' o' k' hs' hx' hf rf => ⟨rfl, ?_⟩⟩
    have n1 : y ≠ G.p0 := (ne_of_none o1.st.dic hy).symm
    have n2 : y ≠ G.g0 := (ne_of_none o1.st.great hy).symm
    exact (show PV X.K G false Hs H (.ins i es) s2 Q from q) (.ref y) (upd Hs' y (.ins (G.ca i) dx' fs)) H' (e1.trans (e'.trans (Sub.upd hs'))) (o'.share hx' n1 n2 fun ps z => by cases z) ((k1.trans k').share (k1.nw ok o1 (Nw.of hy))) (.ins upd_same hf (rf.mono (Sub.upd hs')))
/-! ### calls of defs -/
theorem call_sp {i : Nat} {σ : L2.St} {H : Hp} {Q : VK} (h : tC' X G E m false (.call i a) σ H Q) : tA X.K G E (evE m a) σ H fun vs H1 => spD X.K G (m.call i) (vs ++ []) H1 Q E := by
  obtain ⟨Hs, en, s, ok, r, p⟩ := h
  exact post_tup ok r p fun ds s' vs Hs' H' p' e' o' k' r' => ⟨Hs', s', ds, o', by rw [List.append_nil]; exact r', p'.imp fun d s2 _ q => q.later ok e' o' k'⟩
theorem sE_call0 {i k : Nat} {f : Addr} {fd : FuncData} {ps : List Str} {CX : CXT} (F : FnOk X.prog X.w X.K X.mg X.base CX k f fd ps (spD X.K G (m.call i))) (hr : Room k X.A) (hg : Gl X x) (hm : X.mg x = some (.ref f)) (hk : PySem.W.keepIn X.K (.ref f) = true)
    (hb : L2.Binds X.K fd ps []) (hx : Passes CX X E) (hd : (x == ("__debug__" : Str)) = false) : PE X (.Call (.Name x p) [] [] pos) (tC' X G E m false (.call i .nil)) :=
  (pe_call0 F hr hg hm hk hb .nil hx hd).weak fun σ H Q ⟨Hs, en, s, ok, r, p⟩ => ⟨Hs, s, [], ok, .nil, p⟩
theorem sE_call {i k : Nat} {e : Expr} {f : Addr} {fd : FuncData} {ps : List Str} {CX : CXT} (F : FnOk X.prog X.w X.K X.mg X.base CX k f fd ps (spD X.K G (m.call i))) (hr : Room k X.A) (hg : Gl X x) (hm : X.mg x = some (.ref f)) (hk : PySem.W.keepIn X.K (.ref f) = true)
    (hb : L2.Binds X.K fd ps []) (hx : Passes CX X E) (ha : PA X (e :: es) (tA X.K G E (evE m a))) (hs : (e :: es).all notStar = true) (hd : (x == ("__debug__" : Str)) = false) : PE X (.Call (.Name x p) (e :: es) [] pos) (tC' X G E m false (.call i a)) := by
  have h' : notStar e = true ∧ es.all notStar = true := by simpa using hs
  exact (pe_call F hr hg hm hk hb .nil hx ha hd (starEach_cons h'.1 _ _) (star_any _ _ h'.2)).weak fun σ H Q h => call_sp h
theorem sE_mk0 {i k : Nat} {f : Addr} {fd : FuncData} {ps : List Str} {CX : CXT} (mk : MakeOk m) (M : Mk X.K (G.ca i) f) (F : FnOk X.prog X.w X.K X.mg X.base CX k f fd ps (spI X.K G i (m.make i))) (hr : Room (k + 1) X.A) (hg : Gl X x) (hm : X.mg x = some (.ref (G.ca i)))
    (hb : L2.Binds X.K fd ps []) (hx : Passes CX X E) (hd : (x == ("__debug__" : Str)) = false) : PE X (.Call (.Name x p) [] [] pos) (tC' X G E m false (.mk i .nil)) :=
  (pe_make0 M F hr hg hm hb .nil hx hd).weak fun σ H Q ⟨Hs, en, s, ok, r, p⟩ => fun y dx hy hdx hne => mk_sp (vs := []) ok (Same.refl _) ok (Kp.refl _ _ _) .nil hy hdx hne mk p
theorem sE_mk {i k : Nat} {e : Expr} {f : Addr} {fd : FuncData} {ps : List Str} {CX : CXT} (mk : MakeOk m) (M : Mk X.K (G.ca i) f) (F : FnOk X.prog X.w X.K X.mg X.base CX k f fd ps (spI X.K G i (m.make i))) (hr : Room (k + 1) X.A) (hg : Gl X x) (hm : X.mg x = some (.ref (G.ca i)))
    (hb : L2.Binds X.K fd ps []) (hx : Passes CX X E) (ha : PA X (e :: es) (tA X.K G E (evE m a))) (hs : (e :: es).all notStar = true) (hd : (x == ("__debug__" : Str)) = false) : PE X (.Call (.Name x p) (e :: es) [] pos) (tC' X G E m false (.mk i a)) := by
  have h' : notStar e = true ∧ es.all notStar = true := by simpa using hs
  exact (pe_make M F hr hg hm hb .nil hx ha hd (starEach_cons h'.1 _ _) (star_any _ _ h'.2)).weak fun σ H Q ⟨Hs, en, s, ok, r, p⟩ =>
    post_tup ok r p fun ds s' vs Hs' H' p' e' o' k' r' => fun y dx hy hdx hne => mk_sp ok e' o' k' r' hy hdx hne mk p'

/-! ### calls with keywords -/
theorem pk_of {kws : List Keyword} {t : TA} (h : PK X kws t) : PK X kws t := h
theorem sK_nil : PK X [] (tA X.K G E (evE m .nil)) := ⟨fun pos pins s σ H Q I ⟨Hs, en, t, ok, r, p⟩ => pk_nil.run pos pins s σ H Q I (by
  obtain ⟨ds, hd, q⟩ := (show ∃ ds, D.tup [] = .tup ds ∧ PR G (Reps X.K G) Hs H ds t Q from p)
  cases hd
  exact q [] Hs H (Same.refl _) ok (Kp.refl _ _ _) .nil)⟩
theorem sK_cons {kws : List Keyword} {r' : Cd} {nm : Option Str} {kpos : Pos} (ha : PE X ea (tC' X G E m false a)) (hr : PK X kws (tA X.K G E (evE m r'))) : PK X (⟨nm, ea, kpos⟩ :: kws) (tA X.K G E (evE m (.cons a r'))) :=
  ⟨fun pos pins s σ H Q I h => (pk_cons ha hr).run pos pins s σ H Q I (by
    obtain ⟨Hs, en, t, ok, r, p⟩ := h
    refine tE_run ok r p.bind fun dx s1 v Hs1 H1 p1 e1 o1 k1 r1 en1 => ?_
    refine tA_run o1 en1 (p1.later e1 k1 (fun _ _ z => z)).bind fun dy s2 p2 => ?_
    cases dy with
    | tup ys =>
      refine ⟨ys, rfl, fun vs Hs2 H2 e2 o2 k2 r2 _ => ?_⟩
      obtain ⟨ds, hd, q⟩ := (show ∃ ds, D.tup (dx :: ys) = .tup ds ∧ PR G (Reps X.K G) Hs H ds s2 Q from p2)
      cases hd
      exact q (v :: vs) Hs2 H2 (e1.trans e2) o2 (k1.trans k2) (.cons (r1.mono e2) r2)
    | _ => exact p2.elim)⟩
end
end Fw

/-! FwEa: calls where it is known that no text of an object is being made (what repr asks). -/
namespace Fw
open PySem L2 PyProof.Rows PySem.Spec
section
variable {P : Program} {w : World} {K : PySem.W.Frag} {mg : Str → Option Value} {base : Heap}
/-- a def's body, run at one place -/
theorem body_run {CX : CXT} {k : Nat} {f : Addr} {nm q : Str} {pa : Arguments} {bd : List Stmt} {sc : Scope} {dV kV doc pm cdv ct oc : Value} {an od : Option Addr} {sl : Array (Option Value)} {N ps : List Str} {A : Around} {outer : List Env} {s : Shared} {H : Hp} {args : Args} {us : List Value} {vs : List V} {Q : VK} {E : XK}
    (lk : K.lookup f = some ⟨oc, od, .func (PySem.W.fnOf nm q pa bd sc dV kV doc pm an cdv ct), sl⟩) (hc : PySem.W.codeIn K cdv q = true) (S : FnScope N ps sc) (hl : vs.length = ps.length)
    (hr : Room (k + 1) A) (e0 : Env0 P w K mg base A outer s H) (hb : BindsTo s (PySem.W.fnOf nm q pa bd sc dV kV doc pm an cdv ct) args (ps.zip us)) (r : Vals vs us)
    (ht : ∃ t, PSs (cxOf CX P w K mg base N q sc f cdv A outer s H E) bd t ∧ t { nx := fun _ H' => Q .non H', rt := Q } (start N vs) H) : codeAny (model P w) A (.call (.ref f) args) (CR CX outer P w H s Q E) s := by
  obtain ⟨t, ht, hq⟩ := ht
  have up : ∀ b o, base.get? b = some o → s.heap.get? b = some o := fun b o e => (e0.bs b o e).1
  have inK := e0.mod.kin.keeps up
  have names : ∀ y ∈ ps.zip us, sc.names.lookup y.1 = some .local ∨ (sc.names.lookup y.1 = some .cell ∧ ((cellsFrom (s.heap.objs.size + 1) sc.names []).lookup y.1).isSome = true) := by
    rintro ⟨n, v⟩ hy
    exact (S.par n (List.of_mem_zip hy).1).imp id fun z => ⟨z, PySem.W.cellsFrom_some _ _ _ (.inl z)⟩
  refine codeAny_call_function hr.depth (inK _ _ lk) rfl S.co S.gen rfl (PySem.W.codeRec_of inK hc) (hb _ _ _ _ (wpAny_newFunctionEnv_cells S.kind names fun env he s1 x => ?_))
  subst he
  refine ⟨(e0.mod.nolimit.keeps up).keeps x.toInCall.keep, codeAny_func ?_⟩
  refine wpAny_mono (ht.run [] s1 (start N vs) H _ (inv_start S hr.hd e0 hl r x) hq) (fun fl s' z => ?_) fun e s' z => z
  cases fl with
  | ret u => exact let ⟨v, σ', H', J, rv, y⟩ := z; ⟨v, H', J.os, J.bare, J.base, J.hok, rv, y⟩
  | next => exact let ⟨σ', H', J, y⟩ := z; ⟨V.non, H', J.os, J.bare, J.base, J.hok, rfl, y⟩
  | brk => exact let ⟨_, _, _, y⟩ := z; y.elim
  | cont => exact let ⟨_, _, _, y⟩ := z; y.elim
/-- a promise where no text of an object is being made -/
structure FnG (P : Program) (w : World) (K : PySem.W.Frag) (mg : Str → Option Value) (base : Heap) (CX : CXT) (k : Nat) (f : Addr) (fd : FuncData) (ps : List Str) (sp : Sp) : Prop where
  len : ∀ vs H Q E, sp vs H Q E → vs.length = ps.length
  run : ∀ (A : Around) (outer : List Env) (s : Shared) (H : Hp) (args : Args) (us : List Value) (vs : List V) (Q : VK) (E : XK), Room k A → A.guards = some [] → Env0 P w K mg base A outer s H → BindsTo s fd args (ps.zip us) → Vals vs us → sp vs H Q E →
    codeAny (model P w) A (.call (.ref f) args) (CR CX outer P w H s Q E) s
theorem FnG.of {CX : CXT} {k : Nat} {f : Addr} {fd : FuncData} {ps : List Str} {sp : Sp} (F : FnOk P w K mg base CX k f fd ps sp) : FnG P w K mg base CX k f fd ps sp := ⟨F.len, fun A outer s H args us vs Q E hr _ => F.run A outer s H args us vs Q E hr⟩
end
/-! ### repr -/
def refD : D → Bool
  | .tup _ => true | .lst _ => true | _ => false
section
variable {X : Cx} {G : Gh}
/-- repr(x) of plain data -/
def rRpr (K : PySem.W.Frag) : List V → Hp → VK → Prop := fun xs H Q => ∃ x d, xs = [x] ∧ Dp K H x d ∧ d.canLay0 = true ∧ d.showable = true ∧ d.shown.length ≤ sizeLine ∧ d.depth ≤ 60 ∧ Q (.str d.shown) H
theorem call_rpr (hg : X.A.guards = some []) (hu : X.A.units + 64 < cLine) : CallR X (.builtin "repr") (rRpr X.K) := by
  intro pins s σ H xs us Q I r h
  obtain ⟨x, d, rfl, hd, hl, hs, hz, h60, q⟩ := h
  obtain ⟨u, rfl, ru⟩ := vals1 r
  obtain ⟨as, rd⟩ := Dp.reads I d x u hd ru
  have nd : d.hasDict = true → sysModules ∉ as := fun z => by
    rw [PyData.hasDict_of_canLay d hl] at z
    cases z
  have fin : ∀ {h' : Heap} {tk : Nat} (t : Tok), (∀ b o, s.heap.get? b = some o → h'.get? b = some o) → EP X pins σ Q (.str d.shown t) { s with heap := h', toks := tk } := fun t k => ⟨.str d.shown, H, I.kept k, ⟨t, rfl⟩, q⟩
  have main : ∀ a, u = .ref a → wpAny (model X.prog X.w) X.A (call (.builtin "repr") [u]) (EP X pins σ Q) X.xe s := fun a ea => by
    subst ea
    exact repr_of_reads' rd hs nd hg (by omega) (fun _ _ e => e) (fun h' t tk k => fin t k) hz
  cases rd with
  | none => exact PySem.P.repr_of_none (fin _ fun _ _ e => e)
  | bool => exact PySem.P.repr_of_bool (fin _ fun _ _ e => e)
  | int => exact PySem.P.repr_of_int (of_decide_eq_true hs) (fin _ fun _ _ e => e)
  | str => exact PySem.P.repr_of_str (fin _ fun _ _ e => e) hz
  | _ => exact main _ rfl
end
end Fw

/-! FwEb: a law's end, its own call at the caller's place (no text of an object is being made there). -/
namespace Fw
open PySem L2 PyProof.Rows PySem.Spec LamX
/-- the law's run at the caller's place -/
def RunG (P : Program) (w : World) (K : PySem.W.Frag) (mg : Str → Option Value) (fa : Addr) (cs : List (Addr × Addr)) (base : Heap) (s1 : Shared) (a : Addr) (ns : List Int) : Prop :=
  ∀ H : Hp, Env0 P w K mg base callerA [] s1 H → (∀ p ∈ cs, H p.2 = some (.tbl #[])) → SqL K H a (ns.map V.int) →
    codeAny (model P w) callerA (.call (.ref fa) ⟨[.ref a], []⟩) (CR (L2.CX P w) [] P w H s1 (fun v _ => v = .bl true) fun _ _ _ => False) s1
section
variable {P : Program} {w : World} {K : PySem.W.Frag} {mg mb : Str → Option Value} {fa a : Addr} {cs : List (Addr × Addr)} {s1 : Shared} {vs : List Value} {ns : List Int}
/-- what is tracked at first: the tables, and the script where K does not hold it -/
def firstH (K : PySem.W.Frag) (cs : List (Addr × Addr)) (a : Addr) (vs : List Value) (ns : List Int) : Hp := fun b =>
  if b ∈ cs.map (·.2) then some (.tbl #[]) else if b = a ∧ K.lookup a = none then some (.frz { cls := .type "list", data := .seq vs.toArray } (.lst (ns.map V.int))) else none
theorem law_callG (KX : K.In s1.heap) (gN : s1.heap.Ns mainGlobals mg) (bN : s1.heap.Ns builtinsNs mb) (bb : ∀ x : Str, x ≠ "__name__" → mb x = bootBuiltins x) (nl : s1.heap.NoLimit) (g0 : s1.gens = #[])
    (tE : ∀ p ∈ cs, s1.heap.get? p.2 = some { cls := .none, data := .fields #[] }) (tN : ∀ p ∈ cs, K.lookup p.2 = none) (tC : ∀ p ∈ cs, PySem.W.CodeHd s1.heap p.1 p.2)
    (bm : ∃ (m : Addr) (o : Obj), mg "__builtins__" = some (.ref m) ∧ m ≠ builtinsNs ∧ s1.heap.get? m = some o ∧ o.cls = .type "module" ∧ o.dict = some builtinsNs ∧ o.data = .plain)
    (ha : s1.heap.get? a = some { cls := .type "list", data := .seq vs.toArray }) (hi : IntsAre vs ns) (hl : ns.length ≤ sizeLine)
    (F : ∀ base : Heap, K.In base → base.Ns mainGlobals mg → (∀ p ∈ cs, TabB base mg p.1 p.2) → RunG P w K mg fa cs base s1 a ns) :
    codeAny (model P w) callerA (.call (.ref fa) ⟨[.ref a], []⟩) (fun r s' => r = .ok (.ret (.bool true)) ∧ OldK s1.heap s'.heap ∧ s'.os = s1.os ∧ AllBare s'.gens) s1 := by
  obtain ⟨H, hH⟩ : ∃ H, H = firstH K cs a vs ns := ⟨_, rfl⟩
  have vals := vals_ints hi
  have inT : ∀ {b : Addr}, b ∈ cs.map (·.2) → s1.heap.get? b = some { cls := .none, data := .fields #[] } ∧ K.lookup b = none := fun hb => by
    obtain ⟨p, hp, rfl⟩ := List.mem_map.mp hb
    exact ⟨tE p hp, tN p hp⟩
  have aN : a ∉ cs.map (·.2) := fun z => by
    have q := (inT z).1.symm.trans ha
    injection q with q
    injection q with _ _ q
    cases q
  have hT : ∀ {b : Addr}, b ∈ cs.map (·.2) → H b = some (.tbl #[]) := fun hb => by
    rw [hH]
    exact if_pos hb
  have hA : K.lookup a = none → H a = some (.frz { cls := .type "list", data := .seq vs.toArray } (.lst (ns.map V.int))) := fun hk => by
    rw [hH]
    exact (if_neg aN).trans (if_pos ⟨rfl, hk⟩)
  have cases3 : ∀ b o, H b = some o → (b ∈ cs.map (·.2) ∧ o = .tbl #[]) ∨ (b = a ∧ K.lookup a = none ∧ o = .frz { cls := .type "list", data := .seq vs.toArray } (.lst (ns.map V.int))) := fun b o e => by
    rw [hH] at e
    unfold firstH at e
    split at e
    · rename_i h
      cases e
      exact .inl ⟨h, rfl⟩
    · split at e
      · rename_i h
        cases e
        exact .inr ⟨h.1, h.2, rfl⟩
      · cases e
  -- what is neither a list nor an empty table is not tracked
  have free : ∀ {b : Addr} {o : Obj}, s1.heap.get? b = some o → (∀ v n, o.data ≠ .seq v n) → o.data ≠ .fields #[] → H b = none := fun {b o} e n1 n2 => by
    cases q : H b with
    | none => rfl
    | some u =>
      rcases cases3 b u q with ⟨h, _⟩ | ⟨h, _, _⟩
      · rw [(inT h).1] at e
        cases e
        exact (n2 rfl).elim
      · rw [h, ha] at e
        cases e
        exact (n1 _ _ rfl).elim
  have nsB : ∀ {b : Addr} {m : Str → Option Value}, s1.heap.Ns b m → (hidT s1.heap H).Ns b m := fun {b m} z => by
    obtain ⟨o, es, ep, e, d, r⟩ := z
    exact ⟨o, es, ep, hidT_get e (free e (fun v n z => by rw [d] at z; cases z) fun z => by rw [d] at z; cases z), d, r⟩
  have kB : K.In (hidT s1.heap H) := fun b o e => hidT_get (KX b o e) (by
    cases q : H b with
    | none => rfl
    | some u =>
      rcases cases3 b u q with ⟨h, _⟩ | ⟨h, h2, _⟩
      · rw [(inT h).2] at e
        cases e
      · rw [h, h2] at e
        cases e)
  have TB : ∀ p ∈ cs, TabB (hidT s1.heap H) mg p.1 p.2 := fun p hp => by
    have ep := tE p hp
    constructor
    · obtain ⟨o, us, fl, tf, fs, tg, iF, tx, tt, e1, r1, r2, r3, rest⟩ := tC p hp
      exact ⟨o, us, fl, tf, fs, tg, iF, tx, tt, hidT_get e1 (free e1 (fun v n z => by rw [r2] at z; cases z) fun z => by
        rw [r2] at z
        cases z
        simp at r3), r1, r2, r3, rest⟩
    · obtain ⟨m, o, b1, b2, b3, b4, b5, b6⟩ := bm
      refine ⟨m, o, b1, b2, fun q => ?_, fun q => ?_, hidT_get b3 (free b3 (fun v n z => by rw [b6] at z; cases z) fun z => by rw [b6] at z; cases z), b4, b5, b6⟩
      · obtain ⟨og, es, _, eg, hd, _⟩ := gN
        rw [q, eg] at b3
        cases b3
        rw [hd] at b6
        cases b6
      · rw [q, ep] at b3
        cases b3
        cases b6
    · intro z
      obtain ⟨og, es, _, eg, hd, _⟩ := gN
      rw [z, ep] at eg
      cases eg
      cases hd
  have hok : HOk P w H s1.heap := fun b o e => by
    rcases cases3 b o e with ⟨h, rfl⟩ | ⟨h, _, rfl⟩
    · exact (inT h).1
    · rw [h]
      exact ⟨ha, by rw [List.length_map]; exact hl, vs, _, vals, ha⟩
  have e0 : Env0 P w K mg (hidT s1.heap H) callerA [] s1 H := by
    refine ⟨rfl, ⟨kB, nsB gN, ⟨mb, nsB bN, bb⟩, ?_⟩, fun b o e => of_hidT e, Nat.le_of_eq (hidT_size _ _), trivial, fun b hb => ?_, hok, .of_eq g0⟩
    · obtain ⟨mc, h1, h2⟩ := nl
      exact ⟨mc, nsB h1, h2⟩
    · cases (show b ∈ ([] : List Addr) from hb)
  have sq : SqL K H a (ns.map V.int) := by
    cases hk : K.lookup a with
    | none => exact .inl (.inr ⟨_, hA hk⟩)
    | some o =>
      have e := KX a o hk
      rw [ha] at e
      cases e
      exact .inr ⟨_, vs.toArray, _, hk, rfl, rfl, rfl, by rw [List.size_toArray, hi.length]; exact hl, by simpa using vals⟩
  refine codeAny_mono (F _ kB (nsB gN) TB H e0 (fun p hp => hT (List.mem_map.mpr ⟨p, hp, rfl⟩)) sq) fun r s' h => ?_
  cases r with
  | error e => exact let ⟨_, _, _, _, _, _, _, _, _, _, _, _, z⟩ := h; z.elim
  | ok fl =>
    cases fl with
    | ret u =>
      obtain ⟨v, H', os, bare, un, hok', rv, rfl⟩ := h
      cases rv
      have stay : ∀ b o, b ∉ cs.map (·.2) → s1.heap.get? b = some o → s'.heap.get? b = some o := fun b o nb e => by
        cases q : H b with
        | none => exact un.keep b o e q (by intro z; cases (show b ∈ ([] : List Addr) from z)) (by simp)
        | some u =>
          rcases cases3 b u q with ⟨z, _⟩ | ⟨hb, _, rfl⟩
          · exact absurd z nb
          · rw [hb, ha] at e
            cases e
            rw [hb]
            exact (hok' b _ (un.frzs b _ _ q)).1 |> fun z => by rw [hb] at z; exact z
      refine ⟨rfl, ⟨fun b o e => ?_, fun b o e => ?_⟩, os, bare⟩ <;> by_cases hb : b ∈ cs.map (·.2)
      · obtain ⟨p, hp, rfl⟩ := List.mem_map.mp hb
        obtain ⟨more, z⟩ := un.tbls p.2 #[] (hT hb)
        rw [tE p hp] at e
        cases e
        exact .inr (.inl ⟨((tC p hp).tab (tE p hp)).isCodeTable, rfl, #[], more, rfl, by rw [Array.empty_append]; exact (by have y := hok' p.2 _ z; rw [Array.empty_append] at y; exact y)⟩)
      · exact .inl (stay b o hb e)
      · obtain ⟨p, hp, rfl⟩ := List.mem_map.mp hb
        obtain ⟨more, z⟩ := un.tbls p.2 #[] (hT hb)
        exact ⟨_, hok' p.2 _ z⟩
      · exact ⟨o, stay b o hb e⟩
    | _ => exact False.elim h
end
/-- what the head gives for the law's own run -/
def EndG (l : PySem.W.OpenLaw) (w : World) (K : PySem.W.Frag) (mg : Str → Option Value) (fa : Addr) (h : Heap) : Prop :=
  ∃ cs : List (Addr × Addr), (∀ p ∈ cs, h.get? p.2 = some { cls := .none, data := .fields #[] }) ∧ (∀ p ∈ cs, K.lookup p.2 = none) ∧ (∀ p ∈ cs, PySem.W.CodeHd h p.1 p.2) ∧
    ∀ base : Heap, K.In base → base.Ns mainGlobals mg → (∀ p ∈ cs, TabB base mg p.1 p.2) → ∀ (s1 : Shared) (a : Addr) (ns : List Int), ns.length ≤ 63 → RunG l.prog w K mg fa cs base s1 a ns
theorem walk_G {l : PySem.W.OpenLaw} {q : Program} {loose : List Str} {XP : (Str → Option Value) → Heap → Prop} {YP : World → Heap → Prop} {d : DefRec} (hn : l.most = some 63) (hdf : d.params.defaults = [])
    (F : ∀ (w : World) (mg : Str → Option Value) (fa : Addr) (h : Heap), YP w h → h.Ns mainGlobals mg → mg d.name = some (.ref fa) → ∃ K : PySem.W.Frag, K.In h ∧ EndG l w K mg fa h) :
    PySem.W.WalkO q loose XP YP l.row.toRowW d [] (fun f vs => PySem.call f vs) := by
  refine Att.attach_callB hn hdf fun w s0 s1 mg mb fa o pm cd doc a vs ns G Y ho hd hcd hmg hobj hints hlen hbits hg => ?_
  obtain ⟨K, KX, cs, t1, t2, t3, run⟩ := F w mg fa _ Y G.T.g hmg
  exact law_callG KX G.T.g G.T.b G.T.builtins G.T.nolimit hg t1 t2 t3 G.T.bmain hobj hints (Nat.le_trans hlen (by decide)) fun base b1 b2 b3 => run base b1 b2 b3 s1 a ns hlen
end Fw

/-! FwF: how parameters are bound. -/
namespace Fw
open PySem L2 PyProof.Rows

/-- parameters by name alone, no defaults -/
def plainP (ps : List Str) (p : Arguments) : Bool := p.posonlyargs.isEmpty && p.vararg.isNone && p.kwonlyargs.isEmpty && p.kwarg.isNone && (p.args.map (·.arg) == ps) && decide ps.Nodup
/-- where each parameter's value stands among n positional values and the keywords' -/
def permOf (ps : List Str) (n : Nat) (ks : List Str) : List Nat := List.range n ++ (ps.drop n).map fun x => n + ks.idxOf x
def kwOk (ps : List Str) (n : Nat) (ks : List Str) : Bool := decide (n ≤ ps.length) && decide (ks.Nodup) && (ks.all fun k => (ps.drop n).contains k) && (ps.drop n).all fun k => ks.contains k

theorem lookup_zip_none {β : Type} : ∀ {ps : List Str} {vs : List β} {k : Str}, k ∉ ps → (ps.zip vs).lookup k = none
  | [], _, _, _ => rfl
  | _ :: _, [], _, _ => rfl
  | p :: ps, v :: vs, k, h => by
    have h1 : k ≠ p := fun z => h (z ▸ List.mem_cons_self)
    have h2 : k ∉ ps := fun z => h (List.mem_cons_of_mem _ z)
    rw [List.zip_cons_cons, List.lookup_cons]
    have e : (k == p) = false := by simpa using h1
    rw [e]
    exact lookup_zip_none h2
theorem filterMap_zip {β : Type} : ∀ {ps : List Str} {vs : List β} {L : List (Str × β)}, ps.Nodup → ps.length = vs.length → (∀ (i : Nat) (p : Str) (v : β), ps[i]? = some p → vs[i]? = some v → L.lookup p = some v) → (ps.filterMap fun n => (L.lookup n).map (n, ·)) = ps.zip vs
  | [], _, _, _, _, _ => rfl
  | p :: ps, [], _, _, h, _ => by cases h
  | p :: ps, v :: vs, L, nd, hl, h => by
    have h0 := h 0 p v rfl rfl
    rw [List.filterMap_cons, h0, List.zip_cons_cons]
    simp only [Option.map_some]
    rw [filterMap_zip (List.nodup_cons.mp nd).2 (by simpa using hl) fun i q u a b => h (i + 1) q u (by simpa using a) (by simpa using b)]
theorem lookup_zip {β : Type} : ∀ {ps : List Str} {vs : List β} {i : Nat} {p : Str} {v : β}, ps.Nodup → ps[i]? = some p → vs[i]? = some v → (ps.zip vs).lookup p = some v
  | [], _, _, _, _, _, h, _ => by simp at h
  | _ :: _, [], _, _, _, _, _, h => by simp at h
  | q :: ps, w :: vs, 0, p, v, nd, h1, h2 => by
    cases (Option.some.inj h1)
    cases (Option.some.inj h2)
    rw [List.zip_cons_cons, List.lookup_cons]
    simp
  | q :: ps, w :: vs, i + 1, p, v, nd, h1, h2 => by
    have m : p ∈ ps := List.mem_of_getElem? (by simpa using h1)
    have ne : p ≠ q := fun z => (List.nodup_cons.mp nd).1 (z ▸ m)
    rw [List.zip_cons_cons, List.lookup_cons]
    have e : (p == q) = false := by simpa using ne
    rw [e]
    exact lookup_zip (i := i) (List.nodup_cons.mp nd).2 (by simpa using h1) (by simpa using h2)

theorem lookup_append {β : Type} : ∀ {L M : List (Str × β)} {k : Str}, (L ++ M).lookup k = (L.lookup k).or (M.lookup k)
  | [], _, _ => by simp
  | (p, v) :: L, M, k => by
    rw [List.cons_append, List.lookup_cons, List.lookup_cons]
    cases k == p
    · exact lookup_append
    · simp
theorem loop_kw {normal : List Str} {f : Str × Value → List (Str × Value) × List (Str × Value) → Sem (ForInStep (List (Str × Value) × List (Str × Value)))}
    (hf : ∀ k v S Y, k ∈ normal → S.lookup k = none → f (k, v) (S, Y) = pure (.yield (S ++ [(k, v)], Y))) :
    ∀ {ks : List Str} {ws : List Value} {S Y : List (Str × Value)}, ks.Nodup → (∀ k ∈ ks, k ∈ normal) → (∀ k ∈ ks, S.lookup k = none) → ks.length = ws.length → forIn (ks.zip ws) (S, Y) f = pure (S ++ ks.zip ws, Y)
  | [], ws, S, Y, _, _, _, _ => by simp
  | k :: ks, [], S, Y, _, _, _, h => by cases h
  | k :: ks, w :: ws, S, Y, nd, h1, h2, hl => by
    have nd' := List.nodup_cons.mp nd
    rw [List.zip_cons_cons, List.forIn_cons, hf k w S Y (h1 k List.mem_cons_self) (h2 k List.mem_cons_self), pure_bind]
    show forIn (ks.zip ws) (S ++ [(k, w)], Y) f = _
    rw [loop_kw hf nd'.2 (fun z hz => h1 z (List.mem_cons_of_mem _ hz)) (fun z hz => ?_) (by simpa using hl)]
    · simp
    · have ne : z ≠ k := fun e => nd'.1 (e ▸ hz)
      rw [lookup_append, h2 z (List.mem_cons_of_mem _ hz)]
      have e : (z == k) = false := by simpa using ne
      simp [List.lookup_cons, e]
theorem stand_none : notAStandIn Value.none = pure () := by rfl
theorem take_lookup {β : Type} : ∀ {ps : List Str} {vs : List β} {i : Nat} {p : Str}, ps.Nodup → ps[i]? = some p → vs.length ≤ i → (ps.zip vs).lookup p = none
  | [], _, _, _, _, h, _ => by simp at h
  | _ :: _, [], _, _, _, _, _ => rfl
  | q :: ps, w :: vs, 0, p, nd, h1, h2 => by simp at h2
  | q :: ps, w :: vs, i + 1, p, nd, h1, h2 => by
    have m : p ∈ ps := List.mem_of_getElem? (by simpa using h1)
    have ne : p ≠ q := fun z => (List.nodup_cons.mp nd).1 (z ▸ m)
    rw [List.zip_cons_cons, List.lookup_cons]
    have e : (p == q) = false := by simpa using ne
    rw [e]
    exact take_lookup (i := i) (List.nodup_cons.mp nd).2 (by simpa using h1) (by simpa using h2)
theorem perm_val {ps ks : List Str} {us ws : List Value} (k1 : us.length ≤ ps.length) (k5 : ∀ k ∈ ps.drop us.length, k ∈ ks) (hw : ws.length = ks.length) :
    (permOf ps us.length ks).filterMap (fun i => (us ++ ws)[i]?) = us ++ (ps.drop us.length).filterMap fun x => ws[ks.idxOf x]? := by
  unfold permOf
  rw [List.filterMap_append, List.filterMap_map]
  congr 1
  · have : ∀ (n : Nat), n ≤ us.length → (List.range n).filterMap (fun i => (us ++ ws)[i]?) = us.take n := by
      intro n
      induction n with
      | zero => intro _; simp
      | succ n ih =>
        intro hn
        have h1 : n < us.length := by omega
        rw [List.range_succ, List.filterMap_append, ih (by omega), List.take_add_one]
        congr 1
        rw [List.getElem?_eq_getElem h1]
        simp [List.getElem?_append_left h1, List.getElem?_eq_getElem h1]
    rw [this _ (Nat.le_refl _), List.take_length]
  · refine congrArg (List.filterMap · _) (funext fun x => ?_)
    show (us ++ ws)[us.length + ks.idxOf x]? = ws[ks.idxOf x]?
    rw [List.getElem?_append_right (by omega)]
    congr 1
    omega
theorem fm_length {ks : List Str} {ws : List Value} (hw : ws.length = ks.length) : ∀ {l : List Str}, (∀ k ∈ l, k ∈ ks) → (l.filterMap fun x => ws[ks.idxOf x]?).length = l.length ∧ ∀ (i : Nat) (p : Str), l[i]? = some p → (l.filterMap fun x => ws[ks.idxOf x]?)[i]? = ws[ks.idxOf p]?
  | [], _ => ⟨rfl, fun i p h => by simp at h⟩
  | x :: l, h => by
    have hx : ks.idxOf x < ks.length := List.idxOf_lt_length_iff.mpr (h x List.mem_cons_self)
    have hx' : ks.idxOf x < ws.length := by omega
    obtain ⟨i1, i2⟩ := fm_length hw (l := l) fun k hk => h k (List.mem_cons_of_mem _ hk)
    rw [List.filterMap_cons, List.getElem?_eq_getElem hx']
    refine ⟨by simp [i1], fun i p hp => ?_⟩
    cases i with
    | zero =>
      cases (Option.some.inj (by simpa using hp : some x = some p))
      simp [List.getElem?_eq_getElem hx']
    | succ i =>
      have := i2 i p (by simpa using hp)
      simpa using this
theorem binds_kw {ps ks : List Str} {x qual : Str} {params : Arguments} {body : List Stmt} {scope : Scope} {kV doc pm : Value} {an : Option Addr} {cdv ct : Value} {us ws : List Value} (h : plainP ps params = true) (hk : kwOk ps us.length ks = true) (hw : ws.length = ks.length) :
    bindArgs (PySem.W.fnOf x qual params body scope .none kV doc pm an cdv ct) ⟨us, ks.zip ws⟩ = pure (ps.zip ((permOf ps us.length ks).filterMap fun i => (us ++ ws)[i]?)) := by
  obtain ⟨po, ar, va, ko, kd, kw, df⟩ := params
  simp only [plainP, Bool.and_eq_true, List.isEmpty_iff, Option.isNone_iff_eq_none, beq_iff_eq, decide_eq_true_eq] at h
  obtain ⟨⟨⟨⟨⟨rfl, rfl⟩, rfl⟩, rfl⟩, hps⟩, nd⟩ := h
  simp only [kwOk, Bool.and_eq_true, decide_eq_true_eq, List.all_eq_true, List.contains_iff_mem] at hk
  obtain ⟨⟨⟨k1, k2⟩, k3⟩, k5⟩ := hk
  rw [perm_val k1 k5 hw]
  obtain ⟨f1, f2⟩ := fm_length hw k5
  have look : ∀ (i : Nat) (p : Str) (v : Value), ps[i]? = some p → (us ++ (ps.drop us.length).filterMap fun x => ws[ks.idxOf x]?)[i]? = some v → (ps.zip us ++ ks.zip ws).lookup p = some v := by
    intro i p v hp hv
    rw [lookup_append]
    by_cases hi : i < us.length
    · rw [List.getElem?_append_left hi] at hv
      rw [lookup_zip nd hp hv]
      rfl
    · have hi' : us.length ≤ i := by omega
      rw [take_lookup nd hp hi', Option.none_or]
      rw [List.getElem?_append_right hi'] at hv
      have hd : (ps.drop us.length)[i - us.length]? = some p := by
        rw [List.getElem?_drop]
        have : us.length + (i - us.length) = i := by omega
        rw [this]
        exact hp
      rw [f2 _ p hd] at hv
      have hm : p ∈ ks := k5 p (List.mem_of_getElem? hd)
      have hx : ks.idxOf p < ks.length := List.idxOf_lt_length_iff.mpr hm
      refine lookup_zip k2 (i := ks.idxOf p) ?_ hv
      rw [List.getElem?_eq_getElem hx]
      simp
  have hlen : ps.length = (us ++ (ps.drop us.length).filterMap fun x => ws[ks.idxOf x]?).length := by
    rw [List.length_append, f1, List.length_drop]
    omega
  have full : (ps.filter fun n => ((ps.zip us ++ ks.zip ws).lookup n).isNone) = [] := by
    rw [List.filter_eq_nil_iff]
    intro p hp
    obtain ⟨i, hi, e⟩ := List.getElem_of_mem hp
    have hi' : i < (us ++ (ps.drop us.length).filterMap fun x => ws[ks.idxOf x]?).length := by omega
    rw [look i p _ (by rw [List.getElem?_eq_getElem hi, e]) (List.getElem?_eq_getElem hi')]
    simp
  have fin := filterMap_zip nd hlen look
  unfold bindArgs
  simp only [PySem.W.fnOf, seqItems?, List.map_nil, List.nil_append, hps]
  rw [loop_kw (normal := ps) (fun k v S Y hk hS => by simp [hk, hS]) k2 (fun k hk => List.mem_of_mem_drop (k3 k hk)) (fun k hk => ?_) hw.symm]
  · have ng : (decide (us.length > ps.length) && (none : Option Arg).isNone) = false := by simp; omega
    simp only [pure_bind, stand_none, ng, Option.getD_none, List.length_nil, Nat.zero_sub, List.drop_nil, Nat.sub_zero, List.take_length, full, List.isEmpty_nil, Bool.not_true, Bool.false_eq_true, if_false, List.zip_nil_right, List.forIn_nil, List.append_nil, fin]
  · obtain ⟨i, hi, e⟩ := List.getElem_of_mem (k3 k hk)
    rw [List.getElem_drop] at e
    have hi2 : us.length + i < ps.length := by rw [List.length_drop] at hi; omega
    exact take_lookup nd (i := us.length + i) (by rw [List.getElem?_eq_getElem hi2, e]) (by omega)
theorem binds_plain {ps : List Str} {x qual : Str} {params : Arguments} {body : List Stmt} {scope : Scope} {kV doc pm : Value} {an : Option Addr} {cdv ct : Value} {us : List Value} (h : plainP ps params = true) (hl : us.length = ps.length) :
    bindArgs (PySem.W.fnOf x qual params body scope .none kV doc pm an cdv ct) ⟨us, []⟩ = pure (ps.zip us) := by
  have hk : kwOk ps us.length [] = true := by simp [kwOk, hl]
  have e := binds_kw (x := x) (qual := qual) (body := body) (scope := scope) (kV := kV) (doc := doc) (pm := pm) (an := an) (cdv := cdv) (ct := ct) (ks := []) (ws := []) h hk rfl
  rw [perm_val (by omega) (by simp [hl]) rfl] at e
  simpa [hl] using e
/-! ### the rules -/
abbrev pick {α : Type} (q : List Nat) (vs zs : List α) : List α := q.filterMap fun i => (vs ++ zs)[i]?
theorem vals_pick {q : List Nat} {vs zs : List V} {us ws : List Value} (r : Vals vs us) (r2 : Vals zs ws) : Vals (pick q vs zs) (pick q us ws) := by
  have r3 := r.append r2
  induction q with
  | nil => exact .nil
  | cons i q ih =>
    unfold pick
    rw [List.filterMap_cons, List.filterMap_cons]
    cases e : (vs ++ zs)[i]? with
    | none =>
      have : (us ++ ws)[i]? = none := by
        rw [List.getElem?_eq_none_iff] at e ⊢
        rw [← r3.length]
        exact e
      rw [this]
      exact ih
    | some v =>
      obtain ⟨u, hu, ru⟩ := r3.get e
      rw [hu]
      exact .cons ru ih
theorem reps_pick {K : PySem.W.Frag} {G : Gh} {H : Hp} {q : List Nat} : ∀ {ds : List D} {vs : List V} {es : List D}, Reps K G H vs ds → (q.mapM fun i => ds[i]?) = some es → Reps K G H (q.filterMap fun i => vs[i]?) es := by
  induction q with
  | nil =>
    intro ds vs es r e
    simp at e
    subst e
    exact .nil
  | cons i q ih =>
    intro ds vs es r e
    rw [List.mapM_cons] at e
    cases h1 : ds[i]? with
    | none =>
      rw [h1] at e
      cases e
    | some d =>
      rw [h1] at e
      cases h2 : q.mapM fun i => ds[i]? with
      | none =>
        simp [h2] at e
      | some es' =>
        simp [h2] at e
        subst e
        obtain ⟨v, hv, rv⟩ := r.get h1
        rw [List.filterMap_cons, hv]
        exact .cons rv (ih r h2)
section
variable {X : Cx} {G : Gh} {E : XK} {m : Mod} {a b : Cd} {pos p : Pos} {x : Str}
/-- a def without defaults: its parameters -/
structure FnP (K : PySem.W.Frag) (fd : FuncData) (ps : List Str) : Prop where
  ex : ∃ (y qual : Str) (params : Arguments) (body : List Stmt) (scope : Scope) (kV doc pm : Value) (an : Option Addr) (cdv ct : Value), fd = PySem.W.fnOf y qual params body scope .none kV doc pm an cdv ct ∧ plainP ps params = true
theorem FnP.binds {K : PySem.W.Frag} {fd : FuncData} {ps : List Str} (h : FnP K fd ps) : L2.Binds K fd ps [] := by
  obtain ⟨y, qual, params, body, scope, kV, doc, pm, an, cdv, ct, rfl, hp⟩ := h.ex
  exact .all fun us hl => binds_plain hp hl
theorem FnP.kbn {K : PySem.W.Frag} {fd : FuncData} {ps ks : List Str} {n : Nat} (h : FnP K fd ps) (hk : kwOk ps n ks = true) : KBn K fd ps n ks (pick (permOf ps n ks)) (pick (permOf ps n ks)) := by
  obtain ⟨y, qual, params, body, scope, kV, doc, pm, an, cdv, ct, rfl, hp⟩ := h.ex
  refine ⟨fun s us ws _ l1 l2 => ?_, fun r r2 => vals_pick r r2⟩
  subst l1
  exact .of_eq (binds_kw hp hk l2)
theorem asTupN_some {n : Nat} {d : D} {xs : List D} (h : asTupN n d = some xs) : d = .tup xs ∧ xs.length = n := by
  cases d with
  | tup ys =>
    have h' : (if ys.length = n then some ys else none) = some xs := h
    split at h'
    · cases h'
      exact ⟨rfl, by assumption⟩
    · cases h'
  | _ => cases h
theorem asTupN_stuck {n : Nat} {d : D} (h : ∀ xs, d ≠ .tup xs) : asTupN n d = none := by
  cases d with
  | tup xs => exact absurd rfl (h xs)
  | _ => rfl
/-- the values of the arguments and of the keywords, in the parameters' sequence -/
theorem perm_run {q : List Nat} {k : List D → RS → Res D} {σ : L2.St} {H : Hp} {Hs : Hp} {en : Ev} {s : RS} {P : D → RS → Prop} {n n2 : Nat} {Q : List V → List V → Hp → Prop}
    (o : Ok G Hs H s) (r : EnvR X.K G Hs σ en) (p : Post X.K G E Hs H ((evE m (.perm n n2 q a b) en s).bind fun x s => (liftO (asTup x) s).bind fun xs s => k xs s) P)
    (hq : ∀ ds s' vs zs Hs' H', vs.length = n → zs.length = n2 → Post X.K G E Hs' H' (k ds s') P → Sub Hs Hs' → Ok G Hs' H' s' → Kp G Hs H Hs' H' → Reps X.K G Hs' (pick q vs zs) ds → Q vs zs H') :
    tA X.K G E (evE m a) σ H fun vs H1 => tA X.K G E (evE m b) σ H1 fun zs H2 => Q vs zs H2 := by
  refine args_run (k := fun x s => (liftO (asTupN n x) s).bind fun xs s => (evE m b en s).bind fun y s => (liftO (asTupN n2 y) s).bind fun ys s => liftO ((q.mapM fun i => (xs ++ ys)[i]?).map D.tup) s) (fun d s hd => by rw [asTupN_stuck hd]; rfl) o r p.bind fun xs s1 vs Hs1 H1 p1 e1 o1 k1 r1 => ?_
  obtain ⟨xs', hx, p2⟩ := p1.bind.liftO
  obtain ⟨hx, hl⟩ := asTupN_some hx
  cases hx
  refine args_run (k := fun y s => (liftO (asTupN n2 y) s).bind fun ys s => liftO ((q.mapM fun i => (xs ++ ys)[i]?).map D.tup) s) (fun d s hd => by rw [asTupN_stuck hd]; rfl) o1 (r.mono e1) p2 fun ys s2 zs Hs2 H2 p3 e2 o2 k2 r2 => ?_
  obtain ⟨ys', hy, p4⟩ := p3.bind.liftO
  obtain ⟨hy, hl2⟩ := asTupN_some hy
  cases hy
  obtain ⟨d, hd, p5⟩ := p4.liftO
  obtain ⟨es, he, rfl⟩ := Option.map_eq_some_iff.mp hd
  exact hq es s2 vs zs Hs2 H2 (by rw [r1.length, hl]) (by rw [r2.length, hl2]) (p5.later (e1.trans e2) (k1.trans k2) fun _ _ z => z) (e1.trans e2) o2 (k1.trans k2) (reps_pick ((r1.mono e2).append r2) he)

theorem kw_some : ∀ {kws : List Keyword} (env : Env) (pos : Pos), (kws.all (·.arg.isSome)) = true → (backToKw pos (keywordEach kws env)).all (·.1.isSome) = true ∧ (backToKw pos (keywordEach kws env)).any (·.1.isNone) = false ∧ (backToKw pos (keywordEach kws env)).filterMap (·.1) = kws.filterMap (·.arg)
  | [], _, _, _ => ⟨rfl, rfl, rfl⟩
  | ⟨none, e, kp⟩ :: kws, env, pos, h => by simp at h
  | ⟨some k, e, kp⟩ :: kws, env, pos, h => by
    have h' : kws.all (·.arg.isSome) = true := by simpa using h
    obtain ⟨h1, h2, h3⟩ := kw_some env pos h'
    refine ⟨h1, h2, ?_⟩
    show k :: (backToKw pos (keywordEach kws env)).filterMap (·.1) = _
    rw [h3]
    rfl
/-- f(e, .., k = v, ..) -/
theorem sE_callN {i k n n2 : Nat} {e : Expr} {es : List Expr} {kws : List Keyword} {ks : List Str} {f : Addr} {fd : FuncData} {ps : List Str} {CX : CXT} (F : FnOk X.prog X.w X.K X.mg X.base CX k f fd ps (spD X.K G (m.call i))) (hp : FnP X.K fd ps) (hr : Room k X.A) (hg : Gl X x) (hm : X.mg x = some (.ref f)) (hk : PySem.W.keepIn X.K (.ref f) = true)
    (hx : Passes CX X E) (ha : PA X (e :: es) (tA X.K G E (evE m a))) (hb : PK X kws (tA X.K G E (evE m b))) (hs : (e :: es).all notStar = true) (hd : (x == ("__debug__" : Str)) = false) (hkw : kwOk ps n ks = true) (ha2 : (kws.all (·.arg.isSome)) = true) (hks : kws.filterMap (·.arg) = ks) (hn2 : ks.length = n2) :
    PE X (.Call (.Name x p) (e :: es) kws pos) (tC' X G E m false (.call i (.perm n n2 (permOf ps n ks) a b))) := by
  have h' : notStar e = true ∧ es.all notStar = true := by simpa using hs
  obtain ⟨h1, h2, h3⟩ := kw_some X.env pos ha2
  refine (pe_callN F hr hg hm hk (hp.kbn hkw) hx ha hb h1 (h3.trans hks) hd (starEach_cons h'.1 _ _) (by rw [star_any _ _ hs, h2] <;> rfl)).weak fun σ H Q ⟨Hs, en, s, ok, r, p⟩ => ?_
  exact perm_run ok r p fun ds s' vs zs Hs' H' l1 l2 p' e' o' k' r' => ⟨l1, l2.trans hn2.symm, Hs', s', ds, o', r', p'.imp fun d s2 _ q => q.later ok e' o' k'⟩
/-- f(k = v, ..) -/
theorem sE_callN0 {i k n2 : Nat} {kws : List Keyword} {ks : List Str} {f : Addr} {fd : FuncData} {ps : List Str} {CX : CXT} (F : FnOk X.prog X.w X.K X.mg X.base CX k f fd ps (spD X.K G (m.call i))) (hp : FnP X.K fd ps) (hr : Room k X.A) (hg : Gl X x) (hm : X.mg x = some (.ref f)) (hk : PySem.W.keepIn X.K (.ref f) = true)
    (hx : Passes CX X E) (hb : PK X kws (tA X.K G E (evE m b))) (hd : (x == ("__debug__" : Str)) = false) (hkw : kwOk ps 0 ks = true) (ha2 : (kws.all (·.arg.isSome)) = true) (hks : kws.filterMap (·.arg) = ks) (hn2 : ks.length = n2) :
    PE X (.Call (.Name x p) [] kws pos) (tC' X G E m false (.call i (.perm 0 n2 (permOf ps 0 ks) .nil b))) := by
  obtain ⟨h1, h2, h3⟩ := kw_some X.env pos ha2
  refine ⟨fun pins s σ H Q I ⟨Hs, en, s', ok, r, p⟩ => ?_⟩
  refine wpAny_Call_Name_kw (ld_glob I hg hm ?_ hd)
  refine PySem.W.callWith_KW0 (h₀ := X.base) I.ok.mod.kin hk h1 ?_ (by rw [h2] <;> rfl)
  have go := perm_run (Q := fun vs zs H1 => vs = [] ∧ zs.length = n2 ∧ spD X.K G (m.call i) (pick (permOf ps 0 ks) vs zs) H1 Q E) ok r p fun ds s' vs zs Hs' H' l1 l2 p' e' o' k' r' => ⟨List.length_eq_zero_iff.mp l1, l2, Hs', s', ds, o', r', p'.imp fun d s2 _ q => q.later ok e' o' k'⟩
  obtain ⟨Hs1, en1, t1, ok1, r1, p1⟩ := go
  obtain ⟨ds, hds, q1⟩ := (show ∃ ds, D.tup [] = .tup ds ∧ PR G (Reps X.K G) Hs1 H ds t1 _ from p1)
  cases hds
  have q2 := q1 [] Hs1 H (Same.refl _) ok1 (Kp.refl _ _ _) .nil
  refine thn (hb.run pos pins s σ H _ I q2) fun ws s2 ⟨zs, H2, I2, rz, _, l2, q3⟩ => ⟨I2.kIn, ?_⟩
  rw [h3.trans hks]
  exact run_fnN (us := []) (vs := []) F hr (hp.kbn hkw) hx I2 .nil rz rfl (l2.trans hn2.symm) q3
theorem permOf_succ {q0 : Str} {ps ks : List Str} {n : Nat} : permOf (q0 :: ps) (n + 1) ks = 0 :: (permOf ps n ks).map (· + 1) := by
  unfold permOf
  rw [List.range_succ_eq_map, List.cons_append, List.map_append, List.map_map, List.drop_succ_cons]
  congr 2
  refine List.map_congr_left fun x _ => ?_
  show n + 1 + ks.idxOf x = n + ks.idxOf x + 1
  omega
theorem pick_succ {α : Type} {q0 : Str} {ps ks : List Str} {n : Nat} {x : α} {vs zs : List α} : pick (permOf (q0 :: ps) (n + 1) ks) (x :: vs) zs = x :: pick (permOf ps n ks) vs zs := by
  unfold pick
  rw [permOf_succ, List.filterMap_cons, List.filterMap_map]
  rfl
/-- C(k = v, ..) -/
theorem sE_mkN0 {i k n2 : Nat} {kws : List Keyword} {ks : List Str} {f : Addr} {fd : FuncData} {ps : List Str} {q0 : Str} {CX : CXT} (mk : MakeOk m) (M : Mk X.K (G.ca i) f) (F : FnOk X.prog X.w X.K X.mg X.base CX k f fd (q0 :: ps) (spI X.K G i (m.make i))) (hp : FnP X.K fd (q0 :: ps)) (hr : Room (k + 1) X.A) (hg : Gl X x) (hm : X.mg x = some (.ref (G.ca i)))
    (hx : Passes CX X E) (hb : PK X kws (tA X.K G E (evE m b))) (hd : (x == ("__debug__" : Str)) = false) (hkw : kwOk (q0 :: ps) 1 ks = true) (ha2 : (kws.all (·.arg.isSome)) = true) (hks : kws.filterMap (·.arg) = ks) (hn2 : ks.length = n2) :
    PE X (.Call (.Name x p) [] kws pos) (tC' X G E m false (.mk i (.perm 0 n2 (permOf ps 0 ks) .nil b))) := by
  obtain ⟨h1, h2, h3⟩ := kw_some X.env pos ha2
  refine (pe_makeK0 M F hr hg hm (hp.kbn hkw) hx hb h1 (h3.trans hks) hd (by rw [h2] <;> rfl)).weak fun σ H Q ⟨Hs, en, s', ok, r, p⟩ => ?_
  have go := perm_run (Q := fun vs zs H1 => vs = [] ∧ zs.length = n2 ∧ ∀ x dx, H1 x = none → H1 dx = none → dx ≠ x → spI X.K G i (m.make i) (.ref x :: (pick (permOf ps 0 ks) vs zs ++ [])) (upd (upd H1 dx (.own x)) x (.ins (G.ca i) dx [])) (fun v H3 => v = .non ∧ Q (.ref x) H3) E) ok r p
    fun ds s' vs zs Hs' H' l1 l2 p' e' o' k' r' => ⟨List.length_eq_zero_iff.mp l1, l2, fun y dx hy hdx hne => mk_sp ok e' o' k' r' hy hdx hne mk p'⟩
  obtain ⟨Hs1, en1, t1, ok1, r1, p1⟩ := go
  obtain ⟨ds, hds, q1⟩ := (show ∃ ds, D.tup [] = .tup ds ∧ PR G (Reps X.K G) Hs1 H ds t1 _ from p1)
  cases hds
  have q2 := q1 [] Hs1 H (Same.refl _) ok1 (Kp.refl _ _ _) .nil
  obtain ⟨Hs2, en2, t2, ok2, r2, p2⟩ := q2
  refine ⟨Hs2, en2, t2, ok2, r2, p2.imp fun d s2 _ ⟨ds, e, z⟩ => ⟨ds, e, fun zs Hs' H' a b c rp => ?_⟩⟩
  obtain ⟨_, l2, q3⟩ := z zs Hs' H' a b c rp
  refine ⟨rfl, l2.trans hn2.symm, fun x dx h1 h2 h3 => ?_⟩
  rw [pick_succ]
  have := q3 x dx h1 h2 h3
  rw [List.append_nil] at this
  exact this
/-- C(e, .., k = v, ..) -/
theorem sE_mkN {i k n n2 : Nat} {e : Expr} {es : List Expr} {kws : List Keyword} {ks : List Str} {f : Addr} {fd : FuncData} {ps : List Str} {q0 : Str} {CX : CXT} (mk : MakeOk m) (M : Mk X.K (G.ca i) f) (F : FnOk X.prog X.w X.K X.mg X.base CX k f fd (q0 :: ps) (spI X.K G i (m.make i))) (hp : FnP X.K fd (q0 :: ps)) (hr : Room (k + 1) X.A) (hg : Gl X x) (hm : X.mg x = some (.ref (G.ca i)))
    (hx : Passes CX X E) (ha : PA X (e :: es) (tA X.K G E (evE m a))) (hb : PK X kws (tA X.K G E (evE m b))) (hs : (e :: es).all notStar = true) (hd : (x == ("__debug__" : Str)) = false) (hkw : kwOk (q0 :: ps) (n + 1) ks = true) (ha2 : (kws.all (·.arg.isSome)) = true) (hks : kws.filterMap (·.arg) = ks) (hn2 : ks.length = n2) :
    PE X (.Call (.Name x p) (e :: es) kws pos) (tC' X G E m false (.mk i (.perm n n2 (permOf ps n ks) a b))) := by
  have h' : notStar e = true ∧ es.all notStar = true := by simpa using hs
  obtain ⟨h1, h2, h3⟩ := kw_some X.env pos ha2
  refine (pe_makeN M F hr hg hm (hp.kbn hkw) hx ha hb h1 (h3.trans hks) hd (starEach_cons h'.1 _ _) (by rw [star_any _ _ hs, h2] <;> rfl)).weak fun σ H Q ⟨Hs, en, s, ok, r, p⟩ => ?_
  refine perm_run ok r p fun ds s' vs zs Hs' H' l1 l2 p' e' o' k' r' => ⟨l1, l2.trans hn2.symm, fun y dx hy hdx hne => ?_⟩
  rw [pick_succ]
  have := mk_sp ok e' o' k' r' hy hdx hne mk p'
  rw [List.append_nil] at this
  exact this
end
end Fw

/-! FwG: built-ins by name, tuple(..), list(..), reversal, attributes, isinstance. -/
namespace Fw
open PySem L2 PyProof.Rows
section
variable {X : Cx} {G : Gh} {E : XK} {m : Mod} {a b c : Cd} {ea eb ec : Expr} {pos p p1 p2 p3 : Pos} {x : Str}

def bltName : Blt → Str
  | .len => "len" | .abs => "abs" | .min2 => "min" | .max2 => "max" | .minl => "min" | .maxl => "max" | .sum => "sum" | .any => "any" | .all => "all" | .int => "int"
theorem boot_blt (f : Blt) : bootBuiltins (bltName f) = some (bltV f) := by
  cases f <;> decide +kernel
theorem blt_ne (f : Blt) : bltName f ≠ "__name__" ∧ (bltName f == ("__debug__" : Str)) = false := by
  cases f <;> exact ⟨by decide, by decide⟩
theorem one_eq {en : Ev} {s : RS} : evE m (.cons a .nil) en s = (evE m a en s).bind fun x s => .ok (.tup [x]) s := rfl
theorem sE_blt {f : Blt} {e : Expr} {es : List Expr} (hc : X.calm = true) (hg : Gl X (bltName f)) (hm : X.mg (bltName f) = none) (ha : PA X (e :: es) (tA X.K G E (evE m a))) (hs : (e :: es).all notStar = true) :
    PE X (.Call (.Name (bltName f) p) (e :: es) [] pos) (tC' X G E m false (.blt f a)) := by
  have h' : notStar e = true ∧ es.all notStar = true := by simpa using hs
  have key : ∀ σ H Q, tC' X G E m false (.blt f a) σ H Q → tCB (rBlt X.K G f) (tA X.K G E (evE m a)) σ H Q := fun σ H Q ⟨Hs, en, s, ok, r, p⟩ =>
    args_run (k := fun x s => liftO ((asTup x).bind (bltD f)) s) (fun d s n => by cases d <;> first | rfl | exact absurd rfl (n _)) ok r p fun ds s' vs Hs' H' p' e' o' k' r' => by
      obtain ⟨d, hd, q⟩ := p'.liftO
      exact ⟨Hs', s', ds, d, o', r', hd, q.later ok e' o' k'⟩
  by_cases hi : f = .int
  · subst hi
    exact (pe_callTy (call_blt (G := G) .int hc) hg hm (boot_blt .int) ha (blt_ne _).1 (blt_ne _).2 (starEach_cons h'.1 _ _) (star_any _ _ h'.2)).weak key
  · have hv : ∃ id, bltV f = .builtin id := by
      cases f <;> first
        | exact ⟨_, rfl⟩
        | exact absurd rfl hi
    obtain ⟨id, hv⟩ := hv
    exact (pe_callB (id := id) (by rw [← hv]; exact call_blt (G := G) f hc) hg hm (by rw [← hv]; exact boot_blt f) ha (blt_ne _).1 (blt_ne _).2 (starEach_cons h'.1 _ _) (star_any _ _ h'.2)).weak key

/-! ### tuple(..), list(..) -/
theorem na1 {e : Expr} (h : notStar e = true) (env : Env) : starEach [e] env = (false, eval e env) :: starEach [] env := starEach_cons h _ _
theorem na2 {e e2 : Expr} (h : notStar e = true) (env : Env) : starEach [e, e2] env = (false, eval e env) :: starEach [e2] env := starEach_cons h _ _
theorem sE_tupleOf (hg : Gl X "tuple") (hm : X.mg "tuple" = none) (ha : PE X ea (tC' X G E m false a)) (hs : notStar ea = true) : PE X (.Call (.Name "tuple" p) [ea] [] pos) (tC' X G E m false (.seqT .plain (.cons a .nil))) :=
  (pe_tupleOf hg hm ha (na1 hs _)).weak fun σ H Q ⟨Hs, en, s, ok, r, p⟩ => tE_run ok r (p.bind.bind) fun dx s1 v Hs1 H1 p1 e1 o1 k1 r1 en1 => by
    obtain ⟨d, hd, q⟩ := Post.liftO (show Post X.K G E Hs H (liftO ((itemsD .plain [dx]).map D.tup) s1) fun d s' => PV X.K G false Hs H d s' Q from p1)
    cases dx with
    | lst xs =>
      cases hd
      cases r1 with
      | @lst a vs ds ha ra => exact .inl ⟨a, vs, rfl, SqL.of (o1.sub _ _ ha), fun q' n => ((show PV X.K G false Hs H (.tup xs) s1 Q from q).later ok e1 o1 k1).newT o1 ra q' n⟩
    | tup xs =>
      cases hd
      cases r1 with
      | @tup a vs ds ha ra => exact .inr ⟨a, vs, rfl, sqT_mono o1.sub ha, PV.now o1 (.tup ha ra) ((show PV X.K G false Hs H (.tup xs) s1 Q from q).later ok e1 o1 k1)⟩
    | _ => cases hd
theorem sE_listOf (hg : Gl X "list") (hm : X.mg "list" = none) (ha : PE X ea (tC' X G E m false a)) (hs : notStar ea = true) : PE X (.Call (.Name "list" p) [ea] [] pos) (tC' X G E m true (.seqL .plain (.cons a .nil))) := by
  have h1 : PA X [ea] (tA X.K G E (evE m (.cons a .nil))) := sA_cons ha sA_nil hs
  refine (pe_callTy call_list_of hg hm (by decide +kernel) h1 (by decide) (by decide) (na1 hs _) (by rfl)).weak fun σ H Q ⟨Hs, en, s, ok, r, p⟩ => ?_
  refine args_run (k := fun x s => liftO (((asTup x).bind (itemsD .plain)).map D.lst) s) (fun d s n => by cases d <;> first | rfl | exact absurd rfl (n _)) ok r p fun ds s1 vs Hs1 H1 p' e1 o1 k1 r' => ?_
  obtain ⟨d, hd, q⟩ := p'.liftO
  cases r' with
  | nil => cases hd
  | cons h1 r2 => cases r2 with
    | nil => cases h1 with
      | @lst a vs xs ha ra =>
        cases hd
        exact ⟨a, vs, rfl, .inl (SqL.of (o1.sub _ _ ha)), fun q' n => ((show PV X.K G true Hs H (.lst xs) s1 Q from q).later ok e1 o1 k1).newL o1 ra q' n⟩
      | @tup a vs xs ha ra =>
        cases hd
        exact ⟨a, vs, rfl, .inr (sqT_mono o1.sub ha), fun q' n => ((show PV X.K G true Hs H (.lst xs) s1 Q from q).later ok e1 o1 k1).newL o1 ra q' n⟩
      | _ => cases hd
    | cons h2 r3 => cases h1 <;> cases hd

/-! ### ranges -/
theorem rg_reps {K : PySem.W.Frag} {H : Hp} (u v : Int) : Reps K G H (rgV u v) (rngD u v) := by
  unfold rgV rngD
  generalize List.range (v - u).toNat = l
  induction l with
  | nil => exact .nil
  | cons i l ih => exact .cons (.int _) ih
theorem rgOk_ok {u v : Int} (h : rgOk u v = true) : RgOk u v := by
  simp only [rgOk, Bool.and_eq_true, decide_eq_true_eq] at h
  exact ⟨h.1.1.1.1, h.1.1.1.2, h.1.1.2, h.1.2, by have := h.2; omega⟩
/-- what a range's expression says -/
def tRg (K : PySem.W.Frag) (G : Gh) (E : XK) (m : Mod) (k : ItK) (c : Cd) : L2.St → Hp → (Int → Int → Hp → Prop) → Prop := fun σ H Q => ∃ Hs e s, Ok G Hs H s ∧ EnvR K G Hs σ e ∧
  Post K G E Hs H ((evE m c e s).bind fun x s => liftO ((asTup x).bind (itemsD k)) s) fun xs s' => ∀ u v, rgOk u v = true → xs = rngD u v → PR G (fun _ (x : Int × Int) (y : Int × Int) => x = y) Hs H (u, v) s' fun y => Q y.1 y.2
theorem sR_1 (hg : Gl X "range") (hm : X.mg "range" = none) (ha : PE X ea (tC' X G E m false a)) (hs : notStar ea = true) : PRg X (.Call (.Name "range" p) [ea] [] pos) (tRg X.K G E m .rng1 (.cons a .nil)) := by
  intro pins s σ H Q I ⟨Hs, en, s', ok, r, p⟩
  refine prg_1 hg hm ha (na1 hs _) pins s σ H Q I (tE_run ok r (p.bind.bind) fun dx s1 v Hs1 H1 p1 e1 o1 k1 r1 en1 => ?_)
  cases dx with
  | int i =>
    cases r1
    refine ⟨i, rfl, ?_⟩
    obtain ⟨d, hd, q⟩ := Post.liftO (show Post X.K G E Hs H (liftO (if rgOk 0 i then some (rngD 0 i) else none) s1) _ from p1)
    split at hd
    · rename_i hz
      cases hd
      exact q 0 i hz rfl (0, i) Hs1 H1 e1 o1 k1 rfl
    · cases hd
  | _ => exact (show False from p1).elim
theorem sR_2 (hg : Gl X "range") (hm : X.mg "range" = none) (ha : PE X ea (tC' X G E m false a)) (hb : PE X eb (tC' X G E m false b)) (hs : notStar ea = true) (hs2 : notStar eb = true) : PRg X (.Call (.Name "range" p) [ea, eb] [] pos) (tRg X.K G E m .rng2 (.cons a (.cons b .nil))) := by
  intro pins s σ H Q I ⟨Hs, en, s', ok, r, p⟩
  have e : (evE m (.cons a (.cons b .nil)) en s').bind (fun x s => liftO ((asTup x).bind (itemsD .rng2)) s) = (evE m a en s').bind fun x s => (evE m b en s).bind fun y s => liftO (itemsD .rng2 [x, y]) s := by
    show (Res.bind _ _).bind _ = _
    rw [Res.bind_assoc]
    congr 1
    funext x s
    rw [Res.bind_assoc]
    show (Res.bind _ _).bind _ = _
    rw [Res.bind_assoc]
    rfl
  rw [e] at p
  refine prg_2 hg hm ha hb (na2 hs _) (na1 hs2 _) (star_any (es := [eb]) _ _ (by simp [hs2])) pins s σ H Q I (run2 ok r p fun dx dy s1 v w Hs1 H1 p1 e1 o1 k1 r1 r2 en1 => ?_)
  cases dx with
  | int i => cases dy with
    | int j =>
      cases r1
      cases r2
      refine ⟨i, j, rfl, rfl, ?_⟩
      obtain ⟨d, hd, q⟩ := Post.liftO (show Post X.K G E Hs1 H1 (liftO (if rgOk i j then some (rngD i j) else none) s1) _ from p1)
      split at hd
      · rename_i hz
        cases hd
        exact q i j hz rfl (i, j) Hs1 H1 e1 o1 k1 rfl
      · cases hd
    | _ => exact (show False from p1).elim
  | _ => exact (show False from p1).elim
theorem rg_items {k : ItK} (hk : isRng k = true) {x : D} {xs : List D} (h : (asTup x).bind (itemsD k) = some xs) : ∃ u v, rgOk u v = true ∧ xs = rngD u v := by
  cases x with
  | tup ds =>
    cases k with
    | rng1 =>
      match ds with
      | [.int b] =>
        have h' : (if rgOk 0 b then some (rngD 0 b) else none) = some xs := h
        split at h'
        · cases h'
          exact ⟨0, b, by assumption, rfl⟩
        · cases h'
      | [] => cases h
      | .int b :: _ :: _ => cases h
      | .non :: _ => cases h
      | .bl _ :: _ => cases h
      | .str _ :: _ => cases h
      | .tup _ :: _ => cases h
      | .lst _ :: _ => cases h
      | .dic _ _ :: _ => cases h
      | .ins _ _ :: _ => cases h
      | .exc _ _ :: _ => cases h
      | .st :: _ => cases h
      | .scr _ :: _ => cases h
    | rng2 =>
      match ds with
      | [.int a, .int b] =>
        have h' : (if rgOk a b then some (rngD a b) else none) = some xs := h
        split at h'
        · cases h'
          exact ⟨a, b, by assumption, rfl⟩
        · cases h'
      | [] => cases h
      | [d] => cases d <;> cases h
      | d :: e :: g :: r => cases d <;> first | (cases h; done) | (cases e <;> cases h)
      | [.non, d] => cases h
      | [.bl _, d] => cases h
      | [.str _, d] => cases h
      | [.tup _, d] => cases h
      | [.lst _, d] => cases h
      | [.dic _ _, d] => cases h
      | [.ins _ _, d] => cases h
      | [.exc _ _, d] => cases h
      | [.st, d] => cases h
      | [.scr _, d] => cases h
      | [.int _, .non] => cases h
      | [.int _, .bl _] => cases h
      | [.int _, .str _] => cases h
      | [.int _, .tup _] => cases h
      | [.int _, .lst _] => cases h
      | [.int _, .dic _ _] => cases h
      | [.int _, .ins _ _] => cases h
      | [.int _, .exc _ _] => cases h
      | [.int _, .st] => cases h
      | [.int _, .scr _] => cases h
    | _ => cases hk
  | _ => cases h
theorem tRg_of {k : ItK} (hk : isRng k = true) {σ : L2.St} {H Hs : Hp} {en : Ev} {s : RS} {P : List D → RS → Prop} {Q : Int → Int → Hp → Prop} (ok : Ok G Hs H s) (r : EnvR X.K G Hs σ en)
    (p : Post X.K G E Hs H ((evE m c en s).bind fun x s => liftO ((asTup x).bind (itemsD k)) s) P)
    (q : ∀ u v s' Hs' H', rgOk u v = true → P (rngD u v) s' → Sub Hs Hs' → Ok G Hs' H' s' → Kp G Hs H Hs' H' → EnvR X.K G Hs' σ en → Q u v H') : tRg X.K G E m k c σ H Q :=
  ⟨Hs, en, s, ok, r, p.imp fun xs s' _ z u v hz he y Hs' H' e o k hy => by
    subst hy
    subst he
    exact q u v s' Hs' H' hz z e o k (r.mono e)⟩
theorem sE_tupRg {e : Expr} {k : ItK} (hk : isRng k = true) (hc : X.calm = true) (hg : Gl X "tuple") (hm : X.mg "tuple" = none) (he : PRg X e (tRg X.K G E m k c)) (hs : notStar e = true) : PE X (.Call (.Name "tuple" p) [e] [] pos) (tC' X G E m false (.seqT k c)) :=
  (pe_tupRg hc hg hm he (na1 hs _)).weak fun σ H Q ⟨Hs, en, s, ok, r, p⟩ => by
    have e : evE m (.seqT k c) en s = ((evE m c en s).bind fun x s => liftO ((asTup x).bind (itemsD k)) s).bind fun xs s => .ok (.tup xs) s := by
      show Res.bind _ _ = _
      rw [Res.bind_assoc]
      congr 1
      funext x s
      cases (asTup x).bind (itemsD k) <;> rfl
    rw [e] at p
    exact tRg_of hk ok r p.bind fun u v s' Hs' H' hz z e' o' k' _ => ⟨rgOk_ok hz, fun q n => ((show PV X.K G false Hs H (.tup (rngD u v)) s' Q from z).later ok e' o' k').newT o' (rg_reps u v) q n⟩
theorem sE_listRg {e : Expr} {k : ItK} (hk : isRng k = true) (hc : X.calm = true) (hg : Gl X "list") (hm : X.mg "list" = none) (he : PRg X e (tRg X.K G E m k c)) (hs : notStar e = true) : PE X (.Call (.Name "list" p) [e] [] pos) (tC' X G E m true (.seqL k c)) :=
  (pe_listRg hc hg hm he (na1 hs _)).weak fun σ H Q ⟨Hs, en, s, ok, r, p⟩ => by
    have e : evE m (.seqL k c) en s = ((evE m c en s).bind fun x s => liftO ((asTup x).bind (itemsD k)) s).bind fun xs s => .ok (.lst xs) s := by
      show Res.bind _ _ = _
      rw [Res.bind_assoc]
      congr 1
      funext x s
      cases (asTup x).bind (itemsD k) <;> rfl
    rw [e] at p
    exact tRg_of hk ok r p.bind fun u v s' Hs' H' hz z e' o' k' _ => ⟨rgOk_ok hz, fun q n => ((show PV X.K G true Hs H (.lst (rngD u v)) s' Q from z).later ok e' o' k').newL o' (rg_reps u v) q n⟩

/-! ### attributes -/
/-- attributes' names, by number -/
structure FldOk (X : Cx) (G : Gh) (m : Mod) (f : Nat) (y : Str) : Prop where
  cf : ∀ c k i, m.cls c = some k → k.fields.idxOf? f = some i → Cls X.K (G.ca c) ∧ NoAttr X.K (G.ca c) y ∧ ∀ (fs : List (Str × V)), fs.map (·.1) = G.cf c → ∀ v, (fs.map (·.2))[i]? = some v → fs.lookup y = some v
theorem sE_fld {f : Nat} {y : Str} (hf : FldOk X G m f y) (hb : attributeBase ea y X.env (eval ea X.env) = eval ea X.env) (ha : PE X ea (tC' X G E m false a)) : PE X (.Attribute ea y pos) (tC' X G E m false (.fld a f)) :=
  (pe_fld ha hb).weak fun σ H Q ⟨Hs, en, s, ok, r, p⟩ => tE_run ok r p.bind fun dx s1 v Hs1 H1 p1 e1 o1 k1 r1 en1 => by
    obtain ⟨d, hd, q⟩ := p1.liftO
    cases r1 with
    | @ins ad dx c fs ds h hfs ra =>
      have hd' : ((m.cls c).bind fun k => (k.fields.idxOf? f).bind fun i => ds[i]?) = some d := hd
      obtain ⟨k, hk, hd2⟩ := Option.bind_eq_some_iff.mp hd'
      obtain ⟨i, hi, hd3⟩ := Option.bind_eq_some_iff.mp hd2
      obtain ⟨h1, h2, h3⟩ := hf.cf c k i hk hi
      obtain ⟨v, hv, rv⟩ := ra.get hd3
      exact ⟨ad, G.ca c, dx, fs, v, rfl, o1.sub _ _ h, h1, h2, h3 fs hfs v hv, PV.now o1 rv (q.later ok e1 o1 k1)⟩
    | _ => cases hd
/-- from the names alone -/
theorem lookup_at {fs : List (Str × V)} {cf : List Str} {i : Nat} {y : Str} (h : fs.map (·.1) = cf) (hi : cf.idxOf? y = some i) {v : V} (hv : (fs.map (·.2))[i]? = some v) : fs.lookup y = some v := by
  subst h
  induction fs generalizing i with
  | nil => simp at hv
  | cons p fs ih =>
    obtain ⟨q, u⟩ := p
    rw [List.lookup_cons]
    rw [List.map_cons, List.idxOf?_cons] at hi
    by_cases e : q = y
    · subst e
      simp at hi
      subst hi
      simp at hv
      simp [hv]
    · have e1 : (q == y) = false := by simpa using e
      have e2 : (y == q) = false := by simpa using fun z => e z.symm
      simp only [e1] at hi
      rw [e2]
      cases hj : (fs.map (·.1)).idxOf? y with
      | none =>
        simp [hj] at hi
      | some j =>
        simp [hj] at hi
        subst hi
        exact ih (by simpa using hv) hj

/-! ### isinstance -/
def tyV : Ty → Option V
  | .int => some (.ty "int") | .bool => some (.ty "bool") | .str => some (.ty "str") | .tuple => some (.ty "tuple") | .list => some (.ty "list") | .dict => some (.ty "dict") | .err => some (.ty "ValueError") | .cls _ => none
def tyN : Ty → Str
  | .int => "int" | .bool => "bool" | .str => "str" | .tuple => "tuple" | .list => "list" | .dict => "dict" | .err => "ValueError" | .cls _ => ""
/-- the type's value -/
def tyU (G : Gh) : Ty → Value
  | .int => .type "int" | .bool => .type "bool" | .str => .type "str" | .tuple => .type "tuple" | .list => .type "list" | .dict => .type "dict" | .err => .type "ValueError" | .cls c => .ref (G.ca c)
/-- the type of data -/
def dTy (G : Gh) : D → Option Value
  | .non => some (.type "NoneType") | .bl _ => some (.type "bool") | .int _ => some (.type "int") | .str _ => some (.type "str") | .tup _ => some (.type "tuple") | .lst _ => some (.type "list") | .dic _ _ => some (.type "dict")
  | .ins c _ => some (.ref (G.ca c)) | .exc c _ => some (.ref (G.ca c)) | _ => none
/-- what the classes say to isinstance -/
structure IsaOk (K : PySem.W.Frag) (G : Gh) (T : ClsT) : Prop where
  kit : ∀ d t b u, isaD T d t = some b → dTy G d = some u → PySem.W.kitOne K u (tyU G t) = some b
  exc : ∀ c k, T c = some k → k.exc = true → ExcC K (G.ca c)
  ins : ∀ c k, T c = some k → k.exc = false → Cls K (G.ca c) ∧ PySem.W.findIn K (.ref (G.ca c)) "__class__" = some (some (.builtin "object.__class__")) ∧ PySem.W.specialIn K (.builtin "object.__class__") "__get__" = some (some (.builtin "getset_descriptor.__get__")) ∧
    PySem.W.takesIn K (.builtin "object.__class__") = some true ∧ PySem.W.mroIn K (G.ca c) (.type "object") = some true
/-- an exception's object, kept -/
theorem xc_inst {Hs H : Hp} {pins : List (Addr × Obj)} {σ : L2.St} {s : Shared} {ad D0 : Addr} (I : L2.Inv X pins σ H s) (h : H ad = some (XcO (.ref D0) none ad)) : ∃ oe, PySem.W.InstAt s.heap ad oe D0 none := by
  obtain ⟨⟨oe, vs, h1, h2, h3, h4⟩, _⟩ := I.hok ad _ h
  refine ⟨oe, ?_⟩
  obtain ⟨oc, od, oda, osl⟩ := oe
  dsimp only at h2 h3 h4
  subst h2 h3 h4
  exact ⟨h1, rfl, rfl, trivial⟩
def rIsa (K : PySem.W.Frag) (G : Gh) (T : ClsT) (t : Ty) : List V → Hp → VK → Prop := fun xs H Q => ∃ Hs s x c dx b, xs = [x, c] ∧ ClsV c (tyU G t) ∧ Ok G Hs H s ∧ Rep K G Hs x dx ∧ isaD T dx t = some b ∧ Q (.bl b) H
theorem call_isa {T : ClsT} {t : Ty} (ks : IsaOk X.K G T) : CallR X (.builtin "isinstance") (rIsa X.K G T t) := by
  intro pins s σ H xs us Q I r h
  obtain ⟨Hs, rs, x, c, dx, b, rfl, cv, ok, rx, hb, q⟩ := h
  have hi : insOk T dx = true := by
    unfold isaD at hb
    split at hb
    · rename_i z
      simp only [Bool.and_eq_true] at z
      exact z.2
    · cases hb
  have fin : ∀ {u : Value}, dTy G dx = some u → TyX X.K H x u → wpAny (model X.prog X.w) X.A (call (.builtin "isinstance") us) (EP X pins σ Q) X.xe s := fun hu ty =>
    call_isi pins s σ H _ us Q I r ⟨x, c, _, _, b, rfl, cv, ty, ks.kit dx t b _ hb hu, q⟩
  cases rx with
  | non => exact fin rfl (.base .non)
  | bl k => exact fin rfl (.base (.bl k))
  | int i => exact fin rfl (.base (.int i))
  | str y hy => exact fin rfl (.base (.str y))
  | tup ha ra => rcases sqT_mono ok.sub ha with (h | ⟨o, h⟩) | ⟨o, its, n, h1, h2, h3, h4⟩
                 · exact fin rfl (.base (.tup h))
                 · exact fin rfl (.fTuple h)
                 · exact fin rfl (.kTuple h1 h2)
  | lst ha ra => exact fin rfl (.base (.lst (ok.sub _ _ ha)))
  | dicE ha => exact fin rfl (.base (.dK (ok.sub _ _ ha)))
  | @ins ad dx c' fs ds ha hfs ra =>
    cases hk : T c' with
    | none => simp [insOk, hk] at hi
    | some k =>
      have he : k.exc = false := by simpa [insOk, hk] using hi
      obtain ⟨h1, h2, h3, h4, h5⟩ := ks.ins c' k hk he
      exact fin rfl (.base (.ins (ok.sub _ _ ha) h1 h2 h3 h4 h5))
  | @exc ad c' ha =>
    cases hk : T c' with
    | none => simp [insOk, hk] at hi
    | some k =>
      have he : k.exc = true := by simpa [insOk, hk] using hi
      have C := ks.exc c' k hk he
      obtain ⟨u1, u2, rfl, r1, r2⟩ := vals2 r
      cases r1
      have e2 := cv.eq r2
      subst e2
      obtain ⟨oe, J⟩ := xc_inst (Hs := Hs) I (ok.sub _ _ ha)
      exact PySem.W.kia_one (PySem.W.handS_kitx_exc C.hg C.hk C.hs C.hd C.ha C.hn C.ht C.hm) I.kIn J (ks.kit _ t b _ hb rfl) (fun z => nomatch z) fun tk => ⟨.bl b, H, I.kept (t' := tk) fun _ _ z => z, rfl, q⟩
  | @excF ad d c' fs ds ha hd hf ra ne =>
    exfalso
    cases hk : T c' with
    | none => simp [insOk, hk] at hi
    | some k =>
      have z : k.exc = true ∧ ds = [] := by simpa [insOk, hk] using hi
      exact ne z.2
  | st =>
    exfalso
    unfold isaD at hb
    split at hb <;> cases hb
  | scr _ _ =>
    exfalso
    unfold isaD at hb
    split at hb <;> cases hb
theorem sE_isa {T : ClsT} {t : Ty} {tv : V} {eT : Expr} (hT : m.cls = T) (ks : IsaOk X.K G T) (hg : Gl X "isinstance") (hm : X.mg "isinstance" = none) (ha : PE X ea (tC' X G E m false a)) (ht : PE X eT (tC tv)) (hc : ClsV tv (tyU G t)) (hs : notStar ea = true) (hs2 : notStar eT = true) :
    PE X (.Call (.Name "isinstance" p) [ea, eT] [] pos) (tC' X G E m false (.isa a t)) :=
  (pe_callB (id := "isinstance") (call_isa (G := G) (t := t) ks) hg hm (by decide +kernel) (pa_cons ha (pa_cons ht pa_nil (na1 hs2 _)) (na2 hs _)) (by decide) (by decide) (na2 hs _) (star_any (es := [eT]) _ _ (by simp [hs2]))).weak fun σ H Q ⟨Hs, en, s, ok, r, p⟩ =>
    tE_run ok r p.bind fun dx s1 v Hs1 H1 p1 e1 o1 k1 r1 en1 => by
      obtain ⟨d, hd, q⟩ := p1.liftO
      obtain ⟨b, hb, rfl⟩ := Option.map_eq_some_iff.mp hd
      exact ⟨Hs1, s1, v, tv, dx, b, rfl, hc, o1, r1, by rw [← hT]; exact hb, (show PV X.K G false Hs H (.bl b) s1 Q from q) (.bl b) Hs1 H1 e1 o1 k1 (.bl b)⟩
end
end Fw

/-! FwGa: turned round, repr, arguments of which some are new lists. -/
namespace Fw
open PySem L2 PyProof.Rows
section
variable {K : PySem.W.Frag} {G : Gh} {E : XK} {Hs H : Hp}
theorem Post.eq {α : Type} {r : Res α} {P : α → RS → Prop} (h : Post K G E Hs H r P) : Post K G E Hs H r fun d s => r = .ok d s ∧ P d s := by
  cases r with
  | ok d s => exact ⟨rfl, h⟩
  | err c fs s => exact h
  | stuck => exact h
end
section
variable {X : Cx} {G : Gh} {E : XK} {m : Mod} {a : Cd} {ea : Expr} {pos : Pos} {es : List Expr}
theorem rev_t {σ : L2.St} {H : Hp} {Q : VK} {Hs : Hp} {en : Ev} {s : RS} (ok : Ok G Hs H s) (r : EnvR X.K G Hs σ en) (p : Post X.K G E Hs H ((evE m a en s).bind fun x s => liftO (revD x) s) fun d s' => PV X.K G false Hs H d s' Q) :
    (∀ xs s1, evE m a en s ≠ .ok (.lst xs) s1) → tRevT X.K (tC' X G E m false a) σ H Q := fun nl => tE_run ok r p.bind.eq fun dx s1 v Hs1 H1 p1 e1 o1 k1 r1 en1 => by
  obtain ⟨d, hd, q⟩ := p1.2.liftO
  cases r1 with
  | @tup ad vs ds h ra =>
    cases hd
    exact ⟨ad, vs, rfl, sqT_mono o1.sub h, fun p' n => PV.newT o1 ra.reverse (q.later ok e1 o1 k1) p' n⟩
  | lst _ _ => exact absurd p1.1 (nl _ _)
  | _ => cases hd
theorem rev_l {σ : L2.St} {H : Hp} {Q : VK} {Hs : Hp} {en : Ev} {s : RS} (ok : Ok G Hs H s) (r : EnvR X.K G Hs σ en) (p : Post X.K G E Hs H ((evE m a en s).bind fun x s => liftO (revD x) s) fun d s' => PV X.K G false Hs H d s' Q) :
    (∃ xs s1, evE m a en s = .ok (.lst xs) s1) → tRevL X.K (tC' X G E m false a) σ H Q := fun ⟨xs0, s0, e0⟩ => tE_run ok r p.bind.eq fun dx s1 v Hs1 H1 p1 e1 o1 k1 r1 en1 => by
  obtain ⟨d, hd, q⟩ := p1.2.liftO
  have e2 := e0.symm.trans p1.1
  cases e2
  cases r1 with
  | @lst ad vs ds h ra =>
    cases hd
    refine ⟨ad, vs, rfl, SqL.of (o1.sub _ _ h), fun p' n => ?_⟩
    exact (q.later ok e1 o1 k1) (.ref p') (upd Hs1 p' (.lst vs.reverse)) _ (Sub.upd (o1.free n)) (o1.add n fun ps z => by cases z) (Kp.add n) (.lst upd_same (ra.reverse.mono (Sub.upd (o1.free n))))
/-- x[::-1] -/
theorem sE_rev {k : Nat} {p1 p2 p3 : Pos} (ha : PE X ea (tC' X G E m false a)) : PE X (.Subscript ea (.Slice none none (some (.UnaryOp .USub (.Constant (.int 1) k p1) p2)) p3) pos) (tC' X G E m false (.rev a)) :=
  ⟨fun pins s σ H Q I ⟨Hs, en, t, ok, r, p⟩ => by
    by_cases h : ∃ xs s1, evE m a en t = .ok (.lst xs) s1
    · exact (pe_revL ha).run pins s σ H Q I (rev_l ok r p h)
    · exact (pe_revT ha).run pins s σ H Q I (rev_t ok r p fun xs s1 z => h ⟨xs, s1, z⟩)⟩
/-- repr(x) -/
theorem sE_rp {p : Pos} (hgd : X.A.guards = some []) (hu : X.A.units + 64 < cLine) (hg : Gl X "repr") (hm : X.mg "repr" = none) (ha : PA X [ea] (tA X.K G E (evE m (.cons a .nil)))) (hs : notStar ea = true) : PE X (.Call (.Name "repr" p) [ea] [] pos) (tC' X G E m false (.rp a)) := by
  have b : bootBuiltins "repr" = some (.builtin "repr") := by decide +kernel
  refine (pe_callB (call_rpr hgd hu) hg hm b ha (by decide) (by decide) (starEach_cons hs _ _) (star_any (es := []) _ _ rfl)).weak fun σ H Q ⟨Hs, en, s, ok, r, p⟩ => ?_
  have p' : Post X.K G E Hs H ((evE m (.cons a .nil) en s).bind fun x s => match x with | .tup [y] => liftO (rpD y) s | _ => .stuck) fun d s' => PV X.K G false Hs H d s' Q := by
    have e : (evE m (.cons a .nil) en s) = (evE m a en s).bind fun x s => .ok (.tup [x]) s := by
      show (evE m a en s).bind _ = _
      cases evE m a en s <;> rfl
    rw [e]
    have p0 : Post X.K G E Hs H ((evE m a en s).bind fun x s => liftO (rpD x) s) fun d s' => PV X.K G false Hs H d s' Q := p
    cases hr : evE m a en s with
    | ok d s1 =>
      rw [hr] at p0
      exact p0
    | err c fs s1 =>
      rw [hr] at p0
      exact p0
    | stuck =>
      rw [hr] at p0
      exact p0
  refine args_run (k := fun x s => match x with | .tup [y] => liftO (rpD y) s | _ => .stuck) (fun d s n => by cases d <;> first | rfl | exact absurd rfl (n _)) ok r p' fun ds s' vs Hs' H' pp e' o' k' r' => ?_
  cases r' with
  | nil => exact (show False from pp).elim
  | @cons v vs d ds r1 r2 => cases r2 with
    | cons _ _ => exact (show False from pp).elim
    | nil =>
      obtain ⟨d', hd, q⟩ := (show Post X.K G E Hs' H' (liftO (rpD d) s') (fun d s' => PV X.K G false Hs H d s' Q) from pp).liftO
      unfold rpD at hd
      split at hd
      · rename_i hc
        cases hd
        simp only [Bool.and_eq_true, decide_eq_true_eq] at hc
        obtain ⟨⟨⟨⟨c1, c2⟩, c3⟩, c4⟩, c5⟩ := hc
        obtain ⟨a1, a2⟩ := r1.dp o'.sub c1
        exact ⟨v, toPy d, rfl, a1, a2, c2, szOk_line c3, c4, PV.now o' (.str _ c5) (q.later ok e' o' k')⟩
      · cases hd
end
end Fw

/-! FwGb: sorted(..) of a list of numbers, sorted(set(..)) of a tuple of numbers. -/
namespace Fw
open PySem L2 PyProof.Rows
theorem insS_perm (x : Int) : ∀ l : List Int, (insS x l).Perm (x :: l)
  | [] => .refl _
  | y :: l => by
    unfold insS
    split
    · exact .refl _
    · exact ((insS_perm x l).cons y).trans (.swap x y l)
theorem srtI_perm : ∀ l : List Int, (srtI l).Perm l
  | [] => .refl _
  | x :: l => (insS_perm x (srtI l)).trans ((srtI_perm l).cons x)
theorem insS_srt (x : Int) : ∀ l : List Int, l.Pairwise (· ≤ ·) → (insS x l).Pairwise (· ≤ ·)
  | [], _ => by simp [insS]
  | y :: l, h => by
    obtain ⟨h1, h2⟩ := List.pairwise_cons.mp h
    unfold insS
    split
    · rename_i hx
      refine List.pairwise_cons.mpr ⟨fun z hz => ?_, h⟩
      rcases List.mem_cons.mp hz with rfl | hz
      · exact hx
      · exact Int.le_trans hx (h1 z hz)
    · rename_i hx
      refine List.pairwise_cons.mpr ⟨fun z hz => ?_, insS_srt x l h2⟩
      rcases List.mem_cons.mp ((insS_perm x l).mem_iff.mp hz) with rfl | hz
      · omega
      · exact h1 z hz
theorem srtI_srt : ∀ l : List Int, (srtI l).Pairwise (· ≤ ·)
  | [] => .nil
  | x :: l => insS_srt x _ (srtI_srt l)
theorem srt_uniq : ∀ {a b : List Int}, a.Perm b → a.Pairwise (· ≤ ·) → b.Pairwise (· ≤ ·) → a = b
  | [], b, p, _, _ => (List.Perm.nil_eq p)
  | x :: a, [], p, _, _ => by
    have := p.length_eq
    simp at this
  | x :: a, y :: b, p, h1, h2 => by
    obtain ⟨a1, a2⟩ := List.pairwise_cons.mp h1
    obtain ⟨b1, b2⟩ := List.pairwise_cons.mp h2
    have e : x = y := by
      have m1 : x ∈ y :: b := p.mem_iff.mp (List.mem_cons_self ..)
      have m2 : y ∈ x :: a := p.mem_iff.mpr (List.mem_cons_self ..)
      rcases List.mem_cons.mp m1 with z | z
      · exact z
      · rcases List.mem_cons.mp m2 with w | w
        · exact w.symm
        · have := b1 x z
          have := a1 y w
          omega
    subst e
    rw [srt_uniq (List.Perm.cons_inv p) a2 b2]
theorem insU_mem (x : Int) : ∀ (l : List Int) (k : Int), k ∈ insU x l ↔ k = x ∨ k ∈ l
  | [], k => by simp [insU]
  | y :: l, k => by
    unfold insU
    split
    · simp
    · split
      · rename_i h
        subst h
        simp
      · rw [List.mem_cons, List.mem_cons, insU_mem x l k]
        constructor
        · rintro (h | h | h) <;> simp [h]
        · rintro (h | h | h) <;> simp [h]
theorem usrtI_mem : ∀ (l : List Int) (k : Int), k ∈ usrtI l ↔ k ∈ l
  | [], k => by simp [usrtI]
  | x :: l, k => by
    show k ∈ insU x (usrtI l) ↔ _
    rw [insU_mem, usrtI_mem l k, List.mem_cons]
theorem insU_srt (x : Int) : ∀ l : List Int, l.Pairwise (· < ·) → (insU x l).Pairwise (· < ·)
  | [], _ => by simp [insU]
  | y :: l, h => by
    obtain ⟨h1, h2⟩ := List.pairwise_cons.mp h
    unfold insU
    split
    · rename_i hx
      refine List.pairwise_cons.mpr ⟨fun z hz => ?_, h⟩
      rcases List.mem_cons.mp hz with rfl | hz
      · exact hx
      · exact Int.lt_trans hx (h1 z hz)
    · split
      · exact h
      · refine List.pairwise_cons.mpr ⟨fun z hz => ?_, insU_srt x l h2⟩
        rcases (insU_mem x l z).mp hz with rfl | hz
        · omega
        · exact h1 z hz
theorem usrtI_srt : ∀ l : List Int, (usrtI l).Pairwise (· < ·)
  | [] => .nil
  | x :: l => insU_srt x _ (usrtI_srt l)
theorem usrt_uniq : ∀ {a b : List Int}, (∀ k, k ∈ a ↔ k ∈ b) → a.Pairwise (· < ·) → b.Pairwise (· < ·) → a = b
  | [], [], _, _, _ => rfl
  | [], y :: b, p, _, _ => absurd ((p y).mpr (List.mem_cons_self ..)) List.not_mem_nil
  | x :: a, [], p, _, _ => absurd ((p x).mp (List.mem_cons_self ..)) List.not_mem_nil
  | x :: a, y :: b, p, h1, h2 => by
    obtain ⟨a1, a2⟩ := List.pairwise_cons.mp h1
    obtain ⟨b1, b2⟩ := List.pairwise_cons.mp h2
    have e : x = y := by
      rcases List.mem_cons.mp ((p x).mp (List.mem_cons_self ..)) with z | z
      · exact z
      · rcases List.mem_cons.mp ((p y).mpr (List.mem_cons_self ..)) with w | w
        · exact w.symm
        · have := b1 x z
          have := a1 y w
          omega
    subst e
    rw [usrt_uniq (fun k => ⟨fun hk => ?_, fun hk => ?_⟩) a2 b2]
    · rcases List.mem_cons.mp ((p k).mp (List.mem_cons_of_mem _ hk)) with z | z
      · have := a1 k hk
        omega
      · exact z
    · rcases List.mem_cons.mp ((p k).mpr (List.mem_cons_of_mem _ hk)) with z | z
      · have := b1 k hk
        omega
      · exact z
section
variable {X : Cx} {G : Gh} {E : XK} {m : Mod} {a : Cd} {ea : Expr} {pos p p2 q2 : Pos}
theorem reps_ints {K : PySem.W.Frag} {H : Hp} : ∀ is : List Int, Reps K G H (is.map V.int) (is.map D.int)
  | [] => .nil
  | i :: is => .cons (.int i) (reps_ints is)
theorem sE_sorted (hg : Gl X "sorted") (hm : X.mg "sorted" = none) (ha : PE X ea (tC' X G E m false a)) (hs : notStar ea = true) : PE X (.Call (.Name "sorted" p) [ea] [] pos) (tC' X G E m true (.seqL .srt (.cons a .nil))) := by
  have h1 : PA X [ea] (tA X.K G E (evE m (.cons a .nil))) := sA_cons ha sA_nil hs
  refine (pe_callB cr_sortedI hg hm (by decide +kernel) h1 (by decide) (by decide) (na1 hs _) (by rfl)).weak fun σ H Q ⟨Hs, en, s, ok, r, p⟩ => ?_
  refine args_run (k := fun x s => liftO (((asTup x).bind (itemsD .srt)).map D.lst) s) (fun d s n => by cases d <;> first | rfl | exact absurd rfl (n _)) ok r p fun ds s1 vs Hs1 H1 p' e1 o1 k1 r' => ?_
  obtain ⟨d, hd, q⟩ := p'.liftO
  cases r' with
  | nil => cases hd
  | cons h1 r2 => cases r2 with
    | nil => cases h1 with
      | @lst a vs xs ha ra =>
        have hd : ((intsD xs).map fun is => (srtI is).map D.int).map D.lst = some d := hd
        cases hi : intsD xs with
        | none =>
          rw [hi] at hd
          cases hd
        | some is =>
          rw [hi] at hd
          cases hd
          have hv := intsD_vals hi ra
          subst hv
          refine ⟨a, is, rfl, SqL.of (o1.sub _ _ ha), fun ns' q' hp hw n => ?_⟩
          have e := srt_uniq (hp.trans (srtI_perm is).symm) hw (srtI_srt is)
          subst e
          exact ((show PV X.K G true Hs H (.lst ((srtI is).map D.int)) s1 Q from q).later ok e1 o1 k1).newL o1 (reps_ints _) q' n
      | _ => cases hd
    | cons h2 r3 => cases h1 <;> cases hd
def rSetI (K : PySem.W.Frag) (w : World) : List V → Hp → VK → Prop := fun vs H Q => ∃ (p : Addr) (ns : List Int), vs = [.ref p] ∧ SqT K H p (ns.map V.int) ∧ ns.length < 64 ∧ ∀ (a : Addr) (c : Nat), H a = none → c ≤ ns.length → Q (.ref a) (upd H a (SetO w a (fun j => decide (j ∈ ns)) c))
theorem cr_setI (hc : X.calm = true) : CallR X (.type "set") (rSetI X.K X.w) := by
  intro pins s σ H vs us Q I r h
  obtain ⟨p, ns, rfl, hq, hl, q⟩ := h
  obtain ⟨its, rv, pl, hz⟩ := I.tuple hq
  rw [Vals.ref1 r]
  refine call_set_tupI ns (I.ok.hd hc) (show s.heap.IsTuple p its.toArray from pl) (ints_of_vals rv) (by unfold scanBound; omega) fun h' tk c hS hc2 hk => ?_
  exact ⟨.ref _, upd H s.heap.objs.size (SetO X.w s.heap.objs.size (fun j => decide (j ∈ ns)) c), I.laid (t' := tk) hk (Nat.le_refl _) (setO_new hS), rfl, q _ c (I.hok.fresh (Nat.le_refl _)) hc2⟩
theorem sE_sortSet (hc : X.calm = true) (hg : Gl X "sorted") (hm : X.mg "sorted" = none) (hg2 : Gl X "set") (hm2 : X.mg "set" = none) (ha : PE X ea (tC' X G E m false a)) (hs : notStar ea = true) :
    PE X (.Call (.Name "sorted" p) [.Call (.Name "set" p2) [ea] [] q2] [] pos) (tC' X G E m true (.seqL .sset (.cons a .nil))) := by
  have h1 : PA X [ea] (tA X.K G E (evE m (.cons a .nil))) := sA_cons ha sA_nil hs
  have h2 := pe_callTy (pos := q2) (p := p2) (cr_setI hc) hg2 hm2 (by decide +kernel) h1 (by decide) (by decide) (na1 hs _) (by rfl)
  have hi : notStar (Expr.Call (.Name "set" p2) [ea] [] q2) = true := rfl
  refine (pe_callB (cr_sortedSet hc) hg hm (by decide +kernel) (pa_cons h2 pa_nil (starEach_cons hi _ _)) (by decide) (by decide) (na1 hi _) (by rfl)).weak fun σ H Q ⟨Hs, en, s, ok, r, p⟩ => ?_
  refine args_run (k := fun x s => liftO (((asTup x).bind (itemsD .sset)).map D.lst) s) (fun d s n => by cases d <;> first | rfl | exact absurd rfl (n _)) ok r p fun ds s1 vs Hs1 H1 p' e1 o1 k1 r' => ?_
  obtain ⟨d, hd, q⟩ := p'.liftO
  cases r' with
  | nil => cases hd
  | cons h1 r2 => cases r2 with
    | nil => cases h1 with
      | @tup a vs xs ha ra =>
        have hd : ((intsD xs).bind fun is => if is.length < 64 then some ((usrtI is).map D.int) else none).map D.lst = some d := hd
        cases hi : intsD xs with
        | none =>
          rw [hi] at hd
          cases hd
        | some is =>
          rw [hi] at hd
          have hd : (if is.length < 64 then some ((usrtI is).map D.int) else none).map D.lst = some d := hd
          by_cases hl : is.length < 64
          · rw [if_pos hl] at hd
            cases hd
            have hv := intsD_vals hi ra
            subst hv
            refine ⟨a, is, rfl, sqT_mono o1.sub ha, hl, fun b c hb hcl => ?_⟩
            refine ⟨b, _, c, rfl, upd_same .., by omega, fun ns q' hw hm' hl' n => ?_⟩
            have e := usrt_uniq (fun k => by rw [hm' k, decide_eq_true_eq, usrtI_mem]) hw (usrtI_srt is)
            subst e
            have k2 : Kp G Hs1 H1 Hs1 (upd H1 b (SetO X.w b (fun j => decide (j ∈ is)) c)) := Kp.new hb
            exact (((show PV X.K G true Hs H (.lst ((usrtI is).map D.int)) s1 Q from q).later ok e1 o1 k1).later o1 (Same.refl _) (o1.new hb) k2).newL (o1.new hb) (reps_ints _) q' n
          · rw [if_neg hl] at hd
            cases hd
      | _ => cases hd
    | cons h2 r3 => cases h1 <;> cases hd
end
end Fw

/-! FwH: what is walked; targets; comprehensions. -/
namespace Fw
open PySem L2 PyProof.Rows

/-! ### walks -/
def YD (K : PySem.W.Frag) (G : Gh) (Hs H : Hp) (v : V) (H' : Hp) (d : D) : Prop := (H' = H ∧ Rep K G Hs v d) ∨ ∃ T vs ds, v = .ref T ∧ H T = none ∧ H' = upd H T (.tup vs) ∧ d = .tup ds ∧ Reps K G Hs vs ds
/-- J walks xs -/
def WalkD (K : PySem.W.Frag) (G : Gh) (Hs : Hp) (J : It) (xs : List D) : Prop := Walk J xs.length (fun H => Sub Hs H) fun i H v H' => ∃ d, xs[i]? = some d ∧ YD K G Hs H v H' d
/-- .. a range whatever is shared -/
def WalkR (K : PySem.W.Frag) (G : Gh) (k : ItK) (Hs : Hp) (J : It) (xs : List D) : Prop := ∀ Hs2, isRng k = true ∨ Hs2 = Hs → WalkD K G Hs2 J xs
theorem WalkD.r {K : PySem.W.Frag} {G : Gh} {k : ItK} {Hs : Hp} {J : It} {xs : List D} (h : WalkD K G Hs J xs) (hk : isRng k = false) : WalkR K G k Hs J xs := fun Hs2 q => by
  rcases q with q | rfl
  · rw [hk] at q
    cases q
  · exact h
section
variable {K : PySem.W.Frag} {G : Gh} {Hs : Hp}
theorem wd_list {a : Addr} {vs : List V} {ds : List D} (h : Hs a = some (.lst vs)) (r : Reps K G Hs vs ds) : WalkD K G Hs (Itl K a) ds := by
  unfold WalkD
  rw [← r.length]
  refine walk_list.mono (fun H s => SqL.of (s _ _ h)) fun i H v H' hi s ⟨e, y⟩ => ?_
  obtain ⟨d, hd, rv⟩ := r.getV y
  exact ⟨d, hd, .inl ⟨e, rv⟩⟩
theorem wd_tup {a : Addr} {vs : List V} {ds : List D} (h : SqT K Hs a vs) (r : Reps K G Hs vs ds) : WalkD K G Hs (Itt K a) ds := by
  unfold WalkD
  rw [← r.length]
  refine walk_tup.mono (fun H s => sqT_mono s h) fun i H v H' hi s ⟨e, y⟩ => ?_
  obtain ⟨d, hd, rv⟩ := r.getV y
  exact ⟨d, hd, .inl ⟨e, rv⟩⟩
theorem rng_get {u v : Int} {i : Nat} (h : i < (v - u).toNat) : (rngD u v)[i]? = some (.int (u + (i : Nat))) := by
  unfold rngD
  rw [List.getElem?_map, List.getElem?_range h]
  rfl
theorem rng_len {u v : Int} : (rngD u v).length = (v - u).toNat := by unfold rngD; rw [List.length_map, List.length_range]
theorem wd_rng {u v : Int} : WalkD K G Hs (Itr u (v - u).toNat) (rngD u v) := by
  unfold WalkD
  rw [rng_len]
  refine walk_range.mono (fun _ _ => trivial) fun i H w H' hi s ⟨e, y⟩ => ⟨_, rng_get hi, .inl ⟨e, ?_⟩⟩
  rw [y]
  exact .int _
theorem rng_line {u v : Int} (h : rgOk u v = true) : (rngD u v).length ≤ sizeLine := by
  rw [rng_len, sizeLine_eq]
  exact (rgOk_ok h).2.2.2.2
theorem enum_len : ∀ {xs : List D} {n : Nat}, (enumD n xs).length = xs.length
  | [], _ => rfl
  | _ :: xs, n => congrArg Nat.succ (enum_len (xs := xs))
theorem enum_get : ∀ {xs : List D} {n i : Nat} {d : D}, xs[i]? = some d → (enumD n xs)[i]? = some (.tup [.int ((n + i : Nat) : Int), d])
  | [], _, _, _, h => by simp at h
  | x :: xs, n, 0, d, h => by
    cases (Option.some.inj h)
    rfl
  | x :: xs, n, i + 1, d, h => by
    have e := enum_get (xs := xs) (n := n + 1) (i := i) (by simpa using h)
    have e2 : n + 1 + i = n + (i + 1) := by omega
    rw [e2] at e
    exact e
theorem wd_enum {a : Addr} {vs : List V} {ds : List D} (h : Hs a = some (.lst vs)) (r : Reps K G Hs vs ds) : WalkD K G Hs (Ite K a) (enumD 0 ds) := by
  unfold WalkD
  rw [enum_len, ← r.length]
  refine walk_enum.mono (fun H s => SqL.of (s _ _ h)) fun i H v H' hi s ⟨T, x, y, h1, h2, h3, h4, h5⟩ => ?_
  obtain ⟨d, hd, rv⟩ := r.getV h5
  cases h4
  refine ⟨_, enum_get hd, .inr ⟨T, _, _, h1, h2, h3, rfl, .cons ?_ (.cons rv .nil)⟩⟩
  rw [Nat.zero_add]
  exact .int _
theorem zip_len : ∀ {xs ys : List D}, (zipD xs ys).length = min xs.length ys.length
  | [], ys => by simp [zipD]
  | _ :: _, [] => by simp [zipD]
  | x :: xs, y :: ys => by simp [zipD, zip_len (xs := xs) (ys := ys)]
theorem zip_get : ∀ {xs ys : List D} {i : Nat} {x y : D}, xs[i]? = some x → ys[i]? = some y → (zipD xs ys)[i]? = some (.tup [x, y])
  | [], _, _, _, _, h, _ => by simp at h
  | _ :: _, [], _, _, _, _, h => by simp at h
  | x :: xs, y :: ys, 0, _, _, h1, h2 => by
    cases (Option.some.inj h1)
    cases (Option.some.inj h2)
    rfl
  | x :: xs, y :: ys, i + 1, a, b, h1, h2 => by
    have := zip_get (xs := xs) (ys := ys) (i := i) (x := a) (y := b) (by simpa using h1) (by simpa using h2)
    simpa [zipD] using this
theorem wd_zip {a b : Addr} {vs ws : List V} {ds es : List D} (h : Hs a = some (.lst vs)) (h' : Hs b = some (.lst ws)) (r : Reps K G Hs vs ds) (r' : Reps K G Hs ws es) : WalkD K G Hs (Itz K a b) (zipD ds es) := by
  unfold WalkD
  rw [zip_len, ← r.length, ← r'.length]
  refine (walk_zip rfl).mono (fun H s => ⟨SqL.of (s _ _ h), SqL.of (s _ _ h')⟩) fun i H v H' hi s ⟨T, x, y, h1, h2, h3, h4, h5⟩ => ?_
  obtain ⟨d, hd, rv⟩ := r.getV h4
  obtain ⟨e, he, rw'⟩ := r'.getV h5
  exact ⟨_, zip_get hd he, .inr ⟨T, _, _, h1, h2, h3, rfl, .cons rv (.cons rw' .nil)⟩⟩
theorem walk_zipT {a b : Addr} {xs ys : List V} {n : Nat} (hn : n = min xs.length ys.length) : Walk (RZ.ItzT K a b) n (fun H => SqT K H a xs ∧ SqT K H b ys) (YPair (fun i => xs[i]?) (fun i => ys[i]?)) where
  goes := fun i H hi q => by
    subst hn
    have h1 : i < xs.length := Nat.lt_of_lt_of_le hi (Nat.min_le_left _ _)
    have h2 : i < ys.length := Nat.lt_of_lt_of_le hi (Nat.min_le_right _ _)
    exact ⟨xs, ys, xs[i], ys[i], q.1, q.2, by rw [List.getElem?_eq_getElem h1], by rw [List.getElem?_eq_getElem h2]⟩
  stops := fun H q => ⟨xs, ys, q.1, q.2, by omega⟩
  yields := fun i H v H' _ q y => let ⟨T, x, z, h1, h2, h3, h4, h5⟩ := y; ⟨T, x, z, h1, h2, h3, h4 _ q.1, h5 _ q.2⟩
theorem wd_zipT {a b : Addr} {vs ws : List V} {ds es : List D} (h : SqT K Hs a vs) (h' : SqT K Hs b ws) (r : Reps K G Hs vs ds) (r' : Reps K G Hs ws es) : WalkD K G Hs (RZ.ItzT K a b) (zipD ds es) := by
  unfold WalkD
  rw [zip_len, ← r.length, ← r'.length]
  refine (walk_zipT rfl).mono (fun H s => ⟨sqT_mono s h, sqT_mono s h'⟩) fun i H v H' hi s ⟨T, x, y, h1, h2, h3, h4, h5⟩ => ?_
  obtain ⟨d, hd, rv⟩ := r.getV h4
  obtain ⟨e, he, rw'⟩ := r'.getV h5
  exact ⟨_, zip_get hd he, .inr ⟨T, _, _, h1, h2, h3, rfl, .cons rv (.cons rw' .nil)⟩⟩
end

/-! ### what an iterable's expression says -/
def tI (K : PySem.W.Frag) (G : Gh) (E : XK) (m : Mod) (k : ItK) (c : Cd) : TI := fun σ H R => ∃ Hs e s, Ok G Hs H s ∧ EnvR K G Hs σ e ∧
  Post K G E Hs H ((evE m c e s).bind fun x s => liftO ((asTup x).bind (itemsD k)) s) fun xs s' => ∀ Hs' H' J, Sub Hs Hs' → Ok G Hs' H' s' → Kp G Hs H Hs' H' → WalkR K G k Hs' J xs → xs.length ≤ sizeLine → R J H'
section
variable {X : Cx} {G : Gh} {E : XK} {m : Mod} {a b c : Cd} {tg ea eb : Expr} {pos p tpos : Pos}
/-- a list or tuple that is there is not too long -/
theorem _root_.L2.PI.sized {e : Expr} {wi : TI} (h : PI X tg e wi) : PI X tg e fun σ H R => wi σ H fun J H' => ∃ a vs, (SqL X.K H' a vs ∨ SqT X.K H' a vs) ∧ (vs.length ≤ sizeLine → R J H') :=
  ⟨fun pins s σ H R I q => thn (h.run pins s σ H _ I q) fun v s1 q1 => thn q1 fun itv s2 ⟨it, fp, tn, J, H', e1, I2, T, t0, f2, a, vs, hs, r⟩ => ⟨it, fp, tn, J, H', e1, I2, T, t0, f2, r (by
    rcases hs with hs | hs
    · obtain ⟨its, rv, _, hz⟩ := I2.list hs
      exact hz
    · obtain ⟨its, rv, _, hz⟩ := I2.tuple hs
      exact hz)⟩⟩
theorem sI_plain (ha : PE X ea (tC' X G E m false a)) : PI X tg ea (tI X.K G E m .plain (.cons a .nil)) := by
  refine ⟨fun pins s σ H R I ⟨Hs, en, t, ok, r, p⟩ => ?_⟩
  have p' : Post X.K G E Hs H (evE m a en t) fun d s' => Post X.K G E Hs H (liftO (itemsD .plain [d]) s') fun xs s' => ∀ Hs' H' J, Sub Hs Hs' → Ok G Hs' H' s' → Kp G Hs H Hs' H' → WalkR X.K G .plain Hs' J xs → xs.length ≤ sizeLine → R J H' := p.bind.bind
  cases e : evE m a en t with
  | stuck =>
    rw [e] at p'
    exact p'.elim
  | err ec fs s' =>
    rw [e] at p'
    exact (pi_list ha).sized.run pins s σ H R I ⟨Hs, en, t, ok, r, by rw [e]; exact p'⟩
  | ok d s' =>
    rw [e] at p'
    obtain ⟨xs, hx, q⟩ := Post.liftO (show Post X.K G E Hs H (liftO (itemsD .plain [d]) s') _ from p')
    cases d with
    | lst ys =>
      cases hx
      refine (pi_list ha).sized.run pins s σ H R I ⟨Hs, en, t, ok, r, ?_⟩
      rw [e]
      intro v Hs' H' e' o' k' rv
      cases rv with
      | @lst ad vs ds hv rr => exact ⟨ad, rfl, ⟨vs, SqL.of (o'.sub _ _ hv)⟩, ad, vs, .inl (SqL.of (o'.sub _ _ hv)), fun z => q Hs' H' _ e' o' k' ((wd_list hv rr).r rfl) (by rw [← rr.length]; exact z)⟩
    | tup ys =>
      cases hx
      refine (pi_tup ha).sized.run pins s σ H R I ⟨Hs, en, t, ok, r, ?_⟩
      rw [e]
      intro v Hs' H' e' o' k' rv
      cases rv with
      | @tup ad vs ds hv rr => exact ⟨ad, rfl, ⟨vs, sqT_mono o'.sub hv⟩, ad, vs, .inr (sqT_mono o'.sub hv), fun z => q Hs' H' _ e' o' k' ((wd_tup hv rr).r rfl) (by rw [← rr.length]; exact z)⟩
    | _ => cases hx
/-- the arguments of what is walked -/
theorem ti_args {k : ItK} {σ : L2.St} {H : Hp} {R : It → Hp → Prop} {Q : List V → Hp → Prop} (h : tI X.K G E m k c σ H R)
    (q : ∀ (ds xs : List D) (s' : RS) (vs : List V) (Hs' H' : Hp), itemsD k ds = some xs → Ok G Hs' H' s' → Reps X.K G Hs' vs ds → (∀ J, WalkR X.K G k Hs' J xs → xs.length ≤ sizeLine → R J H') → Q vs H') : tA X.K G E (evE m c) σ H Q := by
  obtain ⟨Hs, en, t, ok, r, p⟩ := h
  refine args_run (k := fun x s => liftO ((asTup x).bind (itemsD k)) s) (P := fun xs s' => ∀ Hs' H' J, Sub Hs Hs' → Ok G Hs' H' s' → Kp G Hs H Hs' H' → WalkR X.K G k Hs' J xs → xs.length ≤ sizeLine → R J H') (fun d s n => by cases d <;> first | rfl | exact absurd rfl (n _)) ok r p fun ds s' vs Hs' H' p' e' o' k' r' => ?_
  obtain ⟨xs, hx, q'⟩ := p'.liftO
  exact q ds xs s' vs Hs' H' hx o' r' fun J w z => q' Hs' H' J e' o' k' w z
theorem two_stars (hs : notStar ea = true) (hs2 : notStar eb = true) : starEach [ea, eb] X.env = [(false, eval ea X.env), (false, eval eb X.env)] := by
  rw [starEach_cons hs, starEach_cons hs2]
  rfl
theorem sI_rng1 (hg : Gl X "range") (hm : X.mg "range" = none) (ha : PE X ea (tC' X G E m false a)) (hs : notStar ea = true) : PI X tg (.Call (.Name "range" p) [ea] [] pos) (tI X.K G E m .rng1 (.cons a .nil)) :=
  ⟨fun pins s σ H R I h => (pi_range1 hg hm (sA_cons ha sA_nil hs) (by rw [starEach_cons hs] <;> rfl)).run pins s σ H R I (ti_args h fun ds xs s' vs Hs' H' hx o r q => by
    obtain ⟨u, v, hz, he⟩ := rg_items (k := .rng1) rfl (x := .tup ds) hx
    cases r with
    | nil => cases hx
    | cons r1 r2 => cases r2 with
      | cons _ _ => cases r1 <;> cases hx
      | nil => cases r1 with
        | int i =>
          have hx' : (if rgOk 0 i then some (rngD 0 i) else none) = some xs := hx
          split at hx'
          · rename_i hz'
            cases hx'
            obtain ⟨_, _, h3, h4, _⟩ := rgOk_ok hz'
            refine ⟨i, rfl, h3, h4, ?_⟩
            have w := q _ (fun _ _ => wd_rng (u := 0) (v := i)) (rng_line hz')
            rw [Int.sub_zero] at w
            exact w
          · cases hx'
        | _ => cases hx)⟩
theorem sI_rng2 (hg : Gl X "range") (hm : X.mg "range" = none) (ha : PE X ea (tC' X G E m false a)) (hb : PE X eb (tC' X G E m false b)) (hs : notStar ea = true) (hs2 : notStar eb = true) : PI X tg (.Call (.Name "range" p) [ea, eb] [] pos) (tI X.K G E m .rng2 (.cons a (.cons b .nil))) :=
  ⟨fun pins s σ H R I h => (pi_range2 hg hm (sA_cons ha (sA_cons hb sA_nil hs2) hs) (two_stars hs hs2) (by rw [starEach_cons hs2] <;> rfl)).run pins s σ H R I (ti_args h fun ds xs s' vs Hs' H' hx o r q => by
    cases r with
    | nil => cases hx
    | cons r1 r2 => cases r2 with
      | nil => cases r1 <;> cases hx
      | cons r3 r4 => cases r4 with
        | cons _ _ => cases r1 <;> first | (cases hx; done) | (cases r3 <;> cases hx)
        | nil => cases r1 with
          | int i => cases r3 with
            | int j =>
              have hx' : (if rgOk i j then some (rngD i j) else none) = some xs := hx
              split at hx'
              · rename_i hz'
                cases hx'
                obtain ⟨h1, h2, h3, h4, _⟩ := rgOk_ok hz'
                exact ⟨i, j, rfl, ⟨h1, h2, h3, h4⟩, q _ (fun _ _ => wd_rng) (rng_line hz')⟩
              · cases hx'
            | _ => cases hx
          | _ => cases hx)⟩
theorem sI_enum {elts : List Expr} {kk : Nat} (hg : Gl X "enumerate") (hm : X.mg "enumerate" = none) (ha : PE X ea (tC' X G E m false a)) (hs : notStar ea = true) : PI X (.Tuple elts kk tpos) (.Call (.Name "enumerate" p) [ea] [] pos) (tI X.K G E m .enum (.cons a .nil)) :=
  ⟨fun pins s σ H R I h => (pi_enum hg hm (sA_cons ha sA_nil hs) (by rw [starEach_cons hs] <;> rfl)).sized.run pins s σ H R I (ti_args h fun ds xs s' vs Hs' H' hx o r q => by
    cases r with
    | nil => cases hx
    | cons r1 r2 => cases r2 with
      | cons _ _ => cases r1 <;> cases hx
      | nil => cases r1 with
        | @lst ad vs ds hv rr =>
          cases hx
          exact ⟨ad, vs, rfl, SqL.of (o.sub _ _ hv), ad, vs, .inl (SqL.of (o.sub _ _ hv)), fun z => q _ ((wd_enum hv rr).r rfl) (by rw [enum_len, ← rr.length]; exact z)⟩
        | _ => cases hx)⟩
end
end Fw

/-! FwHa: zip of a list and a tuple, of a tuple and a list. -/
namespace Fw
open PySem PySem.Spec L2 PyProof.Rows
/-- the items at a: of a tuple, or of a list -/
def Sq2 : Bool → PySem.W.Frag → Hp → Addr → List V → Prop
  | true => SqT
  | false => SqL
def Src : Bool → Heap → Addr → Array Value → Prop
  | true => fun h a its => h.IsTuple a its
  | false => fun h a its => h.IsList a its
def Itr : Bool → Heap → Addr → Addr → Nat → Prop
  | true => fun h it a i => h.IsTupleIter it a i
  | false => fun h it a i => h.IsListIter it a i
theorem Itr.at {t : Bool} {h h' : Heap} {it a : Addr} {i : Nat} (x : Itr t h it a i) (k : ∀ o, h.get? it = some o → h'.get? it = some o) : Itr t h' it a i := by
  cases t
  · have x' : h.IsListIter it a i := x
    exact x'.at fun o e => k o e
  · have x' : h.IsTupleIter it a i := x
    exact x'.at fun o e => k o e
theorem Itr.obj {t : Bool} {h : Heap} {it a : Addr} {i : Nat} (x : Itr t h it a i) : ∃ o, h.get? it = some o ∧ ∀ v, o.data ≠ .cell v := by
  cases t
  · obtain ⟨o, e, _, d⟩ := (x : h.IsListIter it a i)
    exact ⟨o, e, fun v z => by rw [d] at z; cases z⟩
  · obtain ⟨o, e, _, d⟩ := (x : h.IsTupleIter it a i)
    exact ⟨o, e, fun v z => by rw [d] at z; cases z⟩
theorem drw {prog : Program} {w : World} {A : Around} {it a : Addr} (t : Bool) (hh : A.handled = none) (ne : a ≠ it) (its : Array Value) : Draws prog w A it [it, a] its.size (fun i v => its[i]? = some v) (fun i h => Itr t h it a i ∧ Src t h a its) := by
  cases t
  · exact Draws.list hh it a ne its
  · exact Draws.tuple hh it a ne its
section
variable {X : Cx} {pins : List (Addr × Obj)} {σ : L2.St} {H : Hp} {s : Shared}
theorem sq2_src {t : Bool} {a : Addr} {xs : List V} (I : L2.Inv X pins σ H s) (h : Sq2 t X.K H a xs) : ∃ us : List Value, Vals xs us ∧ Src t s.heap a us.toArray := by
  cases t
  · obtain ⟨us, r, p, _⟩ := I.list h
    exact ⟨us, r, p.isList⟩
  · obtain ⟨us, r, p, _⟩ := I.tuple h
    exact ⟨us, r, p⟩
theorem sq2_inj {t : Bool} {a : Addr} {xs ys : List V} (I : L2.Inv X pins σ H s) (h : Sq2 t X.K H a xs) (h' : Sq2 t X.K H a ys) : xs = ys := by
  cases t
  · exact I.list_inj h h'
  · exact I.tuple_inj h h'
end
theorem Src.lt {t : Bool} {h : Heap} {a : Addr} {its : Array Value} (x : Src t h a its) : a < h.objs.size := by
  cases t
  · obtain ⟨o, e, _⟩ := (x : h.IsList a its)
    exact Heap.lt_size e
  · obtain ⟨o, e, _⟩ := (x : h.IsTuple a its)
    exact Heap.lt_size e
/-- pairs of the items at a and at b, as they stand at each turn -/
def Itm (t u : Bool) (K : PySem.W.Frag) (a b : Addr) : It where
  go := fun i H => ∃ xs ys x y, Sq2 t K H a xs ∧ Sq2 u K H b ys ∧ xs[i]? = some x ∧ ys[i]? = some y
  yld := fun i H v H' => ∃ T x y, v = .ref T ∧ H T = none ∧ H' = upd H T (.tup [x, y]) ∧ (∀ l, Sq2 t K H a l → l[i]? = some x) ∧ ∀ l, Sq2 u K H b l → l[i]? = some y
  stop := fun i H => ∃ xs ys, Sq2 t K H a xs ∧ Sq2 u K H b ys ∧ i = min xs.length ys.length
/-- five new cells, and a, b apart from them -/
theorem nin2 {x y z : Nat} (h : x ≠ y) (k : x ≠ z) : x ∉ [y, z] := fun q => by
  simp only [List.mem_cons, List.not_mem_nil, or_false] at q
  exact q.elim h k
theorem sep_new {a b n : Nat} (ha : a < n) (hb : b < n) : ZipSep2 (n + 4) (n + 2) (n + 3) n (n + 1) [n, a] [n + 1, b] where
  TIz := fun q => absurd (show n + 2 = n + 4 from q) (by omega)
  TOz := fun q => absurd (show n + 3 = n + 4 from q) (by omega)
  TITO := fun q => absurd (show n + 2 = n + 3 from q) (by omega)
  TIi1 := fun q => absurd (show n + 2 = n from q) (by omega)
  mem1 := List.mem_cons_self
  zf1 := nin2 (by omega) (by omega)
  Tf1 := nin2 (by omega) (by omega)
  TIi2 := fun q => absurd (show n + 2 = n + 1 from q) (by omega)
  mem2 := List.mem_cons_self
  zf2 := nin2 (by omega) (by omega)
  Tf2 := nin2 (by omega) (by omega)
  sep1_2 := nin2 (by omega) (by omega)
  sep2_1 := nin2 (by omega) (by omega)
section
variable {P : Program} {w : World} {K : PySem.W.Frag} {elts : List Expr} {kk : Nat} {tp : Pos} {a b z TI TO i1 i2 : Addr} {t u : Bool}
theorem turn_m (S : ZipSep2 z TI TO i1 i2 [i1, a] [i2, b]) (na : a ≠ i1) (nb : b ≠ i2) :
    Turn P w K (.Tuple elts kk tp) (Itm t u K a b) [z, TI, TO, i1, i2] z (fun i h => IsZip h z TI TO .none ∧ IsTupOf2 h TI (.ref i1) (.ref i2) ∧ (∃ x y, IsTupOf2 h TO x y) ∧ Itr t h i1 a i ∧ Itr u h i2 b i) where
  mem := List.mem_cons_self
  obj := by
    rintro i h ⟨g1, g2, ⟨x, y, g3⟩, g4, g5⟩ c hc
    simp only [List.mem_cons, List.not_mem_nil, or_false] at hc
    rcases hc with rfl | rfl | rfl | rfl | rfl
    · exact ⟨_, g1, fun v q => nomatch q⟩
    · exact ⟨_, g2, fun v q => nomatch q⟩
    · exact ⟨_, g3, fun v q => nomatch q⟩
    · exact g4.obj
    · exact g5.obj
  keep := by
    rintro i h h' ⟨g1, g2, ⟨x, y, g3⟩, g4, g5⟩ k
    exact ⟨k _ (by simp) _ g1, k _ (by simp) _ g2, ⟨x, y, k _ (by simp) _ g3⟩, g4.at (k _ (by simp)), g5.at (k _ (by simp))⟩
  item := by
    rintro X rfl rfl rfl hc i pins s σ H E I hf ⟨g1, g2, ⟨x0, y0, g3⟩, g4, g5⟩ ⟨xs, ys, x, y, qa, qb, hx, hy⟩
    obtain ⟨us, ra, pa⟩ := sq2_src I qa
    obtain ⟨ws, rb, pb⟩ := sq2_src I qb
    obtain ⟨v1, e1, r1⟩ := ra.get hx
    obtain ⟨v2, e2, r2⟩ := rb.get hy
    have hd := I.ok.hd hc
    have la : i < us.toArray.size := by
      have := (List.getElem?_eq_some_iff.mp e1).1
      simpa using this
    have lb : i < ws.toArray.size := by
      have := (List.getElem?_eq_some_iff.mp e2).1
      simpa using this
    refine wpAny_pyNext_zipD2_item S (drw t (A := X.A.in1) hd na us.toArray) (drw u (A := X.A.in1) hd nb ws.toArray) g1 g2 g3 ⟨g4, pa⟩ ⟨g5, pb⟩ la lb fun m1 m2 h1 tk y1 y2 k1 k2 k3 k4 k5 k6 k7 => ?_
    have em1 : m1 = v1 := by
      have y1 : us.toArray[i]? = some m1 := y1
      simp [e1] at y1
      exact y1.symm
    have em2 : m2 = v2 := by
      have y2 : ws.toArray[i]? = some m2 := y2
      simp [e2] at y2
      exact y2.symm
    subst em1 em2
    refine ⟨_, rfl, wpAny_letOwnedTupleGo_zip (s := { s with heap := h1, toks := tk }) k1 fun h2 j1 j2 => ?_⟩
    have zl : z < s.heap.objs.size := Heap.lt_size g1
    have nT : s.heap.objs.size ≠ z := Nat.ne_of_gt zl
    have gT := (j2.2 _ nT).trans k5
    have here : ∀ c o, c ∉ [z, TI, TO, i1, i2] → s.heap.get? c = some o → h2.get? c = some o := fun c o nc e => by
      simp only [List.mem_cons, List.not_mem_nil, or_false, not_or] at nc
      exact (j2.2 c nc.1).trans (k7 c o nc.1 nc.2.2.1 nc.2.2.2.1 nc.2.2.2.2 e)
    have J := I.turnedNew (T := s.heap.objs.size) (ob := .tup [x, y]) (t' := tk) here hf (Nat.le_refl _) ⟨by show 2 ≤ sizeLine; decide, [m1, m2], .cons r1 (.cons r2 .nil), ⟨_, gT, rfl, _, rfl⟩⟩
    refine ⟨.ref s.heap.objs.size, _, J, rfl, ⟨_, x, y, rfl, I.hok.fresh (Nat.le_refl _), rfl, fun l hl => ?_, fun l hl => ?_⟩, ⟨j1, ?_, ⟨m1, m2, ?_⟩, ?_, ?_⟩, fun c hm => ?_⟩
    · rw [sq2_inj I hl qa]
      exact hx
    · rw [sq2_inj I hl qb]
      exact hy
    · exact (j2.2 _ S.TIz).trans (k7 _ _ S.TIz S.TITO S.TIi1 S.TIi2 g2)
    · exact (j2.2 _ S.TOz).trans k2
    · exact k3.1.at fun o e => (j2.2 _ S.zi1.symm).trans e
    · exact k4.1.at fun o e => (j2.2 _ S.zi2.symm).trans e
    · have lt : c < s.heap.objs.size := by
        simp only [List.mem_cons, List.not_mem_nil, or_false] at hm
        rcases hm with rfl | rfl | rfl | rfl | rfl
        · exact zl
        · exact Heap.lt_size g2
        · exact Heap.lt_size g3
        · exact let ⟨_, e, _⟩ := g4.obj; Heap.lt_size e
        · exact let ⟨_, e, _⟩ := g5.obj; Heap.lt_size e
      rw [upd_ne (Nat.ne_of_lt lt)]
      exact (hf c hm).1
  done := by
    rintro X rfl rfl rfl hc i pins s σ H E I hf ⟨g1, g2, ⟨x0, y0, g3⟩, g4, g5⟩ ⟨xs, ys, qa, qb, hi⟩
    obtain ⟨us, ra, pa⟩ := sq2_src I qa
    obtain ⟨ws, rb, pb⟩ := sq2_src I qb
    have hd := I.ok.hd hc
    have ea := ra.length
    have eb := rb.length
    refine wpAny_pyNext_zipD2_end (i := i) S (drw t (A := X.A.in1) hd na us.toArray) (drw u (A := X.A.in1) hd nb ws.toArray) g1 g2 g3 ⟨g4, pa⟩ ⟨g5, pb⟩ (by simp; omega) (by simp; omega) (by simp; omega) fun h1 tk k7 => ⟨rfl, ?_⟩
    refine I.turnedL (t' := tk) (fun c o nc e => ?_) hf
    simp only [List.mem_cons, List.not_mem_nil, or_false, not_or] at nc
    exact k7 c o nc.1 nc.2.2.1 nc.2.2.2.1 nc.2.2.2.2 e
  self := fun A i s Q E st h => wpAny_pyIter_zip st.1 h
end
/-! ### zip of two rows of any two kinds -/
def iZm (K : PySem.W.Frag) (ta : TA) : TI := fun σ H R => ta σ H fun vs H1 => ∃ t u a b xs ys, vs = [.ref a, .ref b] ∧ Sq2 t K H1 a xs ∧ Sq2 u K H1 b ys ∧ R (Itm t u K a b) H1
theorem bgn (t : Bool) (a : Addr) (its : Array Value) : ∃ o, Begins (.ref a) o (fun h => Src t h a its) ∧ ∀ (h : Heap) (it : Addr), h.get? it = some o → Itr t h it a 0 := by
  cases t
  · exact ⟨_, begins_list a its, fun h it e => ⟨_, e, rfl, rfl⟩⟩
  · exact ⟨_, begins_tuple a its, fun h it e => ⟨_, e, rfl, rfl⟩⟩
theorem pi_zm {X : Cx} {e e2 : Expr} {ta : TA} {p pos tp : Pos} {elts : List Expr} {kk : Nat} (hg : Gl X "zip") (hm : X.mg "zip" = none) (ha : PA X [e, e2] ta)
    (hs : starEach [e, e2] X.env = (false, eval e X.env) :: starEach [e2] X.env) (hpl : (backTo pos (starEach [e2] X.env)).any (·.1) = false) :
    PI X (.Tuple elts kk tp) (.Call (.Name "zip" p) [e, e2] [] pos) (iZm X.K ta) := ⟨fun pins s σ H R I h => by
  have got := ha.run pos pins s σ H _ I h
  refine Call_ (ld_blt I hg hm PyProof.Rows.boot_zip (PyProof.Rows.callWith_type1 (thn got fun us s1 ⟨vs, H1, J, rs, t, u, a, b, xs, ys, ev, qa, qb, q⟩ => ?_) hs hpl))
  subst ev
  obtain ⟨ua, ra, pa⟩ := sq2_src J qa
  obtain ⟨ub, rb, pb⟩ := sq2_src J qb
  obtain ⟨o1, B1, s1'⟩ := bgn t a ua.toArray
  obtain ⟨o2, B2, s2'⟩ := bgn u b ub.toArray
  cases rs with
  | cons r1 rs => cases rs with
    | cons r2 rs =>
      cases rs
      cases r1
      cases r2
      refine zip_begins2 B1 B2 pa pb fun h' k1 k2 k3 k4 k5 k6 k7 => wpAny_pyIter_zip k1 ?_
      have new : ∀ c, c ∈ [s1.heap.objs.size + 4, s1.heap.objs.size + 2, s1.heap.objs.size + 3, s1.heap.objs.size, s1.heap.objs.size + 1] → FpOk X pins H1 c := fun c hc => by
        have le : s1.heap.objs.size ≤ c := by
          simp only [List.mem_cons, List.not_mem_nil, or_false] at hc
          rcases hc with rfl | rfl | rfl | rfl | rfl <;> first | exact Nat.le_add_right _ _ | exact Nat.le_refl _
        exact J.fpOk le (J.hok.fresh le)
      exact ⟨_, _, _, _, H1, rfl, J.kept (t' := s1.toks) k7, turn_m (sep_new pa.lt pb.lt) (Nat.ne_of_lt pa.lt) (fun q => Nat.ne_of_lt (Nat.lt_succ_of_lt pb.lt) q), ⟨k1, k2, ⟨_, _, k3⟩, s1' _ _ k4, s2' _ _ k5⟩, new, q⟩⟩
/-! ### its walk, in plain data -/
section
variable {K : PySem.W.Frag} {G : Gh} {Hs : Hp} {t u : Bool}
theorem sq2_mono {H H' : Hp} {a : Addr} {xs : List V} (e : Sub H H') (h : Sq2 t K H a xs) : Sq2 t K H' a xs := by
  cases t
  · rcases h with (h | ⟨o, h⟩) | h
    · exact .inl (.inl (e _ _ h))
    · exact .inl (.inr ⟨o, e _ _ h⟩)
    · exact .inr h
  · exact sqT_mono e h
theorem walk_m {a b : Addr} {xs ys : List V} {n : Nat} (hn : n = min xs.length ys.length) : Walk (Itm t u K a b) n (fun H => Sq2 t K H a xs ∧ Sq2 u K H b ys) (YPair (fun i => xs[i]?) (fun i => ys[i]?)) where
  goes := by
    rintro i H hi ⟨qa, qb⟩
    subst hn
    exact ⟨xs, ys, _, _, qa, qb, List.getElem?_eq_getElem (by omega), List.getElem?_eq_getElem (by omega)⟩
  stops := fun H q => ⟨xs, ys, q.1, q.2, hn⟩
  yields := by
    rintro i H v H' _ ⟨qa, qb⟩ ⟨T, x, y, e1, e2, e3, e4, e5⟩
    exact ⟨T, x, y, e1, e2, e3, e4 _ qa, e5 _ qb⟩
theorem wd_m {a b : Addr} {vs ws : List V} {ds es : List D} (h : Sq2 t K Hs a vs) (h' : Sq2 u K Hs b ws) (r : Reps K G Hs vs ds) (r' : Reps K G Hs ws es) : WalkD K G Hs (Itm t u K a b) (zipD ds es) := by
  unfold WalkD
  rw [zip_len, ← r.length, ← r'.length]
  refine (walk_m rfl).mono (fun H s => ⟨sq2_mono s h, sq2_mono s h'⟩) ?_
  rintro i H v H' hi s ⟨T, x, y, e1, e2, e3, e4, e5⟩
  obtain ⟨d, hd, ra⟩ := r.getV e4
  obtain ⟨e, he, rb⟩ := r'.getV e5
  exact ⟨_, zip_get hd he, .inr ⟨T, _, _, e1, e2, e3, rfl, .cons ra (.cons rb .nil)⟩⟩
/-- a row: where it lies -/
theorem row_at {v : V} {d : D} (r : Rep K G Hs v d) : (∃ a vs ds, v = .ref a ∧ d = .lst ds ∧ Sq2 false K Hs a vs ∧ Reps K G Hs vs ds) ∨ (∃ a vs ds, v = .ref a ∧ d = .tup ds ∧ Sq2 true K Hs a vs ∧ Reps K G Hs vs ds) ∨ ((∀ ds, d ≠ .lst ds) ∧ ∀ ds, d ≠ .tup ds) := by
  cases r with
  | @lst a vs ds h rr => exact .inl ⟨a, vs, ds, rfl, rfl, SqL.of h, rr⟩
  | @tup a vs ds h rr => exact .inr (.inl ⟨a, vs, ds, rfl, rfl, h, rr⟩)
  | _ => exact .inr (.inr ⟨fun _ z => (by cases z), fun _ z => (by cases z)⟩)
theorem zip_rows {l : List D} {xs : List D} (h : itemsD .zip l = some xs) : ∃ d e ds es, l = [d, e] ∧ (d = .lst ds ∨ d = .tup ds) ∧ (e = .lst es ∨ e = .tup es) ∧ xs = zipD ds es := by
  unfold itemsD at h
  split at h
  all_goals first
    | (rename_i q _; cases q; done)
    | (rename_i q; cases q; done)
    | (cases h; exact ⟨_, _, _, _, rfl, by first | exact .inl rfl | exact .inr rfl, by first | exact .inl rfl | exact .inr rfl, rfl⟩)
    | (cases h; done)
end
section
variable {X : Cx} {G : Gh} {E : XK} {m : Mod} {a b : Cd} {ea eb : Expr} {p pos tpos : Pos}
theorem sI_zip {elts : List Expr} {kk : Nat} (hg : Gl X "zip") (hm : X.mg "zip" = none) (ha : PE X ea (tC' X G E m false a)) (hb : PE X eb (tC' X G E m false b)) (hs : notStar ea = true) (hs2 : notStar eb = true) : PI X (.Tuple elts kk tpos) (.Call (.Name "zip" p) [ea, eb] [] pos) (tI X.K G E m .zip (.cons a (.cons b .nil))) :=
  ⟨fun pins s σ H R I h => (pi_zm hg hm (sA_cons ha (sA_cons hb sA_nil hs2) hs) (na2 hs _) (star_any (es := [eb]) _ _ (by simp [hs2]))).sized.run pins s σ H R I (ti_args h fun ds xs s' vs Hs' H' hx o r q => by
    obtain ⟨d1, d2, l1, l2, rfl, z1, z2, rfl⟩ := zip_rows hx
    cases r with
    | cons r1 r2 => cases r2 with
      | cons r3 r4 => cases r4 with
        | nil =>
          have main : ∀ {t u : Bool} {a1 a2 : Addr} {v1 v2 : List V}, Sq2 t X.K Hs' a1 v1 → Sq2 u X.K Hs' a2 v2 → Reps X.K G Hs' v1 l1 → Reps X.K G Hs' v2 l2 → ∃ t u a b xs ys, ([V.ref a1, V.ref a2] : List V) = [.ref a, .ref b] ∧ Sq2 t X.K H' a xs ∧ Sq2 u X.K H' b ys ∧ ∃ c vs, (SqL X.K H' c vs ∨ SqT X.K H' c vs) ∧ (vs.length ≤ sizeLine → R (Itm t u X.K a b) H') := by
            intro t u a1 a2 v1 v2 g1 g2 g3 g4
            have k1 := sq2_mono o.sub g1
            have k2 := sq2_mono o.sub g2
            refine ⟨t, u, a1, a2, v1, v2, rfl, k1, k2, a1, v1, ?_, fun z => q _ ((wd_m g1 g2 g3 g4).r rfl) (by rw [zip_len, ← g3.length]; omega)⟩
            cases t
            · exact .inl k1
            · exact .inr k1
          rcases row_at r1 with ⟨a1, v1, e1, rfl, rfl, g1, g3⟩ | ⟨a1, v1, e1, rfl, rfl, g1, g3⟩ | ⟨n1, n2⟩ <;> rcases row_at r3 with ⟨a2, v2, e2, rfl, rfl, g2, g4⟩ | ⟨a2, v2, e2, rfl, rfl, g2, g4⟩ | ⟨n3, n4⟩
          · rcases z1 with z1 | z1 <;> rcases z2 with z2 | z2 <;> cases z1 <;> cases z2
            exact main g1 g2 g3 g4
          · rcases z1 with z1 | z1 <;> rcases z2 with z2 | z2 <;> cases z1 <;> cases z2
            exact main g1 g2 g3 g4
          · exact absurd z2 fun z => z.elim (n3 _) (n4 _)
          · rcases z1 with z1 | z1 <;> rcases z2 with z2 | z2 <;> cases z1 <;> cases z2
            exact main g1 g2 g3 g4
          · rcases z1 with z1 | z1 <;> rcases z2 with z2 | z2 <;> cases z1 <;> cases z2
            exact main g1 g2 g3 g4
          · exact absurd z2 fun z => z.elim (n3 _) (n4 _)
          all_goals exact absurd z1 fun z => z.elim (n1 _) (n2 _))⟩
end
end Fw

/-! FwI: targets; comprehensions. -/
namespace Fw
open PySem L2 PyProof.Rows

/-! ### targets -/
def pslots : Pat → List Nat
  | .v i => [i]
  | .tnil => []
  | .tcons p ps => pslots p ++ pslots ps
def plen : Pat → Nat
  | .tcons _ ps => plen ps + 1
  | _ => 0
mutual
def gP (K : PySem.W.Frag) : Pat → TG
  | .v i => gName i
  | .tnil => gTup K 0 gNil
  | .tcons p ps => gTup K (plen ps + 1) (gCons (gP K p) (gPs K ps))
def gPs (K : PySem.W.Frag) : Pat → TGs
  | .v _ => fun _ _ _ _ => False
  | .tnil => gNil
  | .tcons p ps => gCons (gP K p) (gPs K ps)
end
section
variable {K : PySem.W.Frag} {G : Gh} {Hs H : Hp}
theorem plen_len {α : Type} {inj : D → α} : ∀ {ps : Pat} {ds : List D} {l l' : List α}, isPs ps = true → setP inj ps (.tup ds) l = some l' → ds.length = plen ps
  | .v _, _, _, _, h, _ => by cases h
  | .tnil, [], _, _, _, _ => rfl
  | .tnil, _ :: _, _, _, _, h => by cases h
  | .tcons p ps, [], _, _, _, h => by cases h
  | .tcons p ps, d :: ds, l, l', _, h => by
    have h' : (if isPs ps then (setP inj p d l).bind (setP inj ps (.tup ds)) else none) = some l' := h
    split at h'
    · rename_i hp
      obtain ⟨l1, h1, h2⟩ := Option.bind_eq_some_iff.mp h'
      exact congrArg Nat.succ (plen_len hp h2)
    · cases h'
mutual
/-- R is kept by the stores -/
theorem gP_gen {α : Type} {inj : D → α} {R : L2.St → List α → Prop} (hs : Sub Hs H) (hR : ∀ σ l i v d, R σ l → Rep K G Hs v d → R (σ.set i (some v)) (l.set i (inj d))) : ∀ (p : Pat) {d : D} {v : V} {σ : L2.St} {l l' : List α} {Q : L2.St → Hp → Prop}, R σ l → Rep K G Hs v d → setP inj p d l = some l' →
    (∀ σ', R σ' l' → σ'.length = σ.length → (∀ i, i ∉ pslots p → σ'[i]? = σ[i]?) → Q σ' H) → gP K p v σ H Q
  | .v i, d, v, σ, l, l', Q, r, rp, h, q => by
    cases h
    exact q _ (hR σ l i v d r rp) (by simp) fun j hj => by
      have : i ≠ j := fun z => hj (by simp [pslots, z])
      rw [List.getElem?_set_ne this]
  | .tnil, d, v, σ, l, l', Q, r, rp, h, q => by
    cases d with
    | tup ds => cases ds with
      | nil =>
        cases h
        cases rp with
        | @tup a vs ds ha ra =>
          have e := ra.nil_iff.mpr rfl
          subst e
          exact ⟨a, [], rfl, sqT_mono hs ha, rfl, rfl, q σ r rfl fun _ _ => rfl⟩
      | cons _ _ => cases h
    | _ => cases h
  | .tcons p ps, d, v, σ, l, l', Q, r, rp, h, q => by
    cases d with
    | tup ds =>
      cases rp with
      | @tup a vs ds ha ra =>
        have hl := plen_len (ps := .tcons p ps) rfl h
        exact ⟨a, vs, rfl, sqT_mono hs ha, by rw [ra.length, hl] <;> rfl, gPs_gen hs hR (.tcons p ps) rfl r ra h q⟩
    | _ => cases h
theorem gPs_gen {α : Type} {inj : D → α} {R : L2.St → List α → Prop} (hs : Sub Hs H) (hR : ∀ σ l i v d, R σ l → Rep K G Hs v d → R (σ.set i (some v)) (l.set i (inj d))) : ∀ (ps : Pat) {ds : List D} {vs : List V} {σ : L2.St} {l l' : List α} {Q : L2.St → Hp → Prop}, isPs ps = true → R σ l → Reps K G Hs vs ds → setP inj ps (.tup ds) l = some l' →
    (∀ σ', R σ' l' → σ'.length = σ.length → (∀ i, i ∉ pslots ps → σ'[i]? = σ[i]?) → Q σ' H) → gPs K ps vs σ H Q
  | .v _, _, _, _, _, _, _, h, _, _, _, _ => by cases h
  | .tnil, ds, vs, σ, l, l', Q, _, r, rp, h, q => by
    cases ds with
    | nil =>
      cases h
      cases rp
      exact ⟨rfl, q σ r rfl fun _ _ => rfl⟩
    | cons _ _ => cases h
  | .tcons p ps, ds, vs, σ, l, l', Q, _, r, rp, h, q => by
    cases ds with
    | nil => cases h
    | cons d ds =>
      have h' : (if isPs ps then (setP inj p d l).bind (setP inj ps (.tup ds)) else none) = some l' := h
      split at h'
      · rename_i hp
        obtain ⟨l1, h1, h2⟩ := Option.bind_eq_some_iff.mp h'
        cases rp with
        | cons rv rr =>
          refine ⟨_, _, rfl, gP_gen hs hR p r rv h1 fun σ1 r1 e1 e2 => ?_⟩
          refine gPs_gen hs hR ps hp r1 rr h2 fun σ2 r2 e3 e4 => ?_
          refine q σ2 r2 (e3.trans e1) fun i hi => ?_
          have hi' : i ∉ pslots p ∧ i ∉ pslots ps := by
            simp only [pslots, List.mem_append, not_or] at hi
            exact hi
          rw [e4 i hi'.2, e2 i hi'.1]
      · cases h'
end
theorem envR_set {σ : L2.St} {l : Ev} {i : Nat} {v : V} {d : D} (r : EnvR K G Hs σ l) (h : Rep K G Hs v d) : EnvR K G Hs (σ.set i (some v)) (l.set i (some d)) := by
  refine ⟨by rw [List.length_set, List.length_set]; exact r.len, fun j x hj => ?_⟩
  by_cases e : i = j
  · subst e
    by_cases hi : i < l.length
    · rw [List.getElem?_set_self hi] at hj
      cases hj
      exact ⟨v, by rw [List.getElem?_set_self (Nat.lt_of_lt_of_le hi r.len)], h⟩
    · rw [List.getElem?_eq_none (by simpa using hi)] at hj
      cases hj
  · rw [List.getElem?_set_ne e] at hj ⊢
    exact r.get j x hj
theorem envR_wipe {σ : L2.St} {l : Ev} (r : EnvR K G Hs σ l) : ∀ vs : List Nat, EnvR K G Hs (wipe σ vs) (wipeE l vs)
  | [] => r
  | v :: vs => by
    have ih := envR_wipe r vs
    refine ⟨by unfold wipe wipeE; rw [List.length_set, List.length_set]; exact ih.len, fun j x hj => ?_⟩
    unfold wipe
    unfold wipeE at hj
    by_cases e : v = j
    · subst e
      by_cases hi : v < (wipeE l vs).length
      · rw [List.getElem?_set_self hi] at hj
        cases hj
      · rw [List.getElem?_eq_none (by simpa using hi)] at hj
        cases hj
    · rw [List.getElem?_set_ne e] at hj ⊢
      exact ih.get j x hj
end
theorem wipe_getv {σ : L2.St} {j : Nat} : ∀ {vs : List Nat}, j ∈ vs → j < σ.length → (wipe σ vs)[j]? = some none
  | [], h, _ => by simp at h
  | v :: vs, h, hl => by
    unfold wipe
    by_cases e : v = j
    · subst e
      rw [List.getElem?_set_self (by rw [wipe_length]; exact hl)]
    · rw [List.getElem?_set_ne e]
      exact wipe_getv ((List.mem_cons.mp h).resolve_left fun z => e z.symm) hl
theorem wipe_geto {σ : L2.St} {j : Nat} : ∀ {vs : List Nat}, j ∉ vs → (wipe σ vs)[j]? = σ[j]?
  | [], _ => rfl
  | v :: vs, h => by
    unfold wipe
    rw [List.getElem?_set_ne fun z => h (by simp [z])]
    exact wipe_geto fun z => h (List.mem_cons_of_mem _ z)
theorem wipe_same {σ σ2 : L2.St} {vs ps : List Nat} (hl : σ2.length = (wipe σ vs).length) (h : ∀ i, i ∉ ps → σ2[i]? = (wipe σ vs)[i]?) (hp : ∀ i ∈ ps, i ∈ vs) : wipe σ2 vs = wipe σ vs := by
  have hl2 : σ2.length = σ.length := by rw [hl, wipe_length]
  apply List.ext_getElem?
  intro j
  by_cases hj : j ∈ vs
  · by_cases hlt : j < σ.length
    · rw [wipe_getv hj hlt, wipe_getv hj (by omega)]
    · rw [List.getElem?_eq_none (by rw [wipe_length]; omega), List.getElem?_eq_none (by rw [wipe_length]; omega)]
  · rw [wipe_geto hj, wipe_geto hj, h j fun z => hj (hp j z), wipe_geto hj]

/-! ### comprehensions -/
/-- a value, no error -/
def PostN {α : Type} (r : Res α) (P : α → RS → Prop) : Prop := match r with
  | .ok a s => P a s
  | _ => False
theorem PostN.bind {α β : Type} {r : Res α} {k : α → RS → Res β} {P : β → RS → Prop} (h : PostN (r.bind k) P) : PostN r fun a s => PostN (k a s) P := by
  cases r with
  | ok a s => exact h
  | err _ _ _ => exact h.elim
  | stuck => exact h.elim
theorem PostN.imp {α : Type} {r : Res α} {P P' : α → RS → Prop} (h : PostN r P) (i : ∀ a s, P a s → P' a s) : PostN r P' := by
  cases r with
  | ok a s => exact i a s h
  | err _ _ _ => exact h.elim
  | stuck => exact h.elim
theorem PostN.liftO {α : Type} {o : Option α} {s : RS} {P : α → RS → Prop} (h : PostN (liftO o s) P) : ∃ a, o = some a ∧ P a s := by
  cases o with
  | none => exact h.elim
  | some a => exact ⟨a, rfl, h⟩
theorem PostN.post {α : Type} {r : Res α} {P P' : α → RS → Prop} {K : PySem.W.Frag} {G : Gh} {E : XK} {Hs H : Hp} (h : PostN r P) (i : ∀ a s, P a s → P' a s) : Post K G E Hs H r P' := by
  cases r with
  | ok a s => exact i a s h
  | err _ _ _ => exact h.elim
  | stuck => exact h.elim
theorem Post.noErr {α : Type} {r : Res α} {P : α → RS → Prop} {K : PySem.W.Frag} {G : Gh} {E : XK} {Hs H : Hp} (h : Post K G E Hs H (noErr r) P) : PostN r P := by
  cases r with
  | ok a s => exact h
  | err _ _ _ => exact h.elim
  | stuck => exact h.elim
abbrev EF : XK := fun _ _ _ => False
section
variable {X : Cx} {G : Gh} {E : XK} {m : Mod} {a b c e src : Cd} {tg elt iter ec : Expr} {pos p tpos : Pos} {scope : Scope} {k : ItK} {vs : List Nat} {pt : Pat}
theorem sPTs_nil : PTs X [] (tT X.K G E (evE m (.lit (.bl true)))) := ⟨fun pins s σ H Q I ⟨Hs, en, t, ok, r, p⟩ => pts_nil.run pins s σ H Q I (by
  obtain ⟨b, hb, q⟩ := (show ∃ b, D.bl true = .bl b ∧ PR G (fun _ (x : Bool) (y : Bool) => x = y) Hs H b t Q from p)
  cases hb
  exact q true Hs H (Same.refl _) ok (Kp.refl _ _ _) rfl)⟩
/-- one turn's result put ahead of the others' -/
def consO (o : Option D) (r : List D) : List D := match o with
  | some y => y :: r
  | none => r
theorem compL_cons {f : D → RS → Res (Option D)} {x : D} {xs : List D} {s : RS} : compL f (x :: xs) s = (f x s).bind fun o s => (compL f xs s).bind fun r s => .ok (consO o r) s := by
  show Res.bind _ _ = _
  congr 1
theorem addY {Hs H H' : Hp} {s : RS} {v : V} {d : D} {Hw : Hp} (o : Ok G Hs H s) (sw : Sub Hw Hs) (y : YD X.K G Hw H v H' d) : ∃ Hs', Sub Hs Hs' ∧ Ok G Hs' H' s ∧ Kp G Hs H Hs' H' ∧ Rep X.K G Hs' v d := by
  rcases y with ⟨rfl, r⟩ | ⟨T, ws, ds, rfl, h2, rfl, rfl, r⟩
  · exact ⟨Hs, Same.refl _, o, Kp.refl _ _ _, r.mono sw⟩
  · have hf := o.free h2
    refine ⟨upd Hs T (.tup ws), Sub.upd hf, o.add h2 (fun ps z => by cases z), Kp.add h2, .tup (.inl (.inl upd_same)) ((r.mono sw).mono (Sub.upd hf))⟩
theorem comp_key (hp : ∀ i ∈ pslots pt, i ∈ vs) {σ : L2.St} {H : Hp} {Q : VK} (h : tC' X G E m true (.comp k src vs pt c e) σ H Q) : tLc (tI X.K G E m k src) (gP X.K pt) (tT X.K G EF (evE m c)) (tE X.K G EF false (evE m e)) vs σ H Q := by
  obtain ⟨Hs, en, s, ok, r, p⟩ := h
  generalize hf : (fun (d : D) (s : RS) => (liftO (setP some pt d (wipeE en vs)) s).bind fun σ s => (evE m c σ s).bind fun b s => (liftO (asB b) s).bind fun b s =>
        if b then (evE m e σ s).bind fun y s => Res.ok (some y) s else Res.ok none s) = f
  have p' : Post X.K G E Hs H (((evE m src en s).bind fun x s => liftO ((asTup x).bind (itemsD k)) s).bind fun xs s => (noErr (compL f xs s)).bind fun r s => .ok (.lst r) s) fun d s' => PV X.K G true Hs H d s' Q := by
    rw [← hf]
    exact p
  refine ⟨Hs, en, s, ok, r, p'.bind.imp fun xs s1 _ p1 Hs1 H1 J e1 o1 k1 wr hz D0 hD0 => ?_⟩
  have q0 := p1.bind.noErr
  have nD : D0 ≠ G.p0 := (ne_of_none o1.st.dic hD0).symm
  have nD2 : D0 ≠ G.g0 := (ne_of_none o1.st.great hD0).symm
  have nD3 : D0 ≠ G.c0 := (ne_of_none o1.st.cells hD0).symm
  have w := wr Hs1 (.inr rfl)
  refine lc_it w (fun i Hh => ∃ Hs' t acc racc, Sub Hs1 Hs' ∧ Ok G Hs' Hh t ∧ Kp G Hs1 H1 Hs' Hh ∧ Hs' D0 = none ∧ Hh D0 = some (.lst acc) ∧ acc.length ≤ i ∧ Reps X.K G Hs' acc racc ∧
    PostN (compL f (xs.drop i) t) fun r s' => PV X.K G true Hs H (.lst (racc ++ r)) s' Q) ?_ (fun i Hh _ ⟨Hs', t, acc, racc, z1, z2, _⟩ => fun a u h => z2.sub a u (z1 a u h)) (fun i x Hh Hh' hlt pv y => ?_) fun Hh pv => ?_
  · exact ⟨Hs1, s1, [], [], Same.refl _, o1.new hD0, Kp.new hD0, o1.free hD0, upd_same, Nat.le_refl _, .nil, by rw [List.drop_zero]; exact q0⟩
  · obtain ⟨Hs', t, acc, racc, z1, z2, z3, z4, z5, z6, z7, z8⟩ := pv
    obtain ⟨d, hd, yd⟩ := y
    obtain ⟨Hs2, a1, a2, a3, a4⟩ := addY z2 z1 yd
    have hdrop : xs.drop i = d :: xs.drop (i + 1) := by
      rw [List.drop_eq_getElem_cons hlt]
      congr 1
      rw [List.getElem?_eq_getElem hlt] at hd
      exact Option.some.inj hd
    rw [hdrop, compL_cons, ← hf] at z8
    have z9 := z8.bind.bind
    obtain ⟨en2, hen2, z10⟩ := z9.liftO
    have ER : EnvR X.K G Hs2 (wipe σ vs) (wipeE en vs) := envR_wipe (r.mono (e1.trans (z1.trans a1))) vs
    refine gP_gen a2.sub (R := EnvR X.K G Hs2) (fun σ l i v d r h => envR_set r h) pt ER a4 hen2 fun σ2 r2 l1 l2 => ⟨wipe_same l1 l2 hp, ?_⟩
    have z11 : PostN (evE m c en2 t) _ := z10.bind
    refine tT_run (P := fun b s' => _) a2 r2 (z11.post fun _ _ z => z) fun db s3 z12 => ?_
    obtain ⟨b, hb, z13⟩ := PostN.liftO (PostN.bind z12)
    refine ⟨b, asB_some hb, fun Hs3 H3 e3 o3 k3 r3 => ?_⟩
    have kD : ∀ {Ha Hb Hc Hd : Hp}, Kp G Ha Hb Hc Hd → Hb D0 = some (.lst acc) → Ha D0 = none → Hd D0 = some (.lst acc) ∧ Hc D0 = none := fun k h1 h2 =>
      have z := k D0 _ h1 nD nD2 fun ps z => by cases z
      ⟨z.1, z.2 (fun φ q => by cases q) h2⟩
    obtain ⟨hD2, hs2⟩ := kD a3 z5 z4
    obtain ⟨hD3, hs3⟩ := kD k3 hD2 hs2
    cases b with
    | false =>
      rw [if_neg Bool.false_ne_true]
      rw [if_neg Bool.false_ne_true] at z13
      exact ⟨Hs3, s3, acc, racc, z1.trans (a1.trans e3), o3, z3.trans (a3.trans k3), hs3, hD3, Nat.le_succ_of_le z6, z7.mono (a1.trans e3), by rw [hf] at z13; exact z13.bind⟩
    | true =>
      rw [if_pos rfl]
      rw [if_pos rfl] at z13
      refine tE_run o3 r3 ((PostN.bind z13).post fun _ _ z => z) fun y s4 v Hs4 H4 z14 e4 o4 k4 rv _ => ?_
      obtain ⟨hD4, hs4⟩ := kD k4 hD3 hs3
      refine ⟨acc, hD4, by omega, Hs4, s4, acc ++ [v], racc ++ [y], z1.trans (a1.trans (e3.trans e4)), ?_, ?_, hs4, upd_same, by rw [List.length_append]; exact Nat.succ_le_succ z6, (z7.mono (a1.trans (e3.trans e4))).append (.cons rv .nil), ?_⟩
      · exact o4.put hD4 nD nD2 nD3 hs4 (fun ps z => by cases z) fun ps z => by cases z
      · exact (z3.trans (a3.trans (k3.trans k4))).put (Nw.of hD0)
      · have z15 : PostN ((compL f (xs.drop (i + 1)) s4).bind fun r s => Res.ok (consO (some y) r) s) fun r s' => PV X.K G true Hs H (.lst (racc ++ r)) s' Q := by
          rw [← hf]
          exact z14
        refine z15.bind.imp fun r' s5 z16 => ?_
        rw [List.append_assoc]
        exact z16
  · obtain ⟨Hs', t, acc, racc, z1, z2, z3, z4, z5, z6, z7, z8⟩ := pv
    rw [List.drop_length] at z8
    have z9 : PV X.K G true Hs H (.lst (racc ++ [])) t Q := z8
    rw [List.append_nil] at z9
    exact z9 D0 acc Hs' Hh (e1.trans z1) z2 (k1.trans z3) z4 (k1.nw ok o1 (Nw.of hD0)) z5 z7
/-- [elt for tg in iter if ..] -/
theorem sE_comp {ifs : List Expr} {own : List (Str × Nat)} (hc : X.calm = true) (hN : X.N.Nodup) (hi : PI X tg iter (tI X.K G E m k src)) (ok : BlkOk X.N X.env.scope scope own) (hv : own.map (·.2) = vs) (hp : ∀ i ∈ pslots pt, i ∈ vs)
    (hg : ∀ (s : Shared) (H : Hp) (C : Addr) (cl : List (Str × Addr)) (fp : List Addr), PG (X.blk s H scope (compEnvC scope cl C X.env) fp) tg (gP X.K pt))
    (ht : ∀ (s : Shared) (H : Hp) (C : Addr) (cl : List (Str × Addr)) (fp : List Addr), PTs (X.blk s H scope (compEnvC scope cl C X.env) fp) ifs (tT X.K G EF (evE m c)))
    (he : ∀ (s : Shared) (H : Hp) (C : Addr) (cl : List (Str × Addr)) (fp : List Addr), PE (X.blk s H scope (compEnvC scope cl C X.env) fp) elt (tE X.K G EF false (evE m e))) (hs : ∀ x, foldedSetIterable iter X.env x = pure x) :
    PE X (.ListComp elt [⟨tg, iter, ifs, 0⟩] scope pos) (tC' X G E m true (.comp k src vs pt c e)) := by
  subst hv
  exact (pe_lc hc hN hi ok hg ht he hs).weak fun σ H Q h => comp_key hp h
end
end Fw

/-! FwJ: slots; what statements promise. -/
namespace Fw
open PySem L2 PyProof.Rows

theorem view_get {ms : List Nat} : ∀ {l : List Sl} {k i : Nat}, (viewS ms k l)[i]? = (l[i]?).map (view1 (ms.contains (k + i)))
  | [], _, _ => by simp [viewS]
  | x :: r, k, 0 => by simp [viewS]
  | x :: r, k, i + 1 => by
    have := view_get (ms := ms) (l := r) (k := k + 1) (i := i)
    have e : k + 1 + i = k + (i + 1) := by omega
    rw [e] at this
    simpa [viewS] using this
theorem share_get {ms : List Nat} : ∀ {l : List Sl} {k i : Nat}, (shareS ms k l)[i]? = (l[i]?).map (share1 (ms.contains (k + i)))
  | [], _, _ => by simp [shareS]
  | x :: r, k, 0 => by simp [shareS]
  | x :: r, k, i + 1 => by
    have := share_get (ms := ms) (l := r) (k := k + 1) (i := i)
    have e : k + 1 + i = k + (i + 1) := by omega
    rw [e] at this
    simpa [shareS] using this
theorem view_len {ms : List Nat} : ∀ {l : List Sl} {k : Nat}, (viewS ms k l).length = l.length
  | [], _ => rfl
  | _ :: r, k => congrArg Nat.succ (view_len (l := r))
theorem share_len {ms : List Nat} : ∀ {l : List Sl} {k : Nat}, (shareS ms k l).length = l.length
  | [], _ => rfl
  | _ :: r, k => congrArg Nat.succ (share_len (l := r))

section
variable (K : PySem.W.Frag) (G : Gh)
/-- an object of one's own -/
inductive OwnAt (sf : Addr) (H0 Hs H : Hp) (a : Addr) : D → Prop
  | lst {vs : List V} {ds : List D} (n0 : Nw H0 a) (ap : a ≠ G.p0 ∧ a ≠ G.g0 ∧ a ≠ G.c0) (ns : Hs a = none) (h : H a = some (.lst vs)) (r : Reps K G Hs vs ds) : OwnAt sf H0 Hs H a (.lst ds)
  | ins {c : Nat} {dx : Addr} {fs : List (Str × V)} {ds : List D} (self : a = sf) (n0 : Nw H0 a) (ap : a ≠ G.p0 ∧ a ≠ G.g0 ∧ a ≠ G.c0) (ns : Hs a = none) (h : H a = some (.ins (G.ca c) dx fs)) (hf : fs.map (·.1) = (G.cf c).take ds.length) (r : Reps K G Hs (fs.map (·.2)) ds) : OwnAt sf H0 Hs H a (.ins c ds)
/-- one slot -/
inductive S1 (sf : Addr) (H0 Hs H : Hp) : Option (Option V) → Sl → Prop
  | un {x : Option (Option V)} : S1 sf H0 Hs H x .un
  | val {v : V} {d : D} (r : Rep K G Hs v d) : S1 sf H0 Hs H (some (some v)) (.val d)
  | own {a : Addr} {d : D} (o : OwnAt K G sf H0 Hs H a d) : S1 sf H0 Hs H (some (some (.ref a))) (.own d)
structure SlR (sf : Addr) (H0 Hs H : Hp) (σ : L2.St) (l : List Sl) : Prop where
  len : l.length ≤ σ.length
  get : ∀ (i : Nat) (x : Sl), l[i]? = some x → S1 K G sf H0 Hs H σ[i]? x
  inj : ∀ (i j : Nat) (di dj : D) (a : Addr), l[i]? = some (.own di) → l[j]? = some (.own dj) → σ[i]? = some (some (.ref a)) → σ[j]? = some (some (.ref a)) → i = j
structure Now (sf : Addr) (Hb Hs0 H0 Hs H : Hp) (σ : L2.St) (l : List Sl) (s : RS) : Prop where
  ok : Ok G Hs H s
  sl : SlR K G sf H0 Hs H σ l
  sb : Sub Hb Hs
  s0 : Sub Hs0 Hs
  kp : Kp G Hs0 H0 Hs H
variable (E : XK)
def PostS (sf : Addr) (Hb Hs0 H0 : Hp) (r : SRes) (D0 : Ends) : Prop := match r with
  | .nx l s => ∀ σ Hs H, Now K G sf Hb Hs0 H0 Hs H σ l s → D0.nx σ H
  | .rt d s => PV K G false Hs0 H0 d s D0.rt
  | .bk l s => ∀ σ Hs H, Now K G sf Hb Hs0 H0 Hs H σ l s → D0.bk σ H
  | .ct l s => ∀ σ Hs H, Now K G sf Hb Hs0 H0 Hs H σ l s → D0.ct σ H
  | .err c fs s => PX K G E Hs0 H0 c fs s
  | .stuck => False
def tS (f : List Sl → RS → SRes) : TS := fun D0 σ H => ∃ sf Hb Hs0 H0 Hs l s, Now K G sf Hb Hs0 H0 Hs H σ l s ∧ PostS K G E sf Hb Hs0 H0 (f l s) D0
end
section
variable {K : PySem.W.Frag} {G : Gh} {E : XK} {sf : Addr} {Hb Hs0 H0 Hs H : Hp} {σ : L2.St} {l : List Sl} {s : RS} {ms : List Nat}
theorem OwnAt.n0 {a : Addr} {d : D} (o : OwnAt K G sf H0 Hs H a d) : Nw H0 a := by cases o <;> assumption
theorem OwnAt.ns {a : Addr} {d : D} (o : OwnAt K G sf H0 Hs H a d) : Hs a = none := by cases o <;> assumption
theorem OwnAt.ap {a : Addr} {d : D} (o : OwnAt K G sf H0 Hs H a d) : a ≠ G.p0 ∧ a ≠ G.g0 ∧ a ≠ G.c0 := by cases o <;> assumption
theorem OwnAt.obj {a : Addr} {d : D} (o : OwnAt K G sf H0 Hs H a d) : ∃ u, H a = some u ∧ (∀ ps, u ≠ .tbl ps) ∧ ∀ φ, u ≠ .ext φ := by
  cases o with
  | lst n0 ap ns h r => exact ⟨_, h, fun ps z => by (cases z), fun ps z => by (cases z)⟩
  | ins self n0 ap ns h hf r => exact ⟨_, h, fun ps z => by (cases z), fun ps z => by (cases z)⟩
/-- .. it stays where nobody else knows of it -/
theorem OwnAt.keep {a : Addr} {d : D} {Hs' H' : Hp} (o : OwnAt K G sf H0 Hs H a d) (e : Sub Hs Hs') (hn : Hs' a = none) (hk : ∀ u, H a = some u → H' a = some u) : OwnAt K G sf H0 Hs' H' a d := by
  cases o with
  | lst n0 ap ns h r => exact .lst n0 ap hn (hk _ h) (r.mono e)
  | ins self n0 ap ns h hf r => exact .ins self n0 ap hn (hk _ h) hf (r.mono e)

mutual
/-- data without lists does not reach lists -/
theorem rep_lf {Hs' Hs2 : Hp} (e : ∀ a u, Hs' a = some u → (∀ vs, u ≠ .lst vs) → Hs2 a = some u) : ∀ {v : V} {d : D}, Rep K G Hs' v d → d.lf = true → Rep K G Hs2 v d
  | _, _, .non, _ => .non
  | _, _, .bl b, _ => .bl b
  | _, _, .int i, _ => .int i
  | _, _, .str x h, _ => .str x h
  | _, _, .tup h r, hl => .tup (by
      rcases h with (h | ⟨o, h⟩) | h
      · exact .inl (.inl (e _ _ h fun vs z => by cases z))
      · exact .inl (.inr ⟨o, e _ _ h fun vs z => by cases z⟩)
      · exact .inr h) (reps_lf e r hl)
  | _, _, .lst h r, hl => by cases hl
  | _, _, .dicE h, hl => by cases hl
  | _, _, .ins h hf r, hl => .ins (e _ _ h fun vs z => by cases z) hf (reps_lf e r hl)
  | _, _, .exc h, _ => .exc (e _ _ h fun vs z => by cases z)
  | _, _, .excF h hd hf r ne, hl => .excF (e _ _ h fun vs z => by cases z) (e _ _ hd fun vs z => by cases z) hf (reps_lf e r hl) ne
  | _, _, .st, _ => .st
  | _, _, .scr h q, hl => by cases hl
theorem reps_lf {Hs' Hs2 : Hp} (e : ∀ a u, Hs' a = some u → (∀ vs, u ≠ .lst vs) → Hs2 a = some u) : ∀ {vs : List V} {ds : List D}, Reps K G Hs' vs ds → D.lfs ds = true → Reps K G Hs2 vs ds
  | _, _, .nil, _ => .nil
  | _, _, .cons h r, hl => by
    have hl' : (D.lf _ && D.lfs _) = true := hl
    rw [Bool.and_eq_true] at hl'
    exact .cons (rep_lf e h hl'.1) (reps_lf e r hl'.2)
end

/-- the addresses of own lists that are named -/
def Men (ms : List Nat) (σ : L2.St) (l : List Sl) (a : Addr) : Prop := ∃ (i : Nat) (xs : List D), ms.contains i = true ∧ l[i]? = some (.own (.lst xs)) ∧ σ[i]? = some (some (.ref a))
theorem Men.own (n : Now K G sf Hb Hs0 H0 Hs H σ l s) {a : Addr} (h : Men ms σ l a) : ∃ xs, OwnAt K G sf H0 Hs H a (.lst xs) := by
  obtain ⟨i, xs, _, h2, h3⟩ := h
  have q := n.sl.get i _ h2
  rw [h3] at q
  cases q with
  | own o => exact ⟨xs, o⟩
open Classical in
/-- the shared heap, the named own lists with it -/
noncomputable def hsM (ms : List Nat) (σ : L2.St) (l : List Sl) (Hs H : Hp) : Hp := fun a => if Men ms σ l a then H a else Hs a
theorem hsM_in {a : Addr} (h : Men ms σ l a) : hsM ms σ l Hs H a = H a := by unfold hsM; exact if_pos h
theorem hsM_out {a : Addr} (h : ¬ Men ms σ l a) : hsM ms σ l Hs H a = Hs a := by unfold hsM; exact if_neg h
theorem Now.sub1 (n : Now K G sf Hb Hs0 H0 Hs H σ l s) : Sub Hs (hsM ms σ l Hs H) := fun a u e => by
  have hn : ¬ Men ms σ l a := fun h => by
    obtain ⟨xs, o⟩ := h.own n
    rw [o.ns] at e
    cases e
  rw [hsM_out hn]
  exact e
theorem Now.ok1 (n : Now K G sf Hb Hs0 H0 Hs H σ l s) : Ok G (hsM ms σ l Hs H) H s := by
  refine ⟨fun a u e => ?_, n.ok.st, ?_, ?_, n.sub1 _ _ n.ok.cs, n.ok.tb, fun a ps e => ?_⟩
  · by_cases h : Men ms σ l a
    · rw [hsM_in h] at e
      exact e
    · rw [hsM_out h] at e
      exact n.ok.sub a u e
  · rw [hsM_out fun h => (h.own n).elim fun xs o => o.ap.1 rfl]
    exact n.ok.np
  · rw [hsM_out fun h => (h.own n).elim fun xs o => o.ap.2.1 rfl]
    exact n.ok.ng
  · by_cases h : Men ms σ l a
    · rw [hsM_in h] at e
      obtain ⟨xs, o⟩ := h.own n
      obtain ⟨u, h1, h2, _⟩ := o.obj
      rw [h1] at e
      exact h2 ps (Option.some.inj e)
    · rw [hsM_out h] at e
      exact n.ok.nt a ps e
theorem Now.env1 (n : Now K G sf Hb Hs0 H0 Hs H σ l s) : EnvR K G (hsM ms σ l Hs H) σ (viewS ms 0 l) := by
  refine ⟨by rw [view_len]; exact n.sl.len, fun i d hd => ?_⟩
  rw [view_get, Nat.zero_add] at hd
  cases hl : l[i]? with
  | none =>
    rw [hl] at hd
    cases hd
  | some x =>
    rw [hl] at hd
    have hd' : view1 (ms.contains i) x = some d := Option.some.inj hd
    have q := n.sl.get i x hl
    cases x with
    | un => cases hd'
    | val d' =>
      cases hd'
      cases hσ : σ[i]? with
      | none =>
        rw [hσ] at q
        cases q
      | some y =>
        rw [hσ] at q
        cases q with
        | val r => exact ⟨_, rfl, r.mono n.sub1⟩
    | own d' => cases d' with
      | lst xs =>
        cases hm : ms.contains i with
        | false =>
          rw [hm] at hd'
          cases hd'
        | true =>
          rw [hm] at hd'
          cases hd'
          cases hσ : σ[i]? with
          | none =>
            rw [hσ] at q
            cases q
          | some y =>
            rw [hσ] at q
            cases q with
            | own o => cases o with
              | lst n0 ap ns h r =>
                refine ⟨_, rfl, .lst ?_ (r.mono n.sub1)⟩
                rw [hsM_in ⟨i, xs, hm, hl, hσ⟩]
                exact h
      | _ => cases hd'
theorem Now.kp1 (n : Now K G sf Hb Hs0 H0 Hs H σ l s) : Kp G Hs0 H0 (hsM ms σ l Hs H) H := fun a u e h1 h2 h3 => by
  have q := n.kp a u e h1 h2 h3
  refine ⟨q.1, fun z => ?_⟩
  rw [hsM_out fun h => (h.own n).elim fun xs o => by
    obtain ⟨ps, hp⟩ := o.n0 u e
    exact h3 ps hp]
  exact q.2 z
theorem Now.own (n : Now K G sf Hb Hs0 H0 Hs H σ l s) {i : Nat} {d : D} (h : l[i]? = some (.own d)) : ∃ a, σ[i]? = some (some (.ref a)) ∧ OwnAt K G sf H0 Hs H a d := by
  have q := n.sl.get i _ h
  cases hσ : σ[i]? with
  | none =>
    rw [hσ] at q
    cases q
  | some y =>
    rw [hσ] at q
    cases q with
    | own o => exact ⟨_, rfl, o⟩
/-- what is own and not named stays own -/
theorem Now.kown (n : Now K G sf Hb Hs0 H0 Hs H σ l s) {Hs' H' : Hp} (k : Kp G (hsM ms σ l Hs H) H Hs' H') {a : Addr} {d : D} (o : OwnAt K G sf H0 Hs H a d) : (∀ u, H a = some u → H' a = some u) ∧ (¬ Men ms σ l a → Hs' a = none) := by
  obtain ⟨u, h1, h2, h3⟩ := o.obj
  have q := k a u h1 o.ap.1 o.ap.2.1 h2
  refine ⟨fun w hw => ?_, fun hm => q.2 h3 ?_⟩
  · rw [h1] at hw
    cases hw
    exact q.1
  · rw [hsM_out hm]
    exact o.ns
theorem share_own {i : Nat} {d : D} (h : (shareS ms 0 l)[i]? = some (.own d)) : l[i]? = some (.own d) := by
  rw [share_get, Nat.zero_add] at h
  cases hl : l[i]? with
  | none =>
    rw [hl] at h
    cases h
  | some y =>
    rw [hl] at h
    have h' : share1 (ms.contains i) y = .own d := Option.some.inj h
    cases y with
    | un => cases h'
    | val _ => cases h'
    | own d' => cases d' with
      | lst xs =>
        cases hm : ms.contains i with
        | true =>
          rw [hm] at h'
          cases h'
        | false =>
          rw [hm] at h'
          cases h'
          rfl
      | _ =>
        cases h'
        rfl
/-- behind an expression whose value may hold the named lists -/
theorem Now.shared (n : Now K G sf Hb Hs0 H0 Hs H σ l s) {Hs' H' : Hp} {s' : RS} (e : Sub (hsM ms σ l Hs H) Hs') (o : Ok G Hs' H' s') (k : Kp G (hsM ms σ l Hs H) H Hs' H') : Now K G sf Hb Hs0 H0 Hs' H' σ (shareS ms 0 l) s' := by
  refine ⟨o, ⟨by rw [share_len]; exact n.sl.len, fun i x hx => ?_, fun i j di dj a h1 h2 h3 h4 => ?_⟩, n.sb.trans (n.sub1.trans e), n.s0.trans (n.sub1.trans e), n.kp1.trans k⟩
  · rw [share_get, Nat.zero_add] at hx
    cases hl : l[i]? with
    | none =>
      rw [hl] at hx
      cases hx
    | some y =>
      rw [hl] at hx
      have hx' : share1 (ms.contains i) y = x := Option.some.inj hx
      subst hx'
      have q := n.sl.get i y hl
      cases y with
      | un => exact .un
      | val d =>
        cases hσ : σ[i]? with
        | none =>
          rw [hσ] at q
          cases q
        | some z =>
          rw [hσ] at q
          cases q with
          | val r => exact .val (r.mono (n.sub1.trans e))
      | own d =>
        obtain ⟨a, hσ, oa⟩ := n.own hl
        have kk := n.kown k oa
        rw [hσ]
        have stay : ¬ Men ms σ l a → S1 K G sf H0 Hs' H' (some (some (.ref a))) (.own d) := fun hm => .own (oa.keep (n.sub1.trans e) (kk.2 hm) kk.1)
        cases d with
        | lst xs =>
          cases hm : ms.contains i with
          | true =>
            cases oa with
            | lst n0 ap ns h r =>
              refine .val (.lst (e _ _ ?_) (r.mono (n.sub1.trans e)))
              rw [hsM_in ⟨i, xs, hm, hl, hσ⟩]
              exact h
          | false =>
            refine stay fun ⟨j, ys, m1, m2, m3⟩ => ?_
            have := n.sl.inj i j _ _ a hl m2 hσ m3
            subst this
            rw [m1] at hm
            cases hm
        | ins c ds =>
          refine stay fun h => ?_
          obtain ⟨ys, o2⟩ := h.own n
          cases oa with
          | ins self n0 ap ns h hf r => cases o2 with
            | lst n0' ap' ns' h' r' =>
              rw [h] at h'
              cases h'
        | _ => cases oa
  · exact n.sl.inj i j di dj a (share_own h1) (share_own h2) h3 h4
/-- behind one whose value holds no list -/
theorem Now.unshared (n : Now K G sf Hb Hs0 H0 Hs H σ l s) {Hs' H' : Hp} {s' : RS} (e : Sub (hsM ms σ l Hs H) Hs') (o : Ok G Hs' H' s') (k : Kp G (hsM ms σ l Hs H) H Hs' H') :
    ∃ Hs2, Now K G sf Hb Hs0 H0 Hs2 H' σ l s' ∧ (∀ a u, Hs' a = some u → (∀ vs, u ≠ .lst vs) → Hs2 a = some u) ∧ ∀ a, Hs' a = none → Hs2 a = none := by
  classical
  let ownA : Addr → Prop := fun a => ∃ (i : Nat) (d : D), l[i]? = some (.own d) ∧ σ[i]? = some (some (.ref a))
  have oa : ∀ a, ownA a → ∃ d, OwnAt K G sf H0 Hs H a d := fun a ⟨i, d, h1, h2⟩ => by
    obtain ⟨b, h3, h4⟩ := n.own h1
    rw [h2] at h3
    cases h3
    exact ⟨d, h4⟩
  let Hs2 : Hp := fun a => if ownA a then none else Hs' a
  have out : ∀ a, ¬ ownA a → Hs2 a = Hs' a := fun a h => if_neg h
  have inn : ∀ a, ownA a → Hs2 a = none := fun a h => if_pos h
  have none' : ∀ a, Hs' a = none → Hs2 a = none := fun a h => by
    by_cases q : ownA a
    · exact inn a q
    · rw [out a q]
      exact h
  have sub2 : Sub Hs2 Hs' := fun a u h => by
    by_cases q : ownA a
    · rw [inn a q] at h
      cases h
    · rw [out a q] at h
      exact h
  have subH : Sub Hs Hs2 := fun a u h => by
    have q : ¬ ownA a := fun q => by
      obtain ⟨d, od⟩ := oa a q
      rw [od.ns] at h
      cases h
    rw [out a q]
    exact e _ _ (n.sub1 a u h)
  have subC : Hs2 G.c0 = some (.lst (s'.cells.map V.int)) := by
    rw [out _ fun q => by
      obtain ⟨d, od⟩ := oa _ q
      exact od.ap.2.2 rfl]
    exact o.cs
  refine ⟨Hs2, ⟨⟨fun a u h => o.sub a u (sub2 a u h), o.st, none' _ o.np, none' _ o.ng, subC, o.tb, fun a ps h => o.nt a ps (sub2 a _ h)⟩, ⟨n.sl.len, fun i x hx => ?_, n.sl.inj⟩, n.sb.trans subH, n.s0.trans subH, fun a u h h1 h2 h3 => ?_⟩, fun a u h hu => ?_, none'⟩
  · have q := n.sl.get i x hx
    cases x with
    | un => exact .un
    | val d =>
      cases hσ : σ[i]? with
      | none =>
        rw [hσ] at q
        cases q
      | some z =>
        rw [hσ] at q
        cases q with
        | val r => exact .val (r.mono subH)
    | own d =>
      obtain ⟨a, hσ, od⟩ := n.own hx
      rw [hσ]
      exact .own (od.keep subH (inn a ⟨i, d, hx, hσ⟩) (n.kown k od).1)
  · have q := n.kp1.trans k a u h h1 h2 h3
    exact ⟨q.1, fun hn z => none' a (q.2 hn z)⟩
  · refine (out a fun q => ?_).trans h
    obtain ⟨d, od⟩ := oa a q
    have kk := n.kown k od
    have h' := o.sub a u h
    cases od with
    | lst n0 ap ns hh r =>
      rw [kk.1 _ hh] at h'
      exact hu _ (Option.some.inj h').symm
    | ins self n0 ap ns hh hf r =>
      have : Hs' a = none := kk.2 fun hm => by
        obtain ⟨ys, o2⟩ := hm.own n
        cases o2 with
        | lst n0' ap' ns' h' r' =>
          rw [hh] at h'
          cases h'
      rw [this] at h
      cases h
theorem share_nil : ∀ {l : List Sl} {k : Nat}, shareS [] k l = l
  | [], _ => rfl
  | x :: r, k => by
    unfold shareS
    rw [share_nil]
    congr 1
    cases x with
    | own d => cases d <;> rfl
    | _ => rfl
/-- an expression within a statement -/
theorem ev_run {m : Mod} {e : Cd} {W : D → RS → Prop} {Q : VK} (n : Now K G sf Hb Hs0 H0 Hs H σ l s) (p : Post K G E Hs0 H0 (evE m e (viewS ms 0 l) s) W)
    (q : ∀ d s' v Hs2 H', W d s' → Now K G sf Hb Hs0 H0 Hs2 H' σ (settle ms d l) s' → Rep K G Hs2 v d → Q v H') : tE K G E false (evE m e) σ H Q := by
  refine ⟨hsM ms σ l Hs H, viewS ms 0 l, s, n.ok1, n.env1, p.later (n.s0.trans n.sub1) n.kp1 fun d s' w => ?_⟩
  intro v Hs' H' e' o' k' r'
  unfold settle at q
  by_cases hc : (ms.isEmpty || d.lf) = true
  · by_cases hm : ms = []
    · subst hm
      have z := n.shared e' o' k'
      rw [share_nil] at z
      exact q d s' v Hs' H' w (by rw [if_pos hc]; exact z) r'
    · have hl : d.lf = true := by
        cases ms with
        | nil => exact absurd rfl hm
        | cons _ _ => simpa using hc
      obtain ⟨Hs2, z1, z2, _⟩ := n.unshared e' o' k'
      exact q d s' v Hs2 H' w (by rw [if_pos hc]; exact z1) (rep_lf z2 r' hl)
  · exact q d s' v Hs' H' w (by rw [if_neg hc]; exact n.shared e' o' k') r'
/-- a new list of one's own -/
theorem ev_fresh {m : Mod} {e : Cd} {W : D → RS → Prop} {Q : VK} (n : Now K G sf Hb Hs0 H0 Hs H σ l s) (p : Post K G E Hs0 H0 (evE m e (viewS ms 0 l) s) W)
    (q : ∀ d s', W d s' → ∃ xs, d = .lst xs ∧ ∀ (p : Addr) (Hs2 H' : Hp), Now K G sf Hb Hs0 H0 Hs2 H' σ (if ms.isEmpty || D.lfs xs then l else shareS ms 0 l) s' → OwnAt K G sf H0 Hs2 H' p (.lst xs) → Nw H p → Q (.ref p) H') : tE K G E true (evE m e) σ H Q := by
  refine ⟨hsM ms σ l Hs H, viewS ms 0 l, s, n.ok1, n.env1, p.later (n.s0.trans n.sub1) n.kp1 fun d s' w => ?_⟩
  obtain ⟨xs, rfl, q⟩ := q d s' w
  intro pa vs Hs' H' e' o' k' h1 h2 h3 h4
  have n0 : Nw H0 pa := n.kp.nw0 n.ok h2
  have ap : pa ≠ G.p0 ∧ pa ≠ G.g0 ∧ pa ≠ G.c0 := ⟨h2.ne n.ok.st.dic fun ps z => by (cases z), h2.ne n.ok.st.great fun ps z => by (cases z), h2.ne n.ok.st.cells fun ps z => by (cases z)⟩
  by_cases hc : (ms.isEmpty || D.lfs xs) = true
  · by_cases hm : ms = []
    · subst hm
      have z := n.shared e' o' k'
      rw [share_nil] at z
      exact q pa Hs' H' (by rw [if_pos hc]; exact z) (.lst n0 ap h1 h3 h4) h2
    · have hl : D.lfs xs = true := by
        cases ms with
        | nil => exact absurd rfl hm
        | cons _ _ => simpa using hc
      obtain ⟨Hs2, z1, z2, z3⟩ := n.unshared e' o' k'
      exact q pa Hs2 H' (by rw [if_pos hc]; exact z1) (.lst n0 ap (z3 pa h1) h3 (reps_lf z2 h4 hl)) h2
  · exact q pa Hs' H' (by rw [if_neg hc]; exact n.shared e' o' k') (.lst n0 ap h1 h3 h4) h2
end
end Fw

/-! FwK: statements. -/
namespace Fw
open PySem L2 PyProof.Rows

section
variable {K : PySem.W.Frag} {G : Gh} {E : XK} {sf : Addr} {Hb Hs0 H0 Hs H : Hp} {σ : L2.St} {l : List Sl} {s s' : RS} {ms : List Nat} {m : Mod}
theorem postR {α : Type} {r : Res α} {k : α → RS → SRes} {D0 : Ends} (h : PostS K G E sf Hb Hs0 H0 (SRes.ofR r k) D0) : Post K G E Hs0 H0 r fun a s => PostS K G E sf Hb Hs0 H0 (k a s) D0 := by
  cases r with
  | ok a s => exact h
  | err _ _ _ => exact h
  | stuck => exact h.elim
theorem Now.base {Hb' : Hp} (n : Now K G sf Hb' Hs0 H0 Hs H σ l s) (h : Sub Hb Hb') : Now K G sf Hb Hs0 H0 Hs H σ l s := ⟨n.ok, n.sl, h.trans n.sb, n.s0, n.kp⟩
/-- more is shared, own things stand -/
theorem Now.step {Hs' H' : Hp} (n : Now K G sf Hb Hs0 H0 Hs H σ l s) (e : Sub Hs Hs') (o : Ok G Hs' H' s') (k : Kp G Hs H Hs' H') : Now K G sf Hb Hs0 H0 Hs' H' σ l s' := by
  refine ⟨o, ⟨n.sl.len, fun i x hx => ?_, n.sl.inj⟩, n.sb.trans e, n.s0.trans e, n.kp.trans k⟩
  have q := n.sl.get i x hx
  cases x with
  | un => exact .un
  | val d =>
    cases hσ : σ[i]? with
    | none =>
      rw [hσ] at q
      cases q
    | some z =>
      rw [hσ] at q
      cases q with
      | val r => exact .val (r.mono e)
  | own d =>
    obtain ⟨a, hσ, od⟩ := n.own hx
    rw [hσ]
    obtain ⟨u, h1, h2, h3⟩ := od.obj
    have q := k a u h1 od.ap.1 od.ap.2.1 h2
    exact .own (od.keep e (q.2 h3 od.ns) fun w hw => by
      rw [h1] at hw
      cases hw
      exact q.1)
theorem set_own {i j : Nat} {x : Sl} {d : D} (hx : ∀ d, x ≠ .own d) (h : (l.set i x)[j]? = some (.own d)) : l[j]? = some (.own d) ∧ i ≠ j := by
  by_cases e : i = j
  · subst e
    by_cases hi : i < l.length
    · rw [List.getElem?_set_self hi] at h
      exact absurd (Option.some.inj h) (hx d)
    · rw [List.getElem?_eq_none (by simpa using hi)] at h
      cases h
  · rw [List.getElem?_set_ne e] at h
    exact ⟨h, e⟩
theorem sl_set (r : SlR K G sf H0 Hs H σ l) {i : Nat} {v : V} {d : D} (h : Rep K G Hs v d) : SlR K G sf H0 Hs H (σ.set i (some v)) (l.set i (.val d)) := by
  refine ⟨by rw [List.length_set, List.length_set]; exact r.len, fun j x hx => ?_, fun j k dj dk a h1 h2 h3 h4 => ?_⟩
  · by_cases e : i = j
    · subst e
      by_cases hi : i < l.length
      · rw [List.getElem?_set_self hi] at hx
        cases hx
        rw [List.getElem?_set_self (Nat.lt_of_lt_of_le hi r.len)]
        exact .val h
      · rw [List.getElem?_eq_none (by simpa using hi)] at hx
        cases hx
    · rw [List.getElem?_set_ne e] at hx ⊢
      exact r.get j x hx
  · obtain ⟨h1, e1⟩ := set_own (fun d z => by cases z) h1
    obtain ⟨h2, e2⟩ := set_own (fun d z => by cases z) h2
    rw [List.getElem?_set_ne e1] at h3
    rw [List.getElem?_set_ne e2] at h4
    exact r.inj j k dj dk a h1 h2 h3 h4
theorem Now.set (n : Now K G sf Hb Hs0 H0 Hs H σ l s) {i : Nat} {v : V} {d : D} (h : Rep K G Hs v d) : Now K G sf Hb Hs0 H0 Hs H (σ.set i (some v)) (l.set i (.val d)) s := ⟨n.ok, sl_set n.sl h, n.sb, n.s0, n.kp⟩
/-- a new thing of one's own -/
theorem Now.setOwn (n : Now K G sf Hb Hs0 H0 Hs H σ l s) {i : Nat} {a : Addr} {d : D} (o : OwnAt K G sf H0 Hs H a d) (nw : ∀ (j : Nat) (dj : D) (b : Addr), l[j]? = some (.own dj) → σ[j]? = some (some (.ref b)) → a ≠ b) : Now K G sf Hb Hs0 H0 Hs H (σ.set i (some (.ref a))) (l.set i (.own d)) s := by
  refine ⟨n.ok, ⟨by rw [List.length_set, List.length_set]; exact n.sl.len, fun j x hx => ?_, fun j k dj dk b h1 h2 h3 h4 => ?_⟩, n.sb, n.s0, n.kp⟩
  · by_cases e : i = j
    · subst e
      by_cases hi : i < l.length
      · rw [List.getElem?_set_self hi] at hx
        cases hx
        rw [List.getElem?_set_self (Nat.lt_of_lt_of_le hi n.sl.len)]
        exact .own o
      · rw [List.getElem?_eq_none (by simpa using hi)] at hx
        cases hx
    · rw [List.getElem?_set_ne e] at hx ⊢
      exact n.sl.get j x hx
  · have only : ∀ {j : Nat} {dj : D}, (l.set i (.own d))[j]? = some (.own dj) → (σ.set i (some (.ref a)))[j]? = some (some (.ref b)) → (i = j ∧ a = b) ∨ (i ≠ j ∧ a ≠ b ∧ l[j]? = some (.own dj) ∧ σ[j]? = some (some (.ref b))) := fun {j dj} h1 h3 => by
      by_cases e : i = j
      · subst e
        refine .inl ⟨rfl, ?_⟩
        by_cases hi : i < σ.length
        · rw [List.getElem?_set_self hi] at h3
          cases h3
          rfl
        · rw [List.getElem?_eq_none (by simpa using hi)] at h3
          cases h3
      · rw [List.getElem?_set_ne e] at h1 h3
        obtain ⟨c, hc, oc⟩ := n.own h1
        rw [h3] at hc
        cases hc
        exact .inr ⟨e, nw j dj b h1 h3, h1, h3⟩
    rcases only h1 h3 with ⟨e1, q1⟩ | ⟨e1, q1, x1, y1⟩ <;> rcases only h2 h4 with ⟨e2, q2⟩ | ⟨e2, q2, x2, y2⟩
    · exact e1.symm.trans e2
    · exact absurd q1 q2
    · exact absurd q2 q1
    · exact n.sl.inj j k dj dk b x1 x2 y1 y2
/-- an own thing is changed -/
theorem Now.put (n : Now K G sf Hb Hs0 H0 Hs H σ l s) {i : Nat} {a : Addr} {d d' : D} {o : HO} (hl : l[i]? = some (.own d)) (hσ : σ[i]? = some (some (.ref a))) (ho : OwnAt K G sf H0 Hs (upd H a o) a d') : Now K G sf Hb Hs0 H0 Hs (upd H a o) σ (l.set i (.own d')) s := by
  obtain ⟨b, hb, ob⟩ := n.own hl
  rw [hσ] at hb
  cases hb
  obtain ⟨u, h1, h2, h3⟩ := ob.obj
  refine ⟨n.ok.put h1 ob.ap.1 ob.ap.2.1 ob.ap.2.2 ob.ns h2 h3, ⟨by rw [List.length_set]; exact n.sl.len, fun j x hx => ?_, fun j k dj dk b h1 h2 h3 h4 => ?_⟩, n.sb, n.s0, n.kp.put ob.n0⟩
  · by_cases e : i = j
    · subst e
      by_cases hi : i < l.length
      · rw [List.getElem?_set_self hi] at hx
        cases hx
        rw [hσ]
        exact .own ho
      · rw [List.getElem?_eq_none (by simpa using hi)] at hx
        cases hx
    · rw [List.getElem?_set_ne e] at hx
      have q := n.sl.get j x hx
      cases x with
      | un => exact .un
      | val d =>
        cases hσ : σ[j]? with
        | none =>
          rw [hσ] at q
          cases q
        | some z =>
          rw [hσ] at q
          cases q with
          | val r => exact .val r
      | own dj =>
        obtain ⟨c, hc, oc⟩ := n.own hx
        rw [hc]
        refine .own (oc.keep (Same.refl _) oc.ns fun w hw => ?_)
        rw [upd_ne fun z => e (n.sl.inj i j d dj a hl hx hσ (by rw [hc, z]))]
        exact hw
  · have back : ∀ {j : Nat} {dj : D}, (l.set i (.own d'))[j]? = some (.own dj) → ∃ d2, l[j]? = some (.own d2) := fun {j dj} h => by
      by_cases e : i = j
      · subst e
        exact ⟨d, hl⟩
      · rw [List.getElem?_set_ne e] at h
        exact ⟨dj, h⟩
    obtain ⟨d1, q1⟩ := back h1
    obtain ⟨d2, q2⟩ := back h2
    exact n.sl.inj j k d1 d2 b q1 q2 h3 h4
/-- a test within a statement -/
theorem ev_test {e : Cd} {W : Bool → RS → Prop} {Q : Bool → Hp → Prop} (n : Now K G sf Hb Hs0 H0 Hs H σ l s) (p : Post K G E Hs0 H0 ((evE m e (viewS ms 0 l) s).bind fun x s => liftO (asB x) s) W)
    (q : ∀ b s' Hs2 H', W b s' → Now K G sf Hb Hs0 H0 Hs2 H' σ l s' → Q b H') : tT K G E (evE m e) σ H Q := by
  refine ⟨hsM ms σ l Hs H, viewS ms 0 l, s, n.ok1, n.env1, p.bind.later (n.s0.trans n.sub1) n.kp1 fun d s' w => ?_⟩
  obtain ⟨b, hb, w'⟩ := w.liftO
  refine ⟨b, asB_some hb, fun b' Hs' H' e' o' k' hb' => ?_⟩
  subst hb'
  obtain ⟨Hs2, z1, _, _⟩ := n.unshared e' o' k'
  exact q b' s' Hs2 H' w' z1
/-- arguments within a statement -/
theorem settle_nil {d : D} : settle [] d l = l := by
  unfold settle
  simp
theorem tS_seq {f g : List Sl → RS → SRes} {D0 : Ends} (h : tS K G E (fun l s => (f l s).andThen g) D0 σ H) : tS K G E f { D0 with nx := tS K G E g D0 } σ H := by
  obtain ⟨sf, Hb, Hs0, H0, Hs, l, s, n, p⟩ := h
  refine ⟨sf, Hb, Hs0, H0, Hs, l, s, n, ?_⟩
  have p' : PostS K G E sf Hb Hs0 H0 ((f l s).andThen g) D0 := p
  generalize f l s = r at p' ⊢
  cases r with
  | nx l' s' => exact fun σ Hs H n => ⟨sf, Hb, Hs0, H0, Hs, l', s', n, p'⟩
  | _ => exact p'
/-- behind an expression, by its data -/
theorem Now.after (n : Now K G sf Hb Hs0 H0 Hs H σ l s) {Hs' H' : Hp} (d : D) (e : Sub (hsM ms σ l Hs H) Hs') (o : Ok G Hs' H' s') (k : Kp G (hsM ms σ l Hs H) H Hs' H') :
    ∃ Hs2, Now K G sf Hb Hs0 H0 Hs2 H' σ (settle ms d l) s' ∧ (∀ v, Rep K G Hs' v d → Rep K G Hs2 v d) ∧ ∀ ds vs, d = .tup ds → Reps K G Hs' vs ds → Reps K G Hs2 vs ds := by
  unfold settle
  by_cases hc : (ms.isEmpty || d.lf) = true
  · rw [if_pos hc]
    by_cases hm : ms = []
    · subst hm
      have z := n.shared e o k
      rw [share_nil] at z
      exact ⟨Hs', z, fun _ h => h, fun _ _ _ h => h⟩
    · have hl : d.lf = true := by
        cases ms with
        | nil => exact absurd rfl hm
        | cons _ _ => simpa using hc
      obtain ⟨Hs2, z1, z2, _⟩ := n.unshared e o k
      exact ⟨Hs2, z1, fun v h => rep_lf z2 h hl, fun ds vs hd h => reps_lf z2 h (by subst hd; exact hl)⟩
  · rw [if_neg hc]
    exact ⟨Hs', n.shared e o k, fun _ h => h, fun _ _ _ h => h⟩
theorem ev_args {α : Type} {c : Cd} {k : D → RS → Res α} {W : α → RS → Prop} {Q : List V → Hp → Prop} (hk : ∀ d s, (∀ xs, d ≠ .tup xs) → k d s = .stuck) (n : Now K G sf Hb Hs0 H0 Hs H σ l s) (p : Post K G E Hs0 H0 ((evE m c (viewS ms 0 l) s).bind k) W)
    (q : ∀ ds s' vs Hs2 H', Post K G E Hs0 H0 (k (.tup ds) s') W → Now K G sf Hb Hs0 H0 Hs2 H' σ (settle ms (.tup ds) l) s' → Reps K G Hs2 vs ds → Q vs H') : tA K G E (evE m c) σ H Q := by
  refine ⟨hsM ms σ l Hs H, viewS ms 0 l, s, n.ok1, n.env1, p.bind.later (n.s0.trans n.sub1) n.kp1 fun d s' wd => ?_⟩
  have hd : ∃ ds, d = .tup ds := by
    cases d with
    | tup ds => exact ⟨ds, rfl⟩
    | _ =>
      rw [hk _ _ (fun xs z => by cases z)] at wd
      exact wd.elim
  obtain ⟨ds, rfl⟩ := hd
  refine ⟨ds, rfl, fun vs Hs' H' e' o' k' r' => ?_⟩
  obtain ⟨Hs2, n2, _, h2⟩ := n.after (.tup ds) e' o' k'
  exact q ds s' vs Hs2 H' wd n2 (h2 ds vs rfl r')
end

section
variable {X : Cx} {G : Gh} {E : XK} {m : Mod} {w : Nat} {e c : Cd} {ms : List Nat} {st : Stmt} {sts : List Stmt} {ee ec : Expr} {pos p py : Pos} {x : Str}
theorem sS_nil : PSs X [] (tS X.K G E (evS m w .skip)) := pss_nil.weak fun D0 σ H ⟨sf, Hb, Hs0, H0, Hs, l, s, n, q⟩ => q σ Hs H n
theorem sS_cons {a b : Sd} (h1 : PS X st (tS X.K G E (evS m w a))) (h2 : PSs X sts (tS X.K G E (evS m w b))) : PSs X (st :: sts) (tS X.K G E (evS m w (.seq a b))) := (pss_cons h1 h2).weak fun D0 σ H h => tS_seq h
theorem sS_ret (he : PE X ee (tC' X G E m false e)) : PS X (.Return (some ee) pos) (tS X.K G E (evS m w (.ret e ms))) := (ps_ret he).weak fun D0 σ H ⟨sf, Hb, Hs0, H0, Hs, l, s, n, q⟩ =>
  ev_run n (postR q) fun d s' v Hs2 H' wd n' r => (show PV X.K G false Hs0 H0 d s' D0.rt from wd) v Hs2 H' n'.s0 n'.ok n'.kp r
theorem sS_retN : PS X (.Return none pos) (tS X.K G E (evS m w (.ret (.lit .non) ms))) := ps_retN.weak fun D0 σ H ⟨sf, Hb, Hs0, H0, Hs, l, s, n, q⟩ =>
  (show PV X.K G false Hs0 H0 .non s D0.rt from q) .non Hs H n.s0 n.ok n.kp .non
theorem sS_expr (he : PE X ee (tC' X G E m false e)) (hs : swapsWith ee none pos.line X.env = pure false) : PS X (.Expr ee pos) (tS X.K G E (evS m w (.expr e ms))) := (ps_expr he hs).weak fun D0 σ H ⟨sf, Hb, Hs0, H0, Hs, l, s, n, q⟩ =>
  ev_run n (postR q) fun d s' v Hs2 H' wd n' r => (show ∀ σ Hs H, Now X.K G sf Hb Hs0 H0 Hs H σ (settle ms d l) s' → D0.nx σ H from wd) σ Hs2 H' n'
theorem sS_pass : PS X (.Pass pos) (tS X.K G E (evS m w .skip)) := ps_pass.weak fun D0 σ H ⟨sf, Hb, Hs0, H0, Hs, l, s, n, q⟩ => q σ Hs H n
theorem sS_brk : PS X (.Break pos) (tS X.K G E (evS m w .brk)) := ps_break.weak fun D0 σ H ⟨sf, Hb, Hs0, H0, Hs, l, s, n, q⟩ => q σ Hs H n
theorem sS_cnt : PS X (.Continue pos) (tS X.K G E (evS m w .cnt)) := ps_continue.weak fun D0 σ H ⟨sf, Hb, Hs0, H0, Hs, l, s, n, q⟩ => q σ Hs H n
theorem sS_ite {a b : Sd} {sa sb : List Stmt} (hc : PT X ec (tT X.K G E (evE m c))) (ha : PSs X sa (tS X.K G E (evS m w a))) (hb : PSs X sb (tS X.K G E (evS m w b))) : PS X (.If ec sa sb pos) (tS X.K G E (evS m w (.ite c a b ms))) :=
  (ps_if hc ha hb).weak fun D0 σ H ⟨sf, Hb, Hs0, H0, Hs, l, s, n, q⟩ => ev_test n (postR q) fun b' s' Hs2 H' wd n' => by
    cases b' with
    | true =>
      rw [if_pos rfl] at wd ⊢
      exact ⟨sf, Hb, Hs0, H0, Hs2, l, s', n', wd⟩
    | false =>
      rw [if_neg Bool.false_ne_true] at wd ⊢
      exact ⟨sf, Hb, Hs0, H0, Hs2, l, s', n', wd⟩
/-- name = value, names = values -/
theorem asg_key {pt : Pat} {D0 : Ends} {σ : L2.St} {H : Hp} (h : tS X.K G E (evS m w (.asg pt e ms)) D0 σ H) : tAsg (tC' X G E m false e) (gP X.K pt) D0 σ H := by
  obtain ⟨sf, Hb, Hs0, H0, Hs, l, s, n, q⟩ := h
  refine ev_run n (postR q) fun d s' v Hs2 H' wd n' r => ?_
  cases hp : setP Sl.val pt d (settle ms d l) with
  | none =>
    rw [hp] at wd
    exact (show False from wd).elim
  | some l' =>
    rw [hp] at wd
    exact gP_gen n'.ok.sub (R := fun σ l => Now X.K G sf Hb Hs0 H0 Hs2 H' σ l s') (fun σ l i v d n h => n.set h) pt n' r hp fun σ' n2 _ _ => (show ∀ σ Hs H, Now X.K G sf Hb Hs0 H0 Hs H σ l' s' → D0.nx σ H from wd) σ' Hs2 H' n2
theorem sS_set {i : Nat} (hN : X.N.Nodup) (hi : X.N[i]? = some x) (hx : Loc X.env.scope x) (he : PE X ee (tC' X G E m false e)) (hs : swapsWith ee (some (.Name x py)) pos.line X.env = pure false) (hf : X.fn x = true ∨ X.env.scope.names.lookup x = some .local) :
    PS X (.Assign [.Name x py] ee pos) (tS X.K G E (evS m w (.asg (.v i) e ms))) := (ps_set hN hi hx he hs hf).weak fun D0 σ H h => asg_key h
theorem sS_asg {pt : Pat} {tg : Expr} (he : PE X ee (tC' X G E m false e)) (hg : PG X tg (gP X.K pt)) (hs : swapsWithSole [tg] ee pos.line X.env = pure false) (hw : swappedStores [tg] ee X.env = pure none) (h1 : (assignEach [tg] X.env).map (·.2) = [assign tg X.env]) :
    PS X (.Assign [tg] ee pos) (tS X.K G E (evS m w (.asg pt e ms))) := (ps_asg he hg hs hw h1).weak fun D0 σ H h => asg_key h
/-- a, b = x, y -/
theorem sS_par {i j : Nat} {y : Str} {ea eb : Expr} {a b : Cd} {px pt pt2 : Pos} {kt k2 : Nat} (hc : X.calm = true) (hN : X.N.Nodup) (hi : X.N[i]? = some x) (hj : X.N[j]? = some y) (hij : i ≠ j)
    (hx : X.env.scope.names.lookup x = some .local) (hy : X.env.scope.names.lookup y = some .local) (ha : PA X [ea, eb] (tA X.K G E (evE m (.cons a (.cons b .nil)))))
    (hw : swappedStores [.Tuple [.Name x px, .Name y py] kt pt] (.Tuple [ea, eb] k2 pt2) X.env = pure (some [x, y])) :
    PS X (.Assign [.Tuple [.Name x px, .Name y py] kt pt] (.Tuple [ea, eb] k2 pt2) pos) (tS X.K G E (evS m w (.asg (.tcons (.v i) (.tcons (.v j) .tnil)) (.tup (.cons a (.cons b .nil))) ms))) :=
  (ps_par hc hN hi hj hij hx hy ha hw (by rfl)).weak fun D0 σ H ⟨sf, Hb, Hs0, H0, Hs, l, s, n, q⟩ => by
    have q' : PostS X.K G E sf Hb Hs0 H0 (SRes.ofR ((evE m (.cons a (.cons b .nil)) (viewS ms 0 l) s).bind fun x s => match x with
      | .tup xs => if szOk xs.length then Res.ok (.tup xs) s else .stuck
      | _ => .stuck) fun d s => match setP Sl.val (.tcons (.v i) (.tcons (.v j) .tnil)) d (settle ms d l) with
      | some σ => .nx σ s
      | none => .stuck) D0 := q
    refine ev_args (fun d s n => by cases d <;> first | rfl | exact absurd rfl (n _)) n (postR q') fun ds s' vs Hs2 H' wd n' r => ?_
    have wd2 : Post X.K G E Hs0 H0 (if szOk ds.length then Res.ok (D.tup ds) s' else Res.stuck) _ := wd
    split at wd2
    · cases r with
      | nil => exact (show False from wd2).elim
      | @cons v1 vs1 d1 ds1 r1 r2 => cases r2 with
        | nil => exact (show False from wd2).elim
        | @cons v2 vs2 d2 ds2 r3 r4 => cases r4 with
          | nil =>
            have wd4 : ∀ σ Hs H, Now X.K G sf Hb Hs0 H0 Hs H σ (((settle ms (D.tup [d1, d2]) l).set i (.val d1)).set j (.val d2)) s' → D0.nx σ H := wd2
            exact ⟨v1, v2, rfl, wd4 _ Hs2 H' ((n'.set r1).set r3)⟩
          | cons _ _ => exact (show False from wd2).elim
    · exact wd2.elim
end
end Fw

/-! FwKa: names in a row, some of which take new lists. -/
namespace Fw
open PySem L2 PyProof.Rows
/-- the new ones' addresses -/
def frsh : List Bool → List V → List D → List Addr
  | true :: fs, .ref p :: vs, .lst _ :: ds => p :: frsh fs vs ds
  | _ :: fs, _ :: vs, _ :: ds => frsh fs vs ds
  | _, _, _ => []
section
variable (K : PySem.W.Frag) (G : Gh)
/-- values, some of which are new lists of nobody's (H: where they began) -/
inductive FrS (H Hs' H' : Hp) : List Bool → List V → List D → Prop
  | nil : FrS H Hs' H' [] [] []
  | plain {fs : List Bool} {v : V} {vs : List V} {d : D} {ds : List D} (h : Rep K G Hs' v d) (r : FrS H Hs' H' fs vs ds) : FrS H Hs' H' (false :: fs) (v :: vs) (d :: ds)
  | new {fs : List Bool} {p : Addr} {ws vs : List V} {xs ds : List D} (h1 : Hs' p = none) (h2 : Nw H p) (h3 : H' p = some (.lst ws)) (h4 : Reps K G Hs' ws xs) (ne : p ∉ frsh fs vs ds) (r : FrS H Hs' H' fs vs ds) : FrS H Hs' H' (true :: fs) (.ref p :: vs) (.lst xs :: ds)
  | odd {fs : List Bool} {v : V} {vs : List V} {d : D} {ds : List D} (h : ∀ xs, d ≠ .lst xs) (r : FrS H Hs' H' fs vs ds) : FrS H Hs' H' (true :: fs) (v :: vs) (d :: ds)
variable (E : XK)
def tAF (fs : List Bool) (f : Ev → RS → Res D) : TA := fun σ H Q => ∃ Hs e s, Ok G Hs H s ∧ EnvR K G Hs σ e ∧ Post K G E Hs H (f e s) fun d s' => ∃ ds, d = .tup ds ∧
  ∀ (vs : List V) (Hs' H' : Hp), Sub Hs Hs' → Ok G Hs' H' s' → Kp G Hs H Hs' H' → FrS K G H Hs' H' fs vs ds → Q vs H'
end
section
variable {K : PySem.W.Frag} {G : Gh} {H Hs' H' Hs2 H2 : Hp}
theorem FrS.nws : ∀ {fs : List Bool} {vs : List V} {ds : List D}, FrS K G H Hs' H' fs vs ds → ∀ p ∈ frsh fs vs ds, Nw H p ∧ ∃ ws, H' p = some (.lst ws)
  | _, _, _, .nil, p, hp => by simp [frsh] at hp
  | _, _, _, .plain h r, p, hp => r.nws p (by simpa [frsh] using hp)
  | _, _, _, .new h1 h2 h3 h4 ne r, p, hp => by
    rcases List.mem_cons.mp (show p ∈ _ :: frsh _ _ _ from hp) with rfl | hp
    · exact ⟨h2, _, h3⟩
    · exact r.nws p hp
  | _, _, _, .odd (d := d) (v := v) h r, p, hp => by
    refine r.nws p ?_
    unfold frsh at hp
    split at hp
    · rename_i e1 e2 e3
      cases e3
      exact absurd rfl (h _)
    · rename_i e1 e2 e3
      cases e1
      cases e2
      cases e3
      exact hp
    · simp at hp
theorem FrS.grow (k : ∀ a ws, H' a = some (.lst ws) → H2 a = some (.lst ws)) : ∀ {fs : List Bool} {vs : List V} {ds : List D}, FrS K G H Hs' H' fs vs ds → FrS K G H Hs' H2 fs vs ds
  | _, _, _, .nil => .nil
  | _, _, _, .plain h r => .plain h (r.grow k)
  | _, _, _, .new h1 h2 h3 h4 ne r => .new h1 h2 (k _ _ h3) h4 ne (r.grow k)
  | _, _, _, .odd h r => .odd h (r.grow k)
/-- begun earlier -/
theorem FrS.back {H0 : Hp} (k : ∀ p, Nw H p → Nw H0 p) : ∀ {fs : List Bool} {vs : List V} {ds : List D}, FrS K G H Hs' H' fs vs ds → FrS K G H0 Hs' H' fs vs ds
  | _, _, _, .nil => .nil
  | _, _, _, .plain h r => .plain h (r.back k)
  | _, _, _, .new h1 h2 h3 h4 ne r => .new h1 (k _ h2) h3 h4 ne (r.back k)
  | _, _, _, .odd h r => .odd h (r.back k)
end
section
variable {X : Cx} {G : Gh} {E : XK} {m : Mod} {a : Cd} {ea : Expr} {es : List Expr}
theorem sF_nil : PA X [] (tAF X.K G E [] (evE m .nil)) := pa_nil.weak fun σ H Q ⟨Hs, en, s, ok, r, p⟩ => by
  obtain ⟨ds, hd, q⟩ := p
  cases hd
  exact q [] Hs H (Same.refl _) ok (Kp.refl _ _ _) .nil
theorem sF_cons {f : Bool} {fs : List Bool} {r' : Cd} (ha : PE X ea (tC' X G E m f a)) (hr : PA X es (tAF X.K G E fs (evE m r'))) (hs : notStar ea = true) : PA X (ea :: es) (tAF X.K G E (f :: fs) (evE m (.cons a r'))) :=
  (pa_cons ha hr (starEach_cons hs _ _)).weak fun σ H Q ⟨Hs, en, s, ok, r, p⟩ => by
    have p0 : Post X.K G E Hs H ((evE m a en s).bind fun x s => (evE m r' en s).bind fun y s => match y with | .tup xs => Res.ok (D.tup (x :: xs)) s | _ => .stuck) fun d s' => ∃ ds, d = D.tup ds ∧
      ∀ (vs : List V) (Hs' H' : Hp), Sub Hs Hs' → Ok G Hs' H' s' → Kp G Hs H Hs' H' → FrS X.K G H Hs' H' (f :: fs) vs ds → Q vs H' := p
    -- the rest, begun where the first has ended
    have rest : ∀ (d : D) (s1 : RS) (v : V) (Hs1 H1 : Hp), Post X.K G E Hs H ((evE m r' en s1).bind fun y s => match y with | .tup xs => Res.ok (D.tup (d :: xs)) s | _ => .stuck) (fun d s' => ∃ ds, d = D.tup ds ∧
        ∀ (vs : List V) (Hs' H' : Hp), Sub Hs Hs' → Ok G Hs' H' s' → Kp G Hs H Hs' H' → FrS X.K G H Hs' H' (f :: fs) vs ds → Q vs H') →
        Sub Hs Hs1 → Ok G Hs1 H1 s1 → Kp G Hs H Hs1 H1 → (∀ (vs : List V) (ds : List D) (Hs2 H2 : Hp) (s2 : RS), Sub Hs1 Hs2 → Ok G Hs2 H2 s2 → Kp G Hs1 H1 Hs2 H2 → FrS X.K G H1 Hs2 H2 fs vs ds → FrS X.K G H Hs2 H2 (f :: fs) (v :: vs) (d :: ds)) →
        tAF X.K G E fs (evE m r') σ H1 fun xs H2 => Q (v :: xs) H2 := fun d s1 v Hs1 H1 p1 e1 o1 k1 key => by
      refine ⟨Hs1, en, s1, o1, r.mono e1, (p1.later e1 k1 (fun _ _ z => z)).bind.imp fun dy s2 _ p2 => ?_⟩
      cases dy with
      | tup ys =>
        obtain ⟨ds, hd, q⟩ := p2
        cases hd
        exact ⟨ys, rfl, fun vs Hs2 H2 e2 o2 k2 r2 => q (v :: vs) Hs2 H2 (e1.trans e2) o2 (k1.trans k2) (key vs ys Hs2 H2 s2 e2 o2 k2 r2)⟩
      | _ => exact p2.elim
    refine ⟨Hs, en, s, ok, r, p0.bind.imp fun d s1 _ p1 => ?_⟩
    cases f with
    | false => exact fun v Hs1 H1 e1 o1 k1 r1 => rest d s1 v Hs1 H1 p1 e1 o1 k1 fun vs ds Hs2 H2 s2 e2 o2 k2 r2 => .plain (r1.mono e2) (r2.back fun p n => k1.nw0 o1 n)
    | true =>
      have odd : (∀ xs, d ≠ .lst xs) → PV X.K G false Hs H d s1 fun v H1 => tAF X.K G E fs (evE m r') σ H1 fun xs H2 => Q (v :: xs) H2 := fun nl v Hs1 H1 e1 o1 k1 r1 => rest d s1 v Hs1 H1 p1 e1 o1 k1 fun vs ds Hs2 H2 s2 e2 o2 k2 r2 => .odd nl (r2.back fun p n => k1.nw0 o1 n)
      cases d with
      | lst xs =>
        intro pa ws Hs1 H1 e1 o1 k1 h1 h2 h3 h4
        refine rest _ s1 (.ref pa) Hs1 H1 p1 e1 o1 k1 fun vs ds Hs2 H2 s2 e2 o2 k2 r2 => ?_
        have n1 : pa ≠ G.p0 := h2.ne ok.st.dic fun ps z => by cases z
        have n2 : pa ≠ G.g0 := h2.ne ok.st.great fun ps z => by cases z
        obtain ⟨z1, z2⟩ := k2 pa _ h3 n1 n2 fun ps z => by cases z
        refine .new (z2 (fun _ q => by cases q) h1) h2 z1 (h4.mono e2) (fun hm => ?_) (r2.back fun p n => k1.nw0 o1 n)
        exact (r2.nws pa hm).1.ne h3 (fun ps z => by cases z) rfl
      | _ => exact odd fun xs z => by cases z
end
/-- the slots in a row -/
def setV : L2.St → List Nat → List V → L2.St
  | σ, i :: is, v :: vs => setV (σ.set i (some v)) is vs
  | σ, _, _ => σ
section
variable {K : PySem.W.Frag} {G : Gh} {E : XK} {sf : Addr} {Hb Hs0 H0 Hs H : Hp} {s : RS}
theorem setF_now {Hst : Hp} : ∀ (ts : List (Nat × Bool)) {ds : List D} {l l' : List Sl} {σ : L2.St} {vs : List V}, setF ts ds l = some l' → FrS K G Hst Hs H (ts.map (·.2)) vs ds → Now K G sf Hb Hs0 H0 Hs H σ l s →
    (∀ p ∈ frsh (ts.map (·.2)) vs ds, Nw H0 p ∧ (p ≠ G.p0 ∧ p ≠ G.g0 ∧ p ≠ G.c0) ∧ ∀ (j : Nat) (dj : D) (b : Addr), l[j]? = some (.own dj) → σ[j]? = some (some (.ref b)) → p ≠ b) → Now K G sf Hb Hs0 H0 Hs H (setV σ (ts.map (·.1)) vs) l' s := by
  intro ts
  induction ts with
  | nil =>
    intro ds l l' σ vs h r n _
    cases r
    cases h
    exact n
  | cons t ts ih =>
    obtain ⟨i, f⟩ := t
    intro ds l l' σ vs h r n hf
    cases f with
    | false =>
      have r' : FrS K G Hst Hs H (false :: ts.map (·.2)) vs ds := r
      cases r' with
      | @plain _ v vs d ds hv rr =>
        refine ih (l := l.set i (.val d)) h rr (n.set hv) fun p hp => ?_
        obtain ⟨h1, h2, h3⟩ := hf p hp
        refine ⟨h1, h2, fun j dj b e1 e2 => ?_⟩
        by_cases e : i = j
        · subst e
          by_cases hi : i < l.length
          · rw [List.getElem?_set_self hi] at e1
            cases e1
          · rw [List.getElem?_eq_none (by simpa using hi)] at e1
            cases e1
        · rw [List.getElem?_set_ne e] at e1 e2
          exact h3 j dj b e1 e2
    | true =>
      have r' : FrS K G Hst Hs H (true :: ts.map (·.2)) vs ds := r
      cases r' with
      | @new _ p ws vs xs ds h1 h2 h3 h4 ne rr =>
        obtain ⟨f1, f2, f3⟩ := hf p (List.mem_cons_self)
        refine ih (l := l.set i (.own (.lst xs))) h rr (n.setOwn (.lst f1 f2 h1 h3 h4) f3) fun q hq => ?_
        obtain ⟨g1, g2, g3⟩ := hf q (List.mem_cons_of_mem _ hq)
        refine ⟨g1, g2, fun j dj b e1 e2 => ?_⟩
        by_cases e : i = j
        · subst e
          by_cases hi : i < σ.length
          · rw [List.getElem?_set_self hi] at e2
            cases e2
            exact fun z => ne (by rw [← z]; exact hq)
          · rw [List.getElem?_eq_none (by simpa using hi)] at e2
            cases e2
        · rw [List.getElem?_set_ne e] at e1 e2
          exact g3 j dj b e1 e2
      | @odd _ v vs d ds nl r =>
        exfalso
        cases d with
        | lst xs => exact nl xs rfl
        | _ => cases h
end
end Fw

/-! FwKb: statements of names in a row. -/
namespace Fw
open PySem L2 PyProof.Rows
theorem setF_len : ∀ {ts : List (Nat × Bool)} {ds : List D} {l l' : List Sl}, setF ts ds l = some l' → ds.length = ts.length
  | [], [], _, _, _ => rfl
  | [], _ :: _, _, _, h => by cases h
  | (i, f) :: ts, [], _, _, h => by cases f <;> cases h
  | (i, false) :: ts, d :: ds, l, l', h => congrArg Nat.succ (setF_len (ts := ts) (l := l.set i (.val d)) h)
  | (i, true) :: ts, d :: ds, l, l', h => by
    cases d with
    | lst xs => exact congrArg Nat.succ (setF_len (ts := ts) (l := l.set i (.own (.lst xs))) h)
    | _ => cases h
section
variable {K : PySem.W.Frag} {G : Gh} {E : XK}
theorem FrS.len {H Hs' H' : Hp} : ∀ {fs : List Bool} {vs : List V} {ds : List D}, FrS K G H Hs' H' fs vs ds → vs.length = ds.length
  | _, _, _, .nil => rfl
  | _, _, _, .plain h r => congrArg Nat.succ r.len
  | _, _, _, .new h1 h2 h3 h4 ne r => congrArg Nat.succ r.len
  | _, _, _, .odd h r => congrArg Nat.succ r.len
theorem tAF_mono {fs : List Bool} {f : Ev → RS → Res D} {σ : L2.St} {H : Hp} {Q Q' : List V → Hp → Prop} (k : ∀ vs H', Q vs H' → Q' vs H') : tAF K G E fs f σ H Q → tAF K G E fs f σ H Q' := fun ⟨Hs, e, s, ok, r, p⟩ =>
  ⟨Hs, e, s, ok, r, p.imp fun d s' _ ⟨ds, hd, q⟩ => ⟨ds, hd, fun vs Hs' H' a b c z => k _ _ (q vs Hs' H' a b c z)⟩⟩
variable {m : Mod} {w : Nat} {c : Cd}
theorem row_key {ts : List (Nat × Bool)} {D0 : Ends} {σ : L2.St} {H : Hp} (h : tS K G E (evS m w (.asgP ts c)) D0 σ H) :
    tAF K G E (ts.map (·.2)) (evE m c) σ H fun vs H1 => vs.length = ts.length ∧ D0.nx (setV σ (ts.map (·.1)) vs) H1 ∧ ∀ q, H1 q = none → D0.nx (setV σ (ts.map (·.1)) vs) (upd H1 q (.tup vs)) := by
  obtain ⟨sf, Hb, Hs0, H0, Hs, l, s, n, q⟩ := h
  refine ⟨hsM [] σ l Hs H, viewS [] 0 l, s, n.ok1, n.env1, (postR q).later (n.s0.trans n.sub1) n.kp1 fun d s' wd => ?_⟩
  cases d with
  | tup ds =>
    refine ⟨ds, rfl, fun vs Hs' H' e' o' k' fr => ?_⟩
    have wd' : PostS K G E sf Hb Hs0 H0 (match setF ts ds l with | some σ => SRes.nx σ s' | none => .stuck) D0 := wd
    cases hs : setF ts ds l with
    | none =>
      rw [hs] at wd'
      exact wd'.elim
    | some l' =>
      rw [hs] at wd'
      have go : ∀ σ Hs H, Now K G sf Hb Hs0 H0 Hs H σ l' s' → D0.nx σ H := wd'
      have n1 := n.shared e' o' k'
      rw [share_nil] at n1
      have ff : ∀ p ∈ frsh (ts.map (·.2)) vs ds, Nw H0 p ∧ (p ≠ G.p0 ∧ p ≠ G.g0 ∧ p ≠ G.c0) ∧ ∀ (j : Nat) (dj : D) (b : Addr), l[j]? = some (.own dj) → σ[j]? = some (some (.ref b)) → p ≠ b := fun p hp => by
        obtain ⟨h2, _⟩ := fr.nws p hp
        refine ⟨n.kp.nw0 n.ok h2, ⟨h2.ne n.ok.st.dic fun ps z => by (cases z), h2.ne n.ok.st.great fun ps z => by (cases z), h2.ne n.ok.st.cells fun ps z => by (cases z)⟩, fun j dj b e1 e2 => ?_⟩
        obtain ⟨b', hb, ob⟩ := n.own e1
        rw [e2] at hb
        cases hb
        obtain ⟨u, z1, z2, _⟩ := ob.obj
        exact h2.ne z1 z2
      refine ⟨by rw [fr.len]; exact setF_len hs, go _ _ _ (setF_now ts hs fr n1 ff), fun q0 nq => ?_⟩
      refine go _ Hs' _ (setF_now ts hs (fr.grow fun a ws z => Sub.upd nq a _ z) (n1.step (Same.refl _) (o'.new nq) (Kp.new nq)) ff)
  | _ => exact (show False from wd).elim
/-- a row of names, as a pattern -/
def patIs : Pat → Option (List Nat)
  | .tnil => some []
  | .tcons (.v i) ps => (patIs ps).map (i :: ·)
  | _ => none
theorem gPs_row : ∀ {pt : Pat} {is : List Nat} {vs : List V} {σ : L2.St} {H : Hp} {Q : L2.St → Hp → Prop}, patIs pt = some is → vs.length = is.length → Q (setV σ is vs) H → gPs K pt vs σ H Q
  | .tnil, _, vs, σ, H, Q, h, hl, hq => by
    cases h
    have e := List.eq_nil_of_length_eq_zero hl
    subst e
    exact ⟨rfl, hq⟩
  | .tcons (.v i) ps, _, vs, σ, H, Q, h, hl, hq => by
    obtain ⟨is, h1, rfl⟩ := Option.map_eq_some_iff.mp h
    cases vs with
    | nil => cases hl
    | cons v vs => exact ⟨v, vs, rfl, gPs_row (pt := ps) h1 (Nat.succ.inj hl) hq⟩
  | .tcons .tnil _, _, _, _, _, _, h, _, _ => by cases h
  | .tcons (.tcons _ _) _, _, _, _, _, _, h, _, _ => by cases h
  | .v _, _, _, _, _, _, h, _, _ => by cases h
theorem plen_is : ∀ {pt : Pat} {is : List Nat}, patIs pt = some is → plen pt = is.length
  | .tnil, _, h => by
    cases h
    rfl
  | .tcons (.v i) ps, _, h => by
    obtain ⟨is, h1, rfl⟩ := Option.map_eq_some_iff.mp h
    exact congrArg Nat.succ (plen_is h1)
  | .tcons .tnil _, _, h => by cases h
  | .tcons (.tcons _ _) _, _, h => by cases h
  | .v _, _, h => by cases h
theorem gP_row {pt : Pat} {is : List Nat} {vs : List V} {σ : L2.St} {H : Hp} {Q : L2.St → Hp → Prop} {q : Addr} (h : patIs pt = some is) (hl : vs.length = is.length) (hs : SqT K H q vs) (hq : Q (setV σ is vs) H) : gP K pt (.ref q) σ H Q := by
  cases pt with
  | v i => cases h
  | tnil =>
    cases h
    have e := List.eq_nil_of_length_eq_zero hl
    subst e
    exact ⟨q, [], rfl, hs, rfl, rfl, hq⟩
  | tcons p ps =>
    refine ⟨q, vs, rfl, hs, ?_, gPs_row (pt := .tcons p ps) h hl hq⟩
    rw [hl, ← plen_is h]
    rfl
end
section
variable {X : Cx} {G : Gh} {E : XK} {m : Mod} {w : Nat} {c : Cd} {pos : Pos}
/-- stored in a row, from a tuple -/
theorem sS_rowT {ts : List (Nat × Bool)} {tg : Expr} {es : List Expr} {k2 : Nat} {pt2 : Pos} {pt : Pat} (ha : PA X es (tAF X.K G E (ts.map (·.2)) (evE m c))) (hg : PG X tg (gP X.K pt)) (hp : patIs pt = some (ts.map (·.1))) (hz : ts.length < 1000)
    (hs : swapsWithSole [tg] (.Tuple es k2 pt2) pos.line X.env = pure false) (hw : swappedStores [tg] (.Tuple es k2 pt2) X.env = pure none) (h1 : (assignEach [tg] X.env).map (·.2) = [assign tg X.env]) :
    PS X (.Assign [tg] (.Tuple es k2 pt2) pos) (tS X.K G E (evS m w (.asgP ts c))) :=
  (ps_asg (pe_tup ha) hg hs hw h1).weak fun D0 σ H h => tAF_mono (fun vs H1 ⟨z1, _, z3⟩ => ⟨by
    have := sizeLine_eq
    omega, fun q nq => gP_row hp (by rw [z1, List.length_map]) (SqT.of upd_same) (z3 q nq)⟩) (row_key h)
/-- two names, stored from the right -/
theorem sS_row2 {i j : Nat} {f g : Bool} {x y : Str} {ea eb : Expr} {px py pt pt2 : Pos} {kt k2 : Nat} (hc : X.calm = true) (hN : X.N.Nodup) (hi : X.N[i]? = some x) (hj : X.N[j]? = some y) (hij : i ≠ j)
    (hx : X.env.scope.names.lookup x = some .local) (hy : X.env.scope.names.lookup y = some .local) (ha : PA X [ea, eb] (tAF X.K G E [f, g] (evE m c)))
    (hw : swappedStores [.Tuple [.Name x px, .Name y py] kt pt] (.Tuple [ea, eb] k2 pt2) X.env = pure (some [x, y])) :
    PS X (.Assign [.Tuple [.Name x px, .Name y py] kt pt] (.Tuple [ea, eb] k2 pt2) pos) (tS X.K G E (evS m w (.asgP [(i, f), (j, g)] c))) :=
  (ps_par hc hN hi hj hij hx hy ha hw (by rfl)).weak fun D0 σ H h => tAF_mono (fun vs H1 ⟨z1, z2, _⟩ => by
    match vs, z1, z2 with
    | [v1, v2], _, z2 => exact ⟨v1, v2, rfl, z2⟩) (row_key h)
/-- three names -/
theorem sS_row3 {i j l : Nat} {f g o : Bool} {x y z : Str} {ea eb ec : Expr} {px py pz pt pt2 : Pos} {kt k2 : Nat} (hc : X.calm = true) (hN : X.N.Nodup) (hi : X.N[i]? = some x) (hj : X.N[j]? = some y) (hl : X.N[l]? = some z) (hij : i ≠ j) (hil : i ≠ l) (hjl : j ≠ l)
    (hx : X.env.scope.names.lookup x = some .local) (hy : X.env.scope.names.lookup y = some .local) (hz : X.env.scope.names.lookup z = some .local) (ha : PA X [ea, eb, ec] (tAF X.K G E [f, g, o] (evE m c)))
    (hw : swappedStores [.Tuple [.Name x px, .Name y py, .Name z pz] kt pt] (.Tuple [ea, eb, ec] k2 pt2) X.env = pure (some [x, y, z])) :
    PS X (.Assign [.Tuple [.Name x px, .Name y py, .Name z pz] kt pt] (.Tuple [ea, eb, ec] k2 pt2) pos) (tS X.K G E (evS m w (.asgP [(i, f), (j, g), (l, o)] c))) :=
  (ps_par3 hc hN hi hj hl hij hil hjl hx hy hz ha hw (by rfl)).weak fun D0 σ H h => tAF_mono (fun vs H1 ⟨z1, z2, _⟩ => by
    match vs, z1, z2 with
    | [v1, v2, v3], _, z2 => exact ⟨v1, v2, v3, rfl, z2⟩) (row_key h)
end
end Fw

/-! FwL: own lists, loops, raise, attributes set. -/
namespace Fw
open PySem L2 PyProof.Rows
section
variable {X : Cx} {G : Gh} {E : XK} {m : Mod} {w : Nat} {e c : Cd} {ms : List Nat} {st : Stmt} {sts : List Stmt} {ee ec : Expr} {pos p py : Pos} {x : Str}

theorem cond_own {b : Bool} {l : List Sl} {i : Nat} {d : D} (h : (if b = true then l else shareS ms 0 l)[i]? = some (.own d)) : l[i]? = some (.own d) := by
  split at h
  · exact h
  · exact share_own h
/-- name = a new list -/
theorem asgF_key {i : Nat} {D0 : Ends} {σ : L2.St} {H : Hp} (h : tS X.K G E (evS m w (.asgF i e ms)) D0 σ H) : tAsg (tC' X G E m true e) (gName i) D0 σ H := by
  obtain ⟨sf, Hb, Hs0, H0, Hs, l, s, n, q⟩ := h
  refine ev_fresh n (postR q) fun d s' wd => ?_
  cases d with
  | lst xs =>
    refine ⟨xs, rfl, fun pa Hs2 H' n' o nw => ?_⟩
    refine (show ∀ σ Hs H, Now X.K G sf Hb Hs0 H0 Hs H σ ((if ms.isEmpty || D.lfs xs then l else shareS ms 0 l).set i (.own (.lst xs))) s' → D0.nx σ H from wd) _ Hs2 H' (n'.setOwn o fun j dj b h1 h2 => ?_)
    obtain ⟨b', hb, ob⟩ := n.own (cond_own h1)
    rw [h2] at hb
    cases hb
    obtain ⟨u, z1, z2, _⟩ := ob.obj
    exact nw.ne z1 z2
  | _ => exact (show False from wd).elim
theorem sS_setF {i : Nat} (hN : X.N.Nodup) (hi : X.N[i]? = some x) (hx : Loc X.env.scope x) (he : PE X ee (tC' X G E m true e)) (hs : swapsWith ee (some (.Name x py)) pos.line X.env = pure false) (hf : X.fn x = true ∨ X.env.scope.names.lookup x = some .local) :
    PS X (.Assign [.Name x py] ee pos) (tS X.K G E (evS m w (.asgF i e ms))) := (ps_set hN hi hx he hs hf).weak fun D0 σ H h => asgF_key h
theorem settle_own {d : D} {l : List Sl} {i : Nat} {d' : D} (h : (settle ms d l)[i]? = some (.own d')) : l[i]? = some (.own d') := by
  unfold settle at h
  exact cond_own h
theorem ownL_some {l : List Sl} {i : Nat} (h : ownL l i = true) : ∃ xs, l[i]? = some (.own (.lst xs)) := by
  unfold ownL at h
  split at h
  · exact ⟨_, by assumption⟩
  · cases h
/-- name.append(value) -/
theorem sS_app {i : Nat} {apos cpos : Pos} (hi : X.N[i]? = some x) (hv : Vis X.env.scope x) (hd : (x == ("__debug__" : Str)) = false) (hcd : (x == ("__classdict__" : Str)) = false) (he : PE X ee (tC' X G E m false e)) (hs : notStar ee = true) (hl : (apos.endLine == cpos.line) = true) :
    PS X (.Expr (.Call (.Attribute (.Name x py) "append" apos) [ee] [] cpos) pos) (tS X.K G E (evS m w (.app i e ms))) := by
  have hfew : ((backTo cpos (starEach [ee] X.env)).all (fun x => !x.1) && (backToKw cpos (keywordEach [] X.env)).all (fun x => x.1.isSome) && decide (([ee] : List Expr).length + ([] : List Keyword).length + (if ([] : List Keyword).isEmpty then 0 else 1) < 30)) = true := by
    rw [starEach_cons hs]
    rfl
  refine (ps_expr (pe_bm (X := X) PySem.F.plainAttrs_list PySem.F.slot_list_append PySem.F.type_list_append mt_append (pe_var hi hv hd hcd) (pa_cons he pa_nil (na1 hs _)) (by rfl) hfew hl (na1 hs _) (by rfl)) (by rfl)).weak fun D0 σ H ⟨sf, Hb, Hs0, H0, Hs, l, s, n, q⟩ => ?_
  have q0 : PostS X.K G E sf Hb Hs0 H0 (if ownL l i then SRes.ofR (evE m e (viewS ms 0 l) s) fun d s => match (settle ms d l)[i]? with
    | some (.own (.lst xs)) => if szOk (xs.length + 1) then .nx ((settle ms d l).set i (.own (.lst (xs ++ [d])))) s else .stuck
    | _ => .stuck else .stuck) D0 := q
  split at q0
  · rename_i how
    obtain ⟨xs, hl1⟩ := ownL_some how
    obtain ⟨a, hσ, oa⟩ := n.own hl1
    have hH : ∃ vs, H a = some (.lst vs) := by
      cases oa with
      | lst _ _ _ h _ => exact ⟨_, h⟩
    obtain ⟨vs, hH⟩ := hH
    refine ⟨.ref a, hσ, .inl ⟨rfl, vs, SqL.of hH⟩, ?_⟩
    refine ev_run n (postR q0) fun d s' v Hs2 H' wd n' r => ?_
    cases hset : (settle ms d l)[i]? with
    | none =>
      rw [hset] at wd
      exact wd.elim
    | some y => cases y with
      | own dd => cases dd with
        | lst xs2 =>
          rw [hset] at wd
          have wd1 : PostS X.K G E sf Hb Hs0 H0 (if szOk (xs2.length + 1) then .nx ((settle ms d l).set i (.own (.lst (xs2 ++ [d])))) s' else .stuck) D0 := wd
          split at wd1
          · rename_i hz
            obtain ⟨b, hb, ob⟩ := n'.own hset
            rw [hσ] at hb
            cases hb
            cases ob with
            | @lst vs2 ds2 n0 ap ns h rr =>
              refine ⟨a, vs2, v, rfl, rfl, h, ?_, ?_⟩
              · have := szOk_line hz
                rw [rr.length]
                omega
              · exact wd1 σ Hs2 _ (n'.put hset hσ (.lst n0 ap ns upd_same (rr.append (.cons r .nil))))
          · exact wd1.elim
        | _ =>
          rw [hset] at wd
          exact (show False from wd).elim
      | _ =>
        rw [hset] at wd
        exact (show False from wd).elim
  · exact q0.elim
/-- an int within a statement -/
theorem ev_int {K : PySem.W.Frag} {sf : Addr} {Hb Hs0 H0 Hs H : Hp} {σ : L2.St} {l : List Sl} {s : RS} {e : Cd} {W : Int → RS → Prop} {Q : VK} (n : Now K G sf Hb Hs0 H0 Hs H σ l s) (p : Post K G E Hs0 H0 ((evE m e (viewS ms 0 l) s).bind fun x s => liftO (asI x) s) W)
    (q : ∀ i s' Hs2 H', W i s' → Now K G sf Hb Hs0 H0 Hs2 H' σ l s' → Sub Hs Hs2 → Q (.int i) H') : tE K G E false (evE m e) σ H Q := by
  refine ⟨hsM ms σ l Hs H, viewS ms 0 l, s, n.ok1, n.env1, p.bind.later (n.s0.trans n.sub1) n.kp1 fun d s' wd => ?_⟩
  obtain ⟨i, hi, w'⟩ := wd.liftO
  cases d with
  | int i' =>
    cases hi
    intro v Hs' H' e' o' k' rv
    cases rv
    have n1 : Now K G sf Hs Hs0 H0 Hs H σ l s := ⟨n.ok, n.sl, Same.refl _, n.s0, n.kp⟩
    obtain ⟨Hs2, z1, _, _⟩ := n1.unshared e' o' k'
    exact q i s' Hs2 H' w' (z1.base n.sb) z1.sb
  | _ => cases hi
theorem Reps.eraseIdx {K : PySem.W.Frag} {G : Gh} {H : Hp} {vs : List V} {ds : List D} (r : Reps K G H vs ds) (n : Nat) : Reps K G H (vs.eraseIdx n) (ds.eraseIdx n) := by
  rw [List.eraseIdx_eq_take_drop_succ, List.eraseIdx_eq_take_drop_succ]
  exact (r.take n).append (r.drop (n + 1))
/-- name.append(other.pop(i)) -/
theorem sS_popA {i j : Nat} {y : Str} {apos cpos apos2 cpos2 qy : Pos} (hi : X.N[i]? = some x) (hv : Vis X.env.scope x) (hd : (x == ("__debug__" : Str)) = false) (hcd : (x == ("__classdict__" : Str)) = false)
    (hj : X.N[j]? = some y) (hv2 : Vis X.env.scope y) (hd2 : (y == ("__debug__" : Str)) = false) (hcd2 : (y == ("__classdict__" : Str)) = false)
    (he : PE X ee (tC' X G E m false e)) (hs : notStar ee = true) (hl : (apos.endLine == cpos.line) = true) (hl2 : (apos2.endLine == cpos2.line) = true) :
    PS X (.Expr (.Call (.Attribute (.Name x py) "append" apos) [.Call (.Attribute (.Name y qy) "pop" apos2) [ee] [] cpos2] [] cpos) pos) (tS X.K G E (evS m w (.popA i j e ms))) := by
  have hfew : ∀ cpos : Pos, ∀ ee : Expr, notStar ee = true → ((backTo cpos (starEach [ee] X.env)).all (fun x => !x.1) && (backToKw cpos (keywordEach [] X.env)).all (fun x => x.1.isSome) && decide (([ee] : List Expr).length + ([] : List Keyword).length + (if ([] : List Keyword).isEmpty then 0 else 1) < 30)) = true := fun cpos ee hs => by
    rw [starEach_cons hs]
    rfl
  have hi2 : notStar (.Call (.Attribute (.Name y qy) "pop" apos2) [ee] [] cpos2) = true := rfl
  have p2 : PE X (.Call (.Attribute (.Name y qy) "pop" apos2) [ee] [] cpos2) _ := pe_bm (X := X) PySem.F.plainAttrs_list PySem.F.slot_list_pop PySem.F.type_list_pop mt_popAt (pe_var hj hv2 hd2 hcd2) (pa_cons he pa_nil (na1 hs _)) (by rfl) (hfew cpos2 ee hs) hl2 (na1 hs _) (by rfl)
  refine (ps_expr (pe_bm (X := X) PySem.F.plainAttrs_list PySem.F.slot_list_append PySem.F.type_list_append mt_append (pe_var hi hv hd hcd) (pa_cons p2 pa_nil (na1 hi2 _)) (by rfl) (hfew cpos _ hi2) hl (na1 hi2 _) (by rfl)) (by rfl)).weak fun D0 σ H ⟨sf, Hb, Hs0, H0, Hs, l, s, n, q⟩ => ?_
  have q0 : PostS X.K G E sf Hb Hs0 H0 (if ownL l i && (ownL l j && !(i == j)) then SRes.ofR ((evE m e (viewS ms 0 l) s).bind fun x s => liftO (asI x) s) fun k s => match popX l i j k with
    | some σ => .nx σ s
    | none => .stuck else .stuck) D0 := q
  split at q0
  · rename_i how
    simp only [Bool.and_eq_true, Bool.not_eq_true', beq_eq_false_iff_ne, ne_eq] at how
    obtain ⟨h1, h2, hij⟩ := how
    obtain ⟨xs, hl1⟩ := ownL_some h1
    obtain ⟨ys, hlj⟩ := ownL_some h2
    obtain ⟨a, hσ, oa⟩ := n.own hl1
    obtain ⟨b, hσj, ob⟩ := n.own hlj
    have hH : ∃ vs, H a = some (.lst vs) := by
      cases oa with
      | lst _ _ _ h _ => exact ⟨_, h⟩
    have hHj : ∃ vs, H b = some (.lst vs) := by
      cases ob with
      | lst _ _ _ h _ => exact ⟨_, h⟩
    obtain ⟨vs, hH⟩ := hH
    obtain ⟨ws, hHj⟩ := hHj
    refine ⟨.ref a, hσ, .inl ⟨rfl, vs, SqL.of hH⟩, ?_⟩
    refine ⟨.ref b, hσj, .inl ⟨rfl, ws, SqL.of hHj⟩, ?_⟩
    refine ev_int n (postR q0) fun k s' Hs2 H' wd n' hsub => ?_
    have wd1 : PostS X.K G E sf Hb Hs0 H0 (match popX l i j k with
      | some σ => .nx σ s'
      | none => .stuck) D0 := wd
    unfold popX at wd1
    rw [hl1, hlj] at wd1
    cases hy : ys[k.toNat]? with
    | none =>
      simp only [hy] at wd1
      exact wd1.elim
    | some yd =>
      simp only [hy] at wd1
      split at wd1
      · rename_i σ2 hσ2
        split at hσ2
        · rename_i hc
          simp only [Bool.and_eq_true, decide_eq_true_eq] at hc
          obtain ⟨⟨k0, z1⟩, z2⟩ := hc
          cases hσ2
          obtain ⟨b', hb', ob'⟩ := n'.own hlj
          rw [hσj] at hb'
          cases hb'
          cases ob' with
          | @lst ws2 ds2 n0 ap ns h rr =>
            obtain ⟨v, hv1, hv2⟩ := rr.get hy
            have hlen := szOk_line z2
            have hkl : k.toNat < ys.length := (List.getElem?_eq_some_iff.mp hy).1
            have n2 := n'.put hlj hσj (.lst n0 ap ns upd_same (rr.eraseIdx k.toNat))
            have hl1' : (l.set j (.own (.lst (ys.eraseIdx k.toNat))))[i]? = some (.own (.lst xs)) := by
              rw [List.getElem?_set_ne (fun z => hij z.symm)]
              exact hl1
            have hws := rr.length
            refine ⟨b, ws2, k, k.toNat, v, rfl, rfl, h, by omega, by rw [sizeLine_eq] at hlen; omega, ?_, hv1, ?_⟩
            · unfold seqIndex?
              have e1 : ¬ k < 0 := by omega
              have e2 : k < (ws2.length : Int) := by rw [hws]; omega
              simp [e1, k0, e2]
            · obtain ⟨a', ha', oa'⟩ := n2.own hl1'
              rw [hσ] at ha'
              cases ha'
              cases oa' with
              | @lst vs3 ds3 m0 ap3 ns3 h3 r3 =>
                refine ⟨a, vs3, v, rfl, rfl, h3, ?_, ?_⟩
                · have := szOk_line z1
                  rw [r3.length]
                  omega
                · exact wd1 σ Hs2 _ (n2.put hl1' hσ (.lst m0 ap3 ns3 upd_same (r3.append (.cons hv2 .nil))))
        · cases hσ2
      · exact wd1.elim
  · exact q0.elim
/-- name[k] = value -/
theorem sS_sto {i : Nat} {k : Cd} {ek : Expr} {spos : Pos} (hi : X.N[i]? = some x) (hv : Vis X.env.scope x) (hd : (x == ("__debug__" : Str)) = false) (hcd : (x == ("__classdict__" : Str)) = false) (he : PE X ee (tC' X G E m false e)) (hk : PE X ek (tC' X G E m false k)) (hs : swapsWith ee (some (.Subscript (.Name x py) ek spos)) pos.line X.env = pure false) (hns : notSlice ek = true) :
    PS X (.Assign [.Subscript (.Name x py) ek spos] ee pos) (tS X.K G E (evS m w (.sto i e k ms))) :=
  (ps_asg he (pg_sub (pe_var hi hv hd hcd) hk set_list (fun v => by cases ek <;> first | (cases hns; done) | rfl)) hs (by rfl) (by rfl)).weak fun D0 σ H ⟨sf, Hb, Hs0, H0, Hs, l, s, n, q⟩ => by
    refine ev_run n (postR q) fun d s' v Hs2 H' wd n' r => ?_
    have wd1 : PostS X.K G E sf Hb Hs0 H0 (if ownL (settle ms d l) i then SRes.ofR ((evE m k (viewS ms 0 (settle ms d l)) s').bind fun x s => liftO (asI x) s) fun j s => match (settle ms d l)[i]? with
      | some (.own (.lst xs)) => match L2.ixN xs.length j with
        | some n => .nx ((settle ms d l).set i (.own (.lst (xs.set n d)))) s
        | none => .stuck
      | _ => .stuck else .stuck) D0 := wd
    split at wd1
    · rename_i how
      obtain ⟨xs, hl1⟩ := ownL_some how
      obtain ⟨a, hσ, oa⟩ := n'.own hl1
      refine ⟨.ref a, hσ, ?_⟩
      refine ev_int n' (postR wd1) fun j s2 Hs3 H3 wd2 n3 e3 => ?_
      rw [hl1] at wd2
      have wd3 : PostS X.K G E sf Hb Hs0 H0 (match L2.ixN xs.length j with
        | some n => .nx ((settle ms d l).set i (.own (.lst (xs.set n d)))) s2
        | none => .stuck) D0 := wd2
      cases hx : L2.ixN xs.length j with
      | none =>
        rw [hx] at wd3
        exact wd3.elim
      | some nn =>
        rw [hx] at wd3
        obtain ⟨b, hb, ob⟩ := n3.own hl1
        rw [hσ] at hb
        cases hb
        cases ob with
        | @lst vs2 ds2 n0 ap ns h rr =>
          refine ⟨a, vs2, j, nn, rfl, rfl, h, by rw [rr.length]; exact hx, ?_⟩
          exact (show ∀ σ Hs H, Now X.K G sf Hb Hs0 H0 Hs H σ ((settle ms d l).set i (.own (.lst (xs.set nn d)))) s2 → D0.nx σ H from wd3) σ Hs3 _ (n3.put hl1 hσ (.lst n0 ap ns upd_same (rr.set nn (r.mono e3))))
    · exact wd1.elim

/-! ### loops -/
theorem ev_iter {K : PySem.W.Frag} {sf : Addr} {Hb Hs0 H0 Hs H : Hp} {σ : L2.St} {l : List Sl} {s : RS} {k : ItK} {src : Cd} {D0 : Ends} {R : It → Hp → Prop} {body : D → List Sl → RS → SRes} (n : Now K G sf Hb Hs0 H0 Hs H σ l s)
    (p : PostS K G E sf Hb Hs0 H0 (SRes.ofR (evE m src (viewS ms 0 l) s) fun x s => match (asTup x).bind (itemsD k) with
      | some xs => forL body xs (if isRng k || ms.isEmpty then l else shareS ms 0 l) s
      | none => .stuck) D0)
    (q : ∀ xs l' s' Hs2 H' J, PostS K G E sf Hb Hs0 H0 (forL body xs l' s') D0 → Now K G sf Hb Hs0 H0 Hs2 H' σ l' s' → WalkD K G Hs2 J xs → xs.length ≤ sizeLine → R J H') : tI K G E m k src σ H R := by
  have p1 := postR p
  refine ⟨hsM ms σ l Hs H, viewS ms 0 l, s, n.ok1, n.env1, ?_⟩
  cases hr : evE m src (viewS ms 0 l) s with
  | stuck =>
    rw [hr] at p1
    exact p1.elim
  | err ec fs s' =>
    rw [hr] at p1
    exact PX.later (n.s0.trans n.sub1) n.kp1 p1
  | ok x s' =>
    rw [hr] at p1
    have p2 : PostS K G E sf Hb Hs0 H0 (match (asTup x).bind (itemsD k) with
      | some xs => forL body xs (if isRng k || ms.isEmpty then l else shareS ms 0 l) s'
      | none => .stuck) D0 := p1
    cases hx : (asTup x).bind (itemsD k) with
    | none =>
      rw [hx] at p2
      exact p2.elim
    | some xs =>
      rw [hx] at p2
      show Post K G E _ _ (liftO ((asTup x).bind (itemsD k)) s') _
      rw [hx]
      intro Hs' H' J e' o' k' wj hz
      have p3 : PostS K G E sf Hb Hs0 H0 (forL body xs (if isRng k || ms.isEmpty then l else shareS ms 0 l) s') D0 := p2
      by_cases hc : (isRng k || ms.isEmpty) = true
      · rw [if_pos hc] at p3
        by_cases hm : ms = []
        · subst hm
          have z := n.shared e' o' k'
          rw [share_nil] at z
          exact q xs l s' Hs' H' J p3 z (wj Hs' (.inr rfl)) hz
        · have hk : isRng k = true := by
            cases ms with
            | nil => exact absurd rfl hm
            | cons _ _ => simpa using hc
          obtain ⟨Hs2, z1, z2, _⟩ := n.unshared e' o' k'
          exact q xs l s' Hs2 H' J p3 z1 (wj Hs2 (.inl hk)) hz
      · rw [if_neg hc] at p3
        exact q xs _ s' Hs' H' J p3 (n.shared e' o' k') (wj Hs' (.inr rfl)) hz
theorem addNow {K : PySem.W.Frag} {sf : Addr} {Hw Hb Hs0 H0 Hs H H' : Hp} {σ : L2.St} {l : List Sl} {s : RS} {v : V} {d : D} (n : Now K G sf Hb Hs0 H0 Hs H σ l s) (sw : Sub Hw Hs) (y : YD K G Hw H v H' d) : ∃ Hs', Now K G sf Hb Hs0 H0 Hs' H' σ l s ∧ Rep K G Hs' v d ∧ Sub Hs Hs' := by
  rcases y with ⟨rfl, r⟩ | ⟨T, ws, ds, rfl, h2, rfl, rfl, r⟩
  · exact ⟨Hs, n, r.mono sw, Same.refl _⟩
  · have hf := n.ok.free h2
    exact ⟨upd Hs T (.tup ws), n.step (Sub.upd hf) (n.ok.add h2 fun ps z => by cases z) (Kp.add h2), .tup (.inl (.inl upd_same)) ((r.mono sw).mono (Sub.upd hf)), Sub.upd hf⟩
theorem post_for {K : PySem.W.Frag} {sf : Addr} {Hb Hb' Hs0 H0 : Hp} {D0 : Ends} {body : D → List Sl → RS → SRes} {x : D} {xs : List D} {l : List Sl} {s : RS} {N : L2.St → Hp → Prop} (hb : Sub Hb Hb') (p : PostS K G E sf Hb Hs0 H0 (forL body (x :: xs) l s) D0)
    (hN : ∀ l' s' σ Hs H, PostS K G E sf Hb Hs0 H0 (forL body xs l' s') D0 → Now K G sf Hb' Hs0 H0 Hs H σ l' s' → N σ H) : PostS K G E sf Hb' Hs0 H0 (body x l s) { D0 with nx := N, ct := N, bk := D0.nx } := by
  unfold forL at p
  cases hr : body x l s with
  | nx l' s' =>
    rw [hr] at p
    exact fun σ Hs H n => hN l' s' σ Hs H p n
  | ct l' s' =>
    rw [hr] at p
    exact fun σ Hs H n => hN l' s' σ Hs H p n
  | bk l' s' =>
    rw [hr] at p
    exact fun σ Hs H n => (show ∀ σ Hs H, Now K G sf Hb Hs0 H0 Hs H σ l' s' → D0.nx σ H from p) σ Hs H (n.base hb)
  | rt d s' =>
    rw [hr] at p
    exact p
  | err c fs s' =>
    rw [hr] at p
    exact p
  | stuck =>
    rw [hr] at p
    exact p
/-- for .. in .. -/
theorem sS_for {k : ItK} {src : Cd} {pt : Pat} {body : Sd} {tg iter : Expr} (hp : PassesOwn (model X.prog X.w) X.A X.env X.xe) (hc : X.calm = true) (hi : PI X tg iter (tI X.K G E m k src)) (hg : PG X tg (gP X.K pt)) (hb : PSs X sts (tS X.K G E (evS m w body)))
    (hs : ∀ x, foldedSetIterable iter X.env x = pure x) : PS X (.For tg iter sts [] pos) (tS X.K G E (evS m w (.for_ k src pt body ms))) :=
  (ps_for hp hc hi hg hb hs).weak fun D0 σ H ⟨sf, Hb, Hs0, H0, Hs, l, s, n, q⟩ => by
    generalize hf : (fun (d : D) (σ : List Sl) (s : RS) => match setP Sl.val pt d σ with
      | some σ => evS m w body σ s
      | none => SRes.stuck) = f
    have q' : PostS X.K G E sf Hb Hs0 H0 (SRes.ofR (evE m src (viewS ms 0 l) s) fun x s => match (asTup x).bind (itemsD k) with
      | some xs => forL f xs (if isRng k || ms.isEmpty then l else shareS ms 0 l) s
      | none => .stuck) D0 := by
      rw [← hf]
      exact q
    refine ev_iter n q' fun xs l1 s1 Hs1 H1 J p1 n1 wj hz => ?_
    refine for_it wj (fun i σ Hh => ∃ Hs' l' t, Now X.K G sf Hs1 Hs0 H0 Hs' Hh σ l' t ∧ PostS X.K G E sf Hb Hs0 H0 (forL f (xs.drop i) l' t) D0) ⟨Hs1, l1, s1, ⟨n1.ok, n1.sl, Same.refl _, n1.s0, n1.kp⟩, by rw [List.drop_zero]; exact p1⟩
      (fun i σ Hh _ ⟨Hs', l', t, n', _⟩ => fun a u h => n'.ok.sub a u (n'.sb a u h)) (fun i x σ Hh Hh' hlt ⟨Hs', l', t, n', p'⟩ ⟨d, hd, y⟩ => ?_) fun σ Hh ⟨Hs', l', t, n', p'⟩ => ?_
    · obtain ⟨Hs2, n2, r2, _⟩ := addNow n' n'.sb y
      have hdrop : xs.drop i = d :: xs.drop (i + 1) := by
        rw [List.drop_eq_getElem_cons hlt]
        congr 1
        rw [List.getElem?_eq_getElem hlt] at hd
        exact Option.some.inj hd
      rw [hdrop] at p'
      have p2 := post_for (N := fun σ Hh => ∃ Hs' l' t, Now X.K G sf Hs1 Hs0 H0 Hs' Hh σ l' t ∧ PostS X.K G E sf Hb Hs0 H0 (forL f (xs.drop (i + 1)) l' t) D0) n1.sb p' fun l' s' σ Hs H p n => ⟨Hs, l', s', n, p⟩
      rw [← hf] at p2
      cases hset : setP Sl.val pt d l' with
      | none =>
        simp only [hset] at p2
        exact p2.elim
      | some l2 =>
        simp only [hset] at p2
        refine gP_gen n2.ok.sub (R := fun σ l => Now X.K G sf Hs1 Hs0 H0 Hs2 Hh' σ l t) (fun σ l i v d n h => n.set h) pt n2 r2 hset fun σ' n3 _ _ => ?_
        rw [← hf]
        exact ⟨sf, Hs1, Hs0, H0, Hs2, l2, t, n3, p2⟩
    · rw [List.drop_length] at p'
      exact (show ∀ σ Hs H, Now X.K G sf Hb Hs0 H0 Hs H σ l' t → D0.nx σ H from p') σ Hs' Hh (n'.base n1.sb)
/-- while .. -/
theorem sS_whl {body : Sd} (hp : PassesOwn (model X.prog X.w) X.A X.env X.xe) (hc : PT X ec (tT X.K G E (evE m c))) (hb : PSs X sts (tS X.K G E (evS m w body))) : PS X (.While ec sts [] pos) (tS X.K G E (evS m w (.whl c body ms))) :=
  (ps_while hp hc hb).weak fun D0 σ H ⟨sf, Hb, Hs0, H0, Hs, l, s, n, q⟩ => by
    refine ⟨fun k σ Hh => ∃ Hs' l' t, Now X.K G sf Hb Hs0 H0 Hs' Hh σ l' t ∧ PostS X.K G E sf Hb Hs0 H0 (whlL (fun σ s => (evE m c (viewS ms 0 σ) s).bind fun x s => liftO (asB x) s) (evS m w body) k l' t) D0, ⟨w, Hs, l, s, n, q⟩, fun k σ Hh ⟨Hs', l', t, n', p'⟩ => ?_⟩
    cases k with
    | zero => exact p'.elim
    | succ k =>
      refine ev_test n' (postR p') fun b s2 Hs2 H2 wd n2 => ?_
      cases b with
      | false =>
        rw [if_neg Bool.false_ne_true] at wd ⊢
        exact (show ∀ σ Hs H, Now X.K G sf Hb Hs0 H0 Hs H σ l' s2 → D0.nx σ H from wd) σ Hs2 H2 n2
      | true =>
        rw [if_pos rfl] at wd ⊢
        refine ⟨fun σ Hh => ∃ Hs' l' t, Now X.K G sf Hb Hs0 H0 Hs' Hh σ l' t ∧ PostS X.K G E sf Hb Hs0 H0 (whlL (fun σ s => (evE m c (viewS ms 0 σ) s).bind fun x s => liftO (asB x) s) (evS m w body) k l' t) D0, fun σ' H' h => ⟨k, Nat.lt_succ_self k, h⟩, sf, Hb, Hs0, H0, Hs2, l', s2, n2, ?_⟩
        cases hr : evS m w body l' s2 with
        | nx l3 s3 =>
          rw [hr] at wd
          exact fun σ Hs H n => ⟨Hs, l3, s3, n, wd⟩
        | ct l3 s3 =>
          rw [hr] at wd
          exact fun σ Hs H n => ⟨Hs, l3, s3, n, wd⟩
        | _ =>
          rw [hr] at wd
          exact wd

/-! ### raise, attributes -/
theorem sS_raise {i : Nat} {em : Expr} (hc : X.calm = true) (tk : Takes X fun cls d _ H => E cls d H) (he : PMk X em fun _ H Q => Q (.ref (G.ca i)) none H) : PS X (.Raise (some em) none pos) (tS X.K G E (evS m w (.raise i .nil))) :=
  (ps_raise hc tk he).weak fun D0 σ H ⟨sf, Hb, Hs0, H0, Hs, l, s, n, q⟩ => (show PX X.K G E Hs0 H0 i [] s from q) _ none Hs H n.s0 n.ok n.kp ⟨rfl, .inl ⟨rfl, rfl⟩⟩
theorem putF_new {f : Str} {v : V} : ∀ {fs : List (Str × V)}, f ∉ fs.map (·.1) → putF f v fs = fs ++ [(f, v)]
  | [], _ => rfl
  | (g, x) :: r, h => by
    have h1 : g ≠ f := fun z => h (by simp [z])
    have h2 : f ∉ r.map (·.1) := fun z => h (by simp [List.map_cons, z] <;> exact .inr (by simpa using z))
    unfold putF
    rw [if_neg h1, putF_new h2]
    rfl
/-- self.f = value, in an __init__ -/
structure FldSOk (X : Cx) (G : Gh) (m : Mod) (f : Nat) (y : Str) : Prop where
  cf : ∀ (c : Nat) (k : ClsD) (i : Nat), m.cls c = some k → k.fields[i]? = some f → Cls X.K (G.ca c) ∧ NoAttr X.K (G.ca c) y ∧ (G.cf c)[i]? = some y ∧ (G.cf c).Nodup ∧ (G.cf c).length < 1000
theorem sS_fld {f : Nat} {y : Str} {apos : Pos} (hf : FldSOk X G m f y) (hi : X.N[0]? = some x) (hv : Vis X.env.scope x) (hd : (x == ("__debug__" : Str)) = false) (hcd : (x == ("__classdict__" : Str)) = false) (he : PE X ee (tC' X G E m false e)) (hs : swapsWith ee (some (.Attribute (.Name x py) y apos)) pos.line X.env = pure false) :
    PS X (.Assign [.Attribute (.Name x py) y apos] ee pos) (tS X.K G E (evS m w (.fldS f e))) :=
  (ps_fld (pe_var hi hv hd hcd) he hs).weak fun D0 σ H ⟨sf, Hb, Hs0, H0, Hs, l, s, n, q⟩ => by
    refine ev_run (ms := []) n (postR q) fun d s' v Hs2 H' wd n' r => ?_
    rw [settle_nil] at n'
    cases l with
    | nil => exact (show False from wd).elim
    | cons y0 l0 =>
      cases y0 with
      | own dd => cases dd with
        | ins c fs =>
          have wd1 : PostS X.K G E sf Hb Hs0 H0 (match m.cls c with
            | some k => if k.fields[fs.length]? = some f then .nx ((Sl.own (.ins c fs) :: l0).set 0 (.own (.ins c (fs ++ [d])))) s' else .stuck
            | none => .stuck) D0 := wd
          cases hk : m.cls c with
          | none =>
            rw [hk] at wd1
            exact wd1.elim
          | some k =>
            rw [hk] at wd1
            have wd2 : PostS X.K G E sf Hb Hs0 H0 (if k.fields[fs.length]? = some f then .nx ((Sl.own (.ins c fs) :: l0).set 0 (.own (.ins c (fs ++ [d])))) s' else .stuck) D0 := wd1
            split at wd2
            · rename_i hfi
              obtain ⟨h1, h2, h3, h4, h5⟩ := hf.cf c k fs.length hk hfi
              obtain ⟨a, hσ, oa⟩ := n'.own (i := 0) (d := .ins c fs) rfl
              cases oa with
              | @ins _ dx ffs ds self n0 ap ns h hfs rr =>
                have hlen : ffs.length = fs.length := by
                  have := rr.length
                  rw [List.length_map] at this
                  exact this
                have hnew : y ∉ ffs.map (·.1) := fun hm => by
                  rw [hfs] at hm
                  obtain ⟨j, hj, e⟩ := List.getElem_of_mem hm
                  rw [List.length_take] at hj
                  rw [List.getElem_take] at e
                  have hlt : fs.length < (G.cf c).length := (List.getElem?_eq_some_iff.mp h3).1
                  have e3 : (G.cf c)[fs.length] = y := (List.getElem?_eq_some_iff.mp h3).2
                  have := (List.getElem_inj h4).mp (e.trans e3.symm)
                  omega
                have hfl : ffs.length < 1000 := by
                  have hlt : fs.length < (G.cf c).length := (List.getElem?_eq_some_iff.mp h3).1
                  omega
                refine ⟨.ref a, hσ, a, G.ca c, dx, ffs, rfl, h, h1, h2, hfl, ?_⟩
                rw [putF_new hnew]
                refine (show ∀ σ Hs H, Now X.K G sf Hb Hs0 H0 Hs H σ ((Sl.own (.ins c fs) :: l0).set 0 (.own (.ins c (fs ++ [d])))) s' → D0.nx σ H from wd2) σ Hs2 _ (n'.put (i := 0) (d := .ins c fs) rfl hσ (.ins self n0 ap ns upd_same ?_ ?_))
                · rw [List.map_append, hfs, List.length_append, List.length_singleton, List.take_add_one, h3]
                  rfl
                · rw [List.map_append]
                  exact rr.append (.cons r .nil)
            · exact wd2.elim
        | _ => exact (show False from wd).elim
      | _ => exact (show False from wd).elim
/-- name = [..] on one line -/
theorem tE_up {K : PySem.W.Frag} {f : Ev → RS → Res D} {σ : L2.St} {H : Hp} {Q : VK} (h : tE K G E false f σ H Q) : tE K G E true f σ H Q := by
  obtain ⟨Hs, en, s, ok, r, p⟩ := h
  exact ⟨Hs, en, s, ok, r, p.imp fun d s' _ q => PV.fresh ok q⟩
section
variable {src c e : Cd} {tg elt iter : Expr} {scope : Scope} {k : ItK} {vs : List Nat} {pt : Pat} {ifs : List Expr} {own : List (Str × Nat)} {i : Nat} {lpos spos : Pos}
theorem sS_setLc (fr : Bool) (hc : X.calm = true) (hN : X.N.Nodup) (hy : X.N[i]? = some x) (hyl : X.env.scope.names.lookup x = some .local) (hsw : swapsWith (.ListComp elt [⟨tg, iter, ifs, 0⟩] scope lpos) (some (.Name x py)) spos.line X.env = pure true)
    (hi : PI X tg iter (tI X.K G E m k src)) (ok : BlkOk X.N X.env.scope scope own) (hv : own.map (·.2) = vs) (hp : ∀ i ∈ pslots pt, i ∈ vs)
    (hg : ∀ (s : Shared) (H : Hp) (C : Addr) (cl : List (Str × Addr)) (fp : List Addr), PG (X.blk s H scope (compEnvC scope cl C X.env) fp) tg (gP X.K pt))
    (ht : ∀ (s : Shared) (H : Hp) (C : Addr) (cl : List (Str × Addr)) (fp : List Addr), PTs (X.blk s H scope (compEnvC scope cl C X.env) fp) ifs (tT X.K G EF (evE m c)))
    (he : ∀ (s : Shared) (H : Hp) (C : Addr) (cl : List (Str × Addr)) (fp : List Addr), PE (X.blk s H scope (compEnvC scope cl C X.env) fp) elt (tE X.K G EF false (evE m e))) (hs : ∀ x, foldedSetIterable iter X.env x = pure x) :
    PS X (.Assign [.Name x py] (.ListComp elt [⟨tg, iter, ifs, 0⟩] scope lpos) spos) (tS X.K G E (evS m w (if fr then .asgF i (.comp k src vs pt c e) ms else .asg (.v i) (.comp k src vs pt c e) ms))) := by
  subst hv
  refine (ps_setLc hc hN hy hyl hsw hi ok hg ht he hs).weak fun D0 σ H h => ?_
  cases fr with
  | true => exact comp_key hp (asgF_key h)
  | false => exact comp_key hp (tE_up (asg_key h))
end
end
end Fw

/-! FwM: defs. -/
namespace Fw
open PySem L2 PyProof.Rows
section
variable {P : Program} {w : World} {K : PySem.W.Frag} {mg : Str → Option Value} {base : Heap} {G : Gh} {N ps : List Str} {x qual : Str} {params : Arguments} {body : List Stmt} {scope : Scope} {f : Addr} {fd : FuncData} {k wb : Nat} {m : Mod} {bd : Sd}

theorem post_end {sf : Addr} {Hb Hs H : Hp} {E : XK} {r : SRes} {Q : VK} (h : Post K G E Hs H (endRes r) fun d s' => PV K G false Hs H d s' Q) : PostS K G E sf Hb Hs H r { nx := fun _ H' => Q .non H', rt := Q } := by
  cases r with
  | nx l s => exact fun σ Hs' H' n => (show PV K G false Hs H .non s Q from h) .non Hs' H' n.s0 n.ok n.kp .non
  | rt d s => exact h
  | err c fs s => exact h
  | bk l s => exact h.elim
  | ct l s => exact h.elim
  | stuck => exact h.elim
theorem start_gen {sf : Addr} {H0 Hs H : Hp} {vs : List V} {ss : List Sl} {n : Nat} (e : ss.length = vs.length) (h : ∀ (i : Nat) (x : Sl) (v : V), ss[i]? = some x → vs[i]? = some v → S1 K G sf H0 Hs H (some (some v)) x) (h0 : ∀ (i : Nat) (d : D), ss[i]? = some (.own d) → i = 0) (hn : n = N.length) : SlR K G sf H0 Hs H (L2.start N vs) (startS n ss) := by
  unfold L2.start startS
  refine ⟨by simp [e, hn], fun i y hy => ?_, fun i j di dj a h1 h2 _ _ => ?_⟩
  · by_cases hi : i < ss.length
    · rw [List.getElem?_append_left hi] at hy
      have hv : i < vs.length := by omega
      rw [List.getElem?_append_left (by simpa using hv), List.getElem?_map, List.getElem?_eq_getElem hv]
      exact h i y _ hy (List.getElem?_eq_getElem hv)
    · rw [List.getElem?_append_right (by omega), List.getElem?_replicate] at hy
      split at hy
      · cases hy
        exact .un
      · cases hy
  · have z : ∀ {i : Nat} {d : D}, (ss ++ List.replicate (n - ss.length) Sl.un)[i]? = some (.own d) → i = 0 := fun {i d} q => by
      by_cases hi : i < ss.length
      · rw [List.getElem?_append_left hi] at q
        exact h0 i d q
      · rw [List.getElem?_append_right (by omega), List.getElem?_replicate] at q
        split at q <;> cases q
    rw [z h1, z h2]
theorem start_sl {sf : Addr} {H0 Hs H : Hp} {vs : List V} {ds : List D} {n : Nat} (r : Reps K G Hs vs ds) (hn : n = N.length) : SlR K G sf H0 Hs H (L2.start N vs) (startS n (ds.map Sl.val)) := by
  refine start_gen (by rw [List.length_map, r.length]) (fun i x v h1 h2 => ?_) (fun i d h => ?_) hn
  · rw [List.getElem?_map] at h1
    obtain ⟨d, hd, rv⟩ := r.getV h2
    rw [hd] at h1
    cases h1
    exact .val rv
  · rw [List.getElem?_map] at h
    cases hd : ds[i]? with
    | none =>
      rw [hd] at h
      cases h
    | some d' =>
      rw [hd] at h
      cases h
theorem fn_ok' {oc : Value} {od : Option Addr} {dV kV doc pm cdv ct : Value} {an : Option Addr} {osl : Array (Option Value)} (lk : K.lookup f = some ⟨oc, od, .func fd, osl⟩) (efd : fd = PySem.W.fnOf x qual params body scope dV kV doc pm an cdv ct) (hcd : PySem.W.codeIn K cdv qual = true) (S : FnScope N ps scope) (g : List D → RS → Res D) (hg : ∀ ds s, g ds s = if ds.length = ps.length then endRes (evS m wb bd (startS N.length (ds.map Sl.val)) s) else .stuck)
    (hbody : ∀ (A : Around) (outer : List Env) (s : Shared) (H : Hp) (E : XK), Room k (A.deeper (envOfC qual scope s.heap.objs.size f cdv)) → PSs (cxOf (L2.CX P w) P w K mg base N qual scope f cdv A outer s H E) body (tS K G E (evS m wb bd))) :
    FnOk P w K mg base (L2.CX P w) (k + 1) f fd ps (spD K G g) := by
  have len : ∀ vs H Q E, spD K G g vs H Q E → vs.length = ps.length := fun vs H Q E ⟨Hs, s, ds, ok, r, p⟩ => by
    rw [hg] at p
    split at p
    · rename_i h
      rw [r.length, h]
    · exact p.elim
  subst efd
  refine fn_of lk hcd S len fun A outer s H vs Q E hr hsp => ⟨_, hbody A outer s H E hr, ?_⟩
  have hl := len vs H Q E hsp
  obtain ⟨Hs, t, ds, ok, r, p⟩ := hsp
  rw [hg, if_pos (by rw [← r.length, hl])] at p
  have hpl : ps.length ≤ N.length := by
    have := congrArg List.length S.pre
    rw [List.length_take] at this
    omega
  exact ⟨0, Hs, Hs, H, Hs, startS N.length (ds.map Sl.val), t, ⟨ok, start_sl r rfl, Same.refl _, Same.refl _, Kp.refl _ _ _⟩, post_end p⟩
/-- an __init__ -/
theorem init_ok' {c nf : Nat} {q0 : Str} {oc : Value} {od : Option Addr} {dV kV doc pm cdv ct : Value} {an : Option Addr} {osl : Array (Option Value)} (lk : K.lookup f = some ⟨oc, od, .func fd, osl⟩) (efd : fd = PySem.W.fnOf x qual params body scope dV kV doc pm an cdv ct) (hcd : PySem.W.codeIn K cdv qual = true) (S : FnScope N (q0 :: ps) scope) (hcf : (G.cf c).length = nf) (g : List D → RS → Res D)
    (hg : ∀ ds s, g ds s = if ds.length = ps.length then endMk c nf (evS m wb bd (startS N.length (.own (.ins c []) :: ds.map Sl.val)) s) else .stuck)
    (hbody : ∀ (A : Around) (outer : List Env) (s : Shared) (H : Hp) (E : XK), Room k (A.deeper (envOfC qual scope s.heap.objs.size f cdv)) → PSs (cxOf (L2.CX P w) P w K mg base N qual scope f cdv A outer s H E) body (tS K G E (evS m wb bd))) :
    FnOk P w K mg base (L2.CX P w) (k + 1) f fd (q0 :: ps) (spI K G c g) := by
  have len : ∀ vs H Q E, spI K G c g vs H Q E → vs.length = (q0 :: ps).length := fun vs H Q E ⟨Hs, s, ds, H0, y, dx, ws, e, _, _, _, _, ok, r, p⟩ => by
    rw [hg] at p
    split at p
    · rename_i h
      rw [e, List.length_cons, List.length_cons, r.length, h]
    · exact p.elim
  subst efd
  refine fn_of lk hcd S len fun A outer s H vs Q E hr hsp => ⟨_, hbody A outer s H E hr, ?_⟩
  have hl := len vs H Q E hsp
  obtain ⟨Hs, t, ds, H0, y, dx, ws, rfl, h1, h2, h3, h4, ok, r, p⟩ := hsp
  have hl' : ds.length = ps.length := by
    rw [← r.length]
    simpa using hl
  rw [hg, if_pos hl'] at p
  have hpl : (q0 :: ps).length ≤ N.length := by
    have := congrArg List.length S.pre
    rw [List.length_take] at this
    omega
  have ap : y ≠ G.p0 ∧ y ≠ G.g0 ∧ y ≠ G.c0 := by
    refine ⟨fun z => ?_, fun z => ?_, fun z => ?_⟩ <;> subst z
    · have := ok.st.dic
      rw [h3] at this
      cases this
    · have := ok.st.great
      rw [h3] at this
      cases this
    · have := ok.st.cells
      rw [h3] at this
      cases this
  have S0 : SlR K G y H0 Hs H (L2.start N (.ref y :: ws)) (startS N.length (.own (.ins c []) :: ds.map Sl.val)) := by
    refine start_gen (by simp [r.length]) (fun i z v a b => ?_) (fun i d a => ?_) rfl
    · cases i with
      | zero =>
        cases a
        cases b
        exact .own (.ins (fs := []) rfl (Nw.of h2) ap h4 h3 (by simp) .nil)
      | succ i =>
        have a' : (ds.map Sl.val)[i]? = some z := by simpa using a
        rw [List.getElem?_map] at a'
        obtain ⟨d, hd, rv⟩ := r.getV (i := i) (by simpa using b)
        rw [hd] at a'
        cases a'
        exact .val rv
    · cases i with
      | zero => rfl
      | succ i =>
        have a' : (ds.map Sl.val)[i]? = some (.own d) := by simpa using a
        rw [List.getElem?_map] at a'
        cases hd : ds[i]? with
        | none =>
          rw [hd] at a'
          cases a'
        | some d' =>
          rw [hd] at a'
          cases a'
  refine ⟨y, Hs, Hs, H0, Hs, _, t, ⟨ok, S0, Same.refl _, Same.refl _, fun a u e z1 z2 z3 => ⟨h1 a u e, fun _ => id⟩⟩, ?_⟩
  cases hr : evS m wb bd (startS N.length (.own (.ins c []) :: ds.map Sl.val)) t with
  | nx l s' =>
    rw [hr] at p
    cases l with
    | nil => exact p.elim
    | cons z l => cases z with
      | own dd => cases dd with
        | ins c' fs =>
          have p1 : Post K G E Hs H0 (if c' = c ∧ fs.length = nf then Res.ok (D.ins c fs) s' else Res.stuck) _ := p
          split at p1
          · rename_i hh
            obtain ⟨rfl, hlf⟩ := hh
            obtain ⟨es, he, q⟩ := p1
            cases he
            intro σ Hs' H' n
            obtain ⟨a, ha, oa⟩ := n.own (i := 0) (d := .ins c' fs) rfl
            cases oa with
            | @ins _ dx' ffs ds' self n0 ap' ns hh' hf' rr =>
              subst self
              refine q dx' ffs Hs' H' n.s0 n.ok n.kp ns hh' ?_ rr
              rw [hf', hlf, ← hcf, List.take_length]
          · exact p1.elim
        | _ => exact (show False from p).elim
      | _ => exact (show False from p).elim
  | err c2 fs s' =>
    rw [hr] at p
    exact p
  | rt d s' =>
    rw [hr] at p
    exact (show False from p).elim
  | bk l s' =>
    rw [hr] at p
    exact (show False from p).elim
  | ct l s' =>
    rw [hr] at p
    exact (show False from p).elim
  | stuck =>
    rw [hr] at p
    exact (show False from p).elim
end
end Fw

/-! FwN: an exception caught, and kept. -/
namespace Fw
open PySem PySem.Spec L2 PyProof.Rows
section
variable {X : Cx} {pins : List (Addr × Obj)} {σ : L2.St} {H : Hp} {s : Shared}
/-- an exception's object that lies in the heap is tracked -/
theorem adopt {a : Addr} {oe : Obj} {cls : Value} {d : Option Addr} (I : L2.Inv X pins σ H s) (h0 : X.s_0.heap.get? a = none) (he : s.heap.get? a = some oe) (hz : Zc cls d oe) (hd : ∃ vs, oe.data = .fields vs) (hH : H a = none) (hL : a ≠ X.env.locals) (hpin : ∀ p ∈ X.pn ++ pins, p.1 ≠ a) :
    L2.Inv X pins σ (upd H a (XcO cls d a)) s := by
  have hmore : ∀ b u, H b = some u → upd H a (XcO cls d a) b = some u := fun b u e => by
    rw [upd_ne (ne_of_none e hH)]
    exact e
  refine { ok := I.ok, os := I.os, bare := I.bare, base := ?_, loc := I.loc, cell := I.cell, free := ?_, freeC := ?_, pin := ?_, hok := ?_, len := I.len }
  · refine { keep := I.base.keep, slot := I.base.slot, there := I.base.there, free := ?_, tups := ?_, frzs := ?_, tbls := ?_ }
    · intro b o e n hx
      rw [upd_ne fun z => by rw [z, h0] at e; cases e]
      exact I.base.free b o e n hx
    · exact fun b xs e => hmore b _ (I.base.tups b xs e)
    · exact fun b o u e => hmore b _ (I.base.frzs b o u e)
    · intro b ps e
      obtain ⟨more, q⟩ := I.base.tbls b ps e
      exact ⟨more, hmore b _ q⟩
  · rw [upd_ne hL.symm]
    exact I.free
  · intro y c e
    have hc : c ≠ a := fun z => by
      obtain ⟨v, o, ho, hcell⟩ := I.cell y c e
      obtain ⟨vs, hv⟩ := hd
      rw [z, he] at ho
      cases ho
      rw [hv] at hcell
      cases hcell
    rw [upd_ne hc]
    exact I.freeC y c e
  · intro p hp
    obtain ⟨q1, q2, q3, q4, q5⟩ := I.pin p hp
    refine ⟨q1, ?_, q3, q4, q5⟩
    rw [upd_ne (hpin p hp)]
    exact q2
  · intro b u e
    by_cases hb : b = a
    · subst hb
      rw [upd_same] at e
      cases e
      obtain ⟨vs, hv⟩ := hd
      refine ⟨⟨oe, vs, he, hz.1, hz.2, hv⟩, ⟨oe, he⟩, fun h1 h2 ⟨o, ws, k1, k2, k3, k4⟩ keep => ⟨o, ws, keep o k1, k2, k3, k4⟩⟩
    · rw [upd_ne hb] at e
      exact (I.hok b u e).stay (fun _ _ _ q => q) (fun c q => hmore c _ q) fun c xs q => hmore c _ q
end
/-- what 'except x as n: y = n' wishes of an exception of the body -/
def wKeep (K : PySem.W.Frag) (c : Value) (n i j : Nat) (D0 : Ends) : WX := fun cls d σ H => PySem.W.exmOne K cls c = some true ∧ ∀ a, H a = none → σ.length = n → D0.nx (((σ.set i (some (.ref a))).set j (some (.ref a))).set i none) (upd H a (XcO cls d a))
section
variable {X : Cx} {x n y : Str} {c : Value} {i j : Nat} {body : List Stmt} {np py qn ap pos pos' : Pos} {tb : WX → TS}
theorem ps_keep (hs : X.stack = X.env :: X.outer) (hex : X.ex = []) (hf : X.env.frame = some X.env.locals) (hN : X.N.Nodup) (hi : X.N[i]? = some n) (hln : X.env.scope.names.lookup n = some .local) (hj : X.N[j]? = some y) (hly : X.env.scope.names.lookup y = some .local) (hc : Names X x c)
    (dn : (n == ("__debug__" : Str)) = false) (cn : (n == ("__classdict__" : Str)) = false)
    (hb : ∀ (W : WX) (pn : List (Addr × Obj)) (xe : Value → Shared → Prop), Takes (X.tr pn xe) W → PSs (X.tr pn xe) body (tb W)) :
    PS X (.Try body [.ExceptHandler (some (.Name x np)) (some n) [.Assign [.Name y py] (.Name n qn) ap] pos'] [] [] pos) (fun D0 σ H => tb (wKeep X.K c X.N.length i j D0) D0 σ H) := by
  refine ⟨fun pins s σ H D0 I h => wpAny_Try_except ?_⟩
  have okX := I.ok
  have frX : X.A.frames = some (X.env :: X.outer) := by
    rw [okX.frames, hs]
  have back : ∀ {f : Flow} {t : Shared}, SP (X.tr (X.pn ++ pins) fun e s₁ => wpAny (model X.prog X.w) X.A (noteFrame e X.env) (fun _ s₂ => wpAny (model X.prog X.w) X.A (setFlight e none) (fun _ s₃ =>
      wpAny (model X.prog X.w) X.A (handleBy e X.env [.ExceptHandler (some (.Name x np)) (some n) [.Assign [.Name y py] (.Name n qn) ap] pos']) (SP X pins D0) X.xe s₃) X.xe s₂) X.xe s₁) [] D0 f t →
      (match f with | .next => wpAny (model X.prog X.w) X.A (execs [] X.env) (SP X pins D0) X.xe t | f => SP X pins D0 f t) := by
    intro f t q
    cases f with
    | next => exact let ⟨σ2, H2, J2, w2⟩ := q; wpAny_execs_nil ⟨σ2, H2, J2.ofTry okX, w2⟩
    | brk => exact let ⟨σ2, H2, J2, w2⟩ := q; ⟨σ2, H2, J2.ofTry okX, w2⟩
    | cont => exact let ⟨σ2, H2, J2, w2⟩ := q; ⟨σ2, H2, J2.ofTry okX, w2⟩
    | ret u => exact let ⟨v2, σ2, H2, J2, r2, w2⟩ := q; ⟨v2, σ2, H2, J2.ofTry okX, r2, w2⟩
  refine wpAny_mono ((hb (wKeep X.K c X.N.length i j D0) (X.pn ++ pins) _ ?caught).run [] s σ H D0 (I.toTry _) h) (fun f t q => back q) fun e t q => q
  intro u t air
  obtain ⟨a, B, sI, pins2, σ2, H2, cls, d, rfl, J0, onB, upT, sky, aH, hos, hbare, isC, wish⟩ := air
  have J : L2.Inv X pins σ2 H2 sI := J0.ofTry okX
  have sky2 : Sky B (X.env :: X.outer) a (Zc cls d) X.env.locals t.heap := by
    rw [← hs]
    exact sky
  refine Sky.land Zc.steady frX hf sky2 fun g fl upG => ?_
  -- where the exception is not
  have apart : ∀ {g : Heap}, HandSPX.FlyingZ B (X.env :: X.outer) a (Zc cls d) g → (∃ o vs, g.get? a = some o ∧ Zc cls d o ∧ o.data = .fields vs) ∧ a ∉ frs (X.env :: X.outer) := by
    intro g fl
    obtain ⟨o, vs, ho, hz, hv⟩ := fl.there
    refine ⟨⟨o, vs, ho, hz, hv⟩, fun hm => ?_⟩
    obtain ⟨_, o2, ho2, nf⟩ := fl.2.2.1.mem hm
    rw [ho] at ho2
    cases ho2
    exact nf _ hv
  obtain ⟨⟨o1, vs1, ho1, hz1, hv1⟩, nfr⟩ := apart fl
  have hL : a ≠ X.env.locals := by
    rintro rfl
    exact nfr (List.mem_filterMap.mpr ⟨X.env, List.mem_cons_self, hf⟩)
  have hF : a ∉ X.fs := by
    intro hm
    obtain ⟨v, hv, q⟩ := List.mem_filterMap.mp hm
    exact nfr (List.mem_filterMap.mpr ⟨v, List.mem_cons_of_mem _ hv, q⟩)
  have nI : sI.heap.get? a = none := by
    cases e : sI.heap.get? a with
    | none => rfl
    | some o =>
      have := onB a o e (by rw [hs]; exact nfr)
      rw [fl.2.1] at this
      cases this
  have n0 : X.s_0.heap.get? a = none := by
    cases e : X.s_0.heap.get? a with
    | none => rfl
    | some o =>
      obtain ⟨o', q⟩ := J.base.there a o e (by rw [hex]; exact fun z => nomatch z)
      rw [nI] at q
      cases q
  have J1 : L2.Inv X pins σ2 H2 { t with heap := g } := J.landed onB fl.1 (upT.trans upG) hos hbare
  have S1 := J1.suite ho1 hv1 aH hL hF
  refine wpAny_handleBy_cons (codeAny_handlers_test ?_) (by intro q; cases q)
  have LT : PySem.W.Looks (model X.prog X.w) g (typeOf (.ref a)) cls := fun A Q E s k q => wpAny_typeOf_ref (k _ _ ho1) (by rw [hz1.1]; exact q)
  have LM := PySem.W.exm_one (M := model X.prog X.w) J1.kIn LT isC
  have test : ∀ {Q E : Value → Shared → Prop}, Q c { t with heap := g } → wpAny (model X.prog X.w) (X.A.mark (some (.ref a))) (eval (.Name x np) X.env) Q E { t with heap := g } := by
    intro Q E q
    rcases hc with ⟨h1, h2, h3 | ⟨h3, h4, h5⟩⟩
    · exact ld_glob (X := X.suite a ((a, o1) :: (X.pn ++ pins))) S1 h1 h3 q h2
    · exact ld_blt (X := X.suite a ((a, o1) :: (X.pn ++ pins))) S1 h1 h3 h4 q h5 h2
  refine test (LM.here (codeAny_handlers_suite_as (HandSPX.lands_againZ fl fun g2 fl2 up2 => ?_)))
  obtain ⟨⟨o2, vs2, ho2, hz2, hv2⟩, _⟩ := apart fl2
  have J2 : L2.Inv X pins σ2 H2 { t with heap := g2 } := J.landed onB fl2.1 ((upT.trans upG).trans up2) hos hbare
  have S2 := J2.suite ho2 hv2 aH hL hF
  refine store_ok (X := X.suite a ((a, o2) :: (X.pn ++ pins))) (v := .ref a) S2 hN hi (.inl hln) rfl (fun t3 S3 => ?_) (.inr hln)
  have run : PSs (X.suite a ((a, o2) :: (X.pn ++ pins))) [.Assign [.Name y py] (.Name n qn) ap] (tAsg (tVar i) (gName j)) := pss_one (ps_set hN hj (.inl hly) (pe_var hi (.inl hln) dn cn) (by rfl) (.inr hly))
  have il : i < σ2.length := by
    rw [J.len]
    exact (List.getElem?_eq_some_iff.mp hi).1
  refine wpAny_mono (run.run [] t3 _ H2 { nx := fun σ3 H3 => σ3 = (σ2.set i (some (.ref a))).set j (some (.ref a)) ∧ H3 = H2, rt := fun _ _ => False } S3 ⟨.ref a, List.getElem?_set_self il, rfl, rfl⟩) (fun f t4 q => ?_) fun _ _ z => False.elim z
  cases f with
  | next =>
    obtain ⟨σ4, H4, S4, rfl, rfl⟩ := q
    have pin4 := S4.pin (a, o2) (List.mem_append_left _ List.mem_cons_self)
    have J4 : L2.Inv X (pins ++ [(a, o2)]) ((σ2.set i (some (.ref a))).set j (some (.ref a))) H4 t4 := (S4.unsuite okX).pins_of fun p hp => by
      rcases List.mem_append.mp hp with z | z
      · exact (S4.unsuite okX).pin p (List.mem_append_right _ z)
      · rw [List.mem_singleton.mp z]
        exact pin4
    refine gone_ok J4 hN hi hln fun t5 J5 => ?_
    have pin5 := J5.pin (a, o2) (List.mem_append_right _ (List.mem_append_right _ (List.mem_singleton.mpr rfl)))
    have away : ∀ p ∈ X.pn ++ pins, p.1 ≠ a := fun p hp z => by
      have q := (J.pin p hp).1
      rw [z, nI] at q
      cases q
    exact ⟨_, _, adopt J5.unpinned n0 pin5.1 hz2 ⟨_, hv2⟩ aH hL away, wish a aH J.len⟩
  | brk => exact let ⟨_, _, _, z⟩ := q; z.elim
  | cont => exact let ⟨_, _, _, z⟩ := q; z.elim
  | ret u => exact let ⟨_, _, _, _, _, z⟩ := q; z.elim
end
/-! ### the law's _law_caught -/
/-- what it makes of the lambda's reading -/
def TTc (K : PySem.W.Frag) (CS : Addr) : (XK → Hp → VK → Prop) → Hp → VK → Prop := fun tl H Q => ∀ Q' : VK, (∀ v H', Q .non H' → Q' v H') →
  tl (fun cls d H' => PySem.W.exmOne K cls (.ref CS) = some true ∧ ∀ a, H' a = none → Q (.ref a) (upd H' a (XcO cls d a))) H Q'
section
variable {X : Cx} {p1 p2 p3 p4 p5 p6 p7 p8 p9 p10 p11 p12 p13 p14 : Pos} {k0 : Nat} {e q : Str} {sg : Scope} {g CS : Addr} {cdg : Value}
theorem caught_gives (h1 : sg.names.lookup ("caught" : Str) = some .local) (h2 : sg.names.lookup ("error" : Str) = some .local) (hw : sg.names.lookup ("work" : Str) = some .local) (hge : sg.names.lookup e = some .globalImplicit) (hme : X.mg e = some (.ref CS)) (hde : (e == ("__debug__" : Str)) = false) :
    LamX.GivesTo X ["work", "caught", "error"] "_law_caught" sg g cdg [.Assign [.Name "caught" p1] (.Constant .none k0 p2) p3,
      .Try [.Expr (.Call (.Name "work" p4) [] [] p5) p6] [.ExceptHandler (some (.Name e p7)) (some "error") [.Assign [.Name "caught" p8] (.Name "error" p9) p10] p11] [] [] p12, .Return (some (.Name "caught" p13)) p14] "work" q (TTc X.K CS) := by
  intro f c' s H Q tl act hc h
  have hgl : Gl (cxOf C8.CX0 X.prog X.w X.K X.mg X.base ["work", "caught", "error"] "_law_caught" sg g cdg X.A X.stack s H C8.E0).nox e := hge
  have nd : (["work", "caught", "error"] : List Str).Nodup := by decide
  have t1 : PS (cxOf C8.CX0 X.prog X.w X.K X.mg X.base ["work", "caught", "error"] "_law_caught" sg g cdg X.A X.stack s H C8.E0).nox (.Assign [.Name "caught" p1] (.Constant .none k0 p2) p3) (tAsg (tC .non) (gName 1)) := ps_set nd rfl (.inl h1) pe_non (by rfl) (.inl rfl)
  have t3 : PS (cxOf C8.CX0 X.prog X.w X.K X.mg X.base ["work", "caught", "error"] "_law_caught" sg g cdg X.A X.stack s H C8.E0).nox (.Return (some (.Name "caught" p13)) p14) (tRet (tVar 1)) := ps_ret (pe_var rfl (.inl h1))
  have t2 := ps_keep (X := (cxOf C8.CX0 X.prog X.w X.K X.mg X.base ["work", "caught", "error"] "_law_caught" sg g cdg X.A X.stack s H C8.E0).nox) (c := .ref CS) (i := 2) (j := 1) (np := p7) (py := p8) (qn := p9) (ap := p10) (pos' := p11) (pos := p12) (body := [.Expr (.Call (.Name "work" p4) [] [] p5) p6])
    (tb := fun W D σ H => ∃ Ech : XK, (∀ cls d σ' H', Ech cls d H' → W cls d σ' H') ∧ σ[0]? = some (some (.ref f)) ∧ H c' = some (LamX.CodeO c' q) ∧ tl Ech H fun _ H1 => D.nx σ H1) rfl rfl rfl nd rfl h2 rfl h1 ⟨hgl, hde, .inl hme⟩ (by decide) (by decide)
    (fun W pn xe tk => ⟨fun pins s' σ H' D0 I ⟨Ech, hW, a1, a2, a3⟩ => (pss_one (ps_expr (act W pn xe Ech p4 p5 tk hW) (by rfl))).run pins s' σ H' D0 I ⟨a1, a2, a3⟩⟩)
  refine ⟨_, pss_cons t1 (pss_cons t2 (pss_one t3)), ?_⟩
  refine ⟨fun cls d H' => PySem.W.exmOne X.K cls (.ref CS) = some true ∧ ∀ a, H' a = none → Q (.ref a) (upd H' a (XcO cls d a)), fun cls d σ' H' ⟨z1, z2⟩ => ⟨z1, fun a na hl => ⟨.ref a, ?_, z2 a na⟩⟩, rfl, hc, h _ fun v H' z => ⟨.non, rfl, z⟩⟩
  have hl' : σ'.length = 3 := hl
  match σ', hl' with
  | [_, _, _], _ => rfl
/-- the classes below the one that is caught -/
def ExmOk (K : PySem.W.Frag) (G : Gh) (m : Mod) (CS : Addr) : Prop := ∀ c, subC m.cls 8 c m.base = true → PySem.W.exmOne K (.ref (G.ca c)) (.ref CS) = some true
variable {G : Gh} {E : XK} {m : Mod} {cb : Cd}
/-- _law_caught(lambda: body) -/
theorem sE_caught {T : List (Addr × Str)} {c P : Addr} {k : Nat} {pg : Arguments} {dV kV doc pm cdv ct oc : Value} {an od : Option Addr} {osl : Array (Option Value)} {params : Arguments} {body : Expr} {scope : Scope} {p lpos pos : Pos} (hT : G.T = T)
    (hg : Gl X "_law_caught") (hm : X.mg "_law_caught" = some (.ref g)) (hk : PySem.W.keepIn X.K (.ref g) = true)
    (lk : X.K.lookup g = some ⟨oc, od, .func (PySem.W.fnOf "_law_caught" "_law_caught" pg [.Assign [.Name "caught" p1] (.Constant .none k0 p2) p3,
      .Try [.Expr (.Call (.Name "work" p4) [] [] p5) p6] [.ExceptHandler (some (.Name e p7)) (some "error") [.Assign [.Name "caught" p8] (.Name "error" p9) p10] p11] [] [] p12, .Return (some (.Name "caught" p13)) p14] sg dV kV doc pm an cdv ct), osl⟩)
    (hcg : PySem.W.codeIn X.K cdv "_law_caught" = true) (hb : L2.Binds X.K (PySem.W.fnOf "_law_caught" "_law_caught" pg [.Assign [.Name "caught" p1] (.Constant .none k0 p2) p3,
      .Try [.Expr (.Call (.Name "work" p4) [] [] p5) p6] [.ExceptHandler (some (.Name e p7)) (some "error") [.Assign [.Name "caught" p8] (.Name "error" p9) p10] p11] [] [] p12, .Return (some (.Name "caught" p13)) p14] sg dV kV doc pm an cdv ct) ["work"] [])
    (Sg : FnScope ["work", "caught", "error"] ["work"] sg) (h1 : sg.names.lookup ("caught" : Str) = some .local) (h2 : sg.names.lookup ("error" : Str) = some .local) (hw : sg.names.lookup ("work" : Str) = some .local) (hge : sg.names.lookup e = some .globalImplicit) (hme : X.mg e = some (.ref CS)) (hde : (e == ("__debug__" : Str)) = false)
    (TB : LamX.TabB X.base X.mg c P) (hcode : X.env.code = .ref c) (hmT : (P, X.env.qual ++ "<lambda>") ∈ T) (hu : ∀ p ∈ T, p.1 = P → p.2 = X.env.qual ++ "<lambda>") (hr : Room (k + 2) X.A) (L : LamX.LamS X.env.scope scope) (hdef : defaultsOf params X.env = ([], []))
    (hbind : ∀ (q : Str) (cl : List (Str × Addr)) (pm cv ctv : Value), bindArgs (PySem.W.kla_fn "<lambda>" q params body scope cl pm cv ctv) ⟨[], []⟩ = pure []) (hx : ExmOk X.K G m CS)
    (hbody : ∀ (A : Around) (outer : List Env) (s : Shared) (H : Hp) (E : XK) (f c' : Addr), Room k (A.deeper (LamX.lamEnv X scope s.heap.objs.size f c')) → PE (LamX.lamCx X A outer s H E scope f c') body (tE X.K G E false (evE m cb))) :
    PE X (.Call (.Name "_law_caught" p) [.Lambda params body scope lpos] [] pos) (tC' X G E m false (.caught cb)) := by
  refine (LamX.pe_lamcall (t := fun E => tE X.K G E false (evE m cb)) hg hm hk lk hcg hb Sg rfl (.inl hw) (caught_gives h1 h2 hw hge hme hde) TB hcode hmT hu hr L hdef hbind hbody).weak fun σ H Q ⟨Hs, en, s, ok, r, p⟩ => ?_
  subst hT
  refine ⟨ok.tb, fun H1 eN T1 Q' hQ => ?_⟩
  have keep : ∀ a u, H a = some u → (∀ ps, u ≠ .tbl ps) → H1 a = some u := eN
  have ok1 : Ok G Hs H1 s := ⟨fun a u z => keep a u (ok.sub a u z) fun ps y => ok.nt a ps (by rw [z, y]), ⟨keep _ _ ok.st.dic fun ps z => by (cases z), keep _ _ ok.st.great fun ps z => by (cases z), keep _ _ ok.st.cells fun ps z => by (cases z), ok.st.ne⟩, ok.np, ok.ng, ok.cs, T1, ok.nt⟩
  have kp1 : Kp G Hs H Hs H1 := fun a u z _ _ n => ⟨keep a u z n, fun _ => id⟩
  refine ⟨Hs, en, s, ok1, r, ?_⟩
  have p' : Post X.K G E Hs H (match evE m cb en s with
    | .ok _ s => Res.ok .non s
    | .err c fs s => if subC m.cls 8 c m.base then .ok (.exc c fs) s else .stuck
    | .stuck => .stuck) fun d s' => PV X.K G false Hs H d s' Q := p
  cases hr : evE m cb en s with
  | stuck =>
    rw [hr] at p'
    exact p'.elim
  | ok d s' =>
    rw [hr] at p'
    intro v Hs' H' e' o' k' rv
    exact hQ v H' ((show PV X.K G false Hs H .non s' Q from p') .non Hs' H' e' o' (kp1.trans k') .non)
  | err c2 fs s' =>
    rw [hr] at p'
    have p2 : Post X.K G E Hs H (if subC m.cls 8 c2 m.base then Res.ok (D.exc c2 fs) s' else Res.stuck) fun d s' => PV X.K G false Hs H d s' Q := p'
    split at p2
    · rename_i hsub
      intro cls dd Hs' H' e' o' k' rx
      obtain ⟨rfl, rx⟩ := rx
      refine ⟨hx c2 hsub, fun a na => ?_⟩
      have hf := o'.free na
      refine (show PV X.K G false Hs H (.exc c2 fs) s' Q from p2) (.ref a) (upd Hs' a _) (upd H' a _) (e'.trans (Sub.upd hf)) (o'.add na fun ps z => by cases z) (kp1.trans (k'.trans (Kp.add na))) ?_
      rcases rx with ⟨rfl, rfl⟩ | ⟨d, gs, rfl, hd, hfs, rr, ne⟩
      · exact .exc upd_same
      · exact .excF upd_same (Sub.upd hf _ _ hd) hfs (rr.mono (Sub.upd hf)) ne
    · exact p2.elim
end
end Fw

/-! FwNa: lambdas that are kept for later. -/
namespace Fw
open PySem PySem.Spec L2 PyProof.Rows
/-- a lambda's function, known -/
def lamO (q : Str) (pa : Arguments) (bd : Expr) (sc : Scope) (cl : List (Str × Addr)) (pm : Value) (c : Addr) (ct : Value) : HO := .frz (PySem.W.kla_obj "<lambda>" q pa bd sc cl pm c ct) (.own 0)
section
variable {X : Cx} {pins : List (Addr × Obj)} {σ : L2.St} {H : Hp} {s : Shared}
/-- an object that lies in the heap since this def was entered is tracked -/
theorem track {a : Addr} {o : Obj} (I : L2.Inv X pins σ H s) (n0 : X.s_0.heap.get? a = none) (he : s.heap.get? a = some o) (hc : ∀ v, o.data ≠ .cell v) (hH : H a = none) (hL : a ≠ X.env.locals) (hpin : ∀ p ∈ X.pn ++ pins, p.1 ≠ a) :
    L2.Inv X pins σ (upd H a (.frz o (.own 0))) s := by
  have more : ∀ b u, H b = some u → upd H a (.frz o (.own 0)) b = some u := fun b u e => by
    rw [upd_ne (ne_of_none e hH)]
    exact e
  refine { ok := I.ok, os := I.os, bare := I.bare, base := ?_, loc := I.loc, cell := I.cell, free := ?_, freeC := ?_, pin := ?_, hok := ?_, len := I.len }
  · refine { keep := I.base.keep, slot := I.base.slot, there := I.base.there, free := fun b ob e n hx => ?_, tups := fun b xs e => more b _ (I.base.tups b xs e), frzs := fun b ob u e => more b _ (I.base.frzs b ob u e), tbls := fun b ps e => ?_ }
    · rw [upd_ne fun z => by rw [z, n0] at e; cases e]
      exact I.base.free b ob e n hx
    · obtain ⟨ms, q⟩ := I.base.tbls b ps e
      exact ⟨ms, more b _ q⟩
  · rw [upd_ne hL.symm]
    exact I.free
  · intro y c e
    have ne : c ≠ a := fun z => by
      obtain ⟨v, oc, h1, h2⟩ := I.cell y c e
      rw [z, he] at h1
      cases h1
      exact hc _ h2
    rw [upd_ne ne]
    exact I.freeC y c e
  · intro p hp
    obtain ⟨q1, q2, q3⟩ := I.pin p hp
    exact ⟨q1, by rw [upd_ne (hpin p hp)]; exact q2, q3⟩
  · intro b u e
    by_cases hb : b = a
    · subst hb
      rw [upd_same] at e
      cases e
      exact ⟨he, o, he⟩
    · rw [upd_ne hb] at e
      exact (I.hok b u e).stay (fun _ _ _ q => q) (fun c q => more c _ q) fun c xs q => more c _ q
/-- the lambda is made, and known from here on -/
theorem lam_tr {T : List (Addr × Str)} {c P : Addr} {pa : Arguments} {bd : Expr} {sc : Scope} {pos : Pos} {E : Value → Shared → Prop} {Q : Value → Shared → Prop} (I : L2.Inv X pins σ H s) (TB : LamX.TabB X.base X.mg c P) (hcode : X.env.code = .ref c) (hm : (P, X.env.qual ++ "<lambda>") ∈ T)
    (hu : ∀ p ∈ T, p.1 = P → p.2 = X.env.qual ++ "<lambda>") (hT : LamX.Tabs T H) (hdef : defaultsOf pa X.env = ([], [])) (L : LamX.LamS X.env.scope sc)
    (h : ∀ (f c' : Addr) (pm ct : Value) (H1 : Hp) (s' : Shared), L2.Inv X pins σ H1 s' → LamX.ExtN H H1 → LamX.Tabs T H1 → H f = none → H1 f = some (lamO (X.env.qual ++ "<lambda>") pa bd sc (cloFrom X.env.cells sc.names []) pm c' ct) →
      H1 c' = some (LamX.CodeO c' (X.env.qual ++ "<lambda>")) → Q (.ref f) s') : wpAny (model X.prog X.w) X.A (eval (.Lambda pa bd sc pos) X.env) Q E s := by
  have hfree := L.has I.ok
  obtain ⟨ps, tP, tr, am⟩ := hT _ hm
  have bP := TB.bm.keeps I.bk
  have gP : s.heap.get? P = some { cls := .none, data := .fields ps } := I.hok P _ tP
  -- what is new is not yet known
  have s0 : ∀ a, s.heap.objs.size ≤ a → X.s_0.heap.get? a = none := fun a ha => by
    cases e : X.s_0.heap.get? a with
    | none => rfl
    | some o => exact absurd (Nat.lt_of_lt_of_le (Heap.lt_size e) (Nat.le_trans I.sz ha)) (Nat.lt_irrefl _)
  have pn : ∀ a, s.heap.objs.size ≤ a → ∀ p ∈ X.pn ++ pins, p.1 ≠ a := fun a ha p hp z => by
    have := Heap.lt_size (I.pin p hp).1
    rw [z] at this
    exact Nat.lt_irrefl _ (Nat.lt_of_lt_of_le this ha)
  have lo : ∀ a, s.heap.objs.size ≤ a → a ≠ X.env.locals := fun a ha z => by
    have := I.lt
    rw [← z] at this
    exact Nat.lt_irrefl _ (Nat.lt_of_lt_of_le this ha)
  refine PySem.W.kla_eval hdef ?_
  cases hc : codeAmong pos ps.toList with
  | some cv =>
    obtain ⟨c', rfl, hco⟩ := am pos cv hc
    refine PySem.W.kla_makeFunctionHit (mg := X.mg) (c := c) (P := P) (ps := ps) (closure_ok hfree) I.ok.glob (I.mod.glob.keeps I.bk) hcode (TB.code.keeps I.bk) gP tr hc bP fun ct h' tk ext hsz => ?_
    have I1 : L2.Inv X pins σ H { s with heap := h'.push (PySem.W.kla_obj "<lambda>" (X.env.qual ++ "<lambda>") pa bd sc (cloFrom X.env.cells sc.names []) ((X.mg "__name__").getD .none) c' ct), toks := tk } :=
      I.kept fun b o e => Heap.get?_push_of_some _ (ext b o e)
    have nf : H h'.objs.size = none := I.hok.fresh hsz
    have J := track (a := h'.objs.size) I1 (s0 _ hsz) (Heap.get?_push_size _ rfl) (fun v z => by cases z) nf (lo _ hsz) (pn _ hsz)
    have ext2 : ∀ b o, H b = some o → upd H h'.objs.size (.frz (PySem.W.kla_obj "<lambda>" (X.env.qual ++ "<lambda>") pa bd sc (cloFrom X.env.cells sc.names []) ((X.mg "__name__").getD .none) c' ct) (.own 0)) b = some o := fun b o e => by
      rw [upd_ne (ne_of_none e nf)]
      exact e
    exact h _ c' _ ct _ _ J (LamX.ExtN.of ext2) (hT.ext ext2) nf upd_same (ext2 _ _ hco)
  | none =>
    refine PySem.W.kla_makeFunction (mg := X.mg) (c := c) (P := P) (ps := ps) (closure_ok hfree) I.ok.glob (I.mod.glob.keeps I.bk) hcode (TB.code.keeps I.bk) gP tr hc TB.gP bP fun c' ct h' tk ext hge hlt hrec htb => ?_
    obtain ⟨_, oc, vs, t, e2, hoc, hd, hv⟩ := hrec
    cases e2
    have hsz : s.heap.objs.size ≤ h'.objs.size := Nat.le_trans hge (Nat.le_of_lt hlt)
    have nC : H c' = none := I.hok.fresh hge
    have nf : H h'.objs.size = none := I.hok.fresh hsz
    have I1 := LamX.inv_table (t' := tk) (more := #[rawInt pos.line, rawInt pos.col, .ref c']) (h' := h'.push (PySem.W.kla_obj "<lambda>" (X.env.qual ++ "<lambda>") pa bd sc (cloFrom X.env.cells sc.names []) ((X.mg "__name__").getD .none) c' ct)) I tP
      (fun b o ne e => Heap.get?_push_of_some _ (ext b o ne e)) (Heap.get?_push_of_some _ htb) hge ⟨oc, vs, t, Heap.get?_push_of_some _ hoc, hd, hv⟩
    have fc : h'.objs.size ≠ c' := Nat.ne_of_gt hlt
    have fP : h'.objs.size ≠ P := Nat.ne_of_gt (Nat.lt_of_lt_of_le (Heap.lt_size gP) hsz)
    have nf2 : upd (upd H P (.tbl (ps ++ #[rawInt pos.line, rawInt pos.col, .ref c']))) c' (LamX.CodeO c' (X.env.qual ++ "<lambda>")) h'.objs.size = none := by
      rw [upd_ne fc, upd_ne fP]
      exact nf
    have J := track (a := h'.objs.size) I1 (s0 _ hsz) (Heap.get?_push_size _ rfl) (fun v z => by cases z) nf2 (lo _ hsz) (pn _ hsz)
    have hE : LamX.ExtN H (upd (upd (upd H P (.tbl (ps ++ #[rawInt pos.line, rawInt pos.col, .ref c']))) c' (LamX.CodeO c' (X.env.qual ++ "<lambda>"))) h'.objs.size (.frz (PySem.W.kla_obj "<lambda>" (X.env.qual ++ "<lambda>") pa bd sc (cloFrom X.env.cells sc.names []) ((X.mg "__name__").getD .none) c' ct) (.own 0))) := fun b o e n => by
      rw [upd_ne (ne_of_none e nf), upd_ne (ne_of_none e nC), upd_ne fun z => n ps (Option.some.inj (e.symm.trans (by rw [z]; exact tP)))]
      exact e
    have eL : (ps ++ #[rawInt pos.line, rawInt pos.col, .ref c']).toList = ps.toList ++ [rawInt pos.line, rawInt pos.col, .ref c'] := by simp
    refine h _ c' _ ct _ _ J hE (fun p hp => ?_) nf upd_same (by rw [upd_ne fc.symm, upd_same])
    by_cases hb : p.1 = P
    · rw [hu p hp hb, hb]
      refine ⟨_, by rw [upd_ne fP.symm, upd_ne (ne_of_none tP nC), upd_same], by rw [eL]; exact PySem.TriplesOk_snoc _ _ _ _ tr, fun p' cv hcv => ?_⟩
      rw [eL] at hcv
      rcases LamX.among_app _ tr hcv with z | z
      · obtain ⟨d, e1, e2⟩ := am p' cv z
        exact ⟨d, e1, hE _ _ e2 LamX.codeO_ne⟩
      · exact ⟨c', z, by rw [upd_ne fc.symm, upd_same]⟩
    · obtain ⟨ps', a1, a2, a3⟩ := hT p hp
      refine ⟨ps', by rw [upd_ne (ne_of_none a1 nf), upd_ne (ne_of_none a1 nC), upd_ne hb]; exact a1, a2, fun p' cv hcv => ?_⟩
      obtain ⟨d, e1, e2⟩ := a3 p' cv hcv
      exact ⟨d, e1, hE _ _ e2 LamX.codeO_ne⟩
end
end Fw

/-! FwNb: a kept lambda handed on by its name. -/
namespace Fw
open PySem PySem.Spec L2 PyProof.Rows
section
variable {X : Cx} {pins : List (Addr × Obj)} {σ : L2.St} {H : Hp} {s : Shared}
/-- a(), in the def that got the kept lambda -/
theorem act_kept {CXg : CXT} {Eg : XK} {Ng : List Str} {qg : Str} {sg : Scope} {g f c' : Addr} {cdg pm ct : Value} {pa : Arguments} {bd : Expr} {sc : Scope} {k i : Nat} {a : Str} {pn : List (Addr × Obj)} {xe : Value → Shared → Prop} {W : WX} {E : XK} {tb : TE} {p1 p2 : Pos}
    (I : L2.Inv X pins σ H s) (L : LamX.LamS X.env.scope sc) (hf : H f = some (lamO (X.env.qual ++ "<lambda>") pa bd sc (cloFrom X.env.cells sc.names []) pm c' ct))
    (hbind : bindArgs (PySem.W.kla_fn "<lambda>" (X.env.qual ++ "<lambda>") pa bd sc (cloFrom X.env.cells sc.names []) pm (.ref c') ct) ⟨[], []⟩ = pure [])
    (tk : Takes ((cxOf CXg X.prog X.w X.K X.mg X.base Ng qg sg g cdg X.A X.stack s H Eg).tr pn xe) W) (hW : ∀ cls d σ' H', E cls d H' → W cls d σ' H') (hr : Room (k + 1) (X.A.deeper (envOfC qg sg s.heap.objs.size g cdg)))
    (hb : ∀ (A : Around) (outer : List Env) (t : Shared) (H : Hp), Room k (A.deeper (LamX.lamEnv X sc t.heap.objs.size f c')) → PE (LamX.lamCx X A outer t H E sc f c') bd tb)
    (hN : Ng[i]? = some a) (hv : Vis sg a) (hd : (a == ("__debug__" : Str)) = false) (hcd : (a == ("__classdict__" : Str)) = false) :
    PE ((cxOf CXg X.prog X.w X.K X.mg X.base Ng qg sg g cdg X.A X.stack s H Eg).tr pn xe) (.Call (.Name a p1) [] [] p2) (fun σZ HZ Q => σZ[i]? = some (some (.ref f)) ∧ HZ c' = some (LamX.CodeO c' (X.env.qual ++ "<lambda>")) ∧ tb σ HZ Q) := by
  refine ⟨fun pinsZ sZ σZ HZ Q IZ h => ?_⟩
  have r1 := (pe_var (pos := p1) (i := i) hN hv hd hcd).run pinsZ sZ σZ HZ (fun v H1 => v = .ref f ∧ H1 = HZ) IZ ⟨.ref f, h.1, rfl, rfl⟩
  refine wpAny_Call_Name_kw (thn r1 fun u t ⟨v, H1, I1, rv, ev, eH⟩ => ?_)
  subst ev
  rw [eH] at I1
  cases (show u = Value.ref f from rv)
  have un : Un (frs X.stack) [] H HZ s.heap t.heap := I1.base
  have o1 : t.heap.get? f = some (PySem.W.kla_obj "<lambda>" (X.env.qual ++ "<lambda>") pa bd sc (cloFrom X.env.cells sc.names []) pm c' ct) := (I1.hok f _ (un.frzs f _ _ hf)).1
  obtain ⟨⟨oc, vs, tt, w1, w2, w3⟩, _⟩ := I1.hok c' _ h.2.1
  refine PySem.W.callWith_F0 ⟨_, _, _, _, o1⟩ (wpAny_call (codeAny_mono (R := CR (L2.CX X.prog X.w) (envOfC qg sg s.heap.objs.size g cdg :: X.stack) X.prog X.w HZ t Q E) ?_ fun r s' hq => ?_))
  · refine PySem.W.kla_callFunE hr.depth o1 rfl L.co L.gen rfl ⟨c', oc, vs, tt, rfl, w1, w2, w3⟩ ?_
    erw [hbind]
    refine wpAny_pure (wpAny_newFunctionEnv (fun y hy => (L.own y hy).2) (fun y hy => absurd hy (by simp)) (fun h₁ hns hsb => ⟨I1.nolimit.fresh _ hsb, ?_⟩) L.kind)
    show codeAny _ _ (.expr bd (LamX.lamEnv X sc t.heap.objs.size f c')) _ _
    have J := LamX.lam_start2 (A := X.A.deeper (envOfC qg sg s.heap.objs.size g cdg)) (outer := envOfC qg sg s.heap.objs.size g cdg :: X.stack) (E := E) (f := f) (c' := c') (h₁ := h₁) (tk := t.toks + ([] : List (Str × Value)).length) I L I1.env0 hr.hd un hns
      fun b o e => hsb.extBut b o (Nat.ne_of_lt (Heap.lt_size e)) (Heap.get?_push_of_some _ e)
    refine PySem.W.kla_codeExpr (wpAny_mono ((hb _ _ t HZ (hr.deeper _)).run [] _ _ HZ Q J h.2.2) (fun v s' ⟨w', H', J', rv', q⟩ => ⟨w', H', J'.os, J'.bare, J'.base, J'.hok, rv', q⟩) fun _ _ hq => hq)
  · cases r with
    | error e => exact passes_call tk hW pinsZ σZ HZ t e s' I1 hq
    | ok fl =>
      cases fl with
      | ret u => exact I1.after hq
      | next => exact hq.elim
      | brk => exact hq.elim
      | cont => exact hq.elim
/-- a lambda of this def, kept at f -/
def KeptAt (X : Cx) (pa : Arguments) (bd : Expr) (sc : Scope) (H : Hp) (f : Addr) : Prop := ∃ c' pm ct, H f = some (lamO (X.env.qual ++ "<lambda>") pa bd sc (cloFrom X.env.cells sc.names []) pm c' ct) ∧ H c' = some (LamX.CodeO c' (X.env.qual ++ "<lambda>"))
/-- x(y), y a kept lambda's name -/
theorem pe_kept {TT : (XK → Hp → VK → Prop) → Hp → VK → Prop} {x y a : Str} {g : Addr} {k j : Nat} {pg : Arguments} {bg : List Stmt} {sg : Scope} {dV kV doc pm cdv ct oc : Value} {an od : Option Addr} {osl : Array (Option Value)} {Ng : List Str}
    {pa : Arguments} {bd : Expr} {sc : Scope} {t : XK → TE} {p py pos : Pos} (hg : Gl X x) (hm : X.mg x = some (.ref g)) (hk : PySem.W.keepIn X.K (.ref g) = true)
    (lk : X.K.lookup g = some ⟨oc, od, .func (PySem.W.fnOf x x pg bg sg dV kV doc pm an cdv ct), osl⟩) (hcg : PySem.W.codeIn X.K cdv x = true) (hb : L2.Binds X.K (PySem.W.fnOf x x pg bg sg dV kV doc pm an cdv ct) [a] []) (Sg : FnScope Ng [a] sg) (hNg : Ng[0]? = some a) (hva : Vis sg a)
    (hG : LamX.GivesTo X Ng x sg g cdv bg a (X.env.qual ++ "<lambda>") TT) (hj : X.N[j]? = some y) (hy : Vis X.env.scope y) (dy : (y == ("__debug__" : Str)) = false) (cy : (y == ("__classdict__" : Str)) = false)
    (hr : Room (k + 2) X.A) (L : LamX.LamS X.env.scope sc) (hbind : ∀ (q : Str) (cl : List (Str × Addr)) (pm cv ctv : Value), bindArgs (PySem.W.kla_fn "<lambda>" q pa bd sc cl pm cv ctv) ⟨[], []⟩ = pure [])
    (hbody : ∀ (A : Around) (outer : List Env) (t0 : Shared) (H : Hp) (E : XK) (f c' : Addr), Room k (A.deeper (LamX.lamEnv X sc t0.heap.objs.size f c')) → PE (LamX.lamCx X A outer t0 H E sc f c') bd (t E))
    (hdb : (x == ("__debug__" : Str)) = false) (hd : (a == ("__debug__" : Str)) = false) (hcd : (a == ("__classdict__" : Str)) = false) :
    PE X (.Call (.Name x p) [.Name y py] [] pos) (fun σ H Q => ∃ f, σ[j]? = some (some (.ref f)) ∧ KeptAt X pa bd sc H f ∧ TT (fun E H' Q' => t E σ H' Q') H Q) := by
  refine ⟨fun pins s σ H Q I ⟨f, hs, ⟨c', pmv, ctv, hf, hco⟩, h⟩ => ?_⟩
  refine wpAny_Call_Name_kw (ld_glob I hg hm ?_ hdb)
  refine PySem.W.callWith_K (h₀ := X.base) I.ok.mod.kin hk ?_ (by rfl) (by rfl)
  show wpAny _ _ (spliced ((false, eval (.Name y py) X.env) :: backTo pos (starEach [] X.env))) _ _ s
  refine Calls.spliced_cons (thn ((pe_var (pos := py) (i := j) hj hy dy cy).run pins s σ H (fun v H1 => v = .ref f ∧ H1 = H) I ⟨.ref f, hs, rfl, rfl⟩) fun u s1 ⟨v, H1, I1, rv, ev, eH⟩ => ?_)
  subst ev
  rw [eH] at I1
  cases (show u = Value.ref f from rv)
  refine Calls.spliced_nil ⟨I1.kIn, wpAny_call (codeAny_mono (R := CR C8.CX0 X.stack X.prog X.w H s1 Q C8.E0) ?_ fun r s2 hq => ?_)⟩
  · refine LamX.run_ofS (N := Ng) (ps := [a]) (us := [.ref f]) (vs := [.ref f]) lk hcg Sg hr I1.env0 (hb s1 [.ref f] I1.kIn rfl) (.cons rfl .nil) rfl fun hr' => ?_
    obtain ⟨t', ht', hq'⟩ := hG f c' s1 H Q (fun E H' Q' => t E σ H' Q') (fun W pn xe E p1 p2 tk hW => act_kept (i := 0) I1 L hf (hbind _ _ _ _ _) tk hW hr' (fun A outer t0 H hr2 => hbody A outer t0 H E f c' hr2) hNg hva hd hcd) hco h
    exact ⟨t', ht'.nox, hq'⟩
  · cases r with
    | error e => exact (show False from hq).elim
    | ok fl =>
      cases fl with
      | ret u => exact I1.after hq
      | next => exact hq.elim
      | brk => exact hq.elim
      | cont => exact hq.elim
end
end Fw

/-! FwNc: for work, due in [(lambda: .., '..'), ..]: made of lambdas that are kept, and asked one behind another. -/
namespace Fw
open PySem PySem.Spec L2 PyProof.Rows
/-- a reading where something is known besides -/
def gE (F : L2.St → Hp → Prop) (t : TE) : TE := fun σ H Q => F σ H ∧ t σ H Q
def gA (F : L2.St → Hp → Prop) (t : TA) : TA := fun σ H Q => F σ H ∧ t σ H Q
def gT (F : L2.St → Hp → Prop) (t : TT) : TT := fun σ H Q => F σ H ∧ t σ H Q
def gS (F : L2.St → Hp → Prop) (t : TS) : TS := fun D σ H => F σ H ∧ t D σ H
section
variable {X : Cx} {G : Gh} {E : XK} {m : Mod} {F : L2.St → Hp → Prop} {a b cb : Cd} {ea eb : Expr} {es : List Expr} {p pos : Pos} {x : Str} {w : Nat} {ms : List Nat}
theorem gA_cons {r' : Cd} (ha : PE X ea (gE F (tC' X G E m false a))) (hr : PA X es (tA X.K G E (evE m r'))) (hs : notStar ea = true) : PA X (ea :: es) (gA F (tA X.K G E (evE m (.cons a r')))) :=
  (pa_cons ha hr (starEach_cons hs _ _)).weak fun σ H Q ⟨hF, Hs, en, s, ok, r, p⟩ => ⟨hF, tE_run ok r p.bind fun dx s1 v Hs1 H1 p1 e1 o1 k1 r1 en1 => by
    refine tA_run o1 en1 (p1.later e1 k1 (fun _ _ z => z)).bind fun dy s2 p2 => ?_
    cases dy with
    | tup ys =>
      refine ⟨ys, rfl, fun vs Hs2 H2 e2 o2 k2 r2 _ => ?_⟩
      obtain ⟨ds, hd, q⟩ := (show ∃ ds, D.tup (dx :: ys) = .tup ds ∧ PR G (Reps X.K G) Hs H ds s2 Q from p2)
      cases hd
      exact q (v :: vs) Hs2 H2 (e1.trans e2) o2 (k1.trans k2) (.cons (r1.mono e2) r2)
    | _ => exact p2.elim⟩
theorem gE_call {i k : Nat} {e : Expr} {f : Addr} {fd : FuncData} {ps : List Str} {CX : CXT} (Fo : FnOk X.prog X.w X.K X.mg X.base CX k f fd ps (spD X.K G (m.call i))) (hr : Room k X.A) (hg : Gl X x) (hm : X.mg x = some (.ref f)) (hk : PySem.W.keepIn X.K (.ref f) = true)
    (hb : L2.Binds X.K fd ps []) (hx : Passes CX X E) (ha : PA X (e :: es) (gA F (tA X.K G E (evE m a)))) (hs : (e :: es).all notStar = true) (hd : (x == ("__debug__" : Str)) = false) : PE X (.Call (.Name x p) (e :: es) [] pos) (gE F (tC' X G E m false (.call i a))) := by
  have h' : notStar e = true ∧ es.all notStar = true := by simpa using hs
  exact (pe_call Fo hr hg hm hk hb .nil hx ha hd (starEach_cons h'.1 _ _) (star_any _ _ h'.2)).weak fun σ H Q ⟨hF, h⟩ => ⟨hF, call_sp h⟩
theorem gT_cmp {o : COp} {op : CmpOp} (hop : op = opC o) (hq : EqR X G E m) (hu : X.A.units + 64 < cLine) (ha : PE X ea (gE F (tC' X G E m false a))) (hb : PE X eb (tC' X G E m false b)) (hm : behindInMarks op eb = false) : PT X (.Compare ea [op] [eb] pos) (gT F (tT X.K G E (evE m (.cmp o a b)))) :=
  (pt_cmpR (op_cmpE (G := G) hop hu hq) ha hb hm).weak fun σ H Q ⟨hF, Hs, en, s, ok, r, p⟩ => ⟨hF, run2 ok r p fun dx dy s' v w Hs' H' p' e' o' k' r1 r2 _ =>
    ⟨Hs', s', dx, dy, o', r1, r2, p'.imp fun d s2 _ ⟨b, hb, q⟩ => by
      subst hb
      intro v Hs2 H2 e2 o2 k2 rv
      exact ⟨b, rep_bl rv, q b Hs2 H2 (e'.trans e2) o2 (k'.trans k2) rfl⟩⟩⟩
theorem gS_ite {c : Cd} {ec : Expr} {sa sb : List Stmt} {a b : Sd} (hc : PT X ec (gT F (tT X.K G E (evE m c)))) (ha : PSs X sa (tS X.K G E (evS m w a))) (hb : PSs X sb (tS X.K G E (evS m w b))) : PS X (.If ec sa sb pos) (gS F (tS X.K G E (evS m w (.ite c a b ms)))) :=
  (ps_if hc ha hb).weak fun D0 σ H ⟨hF, sf, Hb, Hs0, H0, Hs, l, s, n, q⟩ => ⟨hF, ev_test n (postR q) fun b' s' Hs2 H' wd n' => by
    cases b' with
    | true =>
      rw [if_pos rfl] at wd ⊢
      exact ⟨sf, Hb, Hs0, H0, Hs2, l, s', n', wd⟩
    | false =>
      rw [if_neg Bool.false_ne_true] at wd ⊢
      exact ⟨sf, Hb, Hs0, H0, Hs2, l, s', n', wd⟩⟩
theorem gSs_one {st : Stmt} {b : Sd} (h : PS X st (gS F (tS X.K G E (evS m w b)))) : PSs X [st] (gS F (tS X.K G E (evS m w (.seq b .skip)))) :=
  (pss_one h).weak fun D0 σ H ⟨hF, sf, Hb, Hs0, H0, Hs, l, s, n, q⟩ => ⟨hF, sf, Hb, Hs0, H0, Hs, l, s, n, by
    have q' : PostS X.K G E sf Hb Hs0 H0 ((evS m w b l s).andThen (evS m w .skip)) D0 := q
    cases hr : evS m w b l s <;> rw [hr] at q' <;> exact q'⟩
end
/-! ### _law_caught(work) -/
/-- work, in slot j, is this lambda -/
def isKept (X : Cx) (j : Nat) (bd : Expr) (sc : Scope) (σ : L2.St) (H : Hp) : Prop := ∃ f, σ[j]? = some (some (.ref f)) ∧ KeptAt X ⟨[], [], none, [], [], none, []⟩ bd sc H f
section
variable {X : Cx} {G : Gh} {E : XK} {m : Mod} {cb : Cd} {p1 p2 p3 p4 p5 p6 p7 p8 p9 p10 p11 p12 p13 p14 : Pos} {k0 : Nat} {e : Str} {sg : Scope} {g CS : Addr}
theorem gE_caught {k j : Nat} {y : Str} {pg : Arguments} {dV kV doc pm cdv ct oc : Value} {an od : Option Addr} {osl : Array (Option Value)} {body : Expr} {scope : Scope} {p py pos : Pos}
    (hg : Gl X "_law_caught") (hm : X.mg "_law_caught" = some (.ref g)) (hk : PySem.W.keepIn X.K (.ref g) = true)
    (lk : X.K.lookup g = some ⟨oc, od, .func (PySem.W.fnOf "_law_caught" "_law_caught" pg [.Assign [.Name "caught" p1] (.Constant .none k0 p2) p3,
      .Try [.Expr (.Call (.Name "work" p4) [] [] p5) p6] [.ExceptHandler (some (.Name e p7)) (some "error") [.Assign [.Name "caught" p8] (.Name "error" p9) p10] p11] [] [] p12, .Return (some (.Name "caught" p13)) p14] sg dV kV doc pm an cdv ct), osl⟩)
    (hcg : PySem.W.codeIn X.K cdv "_law_caught" = true) (hb : L2.Binds X.K (PySem.W.fnOf "_law_caught" "_law_caught" pg [.Assign [.Name "caught" p1] (.Constant .none k0 p2) p3,
      .Try [.Expr (.Call (.Name "work" p4) [] [] p5) p6] [.ExceptHandler (some (.Name e p7)) (some "error") [.Assign [.Name "caught" p8] (.Name "error" p9) p10] p11] [] [] p12, .Return (some (.Name "caught" p13)) p14] sg dV kV doc pm an cdv ct) ["work"] [])
    (Sg : FnScope ["work", "caught", "error"] ["work"] sg) (h1 : sg.names.lookup ("caught" : Str) = some .local) (h2 : sg.names.lookup ("error" : Str) = some .local) (hw : sg.names.lookup ("work" : Str) = some .local) (hge : sg.names.lookup e = some .globalImplicit) (hme : X.mg e = some (.ref CS)) (hde : (e == ("__debug__" : Str)) = false)
    (hj : X.N[j]? = some y) (hy : Vis X.env.scope y) (dy : (y == ("__debug__" : Str)) = false) (cy : (y == ("__classdict__" : Str)) = false) (hr : Room (k + 2) X.A) (L : LamX.LamS X.env.scope scope) (hx : ExmOk X.K G m CS)
    (hbody : ∀ (A : Around) (outer : List Env) (s : Shared) (H : Hp) (E : XK) (f c' : Addr), Room k (A.deeper (LamX.lamEnv X scope s.heap.objs.size f c')) → PE (LamX.lamCx X A outer s H E scope f c') body (tE X.K G E false (evE m cb))) :
    PE X (.Call (.Name "_law_caught" p) [.Name y py] [] pos) (gE (isKept X j body scope) (tC' X G E m false (.caught cb))) := by
  refine (pe_kept (t := fun E => tE X.K G E false (evE m cb)) (TT := TTc X.K CS) (pa := ⟨[], [], none, [], [], none, []⟩) hg hm hk lk hcg hb Sg rfl (.inl hw) (caught_gives h1 h2 hw hge hme hde) hj hy dy cy hr L (fun _ _ _ _ _ => rfl) hbody (by decide) (by decide) (by decide)).weak fun σ H Q ⟨⟨f, hf, hK⟩, Hs, en, s, ok, r, p⟩ => ?_
  refine ⟨f, hf, hK, fun Q' hQ => ⟨Hs, en, s, ok, r, ?_⟩⟩
  have p' : Post X.K G E Hs H (match evE m cb en s with
    | .ok _ s => Res.ok .non s
    | .err c fs s => if subC m.cls 8 c m.base then .ok (.exc c fs) s else .stuck
    | .stuck => .stuck) fun d s' => PV X.K G false Hs H d s' Q := p
  cases hr : evE m cb en s with
  | stuck =>
    rw [hr] at p'
    exact p'.elim
  | ok d s' =>
    rw [hr] at p'
    intro v Hs' H' e' o' k' rv
    exact hQ v H' ((show PV X.K G false Hs H .non s' Q from p') .non Hs' H' e' o' k' .non)
  | err c2 fs s' =>
    rw [hr] at p'
    have p2 : Post X.K G E Hs H (if subC m.cls 8 c2 m.base then Res.ok (D.exc c2 fs) s' else Res.stuck) fun d s' => PV X.K G false Hs H d s' Q := p'
    split at p2
    · rename_i hsub
      intro cls dd Hs' H' e' o' k' rx
      obtain ⟨rfl, rx⟩ := rx
      refine ⟨hx c2 hsub, fun a na => ?_⟩
      have hf := o'.free na
      refine (show PV X.K G false Hs H (.exc c2 fs) s' Q from p2) (.ref a) (upd Hs' a _) (upd H' a _) (e'.trans (Sub.upd hf)) (o'.add na fun ps z => by cases z) (k'.trans (Kp.add na)) ?_
      rcases rx with ⟨rfl, rfl⟩ | ⟨d, gs, rfl, hd, hfs, rr, ne⟩
      · exact .exc upd_same
      · exact .excF upd_same (Sub.upd hf _ _ hd) hfs (rr.mono (Sub.upd hf)) ne
    · exact p2.elim
end
end Fw

/-! FwNd: rows of lambdas and words. -/
namespace Fw
open PySem PySem.Spec L2 PyProof.Rows
/-- a row: (lambda: bd, 's') -/
structure Row where
  bd : Expr
  sc : Scope
  s : Str
  k : Nat
  k2 : Nat
  p1 : Pos
  p2 : Pos
  p3 : Pos
def Row.e (r : Row) : Expr := .Tuple [.Lambda ⟨[], [], none, [], [], none, []⟩ r.bd r.sc r.p1, .Constant (.str r.s) r.k r.p2] r.k2 r.p3
section
variable {X : Cx} {T : List (Addr × Str)} {c P : Addr}
theorem kept_mono {pa : Arguments} {bd : Expr} {sc : Scope} {H H' : Hp} {f : Addr} (e : LamX.ExtN H H') (h : KeptAt X pa bd sc H f) : KeptAt X pa bd sc H' f := by
  obtain ⟨c', pm, ct, h1, h2⟩ := h
  exact ⟨c', pm, ct, e _ _ h1 (fun ps z => by cases z), e _ _ h2 LamX.codeO_ne⟩
/-- the rows' tuples, new since H0 -/
inductive RowsAt (X : Cx) (H0 H : Hp) : List Row → List V → Prop
  | nil : RowsAt X H0 H [] []
  | cons {r : Row} {rs : List Row} {t f : Addr} {vs : List V} (ht : H t = some (.tup [.ref f, .str r.s])) (nt : Nw H0 t) (nf : Nw H0 f) (hk : KeptAt X ⟨[], [], none, [], [], none, []⟩ r.bd r.sc H f) (rr : RowsAt X H0 H rs vs) : RowsAt X H0 H (r :: rs) (.ref t :: vs)
theorem nw_back {H0 H1 : Hp} (e : LamX.ExtN H0 H1) {t : Addr} (n : Nw H1 t) : Nw H0 t := fun o h => by
  by_cases q : ∃ ps, o = .tbl ps
  · exact q
  · exact n o (e _ _ h fun ps z => q ⟨ps, z⟩)
theorem RowsAt.mono {H0 H0' H H' : Hp} (e0 : LamX.ExtN H0' H0) (e : LamX.ExtN H H') : ∀ {rs : List Row} {vs : List V}, RowsAt X H0 H rs vs → RowsAt X H0' H' rs vs
  | _, _, .nil => .nil
  | _, _, .cons ht nt nf hk rr => .cons (e _ _ ht (fun ps z => by cases z)) (nw_back e0 nt) (nw_back e0 nf) (kept_mono e hk) (rr.mono e0 e)
theorem RowsAt.length {H0 H : Hp} : ∀ {rs : List Row} {vs : List V}, RowsAt X H0 H rs vs → vs.length = rs.length
  | _, _, .nil => rfl
  | _, _, .cons _ _ _ _ rr => congrArg Nat.succ rr.length
theorem RowsAt.get {H0 H : Hp} : ∀ {rs : List Row} {vs : List V}, RowsAt X H0 H rs vs → ∀ {i : Nat} {v : V}, vs[i]? = some v → ∃ r t f, rs[i]? = some r ∧ v = .ref t ∧ H t = some (.tup [.ref f, .str r.s]) ∧ Nw H0 t ∧ Nw H0 f ∧ KeptAt X ⟨[], [], none, [], [], none, []⟩ r.bd r.sc H f
  | _, _, .nil, i, v, h => by simp at h
  | _, _, .cons ht nt nf hk rr, 0, v, h => by
    cases (Option.some.inj h)
    exact ⟨_, _, _, rfl, rfl, ht, nt, nf, hk⟩
  | _, _, .cons ht nt nf hk rr, i + 1, v, h => by
    obtain ⟨r, q⟩ := rr.get (i := i) (v := v) (by simpa using h)
    exact ⟨r, by simpa using q⟩
def tLm (X : Cx) (T : List (Addr × Str)) (bd : Expr) (sc : Scope) : TE := fun σ H Q => LamX.Tabs T H ∧ ∀ f H1, LamX.ExtN H H1 → LamX.Tabs T H1 → H f = none → KeptAt X ⟨[], [], none, [], [], none, []⟩ bd sc H1 f → Q (.ref f) H1
theorem pe_lm {bd : Expr} {sc : Scope} {pos : Pos} (TB : LamX.TabB X.base X.mg c P) (hcode : X.env.code = .ref c) (hm : (P, X.env.qual ++ "<lambda>") ∈ T) (hu : ∀ p ∈ T, p.1 = P → p.2 = X.env.qual ++ "<lambda>") (L : LamX.LamS X.env.scope sc) :
    PE X (.Lambda ⟨[], [], none, [], [], none, []⟩ bd sc pos) (tLm X T bd sc) :=
  ⟨fun pins s σ H Q I ⟨hT, h⟩ => lam_tr I TB hcode hm hu hT rfl L fun f c' pm ct H1 s' I1 eN T1 hn hf hc => ⟨.ref f, H1, I1, rfl, h f H1 eN T1 hn ⟨c', pm, ct, hf, hc⟩⟩⟩
def tRow (X : Cx) (T : List (Addr × Str)) (r : Row) : TE := fun σ H Q => LamX.Tabs T H ∧ ∀ t f H1, LamX.ExtN H H1 → LamX.Tabs T H1 → Nw H t → Nw H f → H1 t = some (.tup [.ref f, .str r.s]) → KeptAt X ⟨[], [], none, [], [], none, []⟩ r.bd r.sc H1 f → Q (.ref t) H1
theorem pe_row {r : Row} (TB : LamX.TabB X.base X.mg c P) (hcode : X.env.code = .ref c) (hm : (P, X.env.qual ++ "<lambda>") ∈ T) (hu : ∀ p ∈ T, p.1 = P → p.2 = X.env.qual ++ "<lambda>") (L : LamX.LamS X.env.scope r.sc) : PE X r.e (tRow X T r) :=
  (pe_tup (pa_cons (pe_lm TB hcode hm hu L) (pa_cons pe_str pa_nil))).weak fun σ H Q ⟨hT, h⟩ => by
    refine ⟨hT, fun f H1 eN T1 nf hk => ?_⟩
    show _ ≤ _ ∧ _
    refine ⟨by rw [sizeLine_eq]; simp, fun t nt => ?_⟩
    have ext : ∀ b o, H1 b = some o → upd H1 t (.tup [.ref f, .str r.s]) b = some o := fun b o e => by
      rw [upd_ne (ne_of_none e nt)]
      exact e
    exact h t f _ (eN.trans (LamX.ExtN.of ext)) (T1.ext ext) (nw_back eN (Nw.of nt)) (Nw.of nf) upd_same (kept_mono (LamX.ExtN.of ext) hk)
def tRows (X : Cx) (T : List (Addr × Str)) (rs : List Row) : TA := fun σ H Q => LamX.Tabs T H ∧ ∀ H1 vs, LamX.ExtN H H1 → LamX.Tabs T H1 → RowsAt X H H1 rs vs → Q vs H1
theorem pa_rows (TB : LamX.TabB X.base X.mg c P) (hcode : X.env.code = .ref c) (hm : (P, X.env.qual ++ "<lambda>") ∈ T) (hu : ∀ p ∈ T, p.1 = P → p.2 = X.env.qual ++ "<lambda>") : ∀ rs : List Row, (∀ r ∈ rs, LamX.LamS X.env.scope r.sc) → PA X (rs.map Row.e) (tRows X T rs)
  | [], _ => pa_nil.weak fun σ H Q ⟨hT, h⟩ => h H [] (LamX.ExtN.refl H) hT .nil
  | r :: rs, hL => (pa_cons (pe_row TB hcode hm hu (hL r List.mem_cons_self)) (pa_rows TB hcode hm hu rs fun q hq => hL q (List.mem_cons_of_mem _ hq)) (starEach_cons (by rfl) _ _)).weak fun σ H Q ⟨hT, h⟩ => by
    refine ⟨hT, fun t f H1 e1 T1 nt nf ht hk => ⟨T1, fun H2 vs e2 T2 rr => h H2 _ (e1.trans e2) T2 ?_⟩⟩
    exact .cons (e2 _ _ ht (fun ps z => by cases z)) nt nf (kept_mono e2 hk) (rr.mono e1 fun _ _ h _ => h)
end
/-! ### what is new is shared -/
section
variable {K : PySem.W.Frag} {G : Gh} {sf : Addr} {Hb Hs0 H0 Hs H : Hp} {σ : L2.St} {l : List Sl} {s : RS}
open Classical in
noncomputable def shr (S : Addr → Prop) (Hs H' : Hp) : Hp := fun a => if S a then H' a else Hs a
theorem shr_in {S : Addr → Prop} {Hs H' : Hp} {a : Addr} (h : S a) : shr S Hs H' a = H' a := by unfold shr; exact if_pos h
theorem shr_out {S : Addr → Prop} {Hs H' : Hp} {a : Addr} (h : ¬ S a) : shr S Hs H' a = Hs a := by unfold shr; exact if_neg h
theorem shareNow {S : Addr → Prop} {H' : Hp} (n : Now K G sf Hb Hs0 H0 Hs H σ l s) (e : LamX.ExtN H H') (t : LamX.Tabs G.T H') (hS : ∀ a, S a → ∃ o, H' a = some o ∧ (∀ ps, o ≠ .tbl ps) ∧ (Nw H a ∨ ∃ φ, o = .ext φ)) :
    Sub Hs (shr S Hs H') ∧ Now K G sf (shr S Hs H') Hs0 H0 (shr S Hs H') H' σ l s := by
  have keep : ∀ a u, Hs a = some u → H' a = some u := fun a u h => e _ _ (n.ok.sub a u h) fun ps z => n.ok.nt a ps (by rw [h, z])
  have sub : Sub Hs (shr S Hs H') := fun a u h => by
    by_cases q : S a
    · rw [shr_in q]
      exact keep a u h
    · rw [shr_out q]
      exact h
  have notS : ∀ a u, H a = some u → (∀ ps, u ≠ .tbl ps) → (∀ φ, u ≠ .ext φ) → ¬ S a := fun a u h h1 h2 q => by
    obtain ⟨o, g1, g2, g3⟩ := hS a q
    have g4 := e _ _ h h1
    rw [g1] at g4
    cases g4
    rcases g3 with g3 | ⟨φ, rfl⟩
    · obtain ⟨ps, z⟩ := g3 _ h
      exact h1 ps z
    · exact h2 φ rfl
  have st : StAt G H' s := ⟨e _ _ n.ok.st.dic (fun ps z => by cases z), e _ _ n.ok.st.great (fun ps z => by cases z), e _ _ n.ok.st.cells (fun ps z => by cases z), n.ok.st.ne⟩
  have ok : Ok G (shr S Hs H') H' s := by
    refine ⟨fun a u h => ?_, st, ?_, ?_, sub _ _ n.ok.cs, t, fun a ps h => ?_⟩
    · by_cases q : S a
      · rw [shr_in q] at h
        exact h
      · rw [shr_out q] at h
        exact keep a u h
    · rw [shr_out (notS _ _ n.ok.st.dic (fun ps z => by cases z) fun φ z => by cases z)]
      exact n.ok.np
    · rw [shr_out (notS _ _ n.ok.st.great (fun ps z => by cases z) fun φ z => by cases z)]
      exact n.ok.ng
    · by_cases q : S a
      · rw [shr_in q] at h
        obtain ⟨o, g1, g2, _⟩ := hS a q
        rw [g1] at h
        cases h
        exact g2 ps rfl
      · rw [shr_out q] at h
        exact n.ok.nt a ps h
  have kp : Kp G Hs H (shr S Hs H') H' := fun a o h h1 h2 h3 => ⟨e _ _ h h3, fun h4 z => by
    rw [shr_out (notS a o h h3 h4)]
    exact z⟩
  refine ⟨sub, ok, ⟨n.sl.len, fun i x hx => ?_, n.sl.inj⟩, Same.refl _, n.s0.trans sub, n.kp.trans kp⟩
  have q := n.sl.get i x hx
  cases x with
  | un => exact .un
  | val d =>
    cases hσ : σ[i]? with
    | none =>
      rw [hσ] at q
      cases q
    | some z =>
      rw [hσ] at q
      cases q with
      | val r => exact .val (r.mono sub)
  | own d =>
    obtain ⟨a, hσ, od⟩ := n.own hx
    rw [hσ]
    obtain ⟨u, h1, h2, h3⟩ := od.obj
    have q2 := kp a u h1 od.ap.1 od.ap.2.1 h2
    exact .own (od.keep sub (q2.2 h3 od.ns) fun w hw => by
      rw [h1] at hw
      cases hw
      exact q2.1)
end
end Fw

/-! FwNe: the rows' loop. -/
namespace Fw
open PySem PySem.Spec L2 PyProof.Rows
/-- one row behind another -/
def codeRows (j d : Nat) : List (Row × Sd) → Sd
  | [] => .skip
  | (r, b) :: rs => .seq (.seq (.forget [j]) (.seq (.asg (.v d) (.lit (.str r.s)) []) b)) (codeRows j d rs)
/-- if c: return v -/
def isIf : Sd → Bool
  | .seq (.ite _ (.seq (.ret _ _) .skip) .skip _) .skip => true
  | _ => false
theorem noBC {m : Mod} {w : Nat} {b : Sd} (h : isIf b = true) (l : List Sl) (s : RS) : (∀ l' s', evS m w b l s ≠ .bk l' s') ∧ ∀ l' s', evS m w b l s ≠ .ct l' s' := by
  unfold isIf at h
  split at h
  · rename_i c e m1 m2
    have key : ∀ k : Bool, ∀ s : RS, ∀ r, r = (SRes.andThen (if k = true then evS m w (.seq (.ret e m1) .skip) l s else evS m w .skip l s) (evS m w .skip)) → (∀ l' s', r ≠ .bk l' s') ∧ ∀ l' s', r ≠ .ct l' s' := fun k s r hr => by
      subst hr
      cases k with
      | false => exact ⟨fun l' s' z => by (cases z), fun l' s' z => by (cases z)⟩
      | true =>
        have e1 : evS m w (.seq (.ret e m1) .skip) l s = (SRes.ofR (evE m e (viewS m1 0 l) s) fun d s => .rt d s).andThen (evS m w .skip) := rfl
        rw [if_pos rfl, e1]
        cases evE m e (viewS m1 0 l) s <;> exact ⟨fun l' s' z => by (cases z), fun l' s' z => by (cases z)⟩
    have e0 : evS m w (.seq (.ite c (.seq (.ret e m1) .skip) .skip m2) .skip) l s = (SRes.ofR ((evE m c (viewS m2 0 l) s).bind fun x s => liftO (asB x) s) fun k s => if k = true then evS m w (.seq (.ret e m1) .skip) l s else evS m w .skip l s).andThen (evS m w .skip) := rfl
    rw [e0]
    cases (evE m c (viewS m2 0 l) s).bind fun x s => liftO (asB x) s with
    | ok k s' => exact key k s' _ rfl
    | err _ _ _ => exact ⟨fun l' s' z => by (cases z), fun l' s' z => by (cases z)⟩
    | stuck => exact ⟨fun l' s' z => by (cases z), fun l' s' z => by (cases z)⟩
  · cases h
section
variable {X : Cx} {G : Gh} {E : XK} {m : Mod} {w : Nat} {K : PySem.W.Frag} {sf : Addr} {Hb Hb' Hs0 H0 Hs H : Hp} {σ : L2.St} {l : List Sl} {s : RS}
theorem Now.setUn (n : Now K G sf Hb Hs0 H0 Hs H σ l s) {i : Nat} {v : V} : Now K G sf Hb Hs0 H0 Hs H (σ.set i (some v)) (l.set i .un) s := by
  refine ⟨n.ok, ⟨by rw [List.length_set, List.length_set]; exact n.sl.len, fun k x hx => ?_, fun k k' dk dk' b h1 h2 h3 h4 => ?_⟩, n.sb, n.s0, n.kp⟩
  · by_cases e : i = k
    · subst e
      by_cases hi : i < l.length
      · rw [List.getElem?_set_self hi] at hx
        cases hx
        exact .un
      · rw [List.getElem?_eq_none (by rw [List.length_set]; omega)] at hx
        cases hx
    · rw [List.getElem?_set_ne e] at hx ⊢
      exact n.sl.get k x hx
  · have ne : ∀ k dk, (l.set i .un)[k]? = some (.own dk) → i ≠ k := fun k dk h z => by
      subst z
      by_cases hi : i < l.length
      · rw [List.getElem?_set_self hi] at h
        cases h
      · rw [List.getElem?_eq_none (by rw [List.length_set]; omega)] at h
        cases h
    have n1 := ne _ _ h1
    have n2 := ne _ _ h2
    rw [List.getElem?_set_ne n1] at h1 h3
    rw [List.getElem?_set_ne n2] at h2 h4
    exact n.sl.inj k k' dk dk' b h1 h2 h3 h4
/-- behind one row -/
theorem post_row {j d : Nat} {r : Row} {b : Sd} {rs : List (Row × Sd)} {D0 : Ends} {N : L2.St → Hp → Prop} (hb : Sub Hb Hb') (hi : isIf b = true) (p : PostS K G E sf Hb Hs0 H0 (evS m w (codeRows j d ((r, b) :: rs)) l s) D0)
    (hN : ∀ l' s' σ Hs H, PostS K G E sf Hb Hs0 H0 (evS m w (codeRows j d rs) l' s') D0 → Now K G sf Hb' Hs0 H0 Hs H σ l' s' → N σ H) : PostS K G E sf Hb' Hs0 H0 (evS m w b ((l.set j .un).set d (.val (.str r.s))) s) { D0 with nx := N, ct := N, bk := D0.nx } := by
  have p' : PostS K G E sf Hb Hs0 H0 ((evS m w b ((l.set j .un).set d (.val (.str r.s))) s).andThen (evS m w (codeRows j d rs))) D0 := p
  have nb := noBC (m := m) (w := w) hi ((l.set j .un).set d (.val (.str r.s))) s
  cases hr : evS m w b ((l.set j .un).set d (.val (.str r.s))) s with
  | nx l' s' =>
    rw [hr] at p'
    exact fun σ Hs H n => hN l' s' σ Hs H p' n
  | rt v s' =>
    rw [hr] at p'
    exact p'
  | err c fs s' =>
    rw [hr] at p'
    exact p'
  | stuck =>
    rw [hr] at p'
    exact p'
  | bk l' s' => exact absurd hr (nb.1 l' s')
  | ct l' s' => exact absurd hr (nb.2 l' s')
theorem sS_rows {items : List (Row × Sd)} {j d kt : Nat} {xw xd : Str} {pw pd pt lp pos : Pos} {body : List Stmt} {c P : Addr} (hp : PassesOwn (model X.prog X.w) X.A X.env X.xe) (hc : X.calm = true)
    (hg : PG X (.Tuple [.Name xw pw, .Name xd pd] kt pt) (gP X.K (.tcons (.v j) (.tcons (.v d) .tnil)))) (hj : X.N[j]? = some xw) (hjd : j ≠ d)
    (TB : LamX.TabB X.base X.mg c P) (hcode : X.env.code = .ref c) (hm : (P, X.env.qual ++ "<lambda>") ∈ G.T) (hu : ∀ p ∈ G.T, p.1 = P → p.2 = X.env.qual ++ "<lambda>") (hL : ∀ it ∈ items, LamX.LamS X.env.scope it.1.sc)
    (hb : ∀ it ∈ items, PSs X body (gS (isKept X j it.1.bd it.1.sc) (tS X.K G E (evS m w it.2)))) (hi : ∀ it ∈ items, isIf it.2 = true) (hs : ∀ it ∈ items, PyData.strOk it.1.s = true) (hz : items.length ≤ 1000) :
    PS X (.For (.Tuple [.Name xw pw, .Name xd pd] kt pt) (.List (items.map fun it => it.1.e) lp) body [] pos) (tS X.K G E (evS m w (codeRows j d items))) := by
  have ha : PA X (items.map fun it => it.1.e) (tRows X G.T (items.map (·.1))) := by
    have z := pa_rows (X := X) (T := G.T) TB hcode hm hu (items.map (·.1)) fun r hr => by
      obtain ⟨it, h1, rfl⟩ := List.mem_map.mp hr
      exact hL it h1
    rw [List.map_map] at z
    exact z
  have hbody : PSs X body (fun D σ H => ∃ it ∈ items, (σ.length = X.N.length → isKept X j it.1.bd it.1.sc σ H) ∧ tS X.K G E (evS m w it.2) D σ H) :=
    ⟨fun pins s σ H D I ⟨it, h1, h2, h3⟩ => (hb it h1).run pins s σ H D I ⟨h2 I.len, h3⟩⟩
  refine (ps_for hp hc (pi_list (pe_lst ha)) hg hbody (fun _ => by rfl)).weak fun D0 σ H ⟨sf, Hb, Hs0, H0, Hs, l, s, n, q⟩ => ?_
  refine ⟨n.ok.tb, fun H1 vs e1 T1 rr => ?_⟩
  show _ ≤ _ ∧ _
  have hlen : vs.length = items.length := by
    rw [rr.length, List.length_map]
  refine ⟨by rw [sizeLine_eq, hlen]; omega, fun p np => ?_⟩
  have ext : ∀ b o, H1 b = some o → upd H1 p (.lst vs) b = some o := fun b o e => by
    rw [upd_ne (ne_of_none e np)]
    exact e
  have eN : LamX.ExtN H (upd H1 p (.lst vs)) := e1.trans (LamX.ExtN.of ext)
  refine ⟨p, rfl, ⟨vs, SqL.of upd_same⟩, ?_⟩
  -- all that is new is shared
  obtain ⟨subS, n1⟩ := shareNow (S := fun a => a = p ∨ ∃ (i : Nat) (r : Row) (t f c' : Addr) (pm ct : Value), vs[i]? = some (.ref t) ∧ (items.map (·.1))[i]? = some r ∧ H1 t = some (.tup [.ref f, .str r.s]) ∧ Nw H t ∧ Nw H f ∧
      H1 f = some (lamO (X.env.qual ++ "<lambda>") ⟨[], [], none, [], [], none, []⟩ r.bd r.sc (cloFrom X.env.cells r.sc.names []) pm c' ct) ∧ H1 c' = some (LamX.CodeO c' (X.env.qual ++ "<lambda>")) ∧ (a = t ∨ a = f ∨ a = c')) (H' := upd H1 p (.lst vs)) n eN (T1.ext ext) (fun a ha => by
    rcases ha with rfl | ⟨i, r, t, f, c', pm, ct, g1, g2, g3, g4, g5, g6, g7, ha⟩
    · exact ⟨_, upd_same, (fun ps z => by cases z), .inl (nw_back e1 (Nw.of np))⟩
    · rcases ha with rfl | rfl | rfl
      · exact ⟨_, ext _ _ g3, (fun ps z => by cases z), .inl g4⟩
      · exact ⟨_, ext _ _ g6, (fun ps z => by cases z), .inl g5⟩
      · exact ⟨_, ext _ _ g7, LamX.codeO_ne, .inr ⟨_, rfl⟩⟩)
  generalize hS : shr (fun a => a = p ∨ ∃ (i : Nat) (r : Row) (t f c' : Addr) (pm ct : Value), vs[i]? = some (.ref t) ∧ (items.map (·.1))[i]? = some r ∧ H1 t = some (.tup [.ref f, .str r.s]) ∧ Nw H t ∧ Nw H f ∧
      H1 f = some (lamO (X.env.qual ++ "<lambda>") ⟨[], [], none, [], [], none, []⟩ r.bd r.sc (cloFrom X.env.cells r.sc.names []) pm c' ct) ∧ H1 c' = some (LamX.CodeO c' (X.env.qual ++ "<lambda>")) ∧ (a = t ∨ a = f ∨ a = c')) Hs (upd H1 p (.lst vs)) = Hs1 at subS n1
  have hp1 : Hs1 p = some (.lst vs) := by
    rw [← hS, shr_in (.inl rfl), upd_same]
  have hrow : ∀ (i : Nat) (v : V), vs[i]? = some v → ∃ (r : Row) (t f : Addr), (items.map (·.1))[i]? = some r ∧ v = .ref t ∧ Hs1 t = some (.tup [.ref f, .str r.s]) ∧ ∃ (c' : Addr) (pm ct : Value), Hs1 f = some (lamO (X.env.qual ++ "<lambda>") ⟨[], [], none, [], [], none, []⟩ r.bd r.sc (cloFrom X.env.cells r.sc.names []) pm c' ct) ∧ Hs1 c' = some (LamX.CodeO c' (X.env.qual ++ "<lambda>")) := fun i v hv => by
    obtain ⟨r, t, f, g1, rfl, g2, g3, g4, c', pm, ct, g5, g6⟩ := rr.get hv
    refine ⟨r, t, f, g1, rfl, ?_, c', pm, ct, ?_, ?_⟩
    · rw [← hS, shr_in (.inr ⟨i, r, t, f, c', pm, ct, hv, g1, g2, g3, g4, g5, g6, .inl rfl⟩)]
      exact ext _ _ g2
    · rw [← hS, shr_in (.inr ⟨i, r, t, f, c', pm, ct, hv, g1, g2, g3, g4, g5, g6, .inr (.inl rfl)⟩)]
      exact ext _ _ g5
    · rw [← hS, shr_in (.inr ⟨i, r, t, f, c', pm, ct, hv, g1, g2, g3, g4, g5, g6, .inr (.inr rfl)⟩)]
      exact ext _ _ g6
  refine for_it (g := gP X.K (.tcons (.v j) (.tcons (.v d) .tnil))) (tb := fun D σ H => ∃ it ∈ items, (σ.length = X.N.length → isKept X j it.1.bd it.1.sc σ H) ∧ tS X.K G E (evS m w it.2) D σ H) (D := D0) (walk_list (K := X.K) (a := p) (xs := vs)) (fun i σ Hh => ∃ Hs2 l2 t2, Now X.K G sf Hs1 Hs0 H0 Hs2 Hh σ l2 t2 ∧ PostS X.K G E sf Hb Hs0 H0 (evS m w (codeRows j d (items.drop i)) l2 t2) D0) ⟨Hs1, l, s, n1, by rw [List.drop_zero]; exact q⟩
    (fun i σ Hh _ ⟨Hs2, l2, t2, n2, _⟩ => SqL.of (n2.ok.sub _ _ (n2.sb _ _ hp1))) (fun i x σ Hh Hh' hlt ⟨Hs2, l2, t2, n2, q2⟩ ⟨eH, hx⟩ => ?_) fun σ Hh ⟨Hs2, l2, t2, n2, q2⟩ => ?_
  · subst eH
    have up : ∀ a u, Hs1 a = some u → Hh' a = some u := fun a u h => n2.ok.sub _ _ (n2.sb _ _ h)
    obtain ⟨r, t, f, g1, rfl, g2, c', pm, ct, g3, g4⟩ := hrow i x hx
    have hil : i < items.length := by
      rw [← hlen]
      exact hlt
    have hit : (items[i]).1 = r := by
      rw [List.getElem?_map, List.getElem?_eq_getElem hil] at g1
      exact Option.some.inj g1
    have mem := List.getElem_mem hil
    rw [List.drop_eq_getElem_cons hil] at q2
    generalize hgen : items[i] = it at hit mem q2
    obtain ⟨r', b⟩ := it
    dsimp only at hit
    subst hit
    have q3 := post_row (N := fun σ Hh => ∃ Hs2 l2 t2, Now X.K G sf Hs1 Hs0 H0 Hs2 Hh σ l2 t2 ∧ PostS X.K G E sf Hb Hs0 H0 (evS m w (codeRows j d (items.drop (i + 1))) l2 t2) D0) (n.sb.trans subS) (hi _ mem) q2 fun l' s' σ Hs H p n => ⟨Hs, l', s', n, p⟩
    refine ⟨t, [.ref f, .str r'.s], rfl, .inl (.inl (up _ _ g2)), rfl, .ref f, [.str r'.s], rfl, .str r'.s, [], rfl, rfl, (r', b), mem, fun hl => ⟨f, ?_, c', pm, ct, up _ _ g3, up _ _ g4⟩, sf, Hs1, Hs0, H0, Hs2, _, t2, (n2.setUn).set (.str _ (hs _ mem)), q3⟩
    rw [List.getElem?_set_ne (fun z => hjd z.symm), List.getElem?_set_self]
    have hj' := (List.getElem?_eq_some_iff.mp hj).1
    rw [List.length_set, List.length_set] at hl
    omega
  · have e0 : items.drop vs.length = [] := by
      rw [hlen]
      exact List.drop_length
    rw [e0] at q2
    exact (show ∀ σ Hs H, Now X.K G sf Hb Hs0 H0 Hs H σ l2 t2 → D0.nx σ H from q2) σ Hs2 Hh (n2.base (n.sb.trans subS))
end
end Fw

/-! FwO: the draws' state. -/
namespace Fw
open PySem L2 PyProof.Rows
section
variable {X : Cx} {G : Gh} {E : XK} {m : Mod} {w : Nat} {a b c e : Cd} {ea eb ee : Expr} {pos p py p2 : Pos} {j : Nat} {x : Str}
def keyS (k : Nat) : Str := if k = 0 then "left" else "turn"
theorem rep_st {K : PySem.W.Frag} {H : Hp} {v : V} (h : Rep K G H v .st) : v = .ref G.p0 := by
  cases h
  rfl
theorem not_st {α : Type} {s : RS} {d : D} {f : RS → Res α} (h : d ≠ .st) : (match d with | .st => f s | _ => Res.stuck) = (Res.stuck : Res α) := by
  cases d <;> first
    | rfl
    | exact absurd rfl h
theorem sE_stI {k : Nat} (hu : X.A.units + 64 < cLine) (ha : PE X ea (tC' X G E m false a)) : PE X (.Subscript ea (.Constant (.str (keyS k)) j p2) pos) (tC' X G E m false (.stI k a)) :=
  (pe_dget (by omega) ha pe_str (fun _ _ => rfl)).weak fun σ H Q ⟨Hs, en, s, ok, r, p⟩ => tE_run ok r p.bind fun dx s1 v Hs1 H1 p1 e1 o1 k1 r1 en1 => by
    cases dx with
    | st =>
      cases rep_st r1
      have q := (show PV X.K G false Hs H (.int (if k = 0 then s1.left else s1.turn)) s1 Q from p1) (.int _) Hs1 H1 e1 o1 k1 (.int _)
      refine ⟨G.p0, _, rfl, DGet.k (k := .inr (keyS k)) o1.st.dic |> fun h => ?_, q⟩
      by_cases hk : k = 0
      · subst hk
        exact h
      · have e2 : keyS k = "turn" := if_neg hk
        rw [e2] at h ⊢
        rw [if_neg hk]
        exact h
    | _ => exact p1.elim
theorem ints_reps {K : PySem.W.Frag} {H : Hp} : ∀ l : List Int, Reps K G H (l.map V.int) (l.map D.int)
  | [] => .nil
  | i :: l => .cons (.int i) (ints_reps l)
theorem sE_stC (hu : X.A.units + 64 < cLine) (ha : PE X ea (tC' X G E m false a)) : PE X (.Subscript ea (.Constant (.str "cells") j p2) pos) (tC' X G E m false (.stC a)) :=
  (pe_dget (by omega) ha pe_str (fun _ _ => rfl)).weak fun σ H Q ⟨Hs, en, s, ok, r, p⟩ => tE_run ok r p.bind fun dx s1 v Hs1 H1 p1 e1 o1 k1 r1 en1 => by
    cases dx with
    | st =>
      cases rep_st r1
      have q := (show PV X.K G false Hs H (.lst (s1.cells.map D.int)) s1 Q from p1) (.ref G.c0) Hs1 H1 e1 o1 k1 (.lst o1.cs (ints_reps _))
      exact ⟨G.p0, _, rfl, DGet.k (k := .inr "cells") o1.st.dic, q⟩
    | _ => exact p1.elim
theorem ints_plns : ∀ l : List Int, D.plns (l.map D.int) = true
  | [] => rfl
  | i :: l => by
    show (true && D.plns (l.map D.int)) = true
    rw [ints_plns l]
    rfl
theorem ne_direct (hu : X.A.units + 64 < cLine) : OpR X (compareOp .NotEq) fun x y H Q => ∃ dx dy, Rep X.K G H x dx ∧ Rep X.K G H y dy ∧ eqOk dx dy = true ∧ Q (.bl (!dx.eqv dy)) H := by
  intro pins s σ H x y v u Q I rx ry h
  obtain ⟨dx, dy, px, py, hz, q⟩ := h
  unfold eqOk at hz
  simp only [Bool.and_eq_true, Bool.or_eq_true] at hz
  obtain ⟨⟨p1, p2⟩, p3⟩ := hz
  obtain ⟨a1, c1⟩ := px.dp (Same.refl _) p1
  obtain ⟨a2, c2⟩ := py.dp (Same.refl _) p2
  obtain ⟨as, r1⟩ := Dp.reads I _ x v a1 rx
  obtain ⟨bs, r2⟩ := Dp.reads I _ y u a2 ry
  refine SeqAt.compareNe_reads r1 r2 c1 c2 ?_ ⟨.bl _, H, I, rfl, ?_⟩
  · rcases p3 with z | z
    · have := dle_py 20 _ z
      omega
    · have := dle_py 20 _ z
      omega
  · rw [eqv_py _ _ p1 p2]
    exact q
theorem stE_key {σ : L2.St} {H : Hp} {Q : VK} (h : tC' X G E m false (.stE a) σ H Q) : tOp (fun x y H Q => ∃ dx dy, Rep X.K G H x dx ∧ Rep X.K G H y dy ∧ eqOk dx dy = true ∧ Q (.bl (!dx.eqv dy)) H) (tDGet (tC' X G E m false a) (tC (.str "great"))) (tLst tNil) σ H Q := by
  obtain ⟨Hs, en, s, ok, r, p⟩ := h
  refine tE_run ok r p.bind fun dx s1 v Hs1 H1 p1 e1 o1 k1 r1 en1 => ?_
  cases dx with
  | st =>
    cases rep_st r1
    refine ⟨G.p0, _, rfl, DGet.k (k := .inr "great") o1.st.dic, by show (0 : Nat) ≤ _; exact Nat.zero_le _, fun q0 n => ⟨.lst (s1.great.map D.int), .lst [], .lst (vs := s1.great.map V.int) ?_ (ints_reps _), .lst upd_same .nil, ?_, ?_⟩⟩
    · rw [upd_ne (ne_of_none o1.st.great n)]
      exact o1.st.great
    · simp [eqOk, D.pln, ints_plns, D.plns, D.dle, D.dles]
    · have hv : (!D.eqv (.lst (s1.great.map D.int)) (.lst [])) = !s1.great.isEmpty := by
        cases s1.great <;> rfl
      rw [hv]
      exact (show PV X.K G false Hs H (.bl (!s1.great.isEmpty)) s1 Q from p1) (.bl _) Hs1 _ e1 (o1.new n) (k1.trans (Kp.new n)) (.bl _)
  | _ => exact p1.elim
theorem tT_tE {K : PySem.W.Frag} {f : Ev → RS → Res D} {σ : L2.St} {H : Hp} {Q : Bool → Hp → Prop} (h : tT K G E f σ H Q) : tE K G E false f σ H fun v H' => ∃ b, v = .bl b ∧ Q b H' := by
  obtain ⟨Hs, en, s, ok, r, p⟩ := h
  refine ⟨Hs, en, s, ok, r, p.imp fun d s' _ ⟨b, hb, q⟩ => ?_⟩
  subst hb
  intro v Hs' H' e o k rv
  exact ⟨b, rep_bl rv, q b Hs' H' e o k rfl⟩
theorem sE_stE {p3 p4 : Pos} (hu : X.A.units + 64 < cLine) (ha : PE X ea (tC' X G E m false a)) : PE X (.Compare (.Subscript ea (.Constant (.str "great") j p2) p3) [.NotEq] [.List [] p4] pos) (tC' X G E m false (.stE a)) :=
  (pe_cmpR (ne_direct (G := G) hu) (pe_dget (by omega) ha pe_str (fun _ _ => rfl)) (pe_lst pa_nil) (nomark _)).weak fun σ H Q h => stE_key h
theorem sT_stE {p3 p4 : Pos} (hu : X.A.units + 64 < cLine) (ha : PE X ea (tC' X G E m false a)) : PT X (.Compare (.Subscript ea (.Constant (.str "great") j p2) p3) [.NotEq] [.List [] p4] pos) (tT X.K G E (evE m (.stE a))) :=
  (pt_cmpR (ne_direct (G := G) hu) (pe_dget (by omega) ha pe_str (fun _ _ => rfl)) (pe_lst pa_nil) (nomark _)).weak fun σ H Q h => stE_key (tT_tE h)
theorem sE_stP {p3 p4 apos cpos : Pos} {kk : Nat} (hl : (apos.endLine == cpos.line) = true) (hu : X.A.units + 64 < cLine) (ha : PE X ea (tC' X G E m false a)) : PE X (.Call (.Attribute (.Subscript ea (.Constant (.str "great") j p2) p3) "pop" apos) [.Constant (.int 0) kk p4] [] cpos) (tC' X G E m false (.stP a)) :=
  (pe_bm PySem.F.plainAttrs_list PySem.F.slot_list_pop PySem.F.type_list_pop mt_popAt (pe_dget (by omega) ha pe_str (fun _ _ => rfl)) (pa_cons pe_int pa_nil) (by rfl) (by rfl) hl).weak fun σ H Q ⟨Hs, en, s, ok, r, p⟩ => tE_run ok r p.bind fun dx s1 v Hs1 H1 p1 e1 o1 k1 r1 en1 => by
    cases dx with
    | st =>
      cases rep_st r1
      cases hg : s1.great with
      | nil =>
        rw [hg] at p1
        exact p1.elim
      | cons z rr =>
        rw [hg] at p1
        have hG : H1 G.g0 = some (.lst ((z :: rr).map V.int)) := by
          rw [← hg]
          exact o1.st.great
        refine ⟨G.p0, _, rfl, DGet.k (k := .inr "great") o1.st.dic, .inl ⟨rfl, _, SqL.of o1.st.great⟩, G.g0, (z :: rr).map V.int, 0, 0, .int z, rfl, rfl, hG, by decide, by decide, by simp [seqIndex?], rfl, ?_⟩
        have n1 : G.p0 ≠ G.g0 := fun q => by
          have := o1.st.dic
          rw [q, hG] at this
          cases this
        refine (show PV X.K G false Hs H (.int z) { s1 with great := rr } Q from p1) (.int z) Hs1 _ e1 ⟨fun a u h => ?_, ⟨?_, ?_, ?_, o1.st.ne⟩, o1.np, o1.ng, o1.cs, tabs_put o1.tb hG (fun ps z => by cases z) (fun ps z => by cases z), o1.nt⟩ (k1.trans fun a u h h1 h2 h3 => ⟨?_, fun _ => id⟩) (.int z)
        · rw [upd_ne (ne_of_none h o1.ng)]
          exact o1.sub a u h
        · rw [upd_ne n1]
          exact o1.st.dic
        · rw [upd_same]
          rfl
        · rw [upd_ne o1.st.ne.symm]
          exact o1.st.cells
        · rw [upd_ne h2]
          exact h
    | _ => exact p1.elim
/-- the state's dict with left or turn stored -/
theorem stAt_set {H : Hp} {s : RS} {k : Nat} {i : Int} (x : StAt G H s) : StAt G (upd H G.p0 (.dK (putK [(.inr "great", .ref G.g0), (.inr "cells", .ref G.c0), (.inr "left", .int s.left), (.inr "turn", .int s.turn)] (.inr (keyS k)) (.int i)))) (setI k i s) := by
  have n1 : G.g0 ≠ G.p0 := fun q => by
    have := x.dic
    rw [← q, x.great] at this
    cases this
  have n2 : G.c0 ≠ G.p0 := fun q => by
    have := x.dic
    rw [← q, x.cells] at this
    cases this
  unfold setI
  by_cases hk : k = 0
  · subst hk
    exact ⟨by rw [upd_same]; rfl, by rw [upd_ne n1]; exact x.great, by rw [upd_ne n2]; exact x.cells, x.ne⟩
  · have e2 : keyS k = "turn" := if_neg hk
    rw [if_neg hk, e2]
    exact ⟨by rw [upd_same]; rfl, by rw [upd_ne n1]; exact x.great, by rw [upd_ne n2]; exact x.cells, x.ne⟩
theorem sS_stS {k : Nat} {spos : Pos} (hu : X.A.units + 64 < cLine) (ha : PE X ea (tC' X G E m false a)) (he : PE X ee (tC' X G E m false e)) (hs : swapsWith ee (some (.Subscript ea (.Constant (.str (keyS k)) j p2) spos)) pos.line X.env = pure false) :
    PS X (.Assign [.Subscript ea (.Constant (.str (keyS k)) j p2) spos] ee pos) (tS X.K G E (evS m w (.stS k a e))) :=
  (ps_dput (by omega) ha pe_str he hs).weak fun D0 σ H ⟨sf, Hb, Hs0, H0, Hs, l, s, n, q⟩ => by
    refine ev_int (ms := []) n (postR q) fun i s1 Hs1 H1 wd n1 _ => ?_
    refine ev_run (ms := []) n1 (postR wd) fun d s2 v Hs2 H2 wd2 n2 r2 => ?_
    rw [settle_nil] at n2
    cases d with
    | st =>
      cases rep_st r2
      have o2 := n2.ok
      refine ⟨G.p0, _, rfl, DPut.k (k := .inr (keyS k)) o2.st.dic (by rw [sizeLine_eq]; exact (by decide : (4 : Nat) < 16777216)), ?_⟩
      refine (show ∀ σ Hs H, Now X.K G sf Hb Hs0 H0 Hs H σ l (setI k i s2) → D0.nx σ H from wd2) σ Hs2 _ (n2.step (Same.refl _) ⟨fun a u h => ?_, stAt_set o2.st, o2.np, o2.ng, ?_, tabs_put o2.tb o2.st.dic (fun ps z => by cases z) (fun ps z => by cases z), o2.nt⟩ fun a u h h1 h2 h3 => ⟨?_, fun _ => id⟩)
      · rw [upd_ne (ne_of_none h o2.np)]
        exact o2.sub a u h
      · have : (setI k i s2).cells = s2.cells := by unfold setI; split <;> rfl
        rw [this]
        exact o2.cs
      · rw [upd_ne h1]
        exact h
    | _ => exact (show False from wd2).elim
end
end Fw

/-! FwP: from the text's trees to codes: expressions. -/
namespace Fw
open PySem L2 PyProof.Rows

/-- what the text's names are -/
structure Tab where
  fn : List (Str × Nat × List Str)       -- defs: number, parameters
  cl : List (Str × Nat × List Str)       -- classes with an __init__: number, its parameters but the first
  cx : List (Str × Nat)                  -- all classes
  gl : List (Str × D)                    -- constants
  fl : List Str                          -- attributes, by number
  rs : List (Str × Nat)                  -- exceptions that are raised with a text
/-- where one stands -/
structure Ctx where
  N : List Str
  sc : Scope
  raw : Option Scope          -- within a block: its own names as written
  lam : Bool                  -- may a lambda be made here
  mu : List Nat               -- slots of lists that are changed
  grd : Bool := false         -- may repr be asked here
def nmOk (x : Str) : Bool := !(x == ("__debug__" : Str)) && !(x == ("__classdict__" : Str)) && decide (x ≠ "__name__")
def visB (sc : Scope) (x : Str) : Bool := decide (sc.names.lookup x = some .local) || decide (sc.names.lookup x = some .cell) || decide (sc.names.lookup x = some .free)
def gloB (sc : Scope) (x : Str) : Bool := decide (sc.names.lookup x = some .globalImplicit)
/-- may the name be stored -/
def stoB (Γ : Ctx) (x : Str) : Bool := decide (Γ.sc.names.lookup x = some .local) || (decide (Γ.sc.names.lookup x = some .cell) && match Γ.raw with
  | none => true
  | some r => decide (r.names.lookup x = some .cell))
def opOf : Operator → Option BOp
  | .Add => some .add | .Sub => some .sub | .Mult => some .mul | .FloorDiv => some .fdiv | .Mod => some .mod | .Pow => some .pow | _ => none
def cpOf : CmpOp → COp
  | .Eq => .eq | .NotEq => .ne | .Lt => .lt | .LtE => .le | .Gt => .gt | .GtE => .ge | .Is => .isN | .IsNot => .notN | .In => .inn | .NotIn => .nin
theorem opOf_eq {op : Operator} {o : BOp} (h : opOf op = some o) : op = opB o := by
  cases op <;> first
    | (cases h; done)
    | (cases h; rfl)
theorem cpOf_eq (op : CmpOp) : op = opC (cpOf op) := by cases op <;> rfl
/-- a value that is new where it is a list -/
def isF : Cd → Bool
  | .bin _ _ _ => true | .slc _ _ _ _ _ => true | .lst _ => true | .seqL _ _ => true | .comp _ _ _ _ _ _ => true | _ => false
def notSet : Expr → Bool
  | .Set _ _ _ => false | _ => true
def notCall0 : Expr → Bool
  | .Call _ [] [] _ => false | _ => true
abbrev Rec := Ctx → Expr → Option Cd
def cArgs (rec : Rec) (Γ : Ctx) : List Expr → Option Cd
  | [] => some .nil
  | e :: es => if notStar e then (rec Γ e).bind fun a => (cArgs rec Γ es).map fun r => .cons a r else none
def cKws (rec : Rec) (Γ : Ctx) : List Keyword → Option Cd
  | [] => some .nil
  | ⟨nm, e, _⟩ :: es => (rec Γ e).bind fun a => (cKws rec Γ es).map fun r => .cons a r
def cAnd (rec : Rec) (Γ : Ctx) : List Expr → Option Cd
  | [] => none
  | [e] => rec Γ e
  | e :: es => (rec Γ e).bind fun a => (cAnd rec Γ es).map fun b => .and a b
def cOr (rec : Rec) (Γ : Ctx) : List Expr → Option Cd
  | [] => none
  | [e] => rec Γ e
  | e :: es => (rec Γ e).bind fun a => (cOr rec Γ es).map fun b => .or a b
def tyOf (T : Tab) (Γ : Ctx) : Expr → Option Ty
  | .Name x _ => if gloB Γ.sc x && nmOk x then (match T.cx.lookup x with
    | some c => some (.cls c)
    | none => if x == ("int" : Str) then some .int else if x == ("bool" : Str) then some .bool else if x == ("str" : Str) then some .str else if x == ("tuple" : Str) then some .tuple
      else if x == ("list" : Str) then some .list else if x == ("dict" : Str) then some .dict else if x == ("ValueError" : Str) then some .err else none) else none
  | _ => none
def bltOf (x : Str) (n : Nat) : Option Blt :=
  if x == ("len" : Str) then some .len else if x == ("abs" : Str) then some .abs else if x == ("min" : Str) then (if n = 1 then some .minl else some .min2) else if x == ("max" : Str) then (if n = 1 then some .maxl else some .max2)
  else if x == ("sum" : Str) then some .sum else if x == ("any" : Str) then some .any else if x == ("all" : Str) then some .all else if x == ("int" : Str) then some .int else none
theorem bltOf_name {x : Str} {n : Nat} {f : Blt} (h : bltOf x n = some f) : x = bltName f := by
  unfold bltOf at h
  repeat' split at h
  all_goals first
    | (cases h; done)
    | (cases h; exact eq_of_beq (by assumption))
/-- what is walked -/
def cIter (rec : Rec) (Γ : Ctx) (tup : Bool) : Expr → Option (ItK × Cd)
  | .Call (.Name f p) [a] [] q => if gloB Γ.sc f && notStar a && f == ("range" : Str) then (rec Γ a).map fun c => (.rng1, .cons c .nil)
    else if gloB Γ.sc f && notStar a && f == ("enumerate" : Str) && tup then (rec Γ a).map fun c => (.enum, .cons c .nil)
    else (rec Γ (.Call (.Name f p) [a] [] q)).map fun c => (.plain, .cons c .nil)
  | .Call (.Name f p) [a, b] [] q => if gloB Γ.sc f && notStar a && notStar b && f == ("range" : Str) then (rec Γ a).bind fun c => (rec Γ b).map fun d => (.rng2, .cons c (.cons d .nil))
    else if gloB Γ.sc f && notStar a && notStar b && f == ("zip" : Str) && tup then (rec Γ a).bind fun c => (rec Γ b).map fun d => (.zip, .cons c (.cons d .nil))
    else (rec Γ (.Call (.Name f p) [a, b] [] q)).map fun c => (.plain, .cons c .nil)
  | e => if notSet e then (rec Γ e).map fun c => (.plain, .cons c .nil) else none
/-- targets -/
def cPat : Nat → Ctx → Expr → Option Pat
  | 0, _, _ => none
  | n + 1, Γ, .Name x _ => if stoB Γ x then (Γ.N.idxOf? x).map .v else none
  | n + 1, Γ, .Tuple es _ _ => go n Γ es
  | _, _, _ => none
where
  go (n : Nat) (Γ : Ctx) : List Expr → Option Pat
    | [] => some .tnil
    | e :: es => if notStar e then (cPat n Γ e).bind fun p => (go n Γ es).map fun q => .tcons p q else none
def isTup : Expr → Bool
  | .Tuple _ _ _ => true | _ => false
/-- a block's own names, with their slots -/
def ownOf (Γ : Ctx) (scope : Scope) : List (Str × Nat) := (scope.names.filter fun y => decide (y.2 = .local) || decide (y.2 = .cell)).filterMap fun y => (Γ.N.idxOf? y.1).map fun i => (y.1, i)
def inBlk (Γ : Ctx) (scope : Scope) : Ctx := { Γ with sc := relS scope Γ.sc, raw := some scope, lam := false }
def cTests (rec : Rec) (Γ : Ctx) : List Expr → Option Cd
  | [] => some (.lit (.bl true))
  | [c] => rec Γ c
  | _ => none
/-- what set(..) takes -/
def setArg (Γ : Ctx) : Expr → Option Expr
  | .Call (.Name f _) [b] [] _ => if gloB Γ.sc f && notStar b && f == ("set" : Str) then some b else none
  | _ => none
def cSorted (rec : Rec) (Γ : Ctx) : List Expr → Option Cd
  | [a] => if notStar a then (match setArg Γ a with
    | some b => (rec Γ b).map fun c => .seqL .sset (.cons c .nil)
    | none => (rec Γ a).map fun c => .seqL .srt (.cons c .nil)) else none
  | _ => none
def noScope : Scope := ⟨.function, [], false, false, []⟩
def cCall (rec : Rec) (T : Tab) (Γ : Ctx) (f : Str) (args : List Expr) (kws : List Keyword) : Option Cd :=
  if gloB Γ.sc f && nmOk f then (match kws with
    | [] => if f == ("isinstance" : Str) then (match args with
        | [a, t] => if notStar a && notStar t then (rec Γ a).bind fun c => (tyOf T Γ t).map fun ty => .isa c ty else none
        | _ => none)
      else if f == ("tuple" : Str) || f == ("list" : Str) then (match args with
        | [a] => if notStar a then (cIter rec Γ false a).bind fun kc => if kc.1 == .plain || isRng kc.1 then some (if f == ("tuple" : Str) then .seqT kc.1 kc.2 else .seqL kc.1 kc.2) else none else none
        | _ => none)
      else if f == ("sorted" : Str) then cSorted rec Γ args
      else if f == ("repr" : Str) then (match args with
        | [a] => if Γ.grd && notStar a then (rec Γ a).map .rp else none
        | _ => none)
      else if f == ("_law_caught" : Str) then (match args with
        | [.Lambda ⟨[], [], none, [], [], none, []⟩ body scope _] => if Γ.lam && LamX.lamSB Γ.sc scope then (rec { Γ with sc := scope, raw := some noScope, lam := false, grd := false } body).map .caught else none
        | _ => none)
      else match bltOf f args.length with
        | some b => if args.isEmpty then none else (cArgs rec Γ args).map fun c => .blt b c
        | none => match T.fn.lookup f with
          | some (i, ps) => (cArgs rec Γ args).map fun c => .call i c
          | none => match T.cl.lookup f with
            | some (i, ps) => (cArgs rec Γ args).map fun c => .mk i c
            | none => none
    | kws => if kws.all (·.arg.isSome) then (match T.fn.lookup f with
      | some (i, ps) => if kwOk ps args.length (kws.filterMap (·.arg)) then (cArgs rec Γ args).bind fun a => (cKws rec Γ kws).map fun b => .call i (.perm args.length (kws.filterMap (·.arg)).length (permOf ps args.length (kws.filterMap (·.arg))) a b) else none
      | none => match T.cl.lookup f with
        | some (i, ps) => if kwOk ps args.length (kws.filterMap (·.arg)) then (cArgs rec Γ args).bind fun a => (cKws rec Γ kws).map fun b => .mk i (.perm args.length (kws.filterMap (·.arg)).length (permOf ps args.length (kws.filterMap (·.arg))) a b) else none
        | none => none) else none)
  else none
def cComp (rec : Rec) (Γ : Ctx) (elt tg iter : Expr) (ifs : List Expr) (scope : Scope) : Option Cd :=
  if blkC Γ.N Γ.sc scope (ownOf Γ scope) then (cIter rec Γ (isTup tg) iter).bind fun kc => (cPat 6 (inBlk Γ scope) tg).bind fun pt => (cTests rec (inBlk Γ scope) ifs).bind fun c => (rec (inBlk Γ scope) elt).bind fun e =>
    if (pslots pt).all fun i => ((ownOf Γ scope).map (·.2)).contains i then some (.comp kc.1 kc.2 ((ownOf Γ scope).map (·.2)) pt c e) else none
  else none
def cOpt (rec : Rec) (Γ : Ctx) : Option Expr → Option Cd
  | none => some .nil
  | some e => rec Γ e
def c1 (rec : Rec) (T : Tab) (Γ : Ctx) (e : Expr) : Option Cd := match e with
  | .Constant .none _ _ => some (.lit .non)
  | .Constant (.bool b) _ _ => some (.lit (.bl b))
  | .Constant (.int i) _ _ => some (.lit (.int i))
  | .Constant (.str s) _ _ => if PyData.strOk s then some (.lit (.str s)) else none
  | .Name x _ => if nmOk x then (if visB Γ.sc x then (Γ.N.idxOf? x).map .var else if gloB Γ.sc x then (T.gl.lookup x).map .lit else none) else none
  | .Tuple es _ _ => (cArgs rec Γ es).map .tup
  | .List es _ => (cArgs rec Γ es).map .lst
  | .Dict [] [] _ => some (.lit (.dic [] []))
  | .BinOp a op b _ => (opOf op).bind fun o => (rec Γ a).bind fun x => (rec Γ b).map fun y => .bin o x y
  | .UnaryOp .USub a _ => (rec Γ a).map .neg
  | .UnaryOp .Not a _ => (rec Γ a).map .not
  | .BoolOp .And es _ => cAnd rec Γ es
  | .BoolOp .Or es _ => cOr rec Γ es
  | .Compare (.Subscript a (.Constant (.str k) j p) q) [.NotEq] [.List [] r] _ => if k == ("great" : Str) then (rec Γ a).map .stE else none
  | .Compare a [op] [b] _ => if notSet b then (rec Γ a).bind fun x => (rec Γ b).map fun y => .cmp (cpOf op) x y else none
  | .Compare a [o1, o2] [b, c] _ => if notSet c then (rec Γ a).bind fun x => (rec Γ b).bind fun y => (rec Γ c).map fun z => .chain (cpOf o1) (cpOf o2) x y z else none
  | .IfExp c a b _ => (rec Γ c).bind fun x => (rec Γ a).bind fun y => (rec Γ b).map fun z => .ite x y z
  | .Subscript a (.Constant (.str k) _ _) _ => if k == ("left" : Str) then (rec Γ a).map (.stI 0) else if k == ("turn" : Str) then (rec Γ a).map (.stI 1) else if k == ("cells" : Str) then (rec Γ a).map .stC else none
  | .Subscript a (.Slice none none (some (.UnaryOp .USub (.Constant (.int 1) _ _) _)) _) _ => (rec Γ a).map .rev
  | .Subscript a (.Slice l h none _) _ => (rec Γ a).bind fun x => (cOpt rec Γ l).bind fun y => (cOpt rec Γ h).map fun z => .slc l.isSome h.isSome x y z
  | .Subscript a i _ => if notSlice i then (rec Γ a).bind fun x => (rec Γ i).map fun y => .idx x y else none
  | .Attribute a f _ => if notCall0 a then (rec Γ a).bind fun x => (T.fl.idxOf? f).map fun i => .fld x i else none
  | .Call (.Attribute (.Subscript a (.Constant (.str k) _ _) _) m ap) [.Constant (.int 0) _ _] [] cp => if k == ("great" : Str) && m == ("pop" : Str) && (ap.endLine == cp.line) then (rec Γ a).map .stP else none
  | .Call (.Name f _) args kws _ => cCall rec T Γ f args kws
  | .ListComp elt [⟨tg, iter, ifs, 0⟩] scope _ => cComp rec Γ elt tg iter ifs scope
  | _ => none
def compE (T : Tab) : Nat → Rec
  | 0 => fun _ _ => none
  | n + 1 => c1 (compE T n) T
end Fw

/-! FwQ: the codes are sound. -/
namespace Fw
open PySem L2 PyProof.Rows

/-- the law's own way to catch -/
structure CaughtF (K : PySem.W.Frag) (mg : Str → Option Value) (G : Gh) (m : Mod) : Prop where
  ex : G.T = [] ∨ ∃ (g CS : Addr) (e : Str) (sg : Scope) (pg : Arguments) (dV kV doc pm cdv ct oc : Value) (an od : Option Addr) (osl : Array (Option Value)) (k0 : Nat) (p1 p2 p3 p4 p5 p6 p7 p8 p9 p10 p11 p12 p13 p14 : Pos) (fd : FuncData),
    fd = PySem.W.fnOf "_law_caught" "_law_caught" pg [.Assign [.Name "caught" p1] (.Constant .none k0 p2) p3,
      .Try [.Expr (.Call (.Name "work" p4) [] [] p5) p6] [.ExceptHandler (some (.Name e p7)) (some "error") [.Assign [.Name "caught" p8] (.Name "error" p9) p10] p11] [] [] p12, .Return (some (.Name "caught" p13)) p14] sg dV kV doc pm an cdv ct ∧
    mg "_law_caught" = some (.ref g) ∧ PySem.W.keepIn K (.ref g) = true ∧ K.lookup g = some ⟨oc, od, .func fd, osl⟩ ∧ PySem.W.codeIn K cdv "_law_caught" = true ∧ L2.Binds K fd ["work"] [] ∧ FnScope ["work", "caught", "error"] ["work"] sg ∧
    sg.names.lookup ("caught" : Str) = some .local ∧ sg.names.lookup ("error" : Str) = some .local ∧ sg.names.lookup ("work" : Str) = some .local ∧ sg.names.lookup e = some .globalImplicit ∧ mg e = some (.ref CS) ∧ (e == ("__debug__" : Str)) = false ∧ ExmOk K G m CS
/-- what holds of the text, wherever one stands -/
structure Glo (P : Program) (w : World) (K : PySem.W.Frag) (mg : Str → Option Value) (base : Heap) (G : Gh) (m : Mod) (L : Nat) (T : Tab) : Prop where
  gl : ∀ x d, T.gl.lookup x = some d → ∃ v u, mg x = some u ∧ RelV v u ∧ ∀ Hs, Rep K G Hs v d
  fn : ∀ x i ps, T.fn.lookup x = some (i, ps) → ∃ f fd, mg x = some (.ref f) ∧ PySem.W.keepIn K (.ref f) = true ∧ FnP K fd ps ∧ FnOk P w K mg base (L2.CX P w) L f fd ps (spD K G (m.call i))
  cl : ∀ x i ps, T.cl.lookup x = some (i, ps) → ∃ f fd q0, mg x = some (.ref (G.ca i)) ∧ Mk K (G.ca i) f ∧ FnP K fd (q0 :: ps) ∧ FnOk P w K mg base (L2.CX P w) L f fd (q0 :: ps) (spI K G i (m.make i))
  mkk : MakeOk m
  cx : ∀ x i, T.cx.lookup x = some i → mg x = some (.ref (G.ca i))
  isa : IsaOk K G m.cls
  blt : ∀ x ∈ (["len", "abs", "min", "max", "sum", "any", "all", "int", "bool", "str", "tuple", "list", "dict", "range", "enumerate", "zip", "isinstance", "ValueError", "repr", "sorted", "set"] : List Str), mg x = none
  fld : ∀ (X : Cx) f y, X.K = K → T.fl[f]? = some y → FldOk X G m f y
  rs : ∀ x i, T.rs.lookup x = some i → ∀ (X : Cx) (t : Str) (j : Nat) (p p2 pos : Pos), X.K = K → X.mg = mg → Gl X x → PMk X (.Call (.Name x p) [.Constant (.str t) j p2] [] pos) fun _ H Q => Q (.ref (G.ca i)) none H
  fls : ∀ (X : Cx) f y, X.K = K → T.fl[f]? = some y → FldSOk X G m f y
  eqr : ∀ X : Cx, X.prog = P → X.w = w → X.K = K → X.mg = mg → X.base = base → Room (L + 1) X.A → (∀ E, EqR X G E m)
/-- a lambda may be made -/
structure LamOk (X : Cx) (G : Gh) (m : Mod) (L : Nat) : Prop where
  room : Room (L + 3) X.A
  caught : CaughtF X.K X.mg G m
  tab : ∃ c P, LamX.TabB X.base X.mg c P ∧ X.env.code = .ref c ∧ (P, X.env.qual ++ "<lambda>") ∈ G.T ∧ ∀ p ∈ G.T, p.1 = P → p.2 = X.env.qual ++ "<lambda>"
structure CtxOk (X : Cx) (G : Gh) (E : XK) (m : Mod) (L : Nat) (T : Tab) (Γ : Ctx) : Prop where
  glo : Glo X.prog X.w X.K X.mg X.base G m L T
  hN : X.N = Γ.N
  nd : Γ.N.Nodup
  sc : X.env.scope = Γ.sc
  calm : X.calm = true
  room : Room (L + 1) X.A
  pass : Passes (L2.CX X.prog X.w) X E
  fnx : ∀ x, stoB Γ x = true → Loc X.env.scope x ∧ (X.fn x = true ∨ X.env.scope.names.lookup x = some .local)
  lam : Γ.lam = true → LamOk X G m L
  gd : Γ.grd = true → X.A.guards = some []
section
variable {X : Cx} {G : Gh} {E : XK} {m : Mod} {L : Nat} {T : Tab} {Γ : Ctx}
theorem CtxOk.vis (h : CtxOk X G E m L T Γ) {x : Str} (v : visB Γ.sc x = true) : Vis X.env.scope x := by
  rw [h.sc]
  simp only [visB, Bool.or_eq_true, decide_eq_true_eq] at v
  rcases v with (v | v) | v
  · exact .inl v
  · exact .inr (.inl v)
  · exact .inr (.inr v)
theorem CtxOk.gl (h : CtxOk X G E m L T Γ) {x : Str} (v : gloB Γ.sc x = true) : Gl X x := by
  have e : X.env.scope.names.lookup x = some .globalImplicit := by
    rw [h.sc]
    exact of_decide_eq_true v
  exact e
theorem nmOk_all {x : Str} (h : nmOk x = true) : (x == ("__debug__" : Str)) = false ∧ (x == ("__classdict__" : Str)) = false ∧ x ≠ "__name__" := by
  simp only [nmOk, Bool.and_eq_true, Bool.not_eq_true', decide_eq_true_eq] at h
  exact ⟨h.1.1, h.1.2, h.2⟩
theorem idx_get {x : Str} {i : Nat} : ∀ {N : List Str}, N.idxOf? x = some i → N[i]? = some x
  | [], h => by simp at h
  | y :: N, h => by
    rw [List.idxOf?_cons] at h
    by_cases e : y = x
    · subst e
      simp at h
      subst h
      rfl
    · have e1 : (y == x) = false := by simpa using e
      simp only [e1] at h
      cases hj : N.idxOf? x with
      | none => simp [hj] at h
      | some j =>
        simp [hj] at h
        subst h
        rw [List.getElem?_cons_succ]
        exact idx_get hj
theorem CtxOk.ix (h : CtxOk X G E m L T Γ) {x : Str} {i : Nat} (e : Γ.N.idxOf? x = some i) : X.N[i]? = some x := by
  rw [h.hN]
  exact idx_get e
theorem CtxOk.un (h : CtxOk X G E m L T Γ) : X.A.units + 64 < cLine := h.room.units
theorem CtxOk.eq (h : CtxOk X G E m L T Γ) : EqR X G E m := h.glo.eqr X rfl rfl rfl rfl rfl h.room E
theorem passes_EF {X : Cx} : Passes (L2.CX X.prog X.w) X EF := fun _ _ _ _ _ _ _ ⟨_, _, _, _, _, _, _, _, _, _, _, _, z⟩ => z.elim
/-- within a block -/
theorem CtxOk.blk (h : CtxOk X G E m L T Γ) {scope : Scope} (s : Shared) (H : Hp) (C : Addr) (cl : List (Str × Addr)) (fp : List Addr) : CtxOk (X.blk s H scope (compEnvC scope cl C X.env) fp) G EF m L T (inBlk Γ scope) where
  glo := h.glo
  hN := h.hN
  nd := h.nd
  sc := by
    show relS scope X.env.scope = relS scope Γ.sc
    rw [h.sc]
  calm := h.calm
  room := h.room
  pass := passes_EF
  fnx := fun x hx => by
    have hsc : (X.blk s H scope (compEnvC scope cl C X.env) fp).env.scope = relS scope Γ.sc := by
      show relS scope X.env.scope = relS scope Γ.sc
      rw [h.sc]
    simp only [stoB, Bool.or_eq_true, Bool.and_eq_true, decide_eq_true_eq] at hx
    unfold L2.Loc
    rw [hsc]
    rcases hx with hx | ⟨h1, h2⟩
    · exact ⟨.inl hx, .inr hx⟩
    · refine ⟨.inr h1, .inl ?_⟩
      show (scope.names.lookup x == some .cell) = true
      have h2' : scope.names.lookup x = some .cell := by simpa [inBlk] using h2
      rw [h2']
      rfl
  lam := fun z => by cases (show false = true from z)
  gd := h.gd
/-- within a lambda -/
theorem CtxOk.lamC (h : CtxOk X G E m L T Γ) {scope : Scope} (A : Around) (outer : List Env) (s : Shared) (H : Hp) (E' : XK) (f c' : Addr) (hr : Room (L + 1) (A.deeper (LamX.lamEnv X scope s.heap.objs.size f c'))) : CtxOk (LamX.lamCx X A outer s H E' scope f c') G E' m L T { Γ with sc := scope, raw := some noScope, lam := false, grd := false } where
  glo := h.glo
  hN := h.hN
  nd := h.nd
  sc := rfl
  calm := rfl
  room := hr
  pass := passes_call (takes_of (E := E') (X := LamX.lamCx X A outer s H E' scope f c') rfl rfl rfl rfl) fun _ _ _ _ z => z
  fnx := fun x hx => by
    simp only [stoB, Bool.or_eq_true, Bool.and_eq_true, decide_eq_true_eq] at hx
    rcases hx with hx | ⟨_, h2⟩
    · exact ⟨.inl hx, .inr hx⟩
    · have h2' : noScope.names.lookup x = some .cell := by simpa using h2
      cases h2'
  lam := fun z => by cases (show false = true from z)
  gd := fun z => by cases (show false = true from z)

theorem plainOf {X : Cx} {E : XK} {e : Expr} {c : Cd} (h : PE X e (tC' X G E m (isF c) c)) : PE X e (tC' X G E m false c) := by
  cases hf : isF c with
  | true =>
    rw [hf] at h
    exact tE_plain h
  | false =>
    rw [hf] at h
    exact h
end
/-- a translation is sound -/
structure Snd (G : Gh) (m : Mod) (L : Nat) (T : Tab) (rec : Rec) : Prop where
  pe : ∀ Γ e c, rec Γ e = some c → ∀ X E, CtxOk X G E m L T Γ → PE X e (tC' X G E m (isF c) c)
  pt : ∀ Γ e c, rec Γ e = some c → ∀ X E, CtxOk X G E m L T Γ → PT X e (tT X.K G E (evE m c))
section
variable {X : Cx} {G : Gh} {E : XK} {m : Mod} {L : Nat} {T : Tab} {Γ : Ctx} {rec : Rec}
theorem Snd.pl (S : Snd G m L T rec) {e : Expr} {c : Cd} (h : rec Γ e = some c) (k : CtxOk X G E m L T Γ) : PE X e (tC' X G E m false c) := plainOf (S.pe Γ e c h X E k)
theorem sArgs (S : Snd G m L T rec) (k : CtxOk X G E m L T Γ) : ∀ {es : List Expr} {c : Cd}, cArgs rec Γ es = some c → PA X es (tA X.K G E (evE m c)) ∧ es.all notStar = true
  | [], c, h => by
    cases h
    exact ⟨sA_nil, rfl⟩
  | e :: es, c, h => by
    unfold cArgs at h
    split at h
    · rename_i hs
      obtain ⟨a, ha, h2⟩ := Option.bind_eq_some_iff.mp h
      obtain ⟨r, hr, rfl⟩ := Option.map_eq_some_iff.mp h2
      obtain ⟨i1, i2⟩ := sArgs S k hr
      exact ⟨sA_cons (S.pl ha k) i1 hs, by simp [hs, i2]⟩
    · cases h
theorem cArgs_nil {es : List Expr} (h : cArgs rec Γ es = some .nil) : es = [] := by
  cases es with
  | nil => rfl
  | cons e es =>
    unfold cArgs at h
    split at h
    · obtain ⟨a, ha, h2⟩ := Option.bind_eq_some_iff.mp h
      obtain ⟨r, hr, h3⟩ := Option.map_eq_some_iff.mp h2
      cases h3
    · cases h
theorem sKws (S : Snd G m L T rec) (k : CtxOk X G E m L T Γ) : ∀ {es : List Keyword} {c : Cd}, cKws rec Γ es = some c → PK X es (tA X.K G E (evE m c))
  | [], c, h => by
    cases h
    exact sK_nil
  | ⟨nm, e, kp⟩ :: es, c, h => by
    unfold cKws at h
    obtain ⟨a, ha, h2⟩ := Option.bind_eq_some_iff.mp h
    obtain ⟨r, hr, rfl⟩ := Option.map_eq_some_iff.mp h2
    exact sK_cons (S.pl ha k) (sKws S k hr)
theorem sAnd (S : Snd G m L T rec) (k : CtxOk X G E m L T Γ) {pos : Pos} : ∀ {es : List Expr} {c : Cd}, cAnd rec Γ es = some c → PE X (.BoolOp .And es pos) (tC' X G E m (isF c) c) ∧ PW X (.BoolOp .And es pos) (tT X.K G E (evE m c))
  | [], c, h => by cases h
  | [e], c, h => ⟨pe_one (S.pe Γ e c h X E k), pw_and1 (S.pt Γ e c h X E k)⟩
  | e :: e2 :: es, c, h => by
    unfold cAnd at h
    obtain ⟨a, ha, h2⟩ := Option.bind_eq_some_iff.mp h
    obtain ⟨r, hr, rfl⟩ := Option.map_eq_some_iff.mp h2
    obtain ⟨i1, i2⟩ := sAnd S k (pos := pos) hr
    exact ⟨sE_and (S.pl ha k) (plainOf i1), sT_and (S.pt Γ e a ha X E k) i2⟩
theorem sOr (S : Snd G m L T rec) (k : CtxOk X G E m L T Γ) {pos : Pos} : ∀ {es : List Expr} {c : Cd}, cOr rec Γ es = some c → PE X (.BoolOp .Or es pos) (tC' X G E m (isF c) c) ∧ PW X (.BoolOp .Or es pos) (tT X.K G E (evE m c))
  | [], c, h => by cases h
  | [e], c, h => ⟨pe_one (S.pe Γ e c h X E k), pw_or1 (S.pt Γ e c h X E k)⟩
  | e :: e2 :: es, c, h => by
    unfold cOr at h
    obtain ⟨a, ha, h2⟩ := Option.bind_eq_some_iff.mp h
    obtain ⟨r, hr, rfl⟩ := Option.map_eq_some_iff.mp h2
    obtain ⟨i1, i2⟩ := sOr S k (pos := pos) hr
    exact ⟨sE_or (S.pl ha k) (plainOf i1), sT_or (S.pt Γ e a ha X E k) i2⟩
end
end Fw

/-! FwR: calls, what is walked, comprehensions: sound. -/
namespace Fw
open PySem L2 PyProof.Rows
section
variable {X : Cx} {G : Gh} {E : XK} {m : Mod} {L : Nat} {T : Tab} {Γ : Ctx} {rec : Rec}
theorem CtxOk.blt0 (k : CtxOk X G E m L T Γ) {x : Str} (h : x ∈ (["len", "abs", "min", "max", "sum", "any", "all", "int", "bool", "str", "tuple", "list", "dict", "range", "enumerate", "zip", "isinstance", "ValueError", "repr", "sorted", "set"] : List Str)) : X.mg x = none := k.glo.blt x h
theorem folded {e : Expr} (h : notSet e = true) (env : Env) (x : Value) : foldedSetIterable e env x = pure x := by
  cases e <;> first
    | (cases h; done)
    | rfl
theorem sIter (S : Snd G m L T rec) (k : CtxOk X G E m L T Γ) {tg : Expr} {tup : Bool} (ht : tup = true → ∃ es kk p, tg = .Tuple es kk p) {e : Expr} {kc : ItK × Cd} (h : cIter rec Γ tup e = some kc) : PI X tg e (tI X.K G E m kc.1 kc.2) ∧ ∀ env x, foldedSetIterable e env x = pure x := by
  have plain : ∀ {e : Expr}, notSet e = true → (rec Γ e).map (fun c => (ItK.plain, Cd.cons c .nil)) = some kc → PI X tg e (tI X.K G E m kc.1 kc.2) ∧ ∀ env x, foldedSetIterable e env x = pure x := fun {e} hn q => by
    obtain ⟨c, hc, rfl⟩ := Option.map_eq_some_iff.mp q
    exact ⟨sI_plain (S.pl hc k), folded hn⟩
  unfold cIter at h
  split at h
  · rename_i f p a q
    split at h
    · rename_i hc
      simp only [Bool.and_eq_true] at hc
      obtain ⟨⟨h1, h2⟩, h3⟩ := hc
      have := eq_of_beq h3
      subst this
      obtain ⟨c, hc, rfl⟩ := Option.map_eq_some_iff.mp h
      exact ⟨sI_rng1 (k.gl h1) (k.blt0 (by decide)) (S.pl hc k) h2, fun _ _ => rfl⟩
    · split at h
      · rename_i hc
        simp only [Bool.and_eq_true] at hc
        obtain ⟨⟨⟨h1, h2⟩, h3⟩, h4⟩ := hc
        have := eq_of_beq h3
        subst this
        obtain ⟨es, kk, tp, rfl⟩ := ht h4
        obtain ⟨c, hc, rfl⟩ := Option.map_eq_some_iff.mp h
        exact ⟨sI_enum (k.gl h1) (k.blt0 (by decide)) (S.pl hc k) h2, fun _ _ => rfl⟩
      · exact plain rfl h
  · rename_i f p a b q
    split at h
    · rename_i hc
      simp only [Bool.and_eq_true] at hc
      obtain ⟨⟨⟨h1, h2⟩, h2'⟩, h3⟩ := hc
      have := eq_of_beq h3
      subst this
      obtain ⟨c, hc, h5⟩ := Option.bind_eq_some_iff.mp h
      obtain ⟨d, hd, rfl⟩ := Option.map_eq_some_iff.mp h5
      exact ⟨sI_rng2 (k.gl h1) (k.blt0 (by decide)) (S.pl hc k) (S.pl hd k) h2 h2', fun _ _ => rfl⟩
    · split at h
      · rename_i hc
        simp only [Bool.and_eq_true] at hc
        obtain ⟨⟨⟨⟨h1, h2⟩, h2'⟩, h3⟩, h4⟩ := hc
        have := eq_of_beq h3
        subst this
        obtain ⟨es, kk, tp, rfl⟩ := ht h4
        obtain ⟨c, hc, h5⟩ := Option.bind_eq_some_iff.mp h
        obtain ⟨d, hd, rfl⟩ := Option.map_eq_some_iff.mp h5
        exact ⟨sI_zip (k.gl h1) (k.blt0 (by decide)) (S.pl hc k) (S.pl hd k) h2 h2', fun _ _ => rfl⟩
      · exact plain rfl h
  · split at h
    · exact plain (by assumption) h
    · cases h
theorem isTup_ex {tg : Expr} (h : isTup tg = true) : ∃ es kk p, tg = .Tuple es kk p := by
  cases tg <;> first
    | (cases h; done)
    | exact ⟨_, _, _, rfl⟩

/-! ### targets -/
theorem each_cons {e : Expr} (h : notStar e = true) (es : List Expr) (env : Env) : assignEach (e :: es) env = (false, assign e env) :: assignEach es env := by
  cases e <;> first
    | (cases h; done)
    | rfl
mutual
theorem sPat (k : CtxOk X G E m L T Γ) : ∀ {n : Nat} {e : Expr} {pt : Pat}, cPat n Γ e = some pt → PG X e (gP X.K pt)
  | 0, e, pt, h => by cases e <;> cases h
  | n + 1, .Name x q, pt, h => by
    unfold cPat at h
    split at h
    · rename_i hs
      obtain ⟨i, hi, rfl⟩ := Option.map_eq_some_iff.mp h
      obtain ⟨h1, h2⟩ := k.fnx x hs
      exact pg_name (by rw [k.hN]; exact k.nd) (k.ix hi) h1 h2
    · cases h
  | n + 1, .Tuple es kk q, pt, h => by
    unfold cPat at h
    obtain ⟨g1, g2, g3, g4⟩ := sPats k h
    have h2 : gP X.K pt = gTup X.K (plen pt) (gPs X.K pt) := by
      cases pt with
      | v i => cases g4
      | tnil => rfl
      | tcons p ps => rfl
    rw [h2]
    exact pg_tup k.calm g1 g2 g3
  | n + 1, .BoolOp .., pt, h => by simp [cPat] at h
  | n + 1, .NamedExpr .., pt, h => by simp [cPat] at h
  | n + 1, .BinOp .., pt, h => by simp [cPat] at h
  | n + 1, .UnaryOp .., pt, h => by simp [cPat] at h
  | n + 1, .Lambda .., pt, h => by simp [cPat] at h
  | n + 1, .IfExp .., pt, h => by simp [cPat] at h
  | n + 1, .Dict .., pt, h => by simp [cPat] at h
  | n + 1, .Set .., pt, h => by simp [cPat] at h
  | n + 1, .ListComp .., pt, h => by simp [cPat] at h
  | n + 1, .SetComp .., pt, h => by simp [cPat] at h
  | n + 1, .DictComp .., pt, h => by simp [cPat] at h
  | n + 1, .GeneratorExp .., pt, h => by simp [cPat] at h
  | n + 1, .Await .., pt, h => by simp [cPat] at h
  | n + 1, .Yield .., pt, h => by simp [cPat] at h
  | n + 1, .YieldFrom .., pt, h => by simp [cPat] at h
  | n + 1, .Compare .., pt, h => by simp [cPat] at h
  | n + 1, .Call .., pt, h => by simp [cPat] at h
  | n + 1, .FormattedValue .., pt, h => by simp [cPat] at h
  | n + 1, .JoinedStr .., pt, h => by simp [cPat] at h
  | n + 1, .Constant .., pt, h => by simp [cPat] at h
  | n + 1, .Attribute .., pt, h => by simp [cPat] at h
  | n + 1, .Subscript .., pt, h => by simp [cPat] at h
  | n + 1, .Starred .., pt, h => by simp [cPat] at h
  | n + 1, .List .., pt, h => by simp [cPat] at h
  | n + 1, .Slice .., pt, h => by simp [cPat] at h
theorem sPats (k : CtxOk X G E m L T Γ) : ∀ {n : Nat} {es : List Expr} {pt : Pat}, cPat.go n Γ es = some pt → PGs X es (gPs X.K pt) ∧ (assignEach es X.env).length = plen pt ∧ (assignEach es X.env).findIdx? (·.1) = none ∧ isPs pt = true
  | n, [], pt, h => by
    unfold cPat.go at h
    cases h
    exact ⟨pgs_nil, rfl, rfl, rfl⟩
  | n, e :: es, pt, h => by
    unfold cPat.go at h
    split at h
    · rename_i hs
      obtain ⟨p, hp, h2⟩ := Option.bind_eq_some_iff.mp h
      obtain ⟨q, hq, rfl⟩ := Option.map_eq_some_iff.mp h2
      obtain ⟨g1, g2, g3, g4⟩ := sPats k hq
      have a1 := sPat k hp
      refine ⟨pgs_cons a1 g1 (by rw [each_cons hs]; rfl), ?_, ?_, rfl⟩
      · rw [each_cons hs, List.length_cons, g2]
        rfl
      · rw [each_cons hs, List.findIdx?_cons]
        simp [g3]
    · cases h
end

/-! ### comprehensions -/
theorem sTests (S : Snd G m L T rec) (k : CtxOk X G E m L T Γ) {ifs : List Expr} {c : Cd} (h : cTests rec Γ ifs = some c) : PTs X ifs (tT X.K G E (evE m c)) := by
  match ifs, h with
  | [], h =>
    cases h
    exact sPTs_nil
  | [e], h => exact pts_one (S.pt Γ e c h X E k)
  | _ :: _ :: _, h => cases h
theorem sComp (S : Snd G m L T rec) (k : CtxOk X G E m L T Γ) {elt tg iter : Expr} {ifs : List Expr} {scope : Scope} {pos : Pos} {c : Cd} (h : cComp rec Γ elt tg iter ifs scope = some c) : PE X (.ListComp elt [⟨tg, iter, ifs, 0⟩] scope pos) (tC' X G E m (isF c) c) := by
  unfold cComp at h
  split at h
  · rename_i hb
    obtain ⟨kc, hk, h1⟩ := Option.bind_eq_some_iff.mp h
    obtain ⟨pt, hpt, h2⟩ := Option.bind_eq_some_iff.mp h1
    obtain ⟨t, ht, h3⟩ := Option.bind_eq_some_iff.mp h2
    obtain ⟨e, he, h4⟩ := Option.bind_eq_some_iff.mp h3
    split at h4
    · rename_i hv
      cases h4
      obtain ⟨i1, i2⟩ := sIter S k (fun z => isTup_ex z) hk
      have hb' : BlkOk X.N X.env.scope scope (ownOf Γ scope) := by
        rw [k.hN, k.sc]
        exact blkOk_by hb
      refine sE_comp k.calm (by rw [k.hN]; exact k.nd) i1 hb' rfl (fun i hi => ?_) (fun s H C cl fp => sPat (k.blk s H C cl fp) hpt) (fun s H C cl fp => sTests S (k.blk s H C cl fp) ht) (fun s H C cl fp => S.pl he (k.blk s H C cl fp)) (i2 X.env)
      have := List.all_eq_true.mp hv i hi
      simpa using this
    · cases h4
  · cases h
/-! ### calls -/
theorem sTy (k : CtxOk X G E m L T Γ) {e : Expr} {t : Ty} (h : tyOf T Γ e = some t) : ∃ tv, PE X e (tC tv) ∧ ClsV tv (tyU G t) := by
  unfold tyOf at h
  split at h
  · rename_i x p
    split at h
    · rename_i hg
      rw [Bool.and_eq_true] at hg
      obtain ⟨h1, h2⟩ := hg
      obtain ⟨n1, n2, n3⟩ := nmOk_all h2
      split at h
      · rename_i c hc
        cases h
        exact ⟨.ref (G.ca c), pe_glob (v := .ref (G.ca c)) (k.gl h1) (k.glo.cx x c hc) rfl n1, .own _⟩
      · have bt : ∀ {y : Str} {n : String} (hm : y ∈ (["len", "abs", "min", "max", "sum", "any", "all", "int", "bool", "str", "tuple", "list", "dict", "range", "enumerate", "zip", "isinstance", "ValueError", "repr", "sorted", "set"] : List Str)) (hv : bootBuiltins y = some (.type n)), (x == y) = true → ∃ tv, PE X (.Name x p) (tC tv) ∧ ClsV tv (.type n) := fun {y n} hm hv he => by
          have := eq_of_beq he
          subst this
          exact ⟨.ty n, pe_bltn (k.gl h1) (k.blt0 hm) hv rfl n3 n1, .ty n⟩
        repeat' split at h
        all_goals first
          | (cases h; done)
          | (cases h; rename_i he; exact bt (by decide) (by decide +kernel) he)
    · cases h
  · cases h
theorem kwOk_succ {q0 : Str} {ps ks : List Str} {n : Nat} (h : kwOk ps n ks = true) : kwOk (q0 :: ps) (n + 1) ks = true := by
  simp only [kwOk, Bool.and_eq_true, decide_eq_true_eq, List.drop_succ_cons, List.length_cons] at h ⊢
  obtain ⟨⟨⟨h1, h2⟩, h3⟩, h4⟩ := h
  exact ⟨⟨⟨by omega, h2⟩, h3⟩, h4⟩
theorem rangeArgs (S : Snd G m L T rec) (k : CtxOk X G E m L T Γ) {a : Expr} {kc : ItK × Cd} (h : cIter rec Γ false a = some kc) (hk : isRng kc.1 = true) : PRg X a (tRg X.K G E m kc.1 kc.2) := by
  unfold cIter at h
  split at h
  · split at h
    · rename_i hc
      simp only [Bool.and_eq_true] at hc
      obtain ⟨⟨h1, h2⟩, h3⟩ := hc
      have := eq_of_beq h3
      subst this
      obtain ⟨c, hc, rfl⟩ := Option.map_eq_some_iff.mp h
      exact sR_1 (k.gl h1) (k.blt0 (by decide)) (S.pl hc k) h2
    · split at h
      · rename_i hc
        simp at hc
      · obtain ⟨c, hc, rfl⟩ := Option.map_eq_some_iff.mp h
        cases hk
  · split at h
    · rename_i hc
      simp only [Bool.and_eq_true] at hc
      obtain ⟨⟨⟨h1, h2⟩, h2'⟩, h3⟩ := hc
      have := eq_of_beq h3
      subst this
      obtain ⟨c, hc, h5⟩ := Option.bind_eq_some_iff.mp h
      obtain ⟨d, hd, rfl⟩ := Option.map_eq_some_iff.mp h5
      exact sR_2 (k.gl h1) (k.blt0 (by decide)) (S.pl hc k) (S.pl hd k) h2 h2'
    · split at h
      · rename_i hc
        simp at hc
      · obtain ⟨c, hc, rfl⟩ := Option.map_eq_some_iff.mp h
        cases hk
  · split at h
    · obtain ⟨c, hc, rfl⟩ := Option.map_eq_some_iff.mp h
      cases hk
    · cases h
theorem plainArgs (S : Snd G m L T rec) (k : CtxOk X G E m L T Γ) {a : Expr} {kc : ItK × Cd} (h : cIter rec Γ false a = some kc) (hk : kc.1 = .plain) : ∃ c, kc = (.plain, .cons c .nil) ∧ PE X a (tC' X G E m false c) := by
  have fin : ∀ {a : Expr}, (rec Γ a).map (fun c => (ItK.plain, Cd.cons c .nil)) = some kc → ∃ c, kc = (.plain, .cons c .nil) ∧ PE X a (tC' X G E m false c) := fun {a} q => by
    obtain ⟨c, hc, rfl⟩ := Option.map_eq_some_iff.mp q
    exact ⟨c, rfl, S.pl hc k⟩
  unfold cIter at h
  split at h
  · split at h
    · obtain ⟨c, hc, rfl⟩ := Option.map_eq_some_iff.mp h
      cases hk
    · split at h
      · obtain ⟨c, hc, rfl⟩ := Option.map_eq_some_iff.mp h
        cases hk
      · exact fin h
  · split at h
    · obtain ⟨c, hc, h5⟩ := Option.bind_eq_some_iff.mp h
      obtain ⟨d, hd, rfl⟩ := Option.map_eq_some_iff.mp h5
      cases hk
    · split at h
      · obtain ⟨c, hc, h5⟩ := Option.bind_eq_some_iff.mp h
        obtain ⟨d, hd, rfl⟩ := Option.map_eq_some_iff.mp h5
        cases hk
      · exact fin h
  · split at h
    · exact fin h
    · cases h
theorem sTupList (S : Snd G m L T rec) (k : CtxOk X G E m L T Γ) {f : Str} {a : Expr} {p pos : Pos} {kc : ItK × Cd} (hg : gloB Γ.sc f = true) (hf : f = ("tuple" : Str) ∨ f = ("list" : Str)) (hs : notStar a = true) (h : cIter rec Γ false a = some kc) (hk : (kc.1 == .plain || isRng kc.1) = true) :
    PE X (.Call (.Name f p) [a] [] pos) (tC' X G E m (isF (if f == ("tuple" : Str) then .seqT kc.1 kc.2 else .seqL kc.1 kc.2)) (if f == ("tuple" : Str) then .seqT kc.1 kc.2 else .seqL kc.1 kc.2)) := by
  have hgl := k.gl hg
  rw [Bool.or_eq_true] at hk
  rcases hf with rfl | rfl
  · rw [if_pos (by decide)]
    rcases hk with hk | hk
    · obtain ⟨c, rfl, hc⟩ := plainArgs S k h (by simpa using hk)
      exact sE_tupleOf hgl (k.blt0 (by decide)) hc hs
    · exact sE_tupRg hk k.calm hgl (k.blt0 (by decide)) (rangeArgs S k h hk) hs
  · rw [if_neg (by decide)]
    rcases hk with hk | hk
    · obtain ⟨c, rfl, hc⟩ := plainArgs S k h (by simpa using hk)
      exact sE_listOf hgl (k.blt0 (by decide)) hc hs
    · exact sE_listRg hk k.calm hgl (k.blt0 (by decide)) (rangeArgs S k h hk) hs
theorem setArg_some {e b : Expr} (h : setArg Γ e = some b) : ∃ p q, e = .Call (.Name "set" p) [b] [] q ∧ gloB Γ.sc ("set" : Str) = true ∧ notStar b = true := by
  unfold setArg at h
  split at h
  · split at h
    · rename_i hc
      simp only [Bool.and_eq_true] at hc
      obtain ⟨⟨h1, h2⟩, h3⟩ := hc
      have := eq_of_beq h3
      subst this
      cases h
      exact ⟨_, _, rfl, h1, h2⟩
    · cases h
  · cases h
theorem sSorted (S : Snd G m L T rec) (k : CtxOk X G E m L T Γ) {args : List Expr} {p pos : Pos} {c : Cd} (hg : gloB Γ.sc ("sorted" : Str) = true) (h : cSorted rec Γ args = some c) : PE X (.Call (.Name "sorted" p) args [] pos) (tC' X G E m (isF c) c) := by
  unfold cSorted at h
  split at h
  · rename_i a
    split at h
    · rename_i hs
      split at h
      · rename_i b hb
        obtain ⟨p2, q2, rfl, h2, h3⟩ := setArg_some hb
        obtain ⟨c', hc', rfl⟩ := Option.map_eq_some_iff.mp h
        exact sE_sortSet k.calm (k.gl hg) (k.blt0 (by decide)) (k.gl h2) (k.blt0 (by decide)) (S.pl hc' k) h3
      · obtain ⟨c', hc', rfl⟩ := Option.map_eq_some_iff.mp h
        exact sE_sorted (k.gl hg) (k.blt0 (by decide)) (S.pl hc' k) hs
    · cases h
  · cases h
theorem sCall (S : Snd G m L T rec) (k : CtxOk X G E m L T Γ) {f : Str} {args : List Expr} {kws : List Keyword} {p pos : Pos} {c : Cd} (h : cCall rec T Γ f args kws = some c) : PE X (.Call (.Name f p) args kws pos) (tC' X G E m (isF c) c) := by
  unfold cCall at h
  split at h
  · rename_i hg
    rw [Bool.and_eq_true] at hg
    obtain ⟨h1, h2⟩ := hg
    obtain ⟨n1, n2, n3⟩ := nmOk_all h2
    have hgl := k.gl h1
    split at h
    · split at h
      · rename_i hf
        have := eq_of_beq hf
        subst this
        split at h
        · rename_i a t
          split at h
          · rename_i hs
            rw [Bool.and_eq_true] at hs
            obtain ⟨x, hx, h3⟩ := Option.bind_eq_some_iff.mp h
            obtain ⟨ty, hty, rfl⟩ := Option.map_eq_some_iff.mp h3
            obtain ⟨tv, t1, t2⟩ := sTy k hty
            exact sE_isa rfl k.glo.isa hgl (k.blt0 (by decide)) (S.pl hx k) t1 t2 hs.1 hs.2
          · cases h
        · cases h
      · split at h
        · rename_i hf
          split at h
          · rename_i a
            split at h
            · rename_i hs
              obtain ⟨kc, hk, h3⟩ := Option.bind_eq_some_iff.mp h
              split at h3
              · rename_i hkind
                cases h3
                exact sTupList S k h1 (by simpa using hf) hs hk hkind
              · cases h3
            · cases h
          · cases h
        · split at h
          case isTrue hf =>
            have := eq_of_beq hf
            subst this
            exact sSorted S k h1 h
          split at h
          case isTrue hf =>
            have := eq_of_beq hf
            subst this
            split at h
            · rename_i a
              split at h
              · rename_i hl
                rw [Bool.and_eq_true] at hl
                obtain ⟨c', hc', rfl⟩ := Option.map_eq_some_iff.mp h
                exact sE_rp (k.gd hl.1) k.un hgl (k.blt0 (by simp)) (sA_cons (S.pl hc' k) sA_nil hl.2) hl.2
              · cases h
            · cases h
          split at h
          · rename_i hf
            have := eq_of_beq hf
            subst this
            split at h
            · rename_i body scope lp
              split at h
              · rename_i hl
                rw [Bool.and_eq_true] at hl
                obtain ⟨cb, hcb, rfl⟩ := Option.map_eq_some_iff.mp h
                obtain ⟨l1, ⟨cf⟩, cc, P, t1, t2, t3, t4⟩ := k.lam hl.1
                obtain ⟨g, CS, e, sg, pg, dV, kV, doc, pm, cdv, ct, oc, an, od, osl, k0, p1, p2, p3, p4, p5, p6, p7, p8, p9, p10, p11, p12, p13, p14, fd, rfl, c1, c2, c3, c4, c5, c6, c7, c8, c9, c10, c11, c12, c13⟩ := cf.resolve_left fun z => by rw [z] at t3; cases t3
                exact sE_caught rfl hgl c1 c2 c3 c4 c5 c6 c7 c8 c9 c10 c11 c12 t1 t2 t3 t4 l1 (by rw [k.sc]; exact LamX.lamS_by hl.2) rfl (fun _ _ _ _ _ => rfl) c13 fun A outer s H E' f c' hr => S.pl hcb (k.lamC A outer s H E' f c' hr)
              · cases h
            · cases h
          · split at h
            · rename_i b hb
              split at h
              · cases h
              · rename_i hne
                obtain ⟨a, ha, rfl⟩ := Option.map_eq_some_iff.mp h
                obtain ⟨a1, a2⟩ := sArgs S k ha
                have := bltOf_name hb
                subst this
                cases args with
                | nil => exact absurd rfl hne
                | cons e es => exact sE_blt k.calm hgl (k.blt0 (by cases b <;> decide)) a1 a2
            · split at h
              · rename_i i ps hfn
                obtain ⟨a, ha, rfl⟩ := Option.map_eq_some_iff.mp h
                obtain ⟨a1, a2⟩ := sArgs S k ha
                obtain ⟨fa, fd, g1, g2, g3, g4⟩ := k.glo.fn f i ps hfn
                cases args with
                | nil =>
                  cases ha
                  exact sE_call0 g4 (k.room.mono (Nat.le_succ _)) hgl g1 g2 g3.binds k.pass n1
                | cons e es => exact sE_call g4 (k.room.mono (Nat.le_succ _)) hgl g1 g2 g3.binds k.pass a1 a2 n1
              · split at h
                · rename_i i ps hcl
                  obtain ⟨a, ha, rfl⟩ := Option.map_eq_some_iff.mp h
                  obtain ⟨a1, a2⟩ := sArgs S k ha
                  obtain ⟨fa, fd, q0, g1, g2, g3, g4⟩ := k.glo.cl f i ps hcl
                  cases args with
                  | nil =>
                    cases ha
                    exact sE_mk0 k.glo.mkk g2 g4 k.room hgl g1 g3.binds k.pass n1
                  | cons e es => exact sE_mk k.glo.mkk g2 g4 k.room hgl g1 g3.binds k.pass a1 a2 n1
                · cases h
    · rename_i hk0
      split at h
      · rename_i hall
        split at h
        · rename_i i ps hfn
          split at h
          · rename_i hkw
            obtain ⟨a, ha, h3⟩ := Option.bind_eq_some_iff.mp h
            obtain ⟨b, hb, rfl⟩ := Option.map_eq_some_iff.mp h3
            obtain ⟨a1, a2⟩ := sArgs S k ha
            have b1 := sKws S k hb
            obtain ⟨fa, fd, g1, g2, g3, g4⟩ := k.glo.fn f i ps hfn
            cases args with
            | nil =>
              cases ha
              exact sE_callN0 g4 g3 (k.room.mono (Nat.le_succ _)) hgl g1 g2 k.pass b1 n1 hkw hall rfl rfl
            | cons e es => exact sE_callN g4 g3 (k.room.mono (Nat.le_succ _)) hgl g1 g2 k.pass a1 b1 a2 n1 hkw hall rfl rfl
          · cases h
        · split at h
          · rename_i i ps hcl
            split at h
            · rename_i hkw
              obtain ⟨a, ha, h3⟩ := Option.bind_eq_some_iff.mp h
              obtain ⟨b, hb, rfl⟩ := Option.map_eq_some_iff.mp h3
              obtain ⟨a1, a2⟩ := sArgs S k ha
              have b1 := sKws S k hb
              obtain ⟨fa, fd, q0, g1, g2, g3, g4⟩ := k.glo.cl f i ps hcl
              cases args with
              | nil =>
                cases ha
                exact sE_mkN0 k.glo.mkk g2 g4 g3 k.room hgl g1 k.pass b1 n1 (kwOk_succ hkw) hall rfl rfl
              | cons e es => exact sE_mkN k.glo.mkk g2 g4 g3 k.room hgl g1 k.pass a1 b1 a2 n1 (kwOk_succ hkw) hall rfl rfl
            · cases h
          · cases h
      · cases h
  · cases h
end
end Fw

/-! FwS: expressions are translated soundly. -/
namespace Fw
open PySem L2 PyProof.Rows
section
variable {X : Cx} {G : Gh} {E : XK} {m : Mod} {L : Nat} {T : Tab} {Γ : Ctx} {rec : Rec}
theorem mark0 {op : CmpOp} {b : Expr} (h : notSet b = true) : behindInMarks op b = false := by
  cases b <;> first
    | (cases h; done)
    | rfl
theorem attr0 {a : Expr} {f : Str} (h : notCall0 a = true) (env : Env) (w : Sem Value) : attributeBase a f env w = w := by
  unfold attributeBase
  split
  · cases h
  · rfl
theorem sOpt (S : Snd G m L T rec) (k : CtxOk X G E m L T Γ) {o : Option Expr} {c : Cd} (h : cOpt rec Γ o = some c) : PO X o (tO X.K G E m o.isSome c) := by
  cases o with
  | none => exact sO_none
  | some e => exact sO_some (S.pl h k)
/-- the two parts of the claim, at one tree -/
def Both (X : Cx) (G : Gh) (E : XK) (m : Mod) (e : Expr) (c : Cd) : Prop := PE X e (tC' X G E m (isF c) c) ∧ PT X e (tT X.K G E (evE m c))
theorem both_val {e : Expr} {c : Cd} (h : PE X e (tC' X G E m (isF c) c)) (he : ∀ whole, isTrue e X.env whole = (do let v ← whole; standAt e.pos; holding [v] (truthy v))) : Both X G E m e c := ⟨h, sT_val (plainOf h) he⟩
theorem s1 (S : Snd G m L T rec) (k : CtxOk X G E m L T Γ) {e : Expr} {c : Cd} (h : c1 rec T Γ e = some c) : Both X G E m e c := by
  unfold c1 at h
  split at h
  · cases h
    exact both_val (sE_lit pe_non fun _ => .non) fun _ => rfl
  · cases h
    exact both_val (sE_lit pe_bl fun _ => .bl _) fun _ => rfl
  · cases h
    exact both_val (sE_lit pe_int fun _ => .int _) fun _ => rfl
  · split at h
    · rename_i hs
      cases h
      exact both_val (sE_lit pe_str fun _ => .str _ hs) fun _ => rfl
    · cases h
  · split at h
    · rename_i hn
      obtain ⟨n1, n2, n3⟩ := nmOk_all hn
      split at h
      · rename_i hv
        obtain ⟨i, hi, rfl⟩ := Option.map_eq_some_iff.mp h
        exact both_val (sE_var (k.ix hi) (k.vis hv) n1 n2) fun _ => rfl
      · split at h
        · rename_i hg
          obtain ⟨d, hd, rfl⟩ := Option.map_eq_some_iff.mp h
          obtain ⟨v, u, q1, q2, q3⟩ := k.glo.gl _ d hd
          exact both_val (sE_lit (pe_glob (k.gl hg) q1 q2 n1) q3) fun _ => rfl
        · cases h
    · cases h
  · obtain ⟨a, ha, rfl⟩ := Option.map_eq_some_iff.mp h
    exact both_val (sE_tup (sArgs S k ha).1) fun _ => rfl
  · obtain ⟨a, ha, rfl⟩ := Option.map_eq_some_iff.mp h
    exact both_val (sE_lst (sArgs S k ha).1) fun _ => rfl
  · cases h
    refine both_val (pe_dnewK.weak fun σ H Q ⟨Hs, en, s, ok, r, p⟩ q n => ?_) fun _ => rfl
    exact (show PV X.K G false Hs H (.dic [] []) s Q from p) (.ref q) (upd Hs q (.dK [])) _ (Sub.upd (ok.free n)) (ok.add n fun ps z => by cases z) (Kp.add n) (.dicE upd_same)
  · obtain ⟨o, ho, h1⟩ := Option.bind_eq_some_iff.mp h
    obtain ⟨x, hx, h2⟩ := Option.bind_eq_some_iff.mp h1
    obtain ⟨y, hy, rfl⟩ := Option.map_eq_some_iff.mp h2
    exact both_val (sE_bin (opOf_eq ho) (S.pl hx k) (S.pl hy k)) fun _ => rfl
  · obtain ⟨a, ha, rfl⟩ := Option.map_eq_some_iff.mp h
    exact both_val (sE_neg (S.pl ha k)) fun _ => rfl
  · obtain ⟨a, ha, rfl⟩ := Option.map_eq_some_iff.mp h
    exact ⟨sE_not (S.pl ha k), sT_not (S.pt _ _ _ ha X E k)⟩
  · obtain ⟨q1, q2⟩ := sAnd S k h
    exact ⟨q1, q2.pt⟩
  · obtain ⟨q1, q2⟩ := sOr S k h
    exact ⟨q1, q2.pt⟩
  · split at h
    · rename_i hk
      have := eq_of_beq hk
      subst this
      obtain ⟨a, ha, rfl⟩ := Option.map_eq_some_iff.mp h
      exact ⟨sE_stE k.un (S.pl ha k), sT_stE k.un (S.pl ha k)⟩
    · cases h
  · split at h
    · rename_i hs
      obtain ⟨x, hx, h2⟩ := Option.bind_eq_some_iff.mp h
      obtain ⟨y, hy, rfl⟩ := Option.map_eq_some_iff.mp h2
      exact ⟨sE_cmp (cpOf_eq _) k.eq k.un (S.pl hx k) (S.pl hy k) (mark0 hs), sT_cmp (cpOf_eq _) k.eq k.un (S.pl hx k) (S.pl hy k) (mark0 hs)⟩
    · cases h
  · split at h
    · rename_i hs
      obtain ⟨x, hx, h1⟩ := Option.bind_eq_some_iff.mp h
      obtain ⟨y, hy, h2⟩ := Option.bind_eq_some_iff.mp h1
      obtain ⟨z, hz, rfl⟩ := Option.map_eq_some_iff.mp h2
      exact ⟨sE_chain (cpOf_eq _) (cpOf_eq _) k.un (S.pl hx k) (S.pl hy k) (S.pl hz k) (mark0 hs), sT_chain (cpOf_eq _) (cpOf_eq _) k.un (S.pl hx k) (S.pl hy k) (S.pl hz k) (mark0 hs)⟩
    · cases h
  · obtain ⟨x, hx, h1⟩ := Option.bind_eq_some_iff.mp h
    obtain ⟨y, hy, h2⟩ := Option.bind_eq_some_iff.mp h1
    obtain ⟨z, hz, rfl⟩ := Option.map_eq_some_iff.mp h2
    exact ⟨sE_ite (S.pt _ _ _ hx X E k) (S.pl hy k) (S.pl hz k), sT_ite (S.pt _ _ _ hx X E k) (S.pt _ _ _ hy X E k) (S.pt _ _ _ hz X E k)⟩
  · split at h
    · rename_i hk
      have := eq_of_beq hk
      subst this
      obtain ⟨a, ha, rfl⟩ := Option.map_eq_some_iff.mp h
      exact both_val (sE_stI (k := 0) k.un (S.pl ha k)) fun _ => rfl
    · split at h
      · rename_i hk
        have := eq_of_beq hk
        subst this
        obtain ⟨a, ha, rfl⟩ := Option.map_eq_some_iff.mp h
        exact both_val (sE_stI (k := 1) k.un (S.pl ha k)) fun _ => rfl
      · split at h
        · rename_i hk
          have := eq_of_beq hk
          subst this
          obtain ⟨a, ha, rfl⟩ := Option.map_eq_some_iff.mp h
          exact both_val (sE_stC k.un (S.pl ha k)) fun _ => rfl
        · cases h
  · obtain ⟨x, hx, rfl⟩ := Option.map_eq_some_iff.mp h
    exact both_val (sE_rev (S.pl hx k)) fun _ => rfl
  · obtain ⟨x, hx, h1⟩ := Option.bind_eq_some_iff.mp h
    obtain ⟨y, hy, h2⟩ := Option.bind_eq_some_iff.mp h1
    obtain ⟨z, hz, rfl⟩ := Option.map_eq_some_iff.mp h2
    exact both_val (sE_slc (S.pl hx k) (sOpt S k hy) (sOpt S k hz)) fun _ => rfl
  · split at h
    · rename_i hs
      obtain ⟨x, hx, h2⟩ := Option.bind_eq_some_iff.mp h
      obtain ⟨y, hy, rfl⟩ := Option.map_eq_some_iff.mp h2
      exact both_val (sE_idx (S.pl hx k) (S.pl hy k) hs) fun _ => rfl
    · cases h
  · split at h
    · rename_i hs
      obtain ⟨x, hx, h2⟩ := Option.bind_eq_some_iff.mp h
      obtain ⟨i, hi, rfl⟩ := Option.map_eq_some_iff.mp h2
      exact both_val (sE_fld (k.glo.fld X i _ rfl (idx_get hi)) (attr0 hs _ _) (S.pl hx k)) fun _ => rfl
    · cases h
  · split at h
    · rename_i hk
      simp only [Bool.and_eq_true] at hk
      obtain ⟨⟨h1, h2⟩, h3⟩ := hk
      have := eq_of_beq h1
      subst this
      have := eq_of_beq h2
      subst this
      obtain ⟨a, ha, rfl⟩ := Option.map_eq_some_iff.mp h
      exact both_val (sE_stP h3 k.un (S.pl ha k)) fun _ => rfl
    · cases h
  · exact both_val (sCall S k h) fun _ => rfl
  · exact both_val (sComp S k h) fun _ => rfl
  · cases h
end
theorem sndE {G : Gh} {m : Mod} {L : Nat} {T : Tab} : ∀ n, Snd G m L T (compE T n)
  | 0 => ⟨fun Γ e c h => (nomatch h), fun Γ e c h => (nomatch h)⟩
  | n + 1 => ⟨fun _ _ _ h X E k => (s1 (sndE n) k h).1, fun _ _ _ h X E k => (s1 (sndE n) k h).2⟩
end Fw

/-! FwT: statements are translated soundly. -/
namespace Fw
open PySem L2 PyProof.Rows

def cvars : Cd → List Nat
  | .var i => [i]
  | .lit _ => [] | .nil => []
  | .cons a b => cvars a ++ cvars b
  | .tup a => cvars a | .lst a => cvars a
  | .bin _ a b => cvars a ++ cvars b
  | .cmp _ a b => cvars a ++ cvars b
  | .chain _ _ a b c => cvars a ++ cvars b ++ cvars c
  | .and a b => cvars a ++ cvars b | .or a b => cvars a ++ cvars b
  | .not a => cvars a | .neg a => cvars a
  | .ite c a b => cvars c ++ cvars a ++ cvars b
  | .idx a b => cvars a ++ cvars b
  | .slc _ _ a b c => cvars a ++ cvars b ++ cvars c
  | .rev a => cvars a | .rp a => cvars a | .blt _ a => cvars a | .seqT _ a => cvars a | .seqL _ a => cvars a
  | .perm _ _ _ a b => cvars a ++ cvars b
  | .call _ a => cvars a | .mk _ a => cvars a | .fld a _ => cvars a | .isa a _ => cvars a | .caught a => cvars a
  | .stI _ a => cvars a | .stC a => cvars a | .stE a => cvars a | .stP a => cvars a
  | .comp _ s _ _ c e => cvars s ++ cvars c ++ cvars e
  | .comp2 _ s _ _ c _ s2 _ c2 e => cvars s ++ cvars c ++ cvars s2 ++ cvars c2 ++ cvars e
/-- the changed lists that are named -/
def menOf (Γ : Ctx) (c : Cd) : List Nat := ((cvars c).filter fun i => Γ.mu.contains i).eraseDups
def isComp : Expr → Bool
  | .ListComp _ _ _ _ => true | .SetComp _ _ _ _ => true | .DictComp _ _ _ _ _ => true | _ => false
def notTup : Expr → Bool
  | .Tuple _ _ _ => false | _ => true
def starB : Expr → Bool
  | .Starred _ _ => true | _ => false
def blkOf (sc : Scope) : ScopeKind := if sc.kind.isAnnotationScope then .function else sc.kind
/-- names that are stored from the right -/
def swOf (sc : Scope) (ts vs : List Expr) : Option (Option (List Str)) :=
  if (!(ts.length == 2 || ts.length == 3) || vs.length != ts.length || blkOf sc != .function) = true then some none
  else if (vs.any starB) = true then some none
  else
    let names := ts.filterMap fun
      | .Name id pos => if (sc.names.lookup id == some .local && pos.line == (ts.head?.map (·.pos.line)).getD 0) = true then some id else none
      | _ => none
    if (names.length != ts.length || names.eraseDups.length != names.length) = true then some none
    else if (vs.all (foldedForSure 8)) = true then some none
    else if (vs.all (constantsAlone 8)) = true then none
    else some (some names)
theorem sw_eq {env : Env} {ts vs : List Expr} {k k2 : Nat} {p p2 : Pos} {r : Option (List Str)} (h : swOf env.scope ts vs = some r) : swappedStores [.Tuple ts k p] (.Tuple vs k2 p2) env = pure r := by
  have e : swappedStores [.Tuple ts k p] (.Tuple vs k2 p2) env = (if (!(ts.length == 2 || ts.length == 3) || vs.length != ts.length || blkOf env.scope != .function) = true then pure none
      else if (vs.any starB) = true then pure none
      else
        let names := ts.filterMap fun
          | .Name id pos => if (env.scope.names.lookup id == some .local && pos.line == (ts.head?.map (·.pos.line)).getD 0) = true then some id else none
          | _ => none
        if (names.length != ts.length || names.eraseDups.length != names.length) = true then pure none
        else if (vs.all (foldedForSure 8)) = true then pure none
        else if (vs.all (constantsAlone 8)) = true then (do unsupported "assign.tuple-of-constant-expressions:order-of-the-stores"; pure (some names))
        else pure (some names)) := by
    unfold swappedStores
    have hst : (vs.any fun | .Starred .. => true | _ => false) = vs.any starB := by
      congr 1
    simp only [pure_bind, hst]
    rfl
  rw [e]
  unfold swOf at h
  split at h
  · rename_i h1
    cases h
    rw [if_pos h1]
  · rename_i h1
    rw [if_neg h1]
    split at h
    · rename_i h2
      cases h
      rw [if_pos h2]
    · rename_i h2
      rw [if_neg h2]
      simp only at h ⊢
      split at h
      · rename_i h3
        cases h
        rw [if_pos h3]
      · rename_i h3
        rw [if_neg h3]
        split at h
        · rename_i h4
          cases h
          rw [if_pos h4]
        · rename_i h4
          rw [if_neg h4]
          split at h
          · cases h
          · rename_i h5
            cases h
            rw [if_neg h5]
abbrev RecS := Ctx → List Stmt → Option Sd
/-- names in a row, their values; true: a changed list takes a new one -/
def cRow (rec : Rec) (Γ : Ctx) : List Expr → List Expr → Option (List (Nat × Bool) × Cd)
  | [], [] => some ([], .nil)
  | .Name x _ :: ts, v :: vs => if stoB Γ x && notStar v then (Γ.N.idxOf? x).bind fun i => (rec Γ v).bind fun c => (cRow rec Γ ts vs).bind fun r =>
      if Γ.mu.contains i then (if isF c then some ((i, true) :: r.1, .cons c r.2) else none) else some ((i, false) :: r.1, .cons c r.2) else none
  | _, _ => none
def locB (sc : Scope) (x : Str) : Bool := decide (sc.names.lookup x = some .local)
def cRows (rec : Rec) (Γ : Ctx) (ts : List Expr) (k : Nat) (q : Pos) (vs : List Expr) : Option Sd :=
  (cRow rec Γ ts vs).bind fun r => if (menOf Γ r.2).isEmpty && decide (r.1.length < 1000) then (match swOf Γ.sc ts vs with
    | some none => (cPat 6 Γ (.Tuple ts k q)).bind fun pt => if decide (patIs pt = some (r.1.map (·.1))) then some (.asgP r.1 r.2) else none
    | some (some ns) => (match ts with
      | [.Name x _, .Name y _] => if decide (ns = [x, y]) && (locB Γ.sc x && (locB Γ.sc y && decide (r.1.map (·.1)).Nodup)) then some (.asgP r.1 r.2) else none
      | [.Name x _, .Name y _, .Name z _] => if decide (ns = [x, y, z]) && (locB Γ.sc x && (locB Γ.sc y && (locB Γ.sc z && decide (r.1.map (·.1)).Nodup))) then some (.asgP r.1 r.2) else none
      | _ => none)
    | none => none) else none
/-- does one of them change -/
def muT (Γ : Ctx) (ts : List Expr) : Bool := ts.any fun
  | .Name x _ => (match Γ.N.idxOf? x with
    | some i => Γ.mu.contains i
    | none => false)
  | _ => false
def rowB (Γ : Ctx) (ts vs : List Expr) : Bool := muT Γ ts || (ts.length == 3 && match swOf Γ.sc ts vs with
  | some (some _) => true
  | _ => false)
/-! ### rows of lambdas -/
def rowOf : Expr → Option Row
  | .Tuple [.Lambda ⟨[], [], none, [], [], none, []⟩ bd sc p1, .Constant (.str s) k p2] k2 p3 => some ⟨bd, sc, s, k, k2, p1, p2, p3⟩
  | _ => none
theorem rowOf_eq {e : Expr} {r : Row} (h : rowOf e = some r) : e = r.e := by
  unfold rowOf at h
  split at h
  · cases h
    rfl
  · cases h
def rowsOf : List Expr → Option (List Row)
  | [] => some []
  | e :: es => (rowOf e).bind fun r => (rowsOf es).map fun rs => r :: rs
theorem rowsOf_eq : ∀ {es : List Expr} {rs : List Row}, rowsOf es = some rs → es = rs.map Row.e
  | [], rs, h => by
    cases h
    rfl
  | e :: es, rs, h => by
    obtain ⟨r, h1, h2⟩ := Option.bind_eq_some_iff.mp h
    obtain ⟨rs', h3, rfl⟩ := Option.map_eq_some_iff.mp h2
    rw [rowOf_eq h1, rowsOf_eq h3]
    rfl
/-- the loop's body, for one row: if K(_law_caught(work)) != ..: return .. -/
def cRowB (rec : Rec) (recS : RecS) (T : Tab) (Γ : Ctx) (xw : Str) (r : Row) : List Stmt → Option Sd
  | [.If (.Compare (.Call (.Name kf _) [.Call (.Name cf _) [.Name y _] [] _] [] _) [op] [rhs] _) sa [] _] =>
    if (gloB Γ.sc kf && (nmOk kf && (gloB Γ.sc cf && (cf == ("_law_caught" : Str) && (y == xw && (visB Γ.sc y && (nmOk y && (Γ.lam && (LamX.lamSB Γ.sc r.sc && notSet rhs))))))))) = true then
      match T.fn.lookup kf with
      | some (i, _) => (rec { Γ with sc := r.sc, raw := some noScope, lam := false, grd := false } r.bd).bind fun cb => (rec Γ rhs).bind fun cr => (recS Γ sa).bind fun s1 =>
          if isIf (.seq (.ite (.cmp (cpOf op) (.call i (.cons (.caught cb) .nil)) cr) s1 .skip (menOf Γ cr)) .skip) then some (.seq (.ite (.cmp (cpOf op) (.call i (.cons (.caught cb) .nil)) cr) s1 .skip (menOf Γ cr)) .skip) else none
      | none => none
    else none
  | _ => none
def cRowL (rec : Rec) (recS : RecS) (T : Tab) (Γ : Ctx) (xw : Str) (body : List Stmt) : List Row → Option (List (Row × Sd))
  | [] => some []
  | r :: rs => if PyData.strOk r.s then (cRowB rec recS T Γ xw r body).bind fun b => (cRowL rec recS T Γ xw body rs).map fun is => (r, b) :: is else none
def cRowF (rec : Rec) (recS : RecS) (T : Tab) (Γ : Ctx) (xw xd : Str) (pw pd : Pos) (kt : Nat) (pt : Pos) (es : List Expr) (body : List Stmt) : Option Sd :=
  (rowsOf es).bind fun rs => (cPat 6 Γ (.Tuple [.Name xw pw, .Name xd pd] kt pt)).bind fun p => (Γ.N.idxOf? xw).bind fun j => (Γ.N.idxOf? xd).bind fun d => (cRowL rec recS T Γ xw body rs).bind fun is =>
    if (p == .tcons (.v j) (.tcons (.v d) .tnil) && (!(j == d) && (Γ.lam && decide (is.length ≤ 1000)))) = true then some (codeRows j d is) else none
def cFor (rec : Rec) (recS : RecS) (Γ : Ctx) (tg it : Expr) (body : List Stmt) : Option Sd :=
  (cIter rec Γ (isTup tg) it).bind fun kc => (cPat 6 Γ tg).bind fun pt => if (pslots pt).all fun i => !Γ.mu.contains i then (recS Γ body).map fun b => .for_ kc.1 kc.2 pt b (menOf Γ kc.2) else none
/-- x.append(y.pop(e)) -/
def cPopA (rec : Rec) (Γ : Ctx) (i : Nat) : Expr → Option Sd
  | .Call (.Attribute (.Name y _) meth ap) [e] [] cp => if meth == ("pop" : Str) && visB Γ.sc y && nmOk y && notStar e && (ap.endLine == cp.line) then (Γ.N.idxOf? y).bind fun j => (rec Γ e).map fun c => .popA i j c (menOf Γ c) else none
  | _ => none
def cSt (rec : Rec) (recS : RecS) (T : Tab) (Γ : Ctx) (st : Stmt) : Option Sd := match st with
  | .Expr (.Constant (.str _) _ _) _ => some .skip
  | .Expr (.Call (.Attribute (.Name x _) meth ap) [a] [] cp) _ => if meth == ("append" : Str) && visB Γ.sc x && nmOk x && notStar a && (ap.endLine == cp.line) then (Γ.N.idxOf? x).bind fun i => (match cPopA rec Γ i a with
    | some d => some d
    | none => (rec Γ a).map fun c => .app i c (menOf Γ c)) else none
  | .Expr e _ => if isComp e then none else (rec Γ e).map fun c => .expr c (menOf Γ c)
  | .Assign [.Name x q] (.ListComp elt [⟨tg, iter, ifs, 0⟩] scope lp) p => if stoB Γ x then (Γ.N.idxOf? x).bind fun i => if decide (Γ.sc.names.lookup x = some .cell) then ((rec Γ (.ListComp elt [⟨tg, iter, ifs, 0⟩] scope lp)).bind fun c => if Γ.mu.contains i then (if isF c then some (.asgF i c (menOf Γ c)) else none) else some (.asg (.v i) c (menOf Γ c))) else (cComp rec Γ elt tg iter ifs scope).bind fun c =>
      if blkOf Γ.sc == .function && decide (Γ.sc.names.lookup x = some .local) && (q.line == lp.line) && !(scope.names.any fun (n, k) => n == x && (k == .local || k == .cell)) then some (if Γ.mu.contains i then .asgF i c (menOf Γ c) else .asg (.v i) c (menOf Γ c))
      else none else none
  | .Assign [.Name x _] v _ => if stoB Γ x && !isComp v then (Γ.N.idxOf? x).bind fun i => (rec Γ v).bind fun c => if Γ.mu.contains i then (if isF c then some (.asgF i c (menOf Γ c)) else none) else some (.asg (.v i) c (menOf Γ c)) else none
  | .Assign [.Tuple ts k q] (.Tuple vs _ _) _ => if rowB Γ ts vs then cRows rec Γ ts k q vs else (match swOf Γ.sc ts vs with
      | some none => (cPat 6 Γ (.Tuple ts k q)).bind fun pt => if (pslots pt).all fun i => !Γ.mu.contains i then (cArgs rec Γ vs).map fun c => .asg pt (.tup c) (menOf Γ c) else none
      | some (some ns) => (match ts, vs with
        | [.Name x _, .Name y _], [a, b] => if decide (ns = [x, y]) && decide (Γ.sc.names.lookup x = some .local) && decide (Γ.sc.names.lookup y = some .local) && notStar a && notStar b then (Γ.N.idxOf? x).bind fun i => (Γ.N.idxOf? y).bind fun j => if (i == j) || Γ.mu.contains i || Γ.mu.contains j then none else
            (rec Γ a).bind fun ca => (rec Γ b).map fun cb => .asg (.tcons (.v i) (.tcons (.v j) .tnil)) (.tup (.cons ca (.cons cb .nil))) (menOf Γ (.cons ca cb)) else none
        | _, _ => none)
      | none => none)
  | .Assign [.Tuple ts k q] v _ => if isComp v || !notTup v then none else (cPat 6 Γ (.Tuple ts k q)).bind fun pt => if (pslots pt).all fun i => !Γ.mu.contains i then (rec Γ v).map fun c => .asg pt c (menOf Γ c) else none
  | .Assign [.Subscript (.Name x _) (.Constant (.str kk) _ _) _] v _ => if visB Γ.sc x && nmOk x && !isComp v then (Γ.N.idxOf? x).bind fun i => (rec Γ v).bind fun c => if kk == ("left" : Str) then some (.stS 0 (.var i) c) else if kk == ("turn" : Str) then some (.stS 1 (.var i) c) else none else none
  | .Assign [.Subscript (.Name x _) ki _] v _ => if visB Γ.sc x && nmOk x && !isComp v && notSlice ki then (Γ.N.idxOf? x).bind fun i => (rec Γ v).bind fun c => (rec Γ ki).map fun d => .sto i c d (menOf Γ (.cons c d)) else none
  | .Assign [.Attribute (.Name x _) f _] v _ => if visB Γ.sc x && nmOk x && !isComp v && decide (Γ.N[0]? = some x) then (T.fl.idxOf? f).bind fun i => (rec Γ v).map fun c => .fldS i c else none
  | .If c a b _ => (rec Γ c).bind fun x => (recS Γ a).bind fun y => (recS Γ b).map fun z => .ite x y z (menOf Γ x)
  | .For (.Tuple [.Name xw pw, .Name xd pd] kt pt) (.List es lp) body [] _ => (match cRowF rec recS T Γ xw xd pw pd kt pt es body with
    | some s => some s
    | none => cFor rec recS Γ (.Tuple [.Name xw pw, .Name xd pd] kt pt) (.List es lp) body)
  | .For tg it body [] _ => cFor rec recS Γ tg it body
  | .While c body [] _ => (rec Γ c).bind fun x => (recS Γ body).map fun b => .whl x b (menOf Γ x)
  | .Return none _ => some (.ret (.lit .non) [])
  | .Return (some e) _ => (rec Γ e).map fun c => .ret c (menOf Γ c)
  | .Raise (some (.Call (.Name x _) [.Constant (.str _) _ _] [] _)) none _ => if gloB Γ.sc x then (T.rs.lookup x).map fun i => .raise i .nil else none
  | .Pass _ => some .skip
  | .Break _ => some .brk
  | .Continue _ => some .cnt
  | _ => none
def compS (T : Tab) (n : Nat) : Nat → RecS
  | 0, _, _ => none
  | k + 1, Γ, [] => some .skip
  | k + 1, Γ, s :: ss => (cSt (compE T n) (compS T n k) T Γ s).bind fun a => (compS T n k Γ ss).map fun b => .seq a b
end Fw

/-! FwU: statements: sound. -/
namespace Fw
open PySem L2 PyProof.Rows
/-- a def's own frame -/
structure StOk (X : Cx) (G : Gh) (E : XK) (m : Mod) (L : Nat) (T : Tab) (Γ : Ctx) : Prop where
  cx : CtxOk X G E m L T Γ
  tk : Takes X fun cls d _ H => E cls d H
  po : PassesOwn (model X.prog X.w) X.A X.env X.xe
  fun_ : X.env.scope.kind = .function
def SndS (G : Gh) (m : Mod) (L : Nat) (T : Tab) (w : Nat) (recS : RecS) : Prop := ∀ Γ ss s, recS Γ ss = some s → ∀ X E, StOk X G E m L T Γ → PSs X ss (tS X.K G E (evS m w s))
section
variable {X : Cx} {G : Gh} {E : XK} {m : Mod} {L : Nat} {T : Tab} {Γ : Ctx} {rec : Rec} {recS : RecS} {w : Nat}
theorem sw0 {e : Expr} (h : isComp e = false) (t : Option Expr) (l : Nat) (env : Env) : swapsWith e t l env = pure false := by
  cases e <;> first
    | (cases h; done)
    | rfl
theorem swT {e : Expr} (h : isComp e = false) (t : Expr) (l : Nat) (env : Env) : swapsWithSole [t] e l env = pure false := sw0 h _ _ _
theorem swN {ts : List Expr} {k : Nat} {p : Pos} {v : Expr} (h : notTup v = true) (env : Env) : swappedStores [.Tuple ts k p] v env = pure none := by
  cases v <;> first
    | (cases h; done)
    | rfl
theorem sw_cell {elt : Expr} {gs : List Comprehension} {scope : Scope} {lp py : Pos} {y : Str} {l : Nat} {env : Env} (hy : env.scope.names.lookup y = some .cell) : swapsWith (.ListComp elt gs scope lp) (some (.Name y py)) l env = pure false := by
  have ky : env.kindOf y = some .cell := hy
  unfold swapsWith
  simp only [ky]
  have e : ((some NameKind.cell : Option NameKind) == some .local) = false := rfl
  simp only [e, Bool.and_false, Bool.false_and]
theorem sRow (S : Snd G m L T rec) (k : CtxOk X G E m L T Γ) : ∀ {ts vs : List Expr} {r : List (Nat × Bool) × Cd}, cRow rec Γ ts vs = some r → PA X vs (tAF X.K G E (r.1.map (·.2)) (evE m r.2))
  | [], [], r, h => by
    cases h
    exact sF_nil
  | .Name x p :: ts, v :: vs, r, h => by
    unfold cRow at h
    split at h
    · rename_i hc
      rw [Bool.and_eq_true] at hc
      obtain ⟨i, hi, h1⟩ := Option.bind_eq_some_iff.mp h
      obtain ⟨c, hcc, h2⟩ := Option.bind_eq_some_iff.mp h1
      obtain ⟨r', hr', h3⟩ := Option.bind_eq_some_iff.mp h2
      have ih := sRow S k hr'
      split at h3
      · split at h3
        · rename_i hf
          cases h3
          have he := S.pe _ _ _ hcc X E k
          rw [hf] at he
          exact sF_cons he ih hc.2
        · cases h3
      · cases h3
        exact sF_cons (S.pl hcc k) ih hc.2
    · cases h
  | [], _ :: _, r, h => by simp [cRow] at h
  | .Name x p :: ts, [], r, h => by simp [cRow] at h
  | .BoolOp .. :: _, _, r, h => by simp [cRow] at h
  | .NamedExpr .. :: _, _, r, h => by simp [cRow] at h
  | .BinOp .. :: _, _, r, h => by simp [cRow] at h
  | .UnaryOp .. :: _, _, r, h => by simp [cRow] at h
  | .Lambda .. :: _, _, r, h => by simp [cRow] at h
  | .IfExp .. :: _, _, r, h => by simp [cRow] at h
  | .Dict .. :: _, _, r, h => by simp [cRow] at h
  | .Set .. :: _, _, r, h => by simp [cRow] at h
  | .ListComp .. :: _, _, r, h => by simp [cRow] at h
  | .SetComp .. :: _, _, r, h => by simp [cRow] at h
  | .DictComp .. :: _, _, r, h => by simp [cRow] at h
  | .GeneratorExp .. :: _, _, r, h => by simp [cRow] at h
  | .Await .. :: _, _, r, h => by simp [cRow] at h
  | .Yield .. :: _, _, r, h => by simp [cRow] at h
  | .YieldFrom .. :: _, _, r, h => by simp [cRow] at h
  | .Compare .. :: _, _, r, h => by simp [cRow] at h
  | .Call .. :: _, _, r, h => by simp [cRow] at h
  | .FormattedValue .. :: _, _, r, h => by simp [cRow] at h
  | .JoinedStr .. :: _, _, r, h => by simp [cRow] at h
  | .Constant .. :: _, _, r, h => by simp [cRow] at h
  | .Attribute .. :: _, _, r, h => by simp [cRow] at h
  | .Subscript .. :: _, _, r, h => by simp [cRow] at h
  | .Starred .. :: _, _, r, h => by simp [cRow] at h
  | .List .. :: _, _, r, h => by simp [cRow] at h
  | .Tuple .. :: _, _, r, h => by simp [cRow] at h
  | .Slice .. :: _, _, r, h => by simp [cRow] at h
theorem row_cons {x : Str} {p : Pos} {ts vs : List Expr} {r : List (Nat × Bool) × Cd} (h : cRow rec Γ (.Name x p :: ts) vs = some r) : ∃ v vs' i f c r', vs = v :: vs' ∧ Γ.N.idxOf? x = some i ∧ cRow rec Γ ts vs' = some r' ∧ r = ((i, f) :: r'.1, .cons c r'.2) := by
  cases vs with
  | nil => simp [cRow] at h
  | cons v vs =>
    unfold cRow at h
    split at h
    · obtain ⟨i, hi, h1⟩ := Option.bind_eq_some_iff.mp h
      obtain ⟨c, hcc, h2⟩ := Option.bind_eq_some_iff.mp h1
      obtain ⟨r', hr', h3⟩ := Option.bind_eq_some_iff.mp h2
      split at h3
      · split at h3
        · cases h3
          exact ⟨v, vs, i, true, c, r', rfl, hi, hr', rfl⟩
        · cases h3
      · cases h3
        exact ⟨v, vs, i, false, c, r', rfl, hi, hr', rfl⟩
    · cases h
theorem row_nil {vs : List Expr} {r : List (Nat × Bool) × Cd} (h : cRow rec Γ [] vs = some r) : vs = [] ∧ r = ([], .nil) := by
  cases vs with
  | nil =>
    cases h
    exact ⟨rfl, rfl⟩
  | cons v vs => simp [cRow] at h
theorem sRows (S : Snd G m L T rec) (k : StOk X G E m L T Γ) {ts vs : List Expr} {kk k2 : Nat} {q p2 pos : Pos} {s : Sd} (h : cRows rec Γ ts kk q vs = some s) : PS X (.Assign [.Tuple ts kk q] (.Tuple vs k2 p2) pos) (tS X.K G E (evS m w s)) := by
  have kc := k.cx
  have hNd : X.N.Nodup := by
    rw [kc.hN]
    exact kc.nd
  unfold cRows at h
  obtain ⟨r, hr, h1⟩ := Option.bind_eq_some_iff.mp h
  have ha := sRow S kc hr
  split at h1
  · rename_i hz
    rw [Bool.and_eq_true, decide_eq_true_eq] at hz
    split at h1
    · rename_i hsw
      obtain ⟨pt, hpt, h2⟩ := Option.bind_eq_some_iff.mp h1
      split at h2
      · rename_i hp
        cases h2
        exact sS_rowT ha (sPat kc hpt) (of_decide_eq_true hp) hz.2 (by rfl) (sw_eq (by rw [kc.sc]; exact hsw)) (by rfl)
      · cases h2
    · rename_i ns hsw
      split at h1
      · rename_i x px y py
        split at h1
        · rename_i hc
          cases h1
          simp only [Bool.and_eq_true, decide_eq_true_eq, locB] at hc
          obtain ⟨c1, c2, c3, c4⟩ := hc
          subst c1
          obtain ⟨v, vs', i, f, c, r', rfl, hi, hr', rfl⟩ := row_cons hr
          obtain ⟨v2, vs2, j, g, c', r2, rfl, hj, hr2, rfl⟩ := row_cons hr'
          obtain ⟨rfl, rfl⟩ := row_nil hr2
          have hij : i ≠ j := by
            simp at c4
            exact c4
          exact sS_row2 kc.calm hNd (kc.ix hi) (kc.ix hj) hij (by rw [kc.sc]; exact c2) (by rw [kc.sc]; exact c3) ha (sw_eq (by rw [kc.sc]; exact hsw))
        · cases h1
      · rename_i x px y py z pz
        split at h1
        · rename_i hc
          cases h1
          simp only [Bool.and_eq_true, decide_eq_true_eq, locB] at hc
          obtain ⟨c1, c2, c3, c5, c4⟩ := hc
          subst c1
          obtain ⟨v, vs', i, f, c, r', rfl, hi, hr', rfl⟩ := row_cons hr
          obtain ⟨v2, vs2, j, g, c', r2, rfl, hj, hr2, rfl⟩ := row_cons hr'
          obtain ⟨v3, vs3, l, o, c'', r3, rfl, hl, hr3, rfl⟩ := row_cons hr2
          obtain ⟨rfl, rfl⟩ := row_nil hr3
          have hd : (i ≠ j ∧ i ≠ l) ∧ j ≠ l := by
            simp at c4
            exact c4
          exact sS_row3 kc.calm hNd (kc.ix hi) (kc.ix hj) (kc.ix hl) hd.1.1 hd.1.2 hd.2 (by rw [kc.sc]; exact c2) (by rw [kc.sc]; exact c3) (by rw [kc.sc]; exact c5) ha (sw_eq (by rw [kc.sc]; exact hsw))
        · cases h1
      · cases h1
    · cases h1
  · cases h1
theorem sRowB (S : Snd G m L T rec) (SS : SndS G m L T w recS) (k : StOk X G E m L T Γ) {xw : Str} {j : Nat} {r : Row} {body : List Stmt} {b : Sd} (hj : Γ.N.idxOf? xw = some j) (h : cRowB rec recS T Γ xw r body = some b) :
    isIf b = true ∧ LamX.LamS X.env.scope r.sc ∧ PSs X body (gS (isKept X j r.bd r.sc) (tS X.K G E (evS m w b))) := by
  have kc := k.cx
  unfold cRowB at h
  split at h
  · rename_i kf p1 cf p2 y p3 p4 p5 op rhs p6 sa p7
    split at h
    · rename_i hcond
      simp only [Bool.and_eq_true] at hcond
      obtain ⟨h1, h2, h3, h4, h5, h6, h7, h8, h9, h10⟩ := hcond
      have e1 := eq_of_beq h4
      subst e1
      have e2 := eq_of_beq h5
      subst e2
      obtain ⟨n1, n2, n3⟩ := nmOk_all h2
      obtain ⟨y1, y2, y3⟩ := nmOk_all h7
      split at h
      · rename_i i ps hfn
        obtain ⟨cb, hcb, g1⟩ := Option.bind_eq_some_iff.mp h
        obtain ⟨cr, hcr, g2⟩ := Option.bind_eq_some_iff.mp g1
        obtain ⟨s1, hs1, g3⟩ := Option.bind_eq_some_iff.mp g2
        split at g3
        · rename_i hif
          cases g3
          have hL : LamX.LamS X.env.scope r.sc := by
            rw [kc.sc]
            exact LamX.lamS_by h9
          obtain ⟨l1, ⟨cf⟩, cc, P, t1, t2, t3, t4⟩ := kc.lam h8
          obtain ⟨g, CS, e, sg, pg, dV, kV, doc, pm, cdv, ct, oc, an, od, osl, k0, q1, q2, q3, q4, q5, q6, q7, q8, q9, q10, q11, q12, q13, q14, fd, rfl, c1, c2, c3, c4, c5, c6, c7, c8, c9, c10, c11, c12, c13⟩ := cf.resolve_left fun z => by rw [z] at t3; cases t3
          have hc := gE_caught (X := X) (G := G) (E := E) (m := m) (cb := cb) (j := j) (y := y) (p := p2) (py := p3) (pos := p4) (kc.gl h3) c1 c2 c3 c4 c5 c6 c7 c8 c9 c10 c11 c12 (kc.ix hj) (kc.vis h6) y1 y2 l1 hL c13 fun A outer s H E' f c' hr => S.pl hcb (kc.lamC A outer s H E' f c' hr)
          obtain ⟨fa, fd2, f1, f2, f3, f4⟩ := kc.glo.fn kf i ps hfn
          have hk := gE_call (x := kf) (p := p1) (pos := p5) f4 (kc.room.mono (Nat.le_succ _)) (kc.gl h1) f1 f2 f3.binds kc.pass (gA_cons hc sA_nil (by rfl)) (by rfl) n1
          exact ⟨hif, hL, gSs_one (gS_ite (gT_cmp (cpOf_eq op) kc.eq kc.un hk (S.pl hcr kc) (mark0 h10)) (SS _ _ _ hs1 X E k) sS_nil)⟩
        · cases g3
      · cases h
    · cases h
  · cases h
theorem sRowL (S : Snd G m L T rec) (SS : SndS G m L T w recS) (k : StOk X G E m L T Γ) {xw : Str} {j : Nat} {body : List Stmt} (hj : Γ.N.idxOf? xw = some j) : ∀ {rs : List Row} {is : List (Row × Sd)}, cRowL rec recS T Γ xw body rs = some is →
    rs = is.map (·.1) ∧ ∀ it ∈ is, isIf it.2 = true ∧ LamX.LamS X.env.scope it.1.sc ∧ PSs X body (gS (isKept X j it.1.bd it.1.sc) (tS X.K G E (evS m w it.2))) ∧ PyData.strOk it.1.s = true
  | [], is, h => by
    cases h
    exact ⟨rfl, fun it hit => by cases hit⟩
  | r :: rs, is, h => by
    unfold cRowL at h
    split at h
    · rename_i hs
      obtain ⟨b, hb, g1⟩ := Option.bind_eq_some_iff.mp h
      obtain ⟨is', hi, rfl⟩ := Option.map_eq_some_iff.mp g1
      obtain ⟨e, ih⟩ := sRowL S SS k hj hi
      obtain ⟨b1, b2, b3⟩ := sRowB S SS k hj hb
      refine ⟨by rw [e]; rfl, fun it hit => ?_⟩
      rcases List.mem_cons.mp hit with rfl | hit
      · exact ⟨b1, b2, b3, hs⟩
      · exact ih it hit
    · cases h
theorem sRowF (S : Snd G m L T rec) (SS : SndS G m L T w recS) (k : StOk X G E m L T Γ) {xw xd : Str} {pw pd pt lp pos : Pos} {kt : Nat} {es : List Expr} {body : List Stmt} {s : Sd} (h : cRowF rec recS T Γ xw xd pw pd kt pt es body = some s) :
    PS X (.For (.Tuple [.Name xw pw, .Name xd pd] kt pt) (.List es lp) body [] pos) (tS X.K G E (evS m w s)) := by
  have kc := k.cx
  unfold cRowF at h
  obtain ⟨rs, hrs, g1⟩ := Option.bind_eq_some_iff.mp h
  obtain ⟨p, hp, g2⟩ := Option.bind_eq_some_iff.mp g1
  obtain ⟨j, hj, g3⟩ := Option.bind_eq_some_iff.mp g2
  obtain ⟨d, hd, g4⟩ := Option.bind_eq_some_iff.mp g3
  obtain ⟨is, his, g5⟩ := Option.bind_eq_some_iff.mp g4
  split at g5
  · rename_i hcond
    simp only [Bool.and_eq_true, Bool.not_eq_true', decide_eq_true_eq] at hcond
    obtain ⟨c1, c2, c3, c4⟩ := hcond
    cases g5
    have e1 := eq_of_beq c1
    subst e1
    obtain ⟨e2, hall⟩ := sRowL S SS k hj his
    have e3 := rowsOf_eq hrs
    rw [e2, List.map_map] at e3
    subst e3
    obtain ⟨_, _, cc, P, t1, t2, t3, t4⟩ := kc.lam c3
    exact sS_rows (items := is) k.po kc.calm (sPat kc hp) (kc.ix hj) (by simpa using c2) t1 t2 t3 t4 (fun it hit => (hall it hit).2.1) (fun it hit => (hall it hit).2.2.1) (fun it hit => (hall it hit).1) (fun it hit => (hall it hit).2.2.2) c4
  · cases g5
theorem sFor (S : Snd G m L T rec) (SS : SndS G m L T w recS) (k : StOk X G E m L T Γ) {tg it : Expr} {body : List Stmt} {pos : Pos} {s : Sd} (h : cFor rec recS Γ tg it body = some s) : PS X (.For tg it body [] pos) (tS X.K G E (evS m w s)) := by
  have kc := k.cx
  obtain ⟨ki, hk, h1⟩ := Option.bind_eq_some_iff.mp h
  obtain ⟨pt, hpt, h2⟩ := Option.bind_eq_some_iff.mp h1
  split at h2
  · obtain ⟨b, hb, rfl⟩ := Option.map_eq_some_iff.mp h2
    obtain ⟨i1, i2⟩ := sIter S kc (fun z => isTup_ex z) hk
    exact sS_for k.po kc.calm i1 (sPat kc hpt) (SS _ _ _ hb X E k) (i2 X.env)
  · cases h2
theorem st1 (S : Snd G m L T rec) (SS : SndS G m L T w recS) (k : StOk X G E m L T Γ) {st : Stmt} {s : Sd} (h : cSt rec recS T Γ st = some s) : PS X st (tS X.K G E (evS m w s)) := by
  have kc := k.cx
  have hNd : X.N.Nodup := by
    rw [kc.hN]
    exact kc.nd
  unfold cSt at h
  split at h
  · cases h
    exact ps_doc.weak fun D0 σ H ⟨sf, Hb, Hs0, H0, Hs, l, s, n, q⟩ => q σ Hs H n
  · rename_i x q meth ap a cp p
    split at h
    · rename_i hc
      simp only [Bool.and_eq_true] at hc
      obtain ⟨⟨⟨⟨h1, h2⟩, h3⟩, h4⟩, h5⟩ := hc
      have := eq_of_beq h1
      subst this
      obtain ⟨n1, n2, n3⟩ := nmOk_all h3
      obtain ⟨i, hi, h6⟩ := Option.bind_eq_some_iff.mp h
      split at h6
      · rename_i d hd
        cases h6
        unfold cPopA at hd
        split at hd
        · split at hd
          · rename_i hc2
            simp only [Bool.and_eq_true] at hc2
            obtain ⟨⟨⟨⟨g1, g2⟩, g3⟩, g4⟩, g5⟩ := hc2
            have := eq_of_beq g1
            subst this
            obtain ⟨m1, m2, m3⟩ := nmOk_all g3
            obtain ⟨j, hj, h7⟩ := Option.bind_eq_some_iff.mp hd
            obtain ⟨c, hc, rfl⟩ := Option.map_eq_some_iff.mp h7
            exact sS_popA (kc.ix hi) (kc.vis h2) n1 n2 (kc.ix hj) (kc.vis g2) m1 m2 (S.pl hc kc) g4 h5 g5
          · cases hd
        · cases hd
      · obtain ⟨c, hc, rfl⟩ := Option.map_eq_some_iff.mp h6
        exact sS_app (kc.ix hi) (kc.vis h2) n1 n2 (S.pl hc kc) h4 h5
    · cases h
  · split at h
    · cases h
    · rename_i hn
      obtain ⟨c, hc, rfl⟩ := Option.map_eq_some_iff.mp h
      exact sS_expr (S.pl hc kc) (sw0 (by simpa using hn) _ _ _)
  · rename_i x q elt tg iter ifs scope lp p
    split at h
    · rename_i hst
      obtain ⟨i, hi, h1⟩ := Option.bind_eq_some_iff.mp h
      split at h1
      case isTrue hcl =>
        have hcl' : X.env.scope.names.lookup x = some .cell := by
          rw [kc.sc]
          exact of_decide_eq_true hcl
        obtain ⟨c, hc, h4⟩ := Option.bind_eq_some_iff.mp h1
        obtain ⟨l1, l2⟩ := kc.fnx _ hst
        split at h4
        · split at h4
          · rename_i hf
            cases h4
            have he := S.pe _ _ _ hc X E kc
            rw [hf] at he
            exact sS_setF hNd (kc.ix hi) l1 he (sw_cell hcl') l2
          · cases h4
        · cases h4
          exact sS_set hNd (kc.ix hi) l1 (S.pl hc kc) (sw_cell hcl') l2
      obtain ⟨c, hc, h2⟩ := Option.bind_eq_some_iff.mp h1
      split at h2
      · rename_i hcond
        simp only [Bool.and_eq_true, decide_eq_true_eq, Bool.not_eq_true'] at hcond
        obtain ⟨⟨⟨c1, c2⟩, c3⟩, c4⟩ := hcond
        cases h2
        unfold cComp at hc
        split at hc
        · rename_i hb
          obtain ⟨ki, hk, g1⟩ := Option.bind_eq_some_iff.mp hc
          obtain ⟨pt, hpt, g2⟩ := Option.bind_eq_some_iff.mp g1
          obtain ⟨t, ht, g3⟩ := Option.bind_eq_some_iff.mp g2
          obtain ⟨e, he, g4⟩ := Option.bind_eq_some_iff.mp g3
          split at g4
          · rename_i hv
            cases g4
            obtain ⟨i1, i2⟩ := sIter S kc (fun z => isTup_ex z) hk
            have hb' : BlkOk X.N X.env.scope scope (ownOf Γ scope) := by
              rw [kc.hN, kc.sc]
              exact blkOk_by hb
            have hl : X.env.scope.names.lookup x = some .local := by
              rw [kc.sc]
              exact c2
            exact sS_setLc (Γ.mu.contains i) kc.calm hNd (kc.ix hi) hl (sw_true k.fun_ hl c3 c4) i1 hb' rfl (fun i hi => by
              have := List.all_eq_true.mp hv i hi
              simpa using this) (fun s H C cl fp => sPat (kc.blk s H C cl fp) hpt) (fun s H C cl fp => sTests S (kc.blk s H C cl fp) ht) (fun s H C cl fp => S.pl he (kc.blk s H C cl fp)) (i2 X.env)
          · cases g4
        · cases hc
      · cases h2
    · cases h
  · split at h
    · rename_i hst
      simp only [Bool.and_eq_true, Bool.not_eq_true'] at hst
      obtain ⟨h1, h2⟩ := hst
      obtain ⟨i, hi, h3⟩ := Option.bind_eq_some_iff.mp h
      obtain ⟨c, hc, h4⟩ := Option.bind_eq_some_iff.mp h3
      obtain ⟨l1, l2⟩ := kc.fnx _ h1
      split at h4
      · split at h4
        · rename_i hf
          cases h4
          have he := S.pe _ _ _ hc X E kc
          rw [hf] at he
          exact sS_setF hNd (kc.ix hi) l1 he (sw0 h2 _ _ _) l2
        · cases h4
      · cases h4
        exact sS_set hNd (kc.ix hi) l1 (S.pl hc kc) (sw0 h2 _ _ _) l2
    · cases h
  · rename_i ts kk q vs k2 p2 p
    split at h
    case isTrue => exact sRows S k h
    split at h
    · rename_i hsw
      obtain ⟨pt, hpt, h1⟩ := Option.bind_eq_some_iff.mp h
      split at h1
      · obtain ⟨c, hc, rfl⟩ := Option.map_eq_some_iff.mp h1
        refine sS_asg (sE_tup (sArgs S kc hc).1) (sPat kc hpt) (by rfl) (sw_eq (by rw [kc.sc]; exact hsw)) (by rfl)
      · cases h1
    · rename_i ns hsw
      split at h
      · rename_i x px y py a b
        split at h
        · rename_i hcond
          simp only [Bool.and_eq_true, decide_eq_true_eq] at hcond
          obtain ⟨⟨⟨⟨c1, c2⟩, c3⟩, c4⟩, c5⟩ := hcond
          subst c1
          obtain ⟨i, hi, h1⟩ := Option.bind_eq_some_iff.mp h
          obtain ⟨j, hj, h2⟩ := Option.bind_eq_some_iff.mp h1
          split at h2
          · cases h2
          · rename_i hne
            obtain ⟨ca, hca, h3⟩ := Option.bind_eq_some_iff.mp h2
            obtain ⟨cb, hcb, rfl⟩ := Option.map_eq_some_iff.mp h3
            have hij : i ≠ j := fun z => hne (by simp [z])
            exact sS_par kc.calm hNd (kc.ix hi) (kc.ix hj) hij (by rw [kc.sc]; exact c2) (by rw [kc.sc]; exact c3) (sA_cons (S.pl hca kc) (sA_cons (S.pl hcb kc) sA_nil c5) c4) (sw_eq (by rw [kc.sc]; exact hsw))
        · cases h
      · cases h
    · cases h
  · rename_i ts kk q v p hnt
    split at h
    · cases h
    · rename_i hc
      simp only [Bool.or_eq_true, Bool.not_eq_true', not_or, Bool.not_eq_true] at hc
      obtain ⟨pt, hpt, h1⟩ := Option.bind_eq_some_iff.mp h
      split at h1
      · obtain ⟨c, hcc, rfl⟩ := Option.map_eq_some_iff.mp h1
        exact sS_asg (S.pl hcc kc) (sPat kc hpt) (swT hc.1 _ _ _) (swN (by simpa using hc.2) _) (by rfl)
      · cases h1
  · rename_i x q kk j sp p2 v p
    split at h
    · rename_i hc
      simp only [Bool.and_eq_true, Bool.not_eq_true'] at hc
      obtain ⟨⟨h1, h2⟩, h3⟩ := hc
      obtain ⟨n1, n2, n3⟩ := nmOk_all h2
      obtain ⟨i, hi, h4⟩ := Option.bind_eq_some_iff.mp h
      obtain ⟨c, hc, h5⟩ := Option.bind_eq_some_iff.mp h4
      have hv : PE X (.Name x q) (tC' X G E m false (.var i)) := sE_var (kc.ix hi) (kc.vis h1) n1 n2
      split at h5
      · rename_i hk
        have := eq_of_beq hk
        subst this
        cases h5
        exact sS_stS (k := 0) kc.un hv (S.pl hc kc) (sw0 h3 _ _ _)
      · split at h5
        · rename_i hk
          have := eq_of_beq hk
          subst this
          cases h5
          exact sS_stS (k := 1) kc.un hv (S.pl hc kc) (sw0 h3 _ _ _)
        · cases h5
    · cases h
  · split at h
    · rename_i hc
      simp only [Bool.and_eq_true, Bool.not_eq_true'] at hc
      obtain ⟨⟨⟨h1, h2⟩, h3⟩, h3'⟩ := hc
      obtain ⟨n1, n2, n3⟩ := nmOk_all h2
      obtain ⟨i, hi, h4⟩ := Option.bind_eq_some_iff.mp h
      obtain ⟨c, hc, h5⟩ := Option.bind_eq_some_iff.mp h4
      obtain ⟨d, hd, rfl⟩ := Option.map_eq_some_iff.mp h5
      exact sS_sto (kc.ix hi) (kc.vis h1) n1 n2 (S.pl hc kc) (S.pl hd kc) (sw0 h3 _ _ _) h3'
    · cases h
  · split at h
    · rename_i hc
      simp only [Bool.and_eq_true, Bool.not_eq_true', decide_eq_true_eq] at hc
      obtain ⟨⟨⟨h1, h2⟩, h3⟩, h0⟩ := hc
      obtain ⟨n1, n2, n3⟩ := nmOk_all h2
      obtain ⟨i, hi, h4⟩ := Option.bind_eq_some_iff.mp h
      obtain ⟨c, hc, rfl⟩ := Option.map_eq_some_iff.mp h4
      exact sS_fld (kc.glo.fls X i _ rfl (idx_get hi)) (by rw [kc.hN]; exact h0) (kc.vis h1) n1 n2 (S.pl hc kc) (sw0 h3 _ _ _)
    · cases h
  · obtain ⟨x, hx, h1⟩ := Option.bind_eq_some_iff.mp h
    obtain ⟨y, hy, h2⟩ := Option.bind_eq_some_iff.mp h1
    obtain ⟨z, hz, rfl⟩ := Option.map_eq_some_iff.mp h2
    exact sS_ite (S.pt _ _ _ hx X E kc) (SS _ _ _ hy X E k) (SS _ _ _ hz X E k)
  · split at h
    · rename_i hrow
      cases h
      exact sRowF S SS k hrow
    · exact sFor S SS k h
  · exact sFor S SS k h
  · obtain ⟨x, hx, h1⟩ := Option.bind_eq_some_iff.mp h
    obtain ⟨b, hb, rfl⟩ := Option.map_eq_some_iff.mp h1
    exact sS_whl k.po (S.pt _ _ _ hx X E kc) (SS _ _ _ hb X E k)
  · cases h
    exact sS_retN
  · obtain ⟨c, hc, rfl⟩ := Option.map_eq_some_iff.mp h
    exact sS_ret (S.pl hc kc)
  · split at h
    · rename_i hg
      obtain ⟨i, hi, rfl⟩ := Option.map_eq_some_iff.mp h
      exact sS_raise kc.calm k.tk (kc.glo.rs _ i hi X _ _ _ _ _ rfl rfl (kc.gl hg))
    · cases h
  · cases h
    exact sS_pass
  · cases h
    exact sS_brk
  · cases h
    exact sS_cnt
  · cases h
end
theorem sndS {G : Gh} {m : Mod} {L : Nat} {T : Tab} {w n : Nat} : ∀ j, SndS G m L T w (compS T n j)
  | 0 => fun Γ ss s h => by cases ss <;> cases h
  | j + 1 => fun Γ ss s h X E k => by
    cases ss with
    | nil =>
      cases h
      exact sS_nil
    | cons st ss =>
      obtain ⟨a, ha, h1⟩ := Option.bind_eq_some_iff.mp (show (cSt (compE T n) (compS T n j) T Γ st).bind (fun a => (compS T n j Γ ss).map fun b => .seq a b) = some s from h)
      obtain ⟨b, hb, rfl⟩ := Option.map_eq_some_iff.mp h1
      exact sS_cons (st1 (sndE n) (sndS j) k ha) (sndS j Γ ss b hb X E k)
end Fw

/-! FwV: the whole text, by the depth of calls. -/
namespace Fw
open PySem L2 PyProof.Rows
/-- a def of the text -/
structure FnE where
  x : Str
  q : Str              -- its qualified name
  ps : List Str
  N : List Str
  params : Arguments
  body : List Stmt
  scope : Scope
  lam : Bool
  mu : List Nat
  bd : Sd
abbrev FnE.Γ (e : FnE) : Ctx := ⟨e.N, e.scope, none, e.lam, e.mu, false⟩
/-- what is known of its function object -/
structure FnF (K : PySem.W.Frag) (mg : Str → Option Value) (base : Heap) (G : Gh) (T : Tab) (e : FnE) (f : Addr) (fd : FuncData) : Prop where
  cmp : compS T 40 80 e.Γ e.body = some e.bd
  sc : FnScope e.N e.ps e.scope
  fd : FunD K e.x e.q e.params e.body e.scope [] [] f fd
  par : plainP e.ps e.params = true
  nd : e.N.Nodup
  lam : e.lam = true → ∀ cdv, (∃ (oc : Value) (od : Option Addr) (dV kV doc pm : Value) (an : Option Addr) (ct : Value) (osl : Array (Option Value)), K.lookup f = some ⟨oc, od, .func (PySem.W.fnOf e.x e.q e.params e.body e.scope dV kV doc pm an cdv ct), osl⟩) →
    ∃ c Pt, cdv = .ref c ∧ LamX.TabB base mg c Pt ∧ (Pt, (e.q ++ ".<locals>.") ++ "<lambda>") ∈ G.T ∧ ∀ p ∈ G.T, p.1 = Pt → p.2 = (e.q ++ ".<locals>.") ++ "<lambda>"
theorem funD_p {K : PySem.W.Frag} {x q : Str} {params : Arguments} {body : List Stmt} {scope : Scope} {f : Addr} {fd : FuncData} {ps : List Str} (F : FunD K x q params body scope [] [] f fd) (h : plainP ps params = true) : FnP K fd ps := by
  obtain ⟨oc, od, dV, kV, doc, pm, an, cdv, ct, osl, rfl, lk, hcd, hD, hK⟩ := F.ex
  rcases hD with ⟨_, rfl⟩ | ⟨e, _⟩
  · exact ⟨x, q, params, body, scope, kV, doc, pm, an, cdv, ct, rfl, h⟩
  · exact absurd rfl e
section
variable {P : Program} {w : World} {K : PySem.W.Frag} {mg : Str → Option Value} {base : Heap} {G : Gh} {T : Tab} {m : Mod} {L wb : Nat}
/-- in a def's frame -/
theorem frame_ok {e : FnE} {f : Addr} {fd : FuncData} (F : FnF K mg base G T e f fd) (gl : Glo P w K mg base G m L T) (ca : e.lam = true → CaughtF K mg G m) (cdv : Value)
    (hcd : ∃ (oc : Value) (od : Option Addr) (dV kV doc pm : Value) (an : Option Addr) (ct : Value) (osl : Array (Option Value)), K.lookup f = some ⟨oc, od, .func (PySem.W.fnOf e.x e.q e.params e.body e.scope dV kV doc pm an cdv ct), osl⟩)
    (A : Around) (outer : List Env) (s : Shared) (H : Hp) (E : XK) (hr : Room (L + 3) (A.deeper (envOfC e.q e.scope s.heap.objs.size f cdv))) : StOk (cxOf (L2.CX P w) P w K mg base e.N e.q e.scope f cdv A outer s H E) G E m L T e.Γ := by
  have tk : Takes (cxOf (L2.CX P w) P w K mg base e.N e.q e.scope f cdv A outer s H E) fun cls d _ H => E cls d H := takes_of (E := E) (X := cxOf (L2.CX P w) P w K mg base e.N e.q e.scope f cdv A outer s H E) rfl rfl rfl rfl
  refine ⟨⟨gl, rfl, F.nd, rfl, rfl, hr.mono (by omega), passes_call tk fun _ _ _ _ z => z, fun x hx => ?_, fun hl => ?_, fun z => by cases (show false = true from z)⟩, tk, passes_of (X := cxOf (L2.CX P w) P w K mg base e.N e.q e.scope f cdv A outer s H E) rfl, F.sc.kind⟩
  · simp only [stoB, Bool.or_eq_true, Bool.and_eq_true, decide_eq_true_eq] at hx
    rcases hx with hx | ⟨hx, _⟩
    · exact ⟨.inl hx, .inl rfl⟩
    · exact ⟨.inr hx, .inl rfl⟩
  · obtain ⟨c, Pt, rfl, h1, h2, h3⟩ := F.lam hl cdv hcd
    exact ⟨hr, ca hl, c, Pt, h1, rfl, h2, h3⟩
/-- a def of the text keeps its promise -/
theorem def_ok {e : FnE} {f : Addr} {fd : FuncData} (F : FnF K mg base G T e f fd) (gl : Glo P w K mg base G m L T) (ca : e.lam = true → CaughtF K mg G m) (g : List D → RS → Res D)
    (hg : ∀ ds s, g ds s = if ds.length = e.ps.length then endRes (evS m wb e.bd (startS e.N.length (ds.map Sl.val)) s) else .stuck) : FnOk P w K mg base (L2.CX P w) (L + 4) f fd e.ps (spD K G g) := by
  obtain ⟨oc, od, dV, kV, doc, pm, an, cdv, ct, osl, efd, lk, hcd, hD, hK⟩ := F.fd.ex
  refine fn_ok' lk efd hcd F.sc g hg fun A outer s H E hr => ?_
  exact sndS (n := 40) 80 _ _ _ F.cmp _ _ (frame_ok F gl ca cdv ⟨oc, od, dV, kV, doc, pm, an, ct, osl, by rw [lk, efd]⟩ A outer s H E hr)
end
end Fw

/-! FwW: == and != by the class's own def. -/
namespace Fw
open PySem PySem.Spec L2 PyProof.Rows
section
variable {prog : Program} {w : World} {A A₀ : Around} {E : Value → Shared → Prop} {s : Shared} {K : PySem.W.Frag} {x C L f : Addr} {h₀ : Heap} {m : Str → Option Value} {ox : Obj} {od : Option Obj} {b tb : Value}
theorem objNe_K {Q : Fin → Shared → Prop} (hu : A.units < cLine) (X : K.In s.heap) (I : PySem.W.InstAt s.heap x ox C od) (hs : PySem.W.findIn K (.ref C) "__eq__" = some (some (.ref f))) (hf : PySem.W.isFn K (.ref f) = true)
    (h : wpAny (model prog w) A (call (.ref f) [.ref x, b]) (fun v s' => ∃ k, v = .bool k ∧ Q (.done (.ret (.bool (!k)))) s') E s) : wpAny (model prog w) A (Builtin.«object.__ne__» ⟨[.ref x, b], []⟩) Q E s := by
  unfold Builtin.«object.__ne__»
  refine wpAny_bind (wpAny_of_eq (a := ((Value.ref x : Value), [b])) (by first | rfl | (simp only [slotArgs]; rfl)) ?_)
  refine wpAny_bind (wpAny_cRoomFor hu ?_)
  refine wpAny_bind (PySem.W.ifBound_K X I hs hf (wpAny_mono h (fun v s' hv => ?_) fun _ _ e => e))
  obtain ⟨k, rfl, q⟩ := hv
  exact wpAny_bind (wpAny_truthy_bool (wpAny_pure q))
theorem ne_K {Q : Value → Shared → Prop} (hu : A.units + 1 < cLine) (hu1 : A.in1.units < cLine) (X : K.In s.heap) (I : PySem.W.InstAt s.heap x ox C od) (hb : PySem.W.Looks (model prog w) s.heap (typeOf b) tb) (hn : PySem.W.notFirst K C tb = true)
    (hne : PySem.W.findIn K (.ref C) "__ne__" = some (some (.builtin "object.__ne__"))) (hob : PySem.W.subIn K (.ref C) (.type "object") = some true) (hs : PySem.W.findIn K (.ref C) "__eq__" = some (some (.ref f))) (hf : PySem.W.isFn K (.ref f) = true)
    (h : wpAny (model prog w) A.in1 (call (.ref f) [.ref x, b]) (fun v s' => ∃ k, v = .bool k ∧ Q (.bool (!k)) s') E s) : wpAny (model prog w) A (richCompare .NotEq (.ref x) b) Q E s := by
  have one : wpAny (model prog w) A (tryCompare (.ref x) "__ne__" b) (fun r s' => ∃ v, r = some v ∧ Q v s') E s := by
    unfold tryCompare
    simp only [callSpecialIfBound?, bindSpecialIfBound?]
    refine wpAny_bind (wpAny_holding (wpAny_bind (wpAny_bind (wpAny_bind (I.type.here ((PySem.W.looks_findIn X hne).here ?_))))))
    have fin : wpAny (model prog w) A (call (.builtin "object.__ne__") ([.ref x] ++ [b]) >>= fun v => pure (some v)) (fun r s' => wpAny (model prog w) A (match r with | some .notImplemented | none => pure none | some v => pure (some v)) (fun r s' => ∃ v, r = some v ∧ Q v s') E s') E s := by
      refine wpAny_bind (wpAny_call (codeAny_call_builtin PySem.F.cmp_object.ne.plain PySem.F.cmpEntry_ne ?_))
      refine PySem.W.check_slot PySem.F.cmpKind_ne PySem.F.cmpSplit_ne (I.type.andThen (PySem.W.looks_subIn X hob)) (PySem.F.cmpArgs_ne _ _) ?_
      refine objNe_K hu1 X I hs hf (wpAny_mono h (fun v s' hv => ?_) fun _ _ e => e)
      obtain ⟨k, rfl, q⟩ := hv
      exact ⟨k, rfl, wpAny_pure (wpAny_pure ⟨_, rfl, q⟩)⟩
    refine wpAny_bind (wpAny_askSetting (wpAny_ite ?_))
    have bd : bindSpecial (.builtin "object.__ne__") (.ref x) = pure (.builtin "object.__ne__", [.ref x]) := PySem.F.cmp_object.ne.bind _
    split
    · rw [bd]
      exact wpAny_bind (wpAny_pure (wpAny_pure (by exact fin)))
    · rw [bd]
      exact wpAny_tryCatch (wpAny_bind (wpAny_pure (wpAny_pure (by exact fin))))
  unfold richCompare
  simp only [oneThing_ref]
  refine wpAny_holding (wpAny_bind (wpAny_cRoomFor (by omega) ?_))
  refine wpAny_bind (I.type.here (wpAny_bind (hb.here ?_)))
  have last : wpAny (model prog w) A (tryCompare (.ref x) "__ne__" b) (fun r s' => ∃ v, r = some v ∧ Q v s') E s := one
  split
  · rename_i q
    have e : PySem.W.subIn K tb (.ref C) = some false := by
      rcases Bool.or_eq_true_iff.mp hn with e | e
      · rw [beq_iff_eq.mp e] at q
        simp at q
      · exact beq_iff_eq.mp e
    refine wpAny_bind ((PySem.W.looks_subIn X e).here ?_)
    simp only [Bool.false_eq_true, if_false]
    exact wpAny_bind (wpAny_mono last (fun r s' ⟨v, e, hq⟩ => by subst e; exact wpAny_pure hq) fun _ _ e => e)
  · refine wpAny_bind (wpAny_pure ?_)
    simp only [Bool.false_eq_true, if_false]
    exact wpAny_bind (wpAny_mono last (fun r s' ⟨v, e, hq⟩ => by subst e; exact wpAny_pure hq) fun _ _ e => e)
end
/-- what a class with an own == must say -/
structure EqF (P : Program) (w : World) (K : PySem.W.Frag) (mg : Str → Option Value) (base : Heap) (G : Gh) (m : Mod) (L c j : Nat) : Prop where
  fn : ∃ f fd ps, FnOk P w K mg base (L2.CX P w) L f fd ps (spD K G (m.call j)) ∧ FnP K fd ps ∧ PySem.W.findIn K (.ref (G.ca c)) "__eq__" = some (some (.ref f)) ∧ PySem.W.isFn K (.ref f) = true
  ne : PySem.W.findIn K (.ref (G.ca c)) "__ne__" = some (some (.builtin "object.__ne__"))
  ob : PySem.W.subIn K (.ref (G.ca c)) (.type "object") = some true
  nf : ∀ d u, typed m.cls d = true → dTy G d = some u → PySem.W.notFirst K (G.ca c) u = true
section
variable {X : Cx} {G : Gh} {E : XK} {m : Mod} {L : Nat}
/-- data's type, looked up -/
theorem rep_looks {Hs H : Hp} {t : RS} {pins : List (Addr × Obj)} {σ : L2.St} {s : Shared} {v : V} {u : Value} {d : D} (I : L2.Inv X pins σ H s) (ok : Ok G Hs H t) (ks : IsaOk X.K G m.cls) (hd : typed m.cls d = true) (r : Rep X.K G Hs v d) (ru : RelV v u) : ∃ tb, dTy G d = some tb ∧ PySem.W.Looks (model X.prog X.w) s.heap (typeOf u) tb := by
  have fin : ∀ {tb : Value}, TyX X.K H v tb → PySem.W.Looks (model X.prog X.w) s.heap (typeOf u) tb := fun ty => by
    obtain ⟨P, Z, p, _⟩ := kit_of I ru ty
    exact Z.ty _ _ I.kIn p
  cases r with
  | non => exact ⟨_, rfl, fin (.base .non)⟩
  | bl k => exact ⟨_, rfl, fin (.base (.bl k))⟩
  | int i => exact ⟨_, rfl, fin (.base (.int i))⟩
  | str y hy => exact ⟨_, rfl, fin (.base (.str y))⟩
  | tup ha ra =>
    rcases sqT_mono ok.sub ha with (h | ⟨o, h⟩) | ⟨o, its, n, h1, h2, h3, h4⟩
    · exact ⟨_, rfl, fin (.base (.tup h))⟩
    · exact ⟨_, rfl, fin (.fTuple h)⟩
    · exact ⟨_, rfl, fin (.kTuple h1 h2)⟩
  | lst ha ra => exact ⟨_, rfl, fin (.base (.lst (ok.sub _ _ ha)))⟩
  | dicE ha => exact ⟨_, rfl, fin (.base (.dK (ok.sub _ _ ha)))⟩
  | @ins ad dx c' fs ds ha hfs ra =>
    have hd' : insOk m.cls (.ins c' ds) = true := hd
    cases hk : m.cls c' with
    | none => simp [insOk, hk] at hd'
    | some k =>
      have he : k.exc = false := by simpa [insOk, hk] using hd'
      obtain ⟨h1, h2, h3, h4, h5⟩ := ks.ins c' k hk he
      exact ⟨_, rfl, fin (.base (.ins (ok.sub _ _ ha) h1 h2 h3 h4 h5))⟩
  | @exc ad c' ha =>
    cases ru
    obtain ⟨oe, J⟩ := xc_inst (Hs := Hs) I (ok.sub _ _ ha)
    exact ⟨_, rfl, J.type⟩
  | @excF ad d c' fs ds ha hdd hf ra ne =>
    exfalso
    have hd' : insOk m.cls (.exc c' ds) = true := hd
    cases hk : m.cls c' with
    | none => simp [insOk, hk] at hd'
    | some k =>
      have z : k.exc = true ∧ ds = [] := by simpa [insOk, hk] using hd'
      exact ne z.2
  | st => cases hd
  | scr _ _ => cases hd
theorem run_at {A' : Around} {pins : List (Addr × Obj)} {σ : L2.St} {H : Hp} {s : Shared} {Q : VK} {us : List Value} {vs : List V} {f : Addr} {fd : FuncData} {ps : List Str} {sp : Sp} (F : FnOk X.prog X.w X.K X.mg X.base (L2.CX X.prog X.w) L f fd ps sp) (sb : L2.Sub X L A') (hb : L2.Binds X.K fd ps [])
    (I : L2.Inv X pins σ H s) (r : Vals vs us) (h : sp vs H Q EF) : wpAny (model X.prog X.w) A' (call (.ref f) us) (EP X pins σ Q) X.xe s := by
  have hl : us.length = ps.length := by rw [← r.length]; exact F.len _ _ _ _ h
  have bb := hb s us I.kIn (by rw [List.append_nil]; exact hl)
  rw [List.append_nil] at bb
  have e0 : Env0 X.prog X.w X.K X.mg X.base A' X.stack s H := by
    have e := I.env0
    exact ⟨by rw [sb.fr]; exact e.frames, e.mod, e.bs, e.bsz, e.funs, e.frf, e.hok, e.bare⟩
  refine wpAny_call (codeAny_mono (F.run A' X.stack s H ⟨us, []⟩ us vs Q EF sb.room e0 bb r h) fun r s' hq => ?_)
  cases r with
  | error e => exact (passes_EF (X := X) pins σ H s e s' I hq)
  | ok fl => cases fl with
    | ret w => exact I.after hq
    | _ => exact hq.elim
theorem eq_rule (hr : Room (L + 1) X.A) (ks : IsaOk X.K G m.cls) (h : ∀ c k j, m.cls c = some k → k.eq = some j → EqF X.prog X.w X.K X.mg X.base G m L c j) : EqR X G E m := by
  intro o op hop pins s σ H x y v u Q I rx ry hh
  obtain ⟨Hs, t, dx, dy, f, k, ok, r1, r2, e, p⟩ := hh
  have hins : ∃ c ds, dx = .ins c ds := by
    unfold eqOf at e
    split at e
    · exact ⟨_, _, rfl⟩
    · exact ⟨_, _, rfl⟩
    · cases e
  obtain ⟨c, ds, rfl⟩ := hins
  have hty : typed m.cls dy = true ∧ ∃ kk, m.cls c = some kk ∧ kk.eq = some f ∧ ((o = .eq ∧ k = false) ∨ (o = .ne ∧ k = true)) := by
    unfold eqOf at e
    split at e
    · rename_i c' fs' hx
      cases hx
      split at e
      · rename_i ht
        rw [Bool.and_eq_true] at ht
        obtain ⟨j, hj, e2⟩ := Option.map_eq_some_iff.mp e
        obtain ⟨kk, q1, q2⟩ := Option.bind_eq_some_iff.mp hj
        cases e2
        exact ⟨ht.2, kk, q1, q2, .inl ⟨rfl, rfl⟩⟩
      · cases e
    · rename_i c' fs' hx
      cases hx
      split at e
      · rename_i ht
        rw [Bool.and_eq_true] at ht
        obtain ⟨j, hj, e2⟩ := Option.map_eq_some_iff.mp e
        obtain ⟨kk, q1, q2⟩ := Option.bind_eq_some_iff.mp hj
        cases e2
        exact ⟨ht.2, kk, q1, q2, .inr ⟨rfl, rfl⟩⟩
      · cases e
    · cases e
  obtain ⟨ty, kk, hk, hf, hop2⟩ := hty
  obtain ⟨⟨fa, fd, ps, F, hp, hfi, hfn⟩, hne, hob, hnf⟩ := h c kk f hk hf
  obtain ⟨tb, t1, t2⟩ := rep_looks I ok ks ty r2 ry
  have r1' := r1
  cases r1 with
  | @ins a dx0 c' fs ds' ha hfs ra =>
    cases rx
    obtain ⟨mA, J, _⟩ := ins_get I.hok (ok.sub _ _ ha)
    obtain ⟨od, J, _⟩ := J.look
    obtain ⟨mm, hF⟩ := I.fr
    have vals : Vals [V.ref a, y] [Value.ref a, u] := .cons rfl (.cons ry .nil)
    have sp : ∀ {Q' : VK}, (∀ b t' Hs' H', Post X.K G E Hs H (notD k (.bl b) t') (fun d s' => PV X.K G false Hs H d s' Q) → Sub Hs Hs' → Ok G Hs' H' t' → Kp G Hs H Hs' H' → Q' (.bl b) H') → spD X.K G (m.call f) [V.ref a, y] H Q' EF := fun {Q'} hQ => by
      refine ⟨Hs, t, [.ins c ds, dy], ok, .cons r1' (.cons r2 .nil), p.bind.noErr.post fun d t' w => ?_⟩
      have hb : ∃ b, d = .bl b := by
        cases d with
        | bl b => exact ⟨b, rfl⟩
        | _ => exact (show False from w).elim
      obtain ⟨b, rfl⟩ := hb
      intro v' Hs' H' e' o' k' rv
      cases rv
      exact hQ b t' Hs' H' w e' o' k'
    have post : ∀ {b : Bool} {t' : RS} {Hs' H' : Hp}, Post X.K G E Hs H (notD k (.bl b) t') (fun d s' => PV X.K G false Hs H d s' Q) → Sub Hs Hs' → Ok G Hs' H' t' → Kp G Hs H Hs' H' → Q (.bl (b != k)) H' := fun {b t' Hs' H'} w e' o' k' =>
      (show PV X.K G false Hs H (.bl (b != k)) t' Q from w) (.bl _) Hs' H' e' o' k' (.bl _)
    rcases hop2 with ⟨rfl, rfl⟩ | ⟨rfl, rfl⟩
    · subst hop
      show wpAny (model X.prog X.w) X.A (richCompare .Eq (.ref a) u) (EP X pins σ Q) X.xe s
      refine PySem.W.cmp_K (op := .Eq) (tb := tb) hr.units0 hF I.ok.mod.kin J t2 (hnf dy tb ty t1) hfi hfn ?_
      refine wpAny_mono (run_at F ⟨hr.mono (Nat.le_succ _), rfl⟩ hp.binds I vals (sp (Q' := fun v' H' => ∃ b, v' = .bl b ∧ Q (.bl (b != false)) H') fun b t' Hs' H' w e' o' k' => ⟨b, rfl, post w e' o' k'⟩)) (fun z s' hz => ?_) fun _ _ e => e
      obtain ⟨v', H', I', rv, b, rfl, q⟩ := hz
      cases rv
      rw [Bool.bne_false] at q
      exact ⟨.bl b, H', I', rfl, q⟩
    · subst hop
      show wpAny (model X.prog X.w) X.A (richCompare .NotEq (.ref a) u) (EP X pins σ Q) X.xe s
      have r1 := hr.in1
      refine ne_K (tb := tb) (by have := hr.un; omega) r1.units0 I.kIn J t2 (hnf dy tb ty t1) hne hob hfi hfn ?_
      refine wpAny_mono (run_at F (A' := X.A.in1) (L2.Sub.in1 ⟨hr, rfl⟩) hp.binds I vals (sp (Q' := fun v' H' => ∃ b, v' = .bl b ∧ Q (.bl (b != true)) H') fun b t' Hs' H' w e' o' k' => ⟨b, rfl, post w e' o' k'⟩)) (fun z s' hz => ?_) fun _ _ e => e
      obtain ⟨v', H', I', rv, b, rfl, q⟩ := hz
      cases rv
      rw [Bool.bne_true] at q
      exact ⟨b, rfl, .bl _, H', I', rfl, q⟩
end
end Fw

/-! FwX: the whole text keeps its promises, at each depth of calls. -/
namespace Fw
open PySem L2 PyProof.Rows
/-- what the head tells of the text -/
structure Txt (K : PySem.W.Frag) (mg : Str → Option Value) (base : Heap) (G : Gh) (T : Tab) (Pr : Prog) : Prop where
  gl : ∀ x d, T.gl.lookup x = some d → ∃ v u, mg x = some u ∧ RelV v u ∧ ∀ Hs, Rep K G Hs v d
  fn : ∀ x i ps, T.fn.lookup x = some (i, ps) → ∃ e f fd, mg x = some (.ref f) ∧ e.ps = ps ∧ Pr.fns i = some ⟨.plain, e.ps.length, e.N.length, e.bd⟩ ∧ FnF K mg base G T e f fd
  cl : ∀ x i ps, T.cl.lookup x = some (i, ps) → ∃ e f fd q0 k, mg x = some (.ref (G.ca i)) ∧ Mk K (G.ca i) f ∧ e.ps = q0 :: ps ∧ Pr.cls i = some k ∧ Pr.fns k.init = some ⟨.init i, e.ps.length, e.N.length, e.bd⟩ ∧ (G.cf i).length = k.fields.length ∧ FnF K mg base G T e f fd
  cx : ∀ x i, T.cx.lookup x = some i → mg x = some (.ref (G.ca i))
  isa : IsaOk K G Pr.cls
  blt : ∀ x ∈ (["len", "abs", "min", "max", "sum", "any", "all", "int", "bool", "str", "tuple", "list", "dict", "range", "enumerate", "zip", "isinstance", "ValueError", "repr", "sorted", "set"] : List Str), mg x = none
  fld : ∀ (X : Cx) (m : Mod) f y, X.K = K → m.cls = Pr.cls → T.fl[f]? = some y → FldOk X G m f y
  fls : ∀ (X : Cx) (m : Mod) f y, X.K = K → m.cls = Pr.cls → T.fl[f]? = some y → FldSOk X G m f y
  rs : ∀ x i, T.rs.lookup x = some i → ∀ (X : Cx) (t : Str) (j : Nat) (p p2 pos : Pos), X.K = K → X.mg = mg → Gl X x → PMk X (.Call (.Name x p) [.Constant (.str t) j p2] [] pos) fun _ H Q => Q (.ref (G.ca i)) none H
  eqs : ∀ c k j, Pr.cls c = some k → k.eq = some j → (∃ e f fd, Pr.fns j = some ⟨.plain, e.ps.length, e.N.length, e.bd⟩ ∧ FnF K mg base G T e f fd ∧ PySem.W.findIn K (.ref (G.ca c)) "__eq__" = some (some (.ref f)) ∧ PySem.W.isFn K (.ref f) = true) ∧
    PySem.W.findIn K (.ref (G.ca c)) "__ne__" = some (some (.builtin "object.__ne__")) ∧ PySem.W.subIn K (.ref (G.ca c)) (.type "object") = some true ∧ ∀ d u, typed Pr.cls d = true → dTy G d = some u → PySem.W.notFirst K (G.ca c) u = true
  ca : ∀ m : Mod, m.cls = Pr.cls → m.base = Pr.base → CaughtF K mg G m
/-- levels -/
def lv : Nat → Nat
  | 0 => 1
  | n + 1 => lv n + 4
theorem mod_cls (Pr : Prog) (wb n : Nat) : (Pr.mod wb n).cls = Pr.cls := by cases n <;> rfl
theorem mod_base (Pr : Prog) (wb n : Nat) : (Pr.mod wb n).base = Pr.base := by cases n <;> rfl
theorem mod_mk (Pr : Prog) (wb : Nat) : ∀ n, MakeOk (Pr.mod wb n)
  | 0 => fun i ds s d s' h => nomatch h
  | n + 1 => fun i ds s d s' h => by
    have h' : (match Pr.cls i with
      | some k => match Pr.fns k.init with
        | some F => if F.arity = ds.length + 1 then endMk i k.fields.length (evS (Pr.mod wb n) wb F.body (startS F.slots (.own (.ins i []) :: ds.map Sl.val)) s) else .stuck
        | none => .stuck
      | none => .stuck) = Res.ok d s' := h
    split at h'
    · split at h'
      · split at h'
        · unfold endMk at h'
          split at h'
          · split at h'
            · cases h'
              exact ⟨_, rfl⟩
            · cases h'
          · cases h'
          · cases h'
        · cases h'
      · cases h'
    · cases h'
section
variable {P : Program} {w : World} {K : PySem.W.Frag} {mg : Str → Option Value} {base : Heap} {G : Gh} {T : Tab} {Pr : Prog} {wb : Nat}
theorem fn_stuck {k : Nat} {f : Addr} {fd : FuncData} {ps : List Str} : FnOk P w K mg base (L2.CX P w) k f fd ps (spD K G fun _ _ => .stuck) where
  len := fun vs H Q E ⟨Hs, s, ds, ok, r, p⟩ => p.elim
  run := fun A outer s H args us vs Q E hr e0 hb r ⟨Hs, t, ds, ok, rr, p⟩ => p.elim
theorem mk_stuck {k c : Nat} {f : Addr} {fd : FuncData} {ps : List Str} : FnOk P w K mg base (L2.CX P w) k f fd ps (spI K G c fun _ _ => .stuck) where
  len := fun vs H Q E ⟨Hs, s, ds, H0, x, dx, ws, e, _, _, _, _, ok, r, p⟩ => p.elim
  run := fun A outer s H args us vs Q E hr e0 hb r ⟨Hs, t, ds, H0, x, dx, ws, e, _, _, _, _, ok, rr, p⟩ => p.elim
theorem def_at (t : Txt K mg base G T Pr) {n : Nat} (gl : Glo P w K mg base G (Pr.mod wb n) (lv n) T) {i : Nat} {e : FnE} {f : Addr} {fd : FuncData} (hp : Pr.fns i = some ⟨.plain, e.ps.length, e.N.length, e.bd⟩) (F : FnF K mg base G T e f fd) :
    FnOk P w K mg base (L2.CX P w) (lv (n + 1)) f fd e.ps (spD K G ((Pr.mod wb (n + 1)).call i)) :=
  def_ok F gl (fun _ => t.ca _ (mod_cls _ _ _) (mod_base _ _ _)) _ fun ds s => by
    show (match Pr.fns i with
      | some F => match F.kind with
        | .plain => if ds.length = F.arity then endRes (evS (Pr.mod wb n) wb F.body (startS F.slots (ds.map Sl.val)) s) else .stuck
        | .prim p => p ds s
        | .init _ => .stuck
      | none => .stuck) = _
    rw [hp]
theorem init_at (t : Txt K mg base G T Pr) {n : Nat} (gl : Glo P w K mg base G (Pr.mod wb n) (lv n) T) {i : Nat} {e : FnE} {f : Addr} {fd : FuncData} {q0 : Str} {ps : List Str} {k : ClsD} (hps : e.ps = q0 :: ps) (hc : Pr.cls i = some k) (hp : Pr.fns k.init = some ⟨.init i, e.ps.length, e.N.length, e.bd⟩)
    (hcf : (G.cf i).length = k.fields.length) (F : FnF K mg base G T e f fd) : FnOk P w K mg base (L2.CX P w) (lv (n + 1)) f fd e.ps (spI K G i ((Pr.mod wb (n + 1)).make i)) := by
  obtain ⟨oc, od, dV, kV, doc, pm, an, cdv, ct, osl, efd, lk, hcd, hD, hK⟩ := F.fd.ex
  have S := F.sc
  rw [hps] at S ⊢
  refine init_ok' (m := Pr.mod wb n) (wb := wb) (bd := e.bd) lk efd hcd S hcf _ (fun ds s => ?_) fun A outer s H E hr => ?_
  · show (match Pr.cls i with
      | some k => match Pr.fns k.init with
        | some F => if F.arity = ds.length + 1 then endMk i k.fields.length (evS (Pr.mod wb n) wb F.body (startS F.slots (.own (.ins i []) :: ds.map Sl.val)) s) else .stuck
        | none => .stuck
      | none => .stuck) = _
    rw [hc]
    simp only
    rw [hp]
    simp only [hps, List.length_cons]
    by_cases h : ds.length = ps.length
    · rw [if_pos (by omega), if_pos h]
    · rw [if_neg (by omega), if_neg h]
  · exact sndS (n := 40) 80 _ _ _ F.cmp _ _ (frame_ok F gl (fun _ => t.ca _ (mod_cls _ _ _) (mod_base _ _ _)) cdv ⟨oc, od, dV, kV, doc, pm, an, ct, osl, by rw [lk, efd]⟩ A outer s H E hr)
theorem glo_all (t : Txt K mg base G T Pr) : ∀ n, Glo P w K mg base G (Pr.mod wb n) (lv n) T
  | 0 => by
    have h1 := mod_cls Pr wb 0
    refine ⟨t.gl, fun x i ps h => ?_, fun x i ps h => ?_, mod_mk Pr wb 0, t.cx, t.isa, t.blt, fun X f y hX hf => t.fld X _ f y hX h1 hf, t.rs, fun X f y hX hf => t.fls X _ f y hX h1 hf, fun X hP hw hK hm hb hr E => ?_⟩
    · obtain ⟨e, f, fd, q1, rfl, q2, F⟩ := t.fn x i ps h
      exact ⟨f, fd, q1, F.fd.kp, funD_p F.fd F.par, fn_stuck⟩
    · obtain ⟨e, f, fd, q0, k, q1, q2, q3, q4, q5, q6, F⟩ := t.cl x i ps h
      exact ⟨f, fd, q0, q1, q2, by rw [← q3]; exact funD_p F.fd F.par, mk_stuck⟩
    · subst hP hw hK hm hb
      refine eq_rule hr (by rw [h1]; exact t.isa) fun c k j hc hj => ?_
      rw [h1] at hc
      obtain ⟨⟨e, f, fd, p1, F, p2, p3⟩, p4, p5, p6⟩ := t.eqs c k j hc hj
      exact ⟨⟨f, fd, e.ps, fn_stuck, funD_p F.fd F.par, p2, p3⟩, p4, p5, by rw [h1]; exact p6⟩
  | n + 1 => by
    have ih := glo_all t n
    have h1 := mod_cls Pr wb (n + 1)
    refine ⟨t.gl, fun x i ps h => ?_, fun x i ps h => ?_, mod_mk Pr wb (n + 1), t.cx, t.isa, t.blt, fun X f y hX hf => t.fld X _ f y hX h1 hf, t.rs, fun X f y hX hf => t.fls X _ f y hX h1 hf, fun X hP hw hK hm hb hr E => ?_⟩
    · obtain ⟨e, f, fd, q1, rfl, q2, F⟩ := t.fn x i ps h
      exact ⟨f, fd, q1, F.fd.kp, funD_p F.fd F.par, def_at t ih q2 F⟩
    · obtain ⟨e, f, fd, q0, k, q1, q2, q3, q4, q5, q6, F⟩ := t.cl x i ps h
      refine ⟨f, fd, q0, q1, q2, by rw [← q3]; exact funD_p F.fd F.par, ?_⟩
      rw [← q3]
      exact init_at t ih q3 q4 q5 q6 F
    · subst hP hw hK hm hb
      refine eq_rule hr (by rw [h1]; exact t.isa) fun c k j hc hj => ?_
      rw [h1] at hc
      obtain ⟨⟨e, f, fd, p1, F, p2, p3⟩, p4, p5, p6⟩ := t.eqs c k j hc hj
      exact ⟨⟨f, fd, e.ps, def_at t ih p1 F, funD_p F.fd F.par, p2, p3⟩, p4, p5, by rw [h1]; exact p6⟩
end
end Fw

/-! FwY: _law_begun, and the law itself. -/
namespace Fw
open PySem L2 PyProof.Rows
abbrev blkSc : Scope := ⟨.function, [(".0", .local), ("cell", .local), ("abs", .globalImplicit)], false, false, []⟩
/-- a comprehension over ints, into a new list -/
theorem lc_ints {K : PySem.W.Frag} {tt : TT} {te : TE} {σ : L2.St} {H : Hp} {Q : VK} {a : Addr} {ns : List Int} {cond : Int → Bool} {f : Int → Int} (h0 : σ[0]? = some (some (.ref a))) (hl : SqL K H a (ns.map V.int)) (hlen : ns.length ≤ sizeLine)
    (ht : ∀ z σ H (R : Bool → Hp → Prop), σ[2]? = some (some (.int z)) → R (cond z) H → tt σ H R) (he : ∀ z σ H (R : VK), σ[2]? = some (some (.int z)) → R (.int (f z)) H → te σ H R) (h2 : 2 < σ.length)
    (q : ∀ D0, H D0 = none → Q (.ref D0) (upd H D0 (.lst (((ns.filter cond).map f).map V.int)))) : tLc (iList K (tVar 0)) (gName 2) tt te [2] σ H Q := by
  refine ⟨.ref a, h0, a, rfl, ⟨_, hl⟩, fun D0 hD => ?_⟩
  refine lc_list (xs := ns.map V.int) (fun i H' => H' = upd H D0 (.lst ((((ns.take i).filter cond).map f).map V.int))) (by simp) (fun i H' _ e => ?_) (fun i x H' hx e => ?_) fun H' e => ?_
  · subst e
    exact Same.seq (Sub.upd hD) hl
  · subst e
    rw [List.getElem?_map] at hx
    cases hz : ns[i]? with
    | none =>
      rw [hz] at hx
      cases hx
    | some z =>
      rw [hz] at hx
      cases hx
      have hlt : i < ns.length := (List.getElem?_eq_some_iff.mp hz).1
      have hw : ((wipe σ [2]).set 2 (some (V.int z)))[2]? = some (some (.int z)) := List.getElem?_set_self (by rw [wipe_length]; exact h2)
      have htk : ns.take (i + 1) = ns.take i ++ [z] := by rw [List.take_add_one, hz]; rfl
      refine ⟨?_, ht z _ _ _ hw ?_⟩
      · exact wipe_same (ps := [2]) (by simp) (fun j hj => by rw [List.getElem?_set_ne (fun z => hj (by simp [z]))]) (by simp)
      · cases hc : cond z with
        | false =>
          rw [if_neg Bool.false_ne_true, htk, List.filter_append]
          simp [hc]
        | true =>
          rw [if_pos rfl]
          refine he z _ _ _ hw ⟨_, upd_same, ?_, ?_⟩
          · have h1 : (((ns.take i).filter cond).map f).length ≤ i := by
              rw [List.length_map]
              exact Nat.le_trans (List.length_filter_le _ _) (by rw [List.length_take]; omega)
            rw [List.length_map]
            omega
          · rw [upd_upd, htk, List.filter_append]
            simp [hc]
  · subst e
    rw [List.length_map, List.take_length]
    exact q D0 hD
def absI (z : Int) : Int := if z < 0 then -z else z
/-- the draws' state at the beginning -/
def rs0 (ns : List Int) : RS := ⟨(ns.filter fun z => decide ((10 : Int) ^ 18 ≤ absI z)).map fun z => absI z - 10 ^ 18, ns.map absI, 0, 0⟩
/-- what _law_begun promises -/
def spB (K : PySem.W.Frag) : Sp := fun vs H Q _ => ∃ a ns, vs = [.ref a] ∧ SqL K H a (ns.map V.int) ∧ ns.length ≤ 63 ∧ ∀ p0 g0 c0 H', Sub H H' → H p0 = none → H g0 = none → H c0 = none → g0 ≠ c0 → g0 ≠ p0 → c0 ≠ p0 →
  (∀ b, b ≠ p0 → b ≠ g0 → b ≠ c0 → H' b = H b) → H' p0 = some (.dK [(.inr "great", .ref g0), (.inr "cells", .ref c0), (.inr "left", .int 0), (.inr "turn", .int 0)]) → H' g0 = some (.lst ((rs0 ns).great.map V.int)) → H' c0 = some (.lst ((rs0 ns).cells.map V.int)) → Q (.ref p0) H'
section
variable {P : Program} {w : World} {K : PySem.W.Frag} {mg : Str → Option Value} {base : Heap} {f : Addr} {fd : FuncData} {params : Arguments} {sg : Scope}
theorem begun_ok {p1 p2 p3 p4 p5 p6 p7 p8 p9 p10 p11 p12 p13 p14 p15 p16 p17 p18 p19 p20 p21 p22 p23 p24 p25 p26 p27 p28 p29 p30 p31 p32 p33 p34 : Pos}
    (F : FunD K "_law_begun" "_law_begun" params [.Assign [.Name "great" p1] (.ListComp (.BinOp (.Call (.Name "abs" p2) [.Name "cell" p3] [] p4) .Sub (.BinOp (.Constant (.int 10) 0 p5) .Pow (.Constant (.int 18) 0 p6) p7) p8)
      [⟨.Name "cell" p9, .Name "script" p10, [.Compare (.Call (.Name "abs" p11) [.Name "cell" p12] [] p13) [.GtE] [.BinOp (.Constant (.int 10) 0 p14) .Pow (.Constant (.int 18) 0 p15) p16] p17], 0⟩] blkSc p18) p19,
      .Return (some (.Dict [some (.Constant (.str "great") 0 p20), some (.Constant (.str "cells") 0 p21), some (.Constant (.str "left") 0 p22), some (.Constant (.str "turn") 0 p23)]
        [.Name "great" p24, .ListComp (.Call (.Name "abs" p25) [.Name "cell" p26] [] p27) [⟨.Name "cell" p28, .Name "script" p29, [], 0⟩] blkSc p30, .Constant (.int 0) 0 p31, .Constant (.int 0) 0 p32] p33)) p34] sg [] [] f fd)
    (S : FnScope ["script", "great", "cell"] ["script"] sg) (h1 : sg.names.lookup ("script" : Str) = some .local) (h2 : sg.names.lookup ("great" : Str) = some .local) (hl : (p1.line == p18.line) = true) (hab : mg "abs" = none) :
    FnOk P w K mg base (L2.CX P w) 1 f fd ["script"] (spB K) := by
  refine F.ok S (fun vs H Q E ⟨a, ns, e, _⟩ => by rw [e]; rfl) fun cdv A outer s H vs Q E hr hsp => ?_
  obtain ⟨a, ns, rfl, hS, h63, hQ⟩ := hsp
  have nd : (["script", "great", "cell"] : List Str).Nodup := by decide
  have t1 : PS (cxOf (L2.CX P w) P w K mg base ["script", "great", "cell"] "_law_begun" sg f cdv A outer s H E) (.Assign [.Name "great" p1] (.ListComp (.BinOp (.Call (.Name "abs" p2) [.Name "cell" p3] [] p4) .Sub (.BinOp (.Constant (.int 10) 0 p5) .Pow (.Constant (.int 18) 0 p6) p7) p8)
      [⟨.Name "cell" p9, .Name "script" p10, [.Compare (.Call (.Name "abs" p11) [.Name "cell" p12] [] p13) [.GtE] [.BinOp (.Constant (.int 10) 0 p14) .Pow (.Constant (.int 18) 0 p15) p16] p17], 0⟩] blkSc p18) p19) _ :=
    ps_setLc (i := 1) (own := [("cell", 2)]) rfl nd rfl h2 (sw_true S.kind h2 hl rfl) (pi_list (pe_var (i := 0) rfl (.inl h1))) (blkOk_by (by rfl)) (fun s H C cl fp => pg_name nd (i := 2) rfl (.inl rfl) (.inr rfl))
      (fun s H C cl fp => pts_one (pt_cmpR op_ge (pe_callB call_abs rfl hab boot_abs (pa_cons (pe_var (i := 2) rfl (.inl rfl)) pa_nil)) (pe_op op_pow pe_int pe_int) (nomark _)))
      (fun s H C cl fp => pe_op op_sub (pe_callB call_abs rfl hab boot_abs (pa_cons (pe_var (i := 2) rfl (.inl rfl)) pa_nil)) (pe_op op_pow pe_int pe_int))
  have t2 : PS (cxOf (L2.CX P w) P w K mg base ["script", "great", "cell"] "_law_begun" sg f cdv A outer s H E) (.Return (some (.Dict [some (.Constant (.str "great") 0 p20), some (.Constant (.str "cells") 0 p21), some (.Constant (.str "left") 0 p22), some (.Constant (.str "turn") 0 p23)]
        [.Name "great" p24, .ListComp (.Call (.Name "abs" p25) [.Name "cell" p26] [] p27) [⟨.Name "cell" p28, .Name "script" p29, [], 0⟩] blkSc p30, .Constant (.int 0) 0 p31, .Constant (.int 0) 0 p32] p33)) p34) _ :=
    ps_ret (pe_disp (pps_cons pe_str (pe_var (i := 1) rfl (.inl h2)) (pps_cons pe_str (pe_lc (own := [("cell", 2)]) rfl nd (pi_list (pe_var (i := 0) rfl (.inl h1))) (blkOk_by (by rfl)) (fun s H C cl fp => pg_name nd (i := 2) rfl (.inl rfl) (.inr rfl)) (fun s H C cl fp => pts_nil)
      (fun s H C cl fp => pe_callB call_abs rfl hab boot_abs (pa_cons (pe_var (i := 2) rfl (.inl rfl)) pa_nil))) (pps_cons pe_str pe_int (pps_cons pe_str pe_int pps_nil)))) rfl rfl (by simp) (by exact (by decide : (4 : Nat) ≤ 15)))
  refine ⟨_, pss_cons t1 (pss_one t2), ?_⟩
  have hlen : ns.length ≤ sizeLine := by
    rw [sizeLine_eq]
    omega
  unfold tSeq tAsg
  dsimp only
  refine lc_ints (σ := L2.start ["script", "great", "cell"] [.ref a]) (cond := fun z => decide ((10 : Int) ^ 18 ≤ absI z)) (f := fun z => absI z - 10 ^ 18) rfl hS hlen (fun z σ H R hz hR => ?_) (fun z σ H R hz hR => ?_) (by exact (by decide : (2 : Nat) < 3)) fun g0 hg => ?_
  · refine ⟨.int z, hz, z, rfl, 10, 18, rfl, rfl, ⟨by decide, by decide, by decide⟩, absI z, 10 ^ 18, rfl, rfl, decide (10 ^ 18 ≤ absI z), rfl, ?_⟩
    exact hR
  · refine ⟨.int z, hz, z, rfl, 10, 18, rfl, rfl, ⟨by decide, by decide, by decide⟩, absI z, 10 ^ 18, rfl, rfl, ?_⟩
    exact hR
  · intro p0 hp
    have hg0 : g0 ≠ p0 := fun z => by
      rw [z, upd_same] at hp
      cases hp
    have hp0 : H p0 = none := by
      rw [upd_ne hg0.symm] at hp
      exact hp
    refine ⟨.ref g0, rfl, ?_⟩
    have hS2 : SqL K (upd (upd H g0 (.lst ((rs0 ns).great.map V.int))) p0 (.dK [])) a (ns.map V.int) := Same.seq (Sub.upd hp) (Same.seq (Sub.upd hg) hS)
    unfold tPairs tC
    dsimp only
    refine lc_ints (σ := (L2.start ["script", "great", "cell"] [.ref a]).set 1 (some (.ref g0))) (cond := fun _ => true) (f := absI) rfl hS2 hlen (fun z σ H R hz hR => hR) (fun z σ H R hz hR => ⟨.int z, hz, z, rfl, hR⟩) (by exact (by decide : (2 : Nat) < 3)) fun c0 hc => ?_
    have hcp : c0 ≠ p0 := fun z => by
      rw [z, upd_same] at hc
      cases hc
    have hcg : g0 ≠ c0 := fun z => by
      rw [← z, upd_ne hg0, upd_same] at hc
      cases hc
    have hc0 : H c0 = none := by
      rw [upd_ne hcp, upd_ne hcg.symm] at hc
      exact hc
    refine ⟨by rw [upd_ne hcp.symm, upd_same], [(.inr "great", .ref g0), (.inr "cells", .ref c0), (.inr "left", .int 0), (.inr "turn", .int 0)], rfl, by exact (by decide : (4 : Nat) ≤ 15), ?_⟩
    have ft : (ns.filter fun _ => true) = ns := by simp
    rw [ft]
    refine hQ p0 g0 c0 _ (fun b u e => ?_) hp0 hg hc0 hcg hg0 hcp (fun b b1 b2 b3 => ?_) (by rw [upd_same]; rfl) ?_ ?_
    · have e1 : b ≠ p0 := ne_of_none e hp0
      have e2 : b ≠ c0 := ne_of_none e hc0
      have e3 : b ≠ g0 := ne_of_none e hg
      rw [upd_ne e1, upd_ne e2, upd_ne e1, upd_ne e3]
      exact e
    · rw [upd_ne b1, upd_ne b3, upd_ne b1, upd_ne b2]
    · rw [upd_ne hg0, upd_ne hcg, upd_ne hg0, upd_same]
      rfl
    · rw [upd_ne hcp, upd_same]
      rfl
/-! ### the law -/
/-- the law's promise -/
def spL (K : PySem.W.Frag) (TT : List (Addr × Str)) : Sp := fun vs H Q _ => ∃ (a : Addr) (ns : List Int), vs = [.ref a] ∧ SqL K H a (ns.map V.int) ∧ ns.length ≤ 63 ∧ LamX.Tabs TT H ∧ ∀ H', Q (.bl true) H'
/-- what is to be shown of the law's text, in plain terms -/
def Pure (m : Mod) (wb slots : Nat) (bd : Sd) : Prop := ∀ ns : List Int, ns.length ≤ 63 → ∃ s', evS m wb bd (startS slots [.val (.scr ns.length), .val .st]) (rs0 ns) = .rt (.bl true) s'
/-- the slots at the rest's begin: script, state, and perhaps a count from 0 on -/
def hdV (z : Bool) (k : Nat) : List Sl := .val (.scr k) :: .val .st :: (if z then [.val (.int 0)] else [])
def PureZ (z : Bool) (m : Mod) (wb slots : Nat) (bd : Sd) : Prop := ∀ ns : List Int, ns.length ≤ 63 → ∃ s', evS m wb bd (startS slots (hdV z ns.length)) (rs0 ns) = .rt (.bl true) s'
theorem Pure.z {m : Mod} {wb slots : Nat} {bd : Sd} (h : Pure m wb slots bd) : PureZ false m wb slots bd := h
theorem st_set {N : Nat} {a b c : Sl} (h : 2 < N) : (startS N [a, b]).set 2 c = startS N [a, b, c] := by
  obtain ⟨k, rfl⟩ := Nat.exists_eq_add_of_lt h
  have e : 2 + k + 1 - 2 = k + 1 := by omega
  have e2 : 2 + k + 1 - 3 = k := by omega
  simp [startS, e, e2, List.replicate_succ]
theorem spB_mono {K : PySem.W.Frag} {vs : List V} {H : Hp} {Q Q' : VK} {E : XK} (h : spB K vs H Q E) (q : ∀ u H', Q u H' → Q' u H') : spB K vs H Q' E := by
  obtain ⟨a, ns, e1, e2, e3, k⟩ := h
  exact ⟨a, ns, e1, e2, e3, fun p0 g0 c0 H' h1 h2 h3 h4 h5 h6 h7 h8 h9 h10 h11 => q _ _ (k p0 g0 c0 H' h1 h2 h3 h4 h5 h6 h7 h8 h9 h10 h11)⟩
/-- what the law's first statement does -/
def headU (z : Bool) (σ : L2.St) (v : V) : L2.St := if z then (σ.set 1 (some v)).set 2 (some (.int 0)) else σ.set 1 (some v)
def tHead (K : PySem.W.Frag) (z : Bool) (E : XK) : TS := fun D σ H => ∃ v, σ[0]? = some (some v) ∧ spB K [v] H (fun u H' => D.nx (headU z σ u) H') E
section
variable {N : List Str} {fl fb : Addr} {fdb : FuncData} {sc : Scope} {cdv : Value} {L : Nat} {A : Around} {outer : List Env} {s : Shared} {H : Hp} {E : XK}
theorem head_one {p1 p2 p3 p4 p5 : Pos} (S : FnScope N ["script"] sc) (h0 : N[0]? = some ("script" : Str)) (h1 : N[1]? = some ("state" : Str)) (v0 : sc.names.lookup ("script" : Str) = some .local) (v1 : sc.names.lookup ("state" : Str) = some .local ∨ sc.names.lookup ("state" : Str) = some .cell) (gb : sc.names.lookup ("_law_begun" : Str) = some .globalImplicit)
    (Fb : FnOk P w K mg base (L2.CX P w) 1 fb fdb ["script"] (spB K)) (kb : PySem.W.keepIn K (.ref fb) = true) (bb : L2.Binds K fdb ["script"] []) (mb : mg "_law_begun" = some (.ref fb)) (hr : Room 1 (A.deeper (envOfC "law" sc s.heap.objs.size fl cdv))) :
    PS (cxOf (L2.CX P w) P w K mg base N "law" sc fl cdv A outer s H E) (.Assign [.Name "state" p1] (.Call (.Name "_law_begun" p2) [.Name "script" p3] [] p4) p5) (tHead K false E) :=
  (ps_set (X := cxOf (L2.CX P w) P w K mg base N "law" sc fl cdv A outer s H E) S.nd h1 v1 (pe_call Fb hr gb mb kb bb .nil (passes_call (takes_of (E := E) (X := cxOf (L2.CX P w) P w K mg base N "law" sc fl cdv A outer s H E) rfl rfl rfl rfl) fun _ _ _ _ z => z) (pa_cons (pe_var h0 (.inl v0)) pa_nil)) (by rfl) (.inl rfl)).weak fun D0 σ H h => h
theorem head_two {p1 p2 p3 p4 p5 p6 p7 p8 p9 : Pos} {kt k2 : Nat} (S : FnScope N ["script"] sc) (h0 : N[0]? = some ("script" : Str)) (h1 : N[1]? = some ("state" : Str)) (h2 : N[2]? = some ("right" : Str)) (v0 : sc.names.lookup ("script" : Str) = some .local) (v1 : sc.names.lookup ("state" : Str) = some .local) (v2 : sc.names.lookup ("right" : Str) = some .local) (gb : sc.names.lookup ("_law_begun" : Str) = some .globalImplicit)
    (Fb : FnOk P w K mg base (L2.CX P w) 1 fb fdb ["script"] (spB K)) (kb : PySem.W.keepIn K (.ref fb) = true) (bb : L2.Binds K fdb ["script"] []) (mb : mg "_law_begun" = some (.ref fb)) (hr : Room 1 (A.deeper (envOfC "law" sc s.heap.objs.size fl cdv)))
    (hsw : swOf sc [.Name "state" p1, .Name "right" p2] [.Call (.Name "_law_begun" p4) [.Name "script" p5] [] p6, .Constant (.int 0) 0 p7] = some (some [("state" : Str), ("right" : Str)])) :
    PS (cxOf (L2.CX P w) P w K mg base N "law" sc fl cdv A outer s H E) (.Assign [.Tuple [.Name "state" p1, .Name "right" p2] kt p3] (.Tuple [.Call (.Name "_law_begun" p4) [.Name "script" p5] [] p6, .Constant (.int 0) 0 p7] k2 p8) p9) (tHead K true E) :=
  (ps_par (X := cxOf (L2.CX P w) P w K mg base N "law" sc fl cdv A outer s H E) rfl S.nd h1 h2 (by decide) v1 v2 (pa_cons (pe_call Fb hr gb mb kb bb .nil (passes_call (takes_of (E := E) (X := cxOf (L2.CX P w) P w K mg base N "law" sc fl cdv A outer s H E) rfl rfl rfl rfl) fun _ _ _ _ z => z) (pa_cons (pe_var h0 (.inl v0)) pa_nil)) (pa_cons pe_int pa_nil)) (sw_eq hsw)).weak
    fun D0 σ H ⟨v, e, h⟩ => ⟨v, e, (spB_mono h fun u H' q => ⟨u, .int 0, rfl, q⟩ : spB K [v] H (fun u H' => ∃ a b, [u, V.int 0] = [a, b] ∧ D0.nx ((σ.set 1 (some a)).set 2 (some b)) H') E)⟩
end
/-- the law: state = _law_begun(script), then the rest -/
theorem law_ok {G : Addr → Addr → Addr → Gh} {TT : List (Addr × Str)} {T : Tab} {m : Mod} {L wb : Nat} {N : List Str} {rest : List Stmt} {bd : Sd} {mu : List Nat} {lam : Bool} {fl : Addr} {fdl : FuncData} {pl : Arguments} {sc : Scope} {hd : Stmt} {z : Bool} {oc : Value} {od : Option Addr} {dV kV doc pm cdv ct : Value} {an : Option Addr} {osl : Array (Option Value)}
    (hG : ∀ p g c, (G p g c).p0 = p ∧ (G p g c).g0 = g ∧ (G p g c).c0 = c ∧ (G p g c).T = TT)
    (lk : K.lookup fl = some ⟨oc, od, .func fdl, osl⟩) (efd : fdl = PySem.W.fnOf "law" "law" pl (hd :: rest) sc dV kV doc pm an cdv ct) (hcd : PySem.W.codeIn K cdv "law" = true)
    (S : FnScope N ["script"] sc) (h0 : N[0]? = some ("script" : Str)) (h1 : N[1]? = some ("state" : Str)) (h2 : z = true → 2 < N.length)
    (hhd : ∀ (A : Around) (outer : List Env) (s : Shared) (H : Hp) (E : XK), Room (L + 3) (A.deeper (envOfC "law" sc s.heap.objs.size fl cdv)) → PS (cxOf (L2.CX P w) P w K mg base N "law" sc fl cdv A outer s H E) hd (tHead K z E))
    (hL : 1 ≤ L) (hrest : ∀ (p g c : Addr) (A : Around) (outer : List Env) (s : Shared) (H : Hp) (E : XK), A.guards = some [] → Room (L + 3) (A.deeper (envOfC "law" sc s.heap.objs.size fl cdv)) → PSs (cxOf (L2.CX P w) P w K mg base N "law" sc fl cdv A outer s H E) rest (tS K (G p g c) E (evS m wb bd)))
    (hp : PureZ z m wb N.length bd) {A : Around} {outer : List Env} {s : Shared} {H : Hp} {args : Args} {us : List Value} {a : Addr} {ns : List Int} {Q : VK} {E : XK} (hr : Room (L + 4) A) (hgd : A.guards = some []) (e0 : Env0 P w K mg base A outer s H) (hb : BindsTo s fdl args ((["script"] : List Str).zip us)) (rv : Vals [V.ref a] us)
    (hS : SqL K H a (ns.map V.int)) (h63 : ns.length ≤ 63) (hT : LamX.Tabs TT H) (hQ : ∀ H', Q (.bl true) H') : codeAny (model P w) A (.call (.ref fl) args) (CR (L2.CX P w) outer P w H s Q E) s := by
  subst efd
  refine body_run (k := L + 3) lk hcd S rfl hr e0 hb rv ?_
  have hr := hr.deeper (envOfC "law" sc s.heap.objs.size fl cdv)
  have X0 := cxOf (L2.CX P w) P w K mg base N "law" sc fl cdv A outer s H E
  have t1 := hhd A outer s H E hr
  have t2 : PSs (cxOf (L2.CX P w) P w K mg base N "law" sc fl cdv A outer s H E) rest fun D0 σ H => ∃ p g c, tS K (G p g c) E (evS m wb bd) D0 σ H := ⟨fun pins s' σ H' D0 I ⟨p, g, c, h⟩ => (hrest p g c A outer s H E hgd hr).run pins s' σ H' D0 I h⟩
  refine ⟨_, pss_cons t1 t2, ?_⟩
  unfold tSeq tHead
  dsimp only
  have hN : ["script"].length ≤ N.length := by
    have := congrArg List.length S.pre
    rw [List.length_take] at this
    simp at this ⊢
    omega
  have hN2 : 1 < N.length := (List.getElem?_eq_some_iff.mp h1).1
  have st0 : (L2.start N [V.ref a])[0]? = some (some (V.ref a)) := rfl
  refine ⟨.ref a, st0, ?_⟩
  refine ⟨a, ns, rfl, hS, h63, fun p0 g0 c0 H' e hp0 hg0 hc0 n1 n2 n3 same d1 d2 d3 => ?_⟩
  refine ⟨p0, g0, c0, ?_⟩
  obtain ⟨q1, q2, q3, q4⟩ := hG p0 g0 c0
  have hSS : ∃ Hs : Hp, SqL K Hs a (ns.map V.int) ∧ Sub Hs H' ∧ Hs c0 = some (.lst ((rs0 ns).cells.map V.int)) ∧ Hs p0 = none ∧ Hs g0 = none ∧ ∀ b ps, Hs b ≠ some (.tbl ps) := by
    have main : ∀ ho : Option HO, (∀ o, ho = some o → H a = some o ∧ ∀ ps, o ≠ .tbl ps) → (∀ Hs : Hp, Hs a = ho → SqL K Hs a (ns.map V.int)) → ∃ Hs : Hp, SqL K Hs a (ns.map V.int) ∧ Sub Hs H' ∧ Hs c0 = some (.lst ((rs0 ns).cells.map V.int)) ∧ Hs p0 = none ∧ Hs g0 = none ∧ ∀ b ps, Hs b ≠ some (.tbl ps) := fun ho h1 h2 => by
      by_cases hac : a = c0
      · refine ⟨upd (fun _ => none) c0 (.lst ((rs0 ns).cells.map V.int)), ?_, fun b u z => ?_, upd_same, by rw [upd_ne n3.symm], by rw [upd_ne n1], fun b ps z => ?_⟩
        · cases hq : ho with
          | none => rcases hS with (z | ⟨o, z⟩) | z
                    · rw [hac, hc0] at z
                      cases z
                    · rw [hac, hc0] at z
                      cases z
                    · exact .inr z
          | some o =>
            have := (h1 o hq).1
            rw [hac, hc0] at this
            cases this
        · by_cases hb : b = c0
          · rw [hb, upd_same] at z
            rw [hb, d3]
            exact z
          · rw [upd_ne hb] at z
            cases z
        · by_cases hb : b = c0
          · rw [hb, upd_same] at z
            cases z
          · rw [upd_ne hb] at z
            cases z
      · refine ⟨upd (fun b => if b = a then ho else none) c0 (.lst ((rs0 ns).cells.map V.int)), h2 _ (by rw [upd_ne hac, if_pos rfl]), fun b u z => ?_, upd_same, ?_, ?_, fun b ps z => ?_⟩
        · by_cases hb : b = c0
          · rw [hb, upd_same] at z
            rw [hb, d3]
            exact z
          · rw [upd_ne hb] at z
            by_cases hba : b = a
            · rw [if_pos hba] at z
              rw [hba]
              exact e _ _ (h1 u z).1
            · rw [if_neg hba] at z
              cases z
        · rw [upd_ne n3.symm]
          by_cases hpa : p0 = a
          · rw [if_pos hpa]
            cases hq : ho with
            | none => rfl
            | some o =>
              have := (h1 o hq).1
              rw [← hpa, hp0] at this
              cases this
          · rw [if_neg hpa]
        · rw [upd_ne n1]
          by_cases hga : g0 = a
          · rw [if_pos hga]
            cases hq : ho with
            | none => rfl
            | some o =>
              have := (h1 o hq).1
              rw [← hga, hg0] at this
              cases this
          · rw [if_neg hga]
        · by_cases hb : b = c0
          · rw [hb, upd_same] at z
            cases z
          · rw [upd_ne hb] at z
            by_cases hba : b = a
            · rw [if_pos hba] at z
              exact (h1 _ z).2 ps rfl
            · rw [if_neg hba] at z
              cases z
    rcases hS with (z | ⟨o, z⟩) | z
    · exact main (some (.lst (ns.map V.int))) (fun o q => by cases q; exact ⟨z, fun ps y => by cases y⟩) fun Hs q => .inl (.inl q)
    · exact main (some (.frz o (.lst (ns.map V.int)))) (fun o q => by cases q; exact ⟨z, fun ps y => by cases y⟩) fun Hs q => .inl (.inr ⟨o, q⟩)
    · exact main none (fun o q => by cases q) fun Hs _ => .inr z
  obtain ⟨Hs, s1, s2, s3, s4, s5, s6⟩ := hSS
  obtain ⟨s', hs'⟩ := hp ns h63
  have ok : Ok (G p0 g0 c0) Hs H' (rs0 ns) := by
    refine ⟨s2, ⟨?_, ?_, ?_, ?_⟩, ?_, ?_, ?_, ?_, s6⟩
    · rw [q1, q2, q3]
      exact d1
    · rw [q2]
      exact d2
    · rw [q3]
      exact d3
    · rw [q2, q3]
      exact n1
    · rw [q1]
      exact s4
    · rw [q2]
      exact s5
    · rw [q3]
      exact s3
    · rw [q4]
      exact hT.ext e
  have l0 : ∀ (i : Nat) (x : Sl), (startS N.length [Sl.val (.scr ns.length), .val .st])[i]? = some x → x = .un ∨ (i = 0 ∧ x = .val (.scr ns.length)) ∨ (i = 1 ∧ x = .val .st) := fun i x hx => by
    unfold startS at hx
    match i, hx with
    | 0, hx =>
      cases hx
      exact .inr (.inl ⟨rfl, rfl⟩)
    | 1, hx =>
      cases hx
      exact .inr (.inr ⟨rfl, rfl⟩)
    | i + 2, hx =>
      rw [List.getElem?_append_right (by simp)] at hx
      rw [List.getElem?_replicate] at hx
      split at hx
      · cases hx
        exact .inl rfl
      · cases hx
  have len0 : (L2.start N [V.ref a]).length = N.length := by
    unfold L2.start
    rw [List.length_append, List.length_map, List.length_replicate]
    simp
    omega
  have now0 : Now K (G p0 g0 c0) 0 Hs Hs H' Hs H' ((L2.start N [V.ref a]).set 1 (some (V.ref p0))) (startS N.length [.val (.scr ns.length), .val .st]) (rs0 ns) := by
    refine ⟨ok, ⟨?_, fun i x hx => ?_, fun i j di dj b h1 h2 => ?_⟩, Same.refl _, Same.refl _, Kp.refl _ _ _⟩
    · unfold startS
      simp [len0]
      omega
    · rcases l0 i x hx with rfl | ⟨rfl, rfl⟩ | ⟨rfl, rfl⟩
      · exact .un
      · rw [List.getElem?_set_ne (by decide), st0]
        exact .val (.scr s1 (by rw [List.length_map]))
      · rw [List.getElem?_set_self (by rw [len0]; exact hN2)]
        have z : Rep K (G p0 g0 c0) Hs (.ref (G p0 g0 c0).p0) .st := .st
        rw [q1] at z
        exact .val z
    · rcases l0 i _ h1 with z | ⟨_, z⟩ | ⟨_, z⟩ <;> cases z
  have now1 : Now K (G p0 g0 c0) 0 Hs Hs H' Hs H' (headU z (L2.start N [V.ref a]) (V.ref p0)) (startS N.length (hdV z ns.length)) (rs0 ns) := by
    cases z with
    | false => exact now0
    | true =>
      have q := now0.set (i := 2) (v := V.int 0) (d := .int 0) (.int 0)
      rw [st_set (h2 rfl)] at q
      exact q
  refine ⟨0, Hs, Hs, H', Hs, startS N.length (hdV z ns.length), rs0 ns, now1, ?_⟩
  rw [hs']
  intro v Hs2 H2 e2 o2 k2 rv
  cases rv
  exact hQ H2
end
end Fw

/-! FwZ: the head's facts: what is looked at behind the top's run, and what it gives. -/
namespace Fw
open PySem L2 PyProof.Rows
/-- a def of the text, where it stands; of an __init__ its class -/
structure FnR where
  e : FnE
  at_ : Str × Option Str
  kd : Option Nat
structure ClsX where
  x : Str
  d : ClsD
/-- a text -/
structure Desc where
  T : Tab
  fns : List FnR
  cls : List ClsX
  base : Nat
  cs : Str                            -- what _law_caught catches
  tf : List ((Str × Option Str) × Str)  -- the defs that make lambdas
  xs : List He.DefD                   -- further defs
  hc : Bool                           -- is there a _law_caught
def blts : List Str := ["len", "abs", "min", "max", "sum", "any", "all", "int", "bool", "str", "tuple", "list", "dict", "range", "enumerate", "zip", "isinstance", "ValueError", "repr", "sorted", "set"]
namespace Desc
variable (S : Desc)
def clsT : ClsT := fun c => (S.cls[c]?).map (·.d)
def kdOf : Option Nat → FnK
  | none => .plain
  | some c => .init c
def prog : Prog := ⟨S.clsT, fun i => (S.fns[i]?).map fun r => ⟨kdOf r.kd, r.e.ps.length, r.e.N.length, r.e.bd⟩, S.base⟩
def nm (c : Nat) : Str := match S.cls[c]? with
  | some k => k.x
  | none => ""
def cf (c : Nat) : List Str := match S.cls[c]? with
  | some k => k.d.fields.map fun f => S.T.fl.getD f ""
  | none => []
def lamQ (q : Str) : Str := (q ++ ".<locals>.") ++ "<lambda>"
def tt (K : PySem.W.Frag) : List (Addr × Str) := S.tf.map fun p => ((He.cT K p.1).2, lamQ p.2)
def gh (K : PySem.W.Frag) (p g c : Addr) : Gh := ⟨p, g, c, S.tt K, fun i => He.ga K (S.nm i), S.cf⟩
/-! ### what is looked at -/
def glFa : List He.Fa := S.T.gl.filterMap fun q => match q.2 with
  | .int i => some (.int q.1 i)
  | _ => none
def clFa : List He.Fa := S.cls.flatMap fun k => .glo k.x :: if k.d.exc then [.exc k.x] else .cls k.x :: .mkr k.x :: k.d.fields.map fun f => .noat k.x (S.T.fl.getD f "")
def fnFa : List He.Fa := S.T.fn.map fun q => .glo q.1
def fa : List He.Fa := blts.map .free ++ (S.glFa ++ (S.clFa ++ (S.fnFa ++ ([.glo "_law_begun", .glo "law", .glo S.cs] ++ if S.hc then [.glo "_law_caught"] else []))))
def dfs : List He.DefD := S.fns.map (fun r => ⟨r.at_, r.e.x, r.e.q, r.e.params, r.e.body, r.e.scope, [], []⟩) ++ S.xs
def samples : List D := [.non, .bl true, .int 0, .str "", .tup [], .lst [], .dic [] []] ++ ((List.range S.cls.length).map (fun c => D.ins c []) ++ (List.range S.cls.length).map fun c => D.exc c [])
def types : List Ty := [.int, .bool, .str, .tuple, .list, .dict, .err] ++ (List.range S.cls.length).map .cls
def objB (K : PySem.W.Frag) : Bool := He.eqO (PySem.W.specialIn K (.builtin "object.__class__") "__get__") (some (some (.builtin "getset_descriptor.__get__"))) && decide (PySem.W.takesIn K (.builtin "object.__class__") = some true)
def clsB (K : PySem.W.Frag) (k : ClsX) : Bool := He.eqO (PySem.W.findIn K (.ref (He.ga K k.x)) "__class__") (some (some (.builtin "object.__class__"))) && (decide (PySem.W.mroIn K (He.ga K k.x) (.type "object") = some true) &&
  (!k.d.exc || (He.eqO (PySem.W.findIn K (.ref (He.ga K k.x)) "__getattribute__") (some (some (.builtin "BaseException.__getattribute__"))) && (He.eqO (PySem.W.findIn K (.ref (He.ga K k.x)) "__getattr__") (some none) && PySem.W.hasDictIn K (He.ga K k.x)))))
def kitB (K : PySem.W.Frag) (d : D) (t : Ty) : Bool := match isaD S.clsT d t, dTy (S.gh K 0 0 0) d with
  | some b, some u => decide (PySem.W.kitOne K u (tyU (S.gh K 0 0 0) t) = some b)
  | _, _ => true
def nfB (K : PySem.W.Frag) (C : Addr) (d : D) : Bool := !typed S.clsT d || match dTy (S.gh K 0 0 0) d with
  | some u => PySem.W.notFirst K C u
  | none => true
def eqB (K : PySem.W.Frag) (k : ClsX) : Bool := k.d.eq.isNone || (He.eqO (PySem.W.findIn K (.ref (He.ga K k.x)) "__eq__") (some (some (.ref (He.ma K (He.ga K k.x) "__eq__")))) && (PySem.W.isFn K (.ref (He.ma K (He.ga K k.x) "__eq__")) &&
  (He.eqO (PySem.W.findIn K (.ref (He.ga K k.x)) "__ne__") (some (some (.builtin "object.__ne__"))) && (decide (PySem.W.subIn K (.ref (He.ga K k.x)) (.type "object") = some true) && S.samples.all fun d => S.nfB K (He.ga K k.x) d))))
def exmB (K : PySem.W.Frag) (c : Nat) : Bool := !subC S.clsT 8 c S.base || decide (PySem.W.exmOne K (.ref (He.ga K (S.nm c))) (.ref (He.ga K S.cs)) = some true)
def ex (K : PySem.W.Frag) : Bool := objB K && (S.cls.all (clsB K) && ((S.samples.all fun d => S.types.all fun t => S.kitB K d t) && (S.cls.all (S.eqB K) && ((List.range S.cls.length).all (S.exmB K) &&
  S.tf.all fun p => S.tf.all fun q => !decide ((He.cT K p.1).2 = (He.cT K q.1).2) || decide (p.2 = q.2)))))
/-! ### what is so of the text alone -/
def scB (N P : List Str) (sc : Scope) : Bool := decide (sc.kind = .function) && (!sc.isCoroutine && (!sc.isGenerator && (decide N.Nodup && (decide (N.take P.length = P) && ((P.all fun x => decide (sc.names.lookup x = some .local ∨ sc.names.lookup x = some .cell)) && sc.names.all fun y => decide (y.2 ≠ .free))))))
def fnB (r : FnR) : Bool := plainP r.e.ps r.e.params && (scB r.e.N r.e.ps r.e.scope && (!r.e.lam || S.tf.contains (r.at_, r.e.q)))
def clsW (c : Nat) (k : ClsX) : Bool := (!k.d.exc || k.d.fields.isEmpty) && ((k.d.fields.all fun f => decide (f < S.T.fl.length)) && ((List.range S.T.fl.length).all (fun f => decide ((S.cf c).idxOf? (S.T.fl.getD f "") = k.d.fields.idxOf? f)) && (decide (S.cf c).Nodup && (decide (k.d.fields.length < 1000) && match k.d.eq with
  | none => true
  | some j => (match S.fns[j]? with
    | some r => decide (r.at_ = (k.x, some ("__eq__" : Str))) && r.kd.isNone
    | none => false)))))
def fnW (q : Str × Nat × List Str) : Bool := match S.fns[q.2.1]? with
  | some r => decide (r.at_ = (q.1, none)) && (r.kd.isNone && decide (r.e.ps = q.2.2))
  | none => false
def clW (q : Str × Nat × List Str) : Bool := match S.cls[q.2.1]? with
  | some k => decide (k.x = q.1) && (!k.d.exc && match S.fns[k.d.init]? with
    | some r => decide (r.at_ = (q.1, some ("__init__" : Str))) && (decide (r.kd = some q.2.1) && (match r.e.ps with
      | _ :: ps => decide (ps = q.2.2)
      | [] => false))
    | none => false)
  | none => false
def cxW (q : Str × Nat) : Bool := match S.cls[q.2]? with
  | some k => decide (k.x = q.1)
  | none => false
def rsW (q : Str × Nat) : Bool := match S.cls[q.2]? with
  | some k => decide (k.x = q.1) && (k.d.exc && !(q.1 == ("__debug__" : Str)))
  | none => false
def glW (q : Str × D) : Bool := match q.2 with
  | .int _ => true
  | _ => false
def wf : Bool := S.fns.all S.fnB && ((List.range S.cls.length).all (fun c => match S.cls[c]? with
  | some k => S.clsW c k
  | none => true) && (S.T.fn.all S.fnW && (S.T.cl.all S.clW && (S.T.cx.all S.cxW && (S.T.rs.all S.rsW && (S.T.gl.all glW && decide (S.base < S.cls.length)))))))
end Desc
open Desc
theorem lookup_in {α β : Type} [BEq α] [LawfulBEq α] {x : α} {v : β} : ∀ {l : List (α × β)}, l.lookup x = some v → (x, v) ∈ l
  | [], h => by cases h
  | (y, u) :: r, h => by
    rw [List.lookup_cons] at h
    split at h
    · rename_i e
      cases h
      rw [eq_of_beq e]
      exact List.mem_cons_self
    · exact List.mem_cons_of_mem _ (lookup_in h)
theorem scB_ok {N P : List Str} {sc : Scope} (h : scB N P sc = true) : FnScope N P sc := by
  simp only [scB, Bool.and_eq_true, Bool.not_eq_true', decide_eq_true_eq, List.all_eq_true] at h
  obtain ⟨h1, h2, h3, h4, h5, h6, h7⟩ := h
  exact ⟨h1, h2, h3, h4, h5, h6, h7⟩
theorem isa_sample {S : Desc} {K : PySem.W.Frag} {p g c : Addr} {d : D} {t : Ty} {b : Bool} {u : Value} (h : isaD S.clsT d t = some b) (hu : dTy (S.gh K p g c) d = some u) : ∃ d0 ∈ S.samples, isaD S.clsT d0 t = some b ∧ dTy (S.gh K 0 0 0) d0 = some u := by
  have mem : ∀ c k, S.clsT c = some k → c ∈ List.range S.cls.length := fun c k hk => by
    unfold Desc.clsT at hk
    obtain ⟨q, hq, _⟩ := Option.map_eq_some_iff.mp hk
    exact List.mem_range.mpr (List.getElem?_eq_some_iff.mp hq).1
  cases d with
  | non => exact ⟨.non, by simp [Desc.samples], h, hu⟩
  | bl b2 => exact ⟨.bl true, by simp [Desc.samples], h, hu⟩
  | int i => exact ⟨.int 0, by simp [Desc.samples], h, hu⟩
  | str x => exact ⟨.str "", by simp [Desc.samples], h, hu⟩
  | tup ds => exact ⟨.tup [], by simp [Desc.samples], h, hu⟩
  | lst ds => exact ⟨.lst [], by simp [Desc.samples], h, hu⟩
  | dic ks vs => exact ⟨.dic [] [], by simp [Desc.samples], h, hu⟩
  | ins i ds =>
    have hk : ∃ k, S.clsT i = some k := by
      unfold isaD at h
      split at h
      · rename_i z
        rw [Bool.and_eq_true] at z
        have z2 := z.2
        unfold insOk at z2
        dsimp only at z2
        split at z2
        · exact ⟨_, by assumption⟩
        · cases z2
      · cases h
    obtain ⟨k, hk⟩ := hk
    exact ⟨.ins i [], List.mem_append_right _ (List.mem_append_left _ (List.mem_map.mpr ⟨i, mem i k hk, rfl⟩)), by first | exact h | (cases t <;> exact h), hu⟩
  | exc i ds =>
    have hk : ∃ k, S.clsT i = some k ∧ ds = [] := by
      unfold isaD at h
      split at h
      · rename_i z
        rw [Bool.and_eq_true] at z
        have z2 := z.2
        unfold insOk at z2
        dsimp only at z2
        split at z2
        · rw [Bool.and_eq_true] at z2
          exact ⟨_, by assumption, List.isEmpty_iff.mp z2.2⟩
        · cases z2
      · cases h
    obtain ⟨k, hk, rfl⟩ := hk
    exact ⟨.exc i [], List.mem_append_right _ (List.mem_append_right _ (List.mem_map.mpr ⟨i, mem i k hk, rfl⟩)), by first | exact h | (cases t <;> exact h), hu⟩
  | _ => cases hu
theorem ty_mem {S : Desc} {d : D} {t : Ty} {b : Bool} (h : isaD S.clsT d t = some b) : t ∈ S.types := by
  cases t with
  | cls i =>
    unfold isaD at h
    split at h
    · rename_i z
      rw [Bool.and_eq_true] at z
      have z1 : (S.clsT i).isSome = true := z.1
      unfold Desc.clsT at z1
      rw [Option.isSome_map] at z1
      obtain ⟨q, hq⟩ := Option.isSome_iff_exists.mp z1
      exact List.mem_append_right _ (List.mem_map.mpr ⟨i, List.mem_range.mpr (List.getElem?_eq_some_iff.mp hq).1, rfl⟩)
    · cases h
  | _ => simp [Desc.types]
theorem typed_sample {S : Desc} {K : PySem.W.Frag} {p g c : Addr} {d : D} {u : Value} (h : typed S.clsT d = true) (hu : dTy (S.gh K p g c) d = some u) : ∃ d0 ∈ S.samples, typed S.clsT d0 = true ∧ dTy (S.gh K 0 0 0) d0 = some u := by
  have mem : ∀ c k, S.clsT c = some k → c ∈ List.range S.cls.length := fun c k hk => by
    unfold Desc.clsT at hk
    obtain ⟨q, hq, _⟩ := Option.map_eq_some_iff.mp hk
    exact List.mem_range.mpr (List.getElem?_eq_some_iff.mp hq).1
  cases d with
  | non => exact ⟨.non, by simp [Desc.samples], h, hu⟩
  | bl b2 => exact ⟨.bl true, by simp [Desc.samples], h, hu⟩
  | int i => exact ⟨.int 0, by simp [Desc.samples], h, hu⟩
  | str x => exact ⟨.str "", by simp [Desc.samples], h, hu⟩
  | tup ds => exact ⟨.tup [], by simp [Desc.samples], h, hu⟩
  | lst ds => exact ⟨.lst [], by simp [Desc.samples], h, hu⟩
  | dic ks vs => exact ⟨.dic [] [], by simp [Desc.samples], h, hu⟩
  | ins i ds =>
    have hk : ∃ k, S.clsT i = some k := by
      have z2 : insOk S.clsT (.ins i ds) = true := h
      unfold insOk at z2
      dsimp only at z2
      split at z2
      · exact ⟨_, by assumption⟩
      · cases z2
    obtain ⟨k, hk⟩ := hk
    exact ⟨.ins i [], List.mem_append_right _ (List.mem_append_left _ (List.mem_map.mpr ⟨i, mem i k hk, rfl⟩)), by first | exact h | (cases t <;> exact h), hu⟩
  | exc i ds =>
    have hk : ∃ k, S.clsT i = some k ∧ ds = [] := by
      have z2 : insOk S.clsT (.exc i ds) = true := h
      unfold insOk at z2
      dsimp only at z2
      split at z2
      · rw [Bool.and_eq_true] at z2
        exact ⟨_, by assumption, List.isEmpty_iff.mp z2.2⟩
      · cases z2
    obtain ⟨k, hk, rfl⟩ := hk
    exact ⟨.exc i [], List.mem_append_right _ (List.mem_append_right _ (List.mem_map.mpr ⟨i, mem i k hk, rfl⟩)), by first | exact h | (cases t <;> exact h), hu⟩
  | _ => cases hu
end Fw

/-! FwZa: from the head's facts to Txt. -/
namespace Fw
open PySem L2 PyProof.Rows
open Desc
/-- each def's code is what the translation tells -/
def Cmps (T : Tab) : List FnR → Prop
  | [] => True
  | r :: rs => compS T 40 80 r.e.Γ r.e.body = some r.e.bd ∧ Cmps T rs
theorem Cmps.mem {T : Tab} : ∀ {l : List FnR}, Cmps T l → ∀ r ∈ l, compS T 40 80 r.e.Γ r.e.body = some r.e.bd
  | _ :: _, ⟨h, hs⟩, r, hr => by
    rcases List.mem_cons.mp hr with rfl | hr
    · exact h
    · exact Cmps.mem hs r hr
theorem ba2 {a b : Bool} (h : (a && b) = true) : a = true ∧ b = true := Bool.and_eq_true_iff.mp h
/-- what the text alone gives -/
structure Wf (S : Desc) : Prop where
  fns : ∀ r ∈ S.fns, S.fnB r = true
  cls : ∀ c k, S.cls[c]? = some k → S.clsW c k = true
  fn : ∀ q ∈ S.T.fn, S.fnW q = true
  cl : ∀ q ∈ S.T.cl, S.clW q = true
  cx : ∀ q ∈ S.T.cx, S.cxW q = true
  rs : ∀ q ∈ S.T.rs, S.rsW q = true
  gl : ∀ q ∈ S.T.gl, glW q = true
  base : S.base < S.cls.length
theorem wf_of {S : Desc} (h : S.wf = true) : Wf S := by
  unfold Desc.wf at h
  obtain ⟨h1, h⟩ := ba2 h
  obtain ⟨h2, h⟩ := ba2 h
  obtain ⟨h3, h⟩ := ba2 h
  obtain ⟨h4, h⟩ := ba2 h
  obtain ⟨h5, h⟩ := ba2 h
  obtain ⟨h6, h⟩ := ba2 h
  obtain ⟨h7, h8⟩ := ba2 h
  refine ⟨List.all_eq_true.mp h1, fun c k hk => ?_, List.all_eq_true.mp h3, List.all_eq_true.mp h4, List.all_eq_true.mp h5, List.all_eq_true.mp h6, List.all_eq_true.mp h7, of_decide_eq_true h8⟩
  have z := List.all_eq_true.mp h2 c (List.mem_range.mpr (List.getElem?_eq_some_iff.mp hk).1)
  rw [hk] at z
  exact z
section
variable {S : Desc} {K : PySem.W.Frag} {mg : Str → Option Value} {base h : Heap} {ts : List He.Tab} {tf : List He.Defn} {w : World}
/-- what the head's heap gives -/
structure Hd (S : Desc) (K : PySem.W.Frag) (mg : Str → Option Value) (base : Heap) : Prop where
  X : K.In base
  G : base.Ns mainGlobals mg
  fa : ∀ f ∈ S.fa, f.ok K = true
  df : ∀ d ∈ S.dfs, ∃ fd, FunD K d.name d.qual d.params d.body d.scope (d.dvs K) (d.kws K) (He.fAd K d.at_) fd
  ex : S.ex K = true
  tb : ∀ p ∈ S.tf, LamX.TabB base mg (He.cT K p.1).1 (He.cT K p.1).2
theorem Hd.glo (H : Hd S K mg base) {x : Str} (h : He.Fa.glo x ∈ S.fa) : mg x = some (.ref (He.ga K x)) := He.glo_ok H.X H.G (H.fa _ h)
theorem Hd.clsFa (H : Hd S K mg base) {c : Nat} {k : ClsX} (hk : S.cls[c]? = some k) {f : He.Fa} (h : f ∈ (He.Fa.glo k.x :: if k.d.exc then [.exc k.x] else .cls k.x :: .mkr k.x :: k.d.fields.map fun f => .noat k.x (S.T.fl.getD f "") : List He.Fa)) : f.ok K = true :=
  H.fa _ (List.mem_append_right _ (List.mem_append_right _ (List.mem_append_left _ (List.mem_flatMap.mpr ⟨k, List.mem_of_getElem? hk, h⟩))))
theorem Hd.gloC (H : Hd S K mg base) {c : Nat} {k : ClsX} (hk : S.cls[c]? = some k) : mg k.x = some (.ref (He.ga K k.x)) := He.glo_ok H.X H.G (H.clsFa hk List.mem_cons_self)
structure ExF (S : Desc) (K : PySem.W.Frag) : Prop where
  ob : objB K = true
  cls : ∀ (c : Nat) k, S.cls[c]? = some k → clsB K k = true
  kit : ∀ d ∈ S.samples, ∀ t ∈ S.types, S.kitB K d t = true
  eq : ∀ (c : Nat) k, S.cls[c]? = some k → S.eqB K k = true
  exm : ∀ c, c < S.cls.length → S.exmB K c = true
  tab : ∀ p ∈ S.tf, ∀ q ∈ S.tf, (He.cT K p.1).2 = (He.cT K q.1).2 → p.2 = q.2
theorem exF_of (h : S.ex K = true) : ExF S K := by
  unfold Desc.ex at h
  obtain ⟨h1, h⟩ := ba2 h
  obtain ⟨h2, h⟩ := ba2 h
  obtain ⟨h3, h⟩ := ba2 h
  obtain ⟨h4, h⟩ := ba2 h
  obtain ⟨h5, h6⟩ := ba2 h
  refine ⟨h1, fun c k hk => List.all_eq_true.mp h2 k (List.mem_of_getElem? hk), fun d hd t ht => List.all_eq_true.mp (List.all_eq_true.mp h3 d hd) t ht, fun c k hk => List.all_eq_true.mp h4 k (List.mem_of_getElem? hk), fun c hc => List.all_eq_true.mp h5 c (List.mem_range.mpr hc), fun p hp q hq e => ?_⟩
  have z := List.all_eq_true.mp (List.all_eq_true.mp h6 p hp) q hq
  simpa [e] using z
theorem clsT_get {c : Nat} {k : ClsD} (h : S.clsT c = some k) : ∃ kx, S.cls[c]? = some kx ∧ kx.d = k := Option.map_eq_some_iff.mp h
theorem nm_get {c : Nat} {k : ClsX} (h : S.cls[c]? = some k) : S.nm c = k.x := by
  unfold Desc.nm
  rw [h]
theorem cf_get {c : Nat} {k : ClsX} (h : S.cls[c]? = some k) : S.cf c = k.d.fields.map fun f => S.T.fl.getD f "" := by
  unfold Desc.cf
  rw [h]
theorem isa_ok (H : Hd S K mg base) (p g c : Addr) : IsaOk K (S.gh K p g c) S.clsT := by
  have F := exF_of H.ex
  have ob := F.ob
  unfold objB at ob
  obtain ⟨o1, o2⟩ := ba2 ob
  refine ⟨fun d t b u h hu => ?_, fun i k hk he => ?_, fun i k hk he => ?_⟩
  · obtain ⟨d0, m, h1, h2⟩ := isa_sample h hu
    have z := F.kit d0 m t (ty_mem h)
    unfold Desc.kitB at z
    rw [h1, h2] at z
    have z2 := of_decide_eq_true z
    cases t <;> exact z2
  · obtain ⟨kx, h1, rfl⟩ := clsT_get hk
    have e := H.clsFa h1 (f := .exc kx.x) (by rw [he]; simp)
    obtain ⟨_, _, e3, _⟩ := He.exc_ok e
    have z := F.cls i kx h1
    unfold clsB at z
    rw [he] at z
    simp only [Bool.not_true, Bool.false_or] at z
    obtain ⟨z1, z⟩ := ba2 z
    obtain ⟨z2, z⟩ := ba2 z
    obtain ⟨z3, z⟩ := ba2 z
    obtain ⟨z4, z5⟩ := ba2 z
    show ExcC K (He.ga K (S.nm i))
    rw [nm_get h1]
    exact ⟨He.eqO_ok z3, He.eqO_ok z4, e3, z5, He.eqO_ok z1, He.eqO_ok o1, of_decide_eq_true o2, of_decide_eq_true z2⟩
  · obtain ⟨kx, h1, rfl⟩ := clsT_get hk
    have e := H.clsFa h1 (f := .cls kx.x) (by rw [he]; simp)
    have z := F.cls i kx h1
    unfold clsB at z
    obtain ⟨z1, z⟩ := ba2 z
    obtain ⟨z2, z⟩ := ba2 z
    show Cls K (He.ga K (S.nm i)) ∧ PySem.W.findIn K (.ref (He.ga K (S.nm i))) "__class__" = _ ∧ _ ∧ _ ∧ PySem.W.mroIn K (He.ga K (S.nm i)) (.type "object") = some true
    rw [nm_get h1]
    exact ⟨He.cls_ok e, He.eqO_ok z1, He.eqO_ok o1, of_decide_eq_true o2, of_decide_eq_true z2⟩
theorem fldW (W : Wf S) {i : Nat} {kx : ClsX} {f : Nat} {y : Str} (h1 : S.cls[i]? = some kx) (hf : S.T.fl[f]? = some y) : S.T.fl.getD f "" = y ∧ (S.cf i).idxOf? y = kx.d.fields.idxOf? f ∧ (S.cf i).Nodup ∧ kx.d.fields.length < 1000 ∧ (kx.d.exc = true → kx.d.fields = []) := by
  have w := W.cls i kx h1
  unfold Desc.clsW at w
  obtain ⟨w0, w⟩ := ba2 w
  obtain ⟨w1, w⟩ := ba2 w
  obtain ⟨w2, w⟩ := ba2 w
  obtain ⟨w3, w⟩ := ba2 w
  obtain ⟨w4, w⟩ := ba2 w
  have e2 := of_decide_eq_true (List.all_eq_true.mp w2 f (List.mem_range.mpr (List.getElem?_eq_some_iff.mp hf).1))
  have ey : S.T.fl.getD f "" = y := by
    rw [List.getD_eq_getElem?_getD, hf]
    rfl
  rw [ey] at e2
  refine ⟨ey, e2, of_decide_eq_true w3, of_decide_eq_true w4, fun he => ?_⟩
  rw [he] at w0
  exact List.isEmpty_iff.mp (by simpa using w0)
theorem fld_cls (H : Hd S K mg base) (W : Wf S) {i j : Nat} {kx : ClsX} {f : Nat} {y : Str} (h1 : S.cls[i]? = some kx) (hj : kx.d.fields[j]? = some f) (hf : S.T.fl[f]? = some y) : Cls K (He.ga K (S.nm i)) ∧ NoAttr K (He.ga K (S.nm i)) y := by
  obtain ⟨ey, _, _, _, hx⟩ := fldW W h1 hf
  have he : kx.d.exc = false := by
    cases q : kx.d.exc with
    | false => rfl
    | true =>
      rw [hx q] at hj
      simp at hj
  rw [nm_get h1]
  have e := H.clsFa h1 (f := .cls kx.x) (by rw [he]; simp)
  have e2 := H.clsFa h1 (f := .noat kx.x (S.T.fl.getD f "")) (by
    rw [he]
    simp only [Bool.false_eq_true, if_false]
    exact List.mem_cons_of_mem _ (List.mem_cons_of_mem _ (List.mem_cons_of_mem _ (List.mem_map.mpr ⟨f, List.mem_of_getElem? hj, rfl⟩))))
  rw [ey] at e2
  exact ⟨He.cls_ok e, He.noat_ok e2⟩
theorem idx_in {f i : Nat} {l : List Nat} (h : l.idxOf? f = some i) : l[i]? = some f := by
  induction l generalizing i with
  | nil => simp at h
  | cons y N ih =>
    rw [List.idxOf?_cons] at h
    by_cases e : y = f
    · subst e
      simp at h
      subst h
      rfl
    · have e1 : (y == f) = false := by simpa using e
      simp only [e1] at h
      cases hj : N.idxOf? f with
      | none => simp [hj] at h
      | some j =>
        simp [hj] at h
        subst h
        rw [List.getElem?_cons_succ]
        exact ih hj
theorem fld_of (H : Hd S K mg base) (W : Wf S) (p g c : Addr) {X : Cx} {m : Mod} {f : Nat} {y : Str} (hX : X.K = K) (hm : m.cls = S.clsT) (hf : S.T.fl[f]? = some y) : FldOk X (S.gh K p g c) m f y := by
  refine ⟨fun i k j hk hj => ?_⟩
  rw [hm] at hk
  obtain ⟨kx, h1, rfl⟩ := clsT_get hk
  obtain ⟨ey, e2, _⟩ := fldW W h1 hf
  obtain ⟨a1, a2⟩ := fld_cls H W h1 (idx_in hj) hf
  rw [hX]
  exact ⟨a1, a2, fun fs hfs v hv => lookup_at hfs (by show (S.cf i).idxOf? y = some j; rw [e2]; exact hj) hv⟩
theorem flds_of (H : Hd S K mg base) (W : Wf S) (p g c : Addr) {X : Cx} {m : Mod} {f : Nat} {y : Str} (hX : X.K = K) (hm : m.cls = S.clsT) (hf : S.T.fl[f]? = some y) : FldSOk X (S.gh K p g c) m f y := by
  refine ⟨fun i k j hk hj => ?_⟩
  rw [hm] at hk
  obtain ⟨kx, h1, rfl⟩ := clsT_get hk
  obtain ⟨ey, _, e3, e4, _⟩ := fldW W h1 hf
  obtain ⟨a1, a2⟩ := fld_cls H W h1 hj hf
  rw [hX]
  refine ⟨a1, a2, ?_, e3, ?_⟩
  · show (S.cf i)[j]? = some y
    rw [cf_get h1, List.getElem?_map, hj]
    exact congrArg some ey
  · show (S.cf i).length < 1000
    rw [cf_get h1, List.length_map]
    exact e4
/-- a def of the text -/
theorem fnF_of (H : Hd S K mg base) (W : Wf S) (C : Cmps S.T S.fns) (p g c : Addr) {r : FnR} (hr : r ∈ S.fns) : ∃ fd, FnF K mg base (S.gh K p g c) S.T r.e (He.fAd K r.at_) fd := by
  obtain ⟨fd, F⟩ := H.df ⟨r.at_, r.e.x, r.e.q, r.e.params, r.e.body, r.e.scope, [], []⟩ (List.mem_append_left _ (List.mem_map.mpr ⟨r, hr, rfl⟩))
  have w := W.fns r hr
  unfold Desc.fnB at w
  obtain ⟨w1, w⟩ := ba2 w
  obtain ⟨w2, w3⟩ := ba2 w
  have sc := scB_ok w2
  refine ⟨fd, C.mem r hr, sc, F, w1, sc.nd, fun hl cdv hcd => ?_⟩
  rw [hl] at w3
  have hm : (r.at_, r.e.q) ∈ S.tf := by simpa using w3
  obtain ⟨oc, od, dV, kV, doc, pm, an, ct, osl, lk⟩ := hcd
  obtain ⟨oc', od', dV', kV', doc', pm', an', cdv', ct', osl', e', lk', hcd', _⟩ := F.ex
  have e1 : cdv = cdv' := by
    have z := lk.symm.trans lk'
    injection z with z
    injection z with _ _ z
    injection z with z
    rw [e'] at z
    exact congrArg FuncData.code z
  subst e1
  obtain ⟨cc, rfl⟩ := He.codeIn_ref hcd'
  have hc : He.codeOf K r.at_ = cc := He.codeOf_eq lk rfl
  have T := H.tb _ hm
  have e3 : (He.cT K r.at_).1 = cc := hc
  dsimp only at T
  rw [e3] at T
  refine ⟨cc, (He.cT K r.at_).2, rfl, T, List.mem_map.mpr ⟨_, hm, rfl⟩, fun q hq e => ?_⟩
  obtain ⟨q0, hq0, rfl⟩ := List.mem_map.mp hq
  rw [(exF_of H.ex).tab q0 hq0 _ hm e] <;> rfl
end
end Fw

/-! FwZb: Txt of a text. -/
namespace Fw
open PySem L2 PyProof.Rows
open Desc
section
variable {S : Desc} {K : PySem.W.Frag} {mg : Str → Option Value} {base h : Heap} {w : World}
theorem bm_eq : He.veBase = [.type "ValueError", .type "Exception", .type "BaseException", .type "object"] := rfl
theorem fns_get {i : Nat} {r : FnR} (h : S.fns[i]? = some r) : S.prog.fns i = some ⟨kdOf r.kd, r.e.ps.length, r.e.N.length, r.e.bd⟩ := by
  show (S.fns[i]?).map _ = _
  rw [h]
  rfl
theorem cls_get {c : Nat} {k : ClsX} (h : S.cls[c]? = some k) : S.prog.cls c = some k.d := by
  show (S.cls[c]?).map _ = _
  rw [h]
  rfl
theorem blt_of (H : Hd S K mg base) : ∀ x ∈ blts, mg x = none := fun x hx =>
  He.free_ok H.X H.G (H.fa _ (List.mem_append_left _ (List.mem_map.mpr ⟨x, hx, rfl⟩)))
theorem glo_fn (H : Hd S K mg base) {q : Str × Nat × List Str} (h : q ∈ S.T.fn) : mg q.1 = some (.ref (He.ga K q.1)) :=
  H.glo (List.mem_append_right _ (List.mem_append_right _ (List.mem_append_right _ (List.mem_append_left _ (List.mem_map.mpr ⟨q, h, rfl⟩)))))
theorem glo_x (H : Hd S K mg base) {x : Str} (h : x ∈ (["_law_begun", "law", S.cs] : List Str)) : mg x = some (.ref (He.ga K x)) :=
  H.glo (List.mem_append_right _ (List.mem_append_right _ (List.mem_append_right _ (List.mem_append_right _ (List.mem_append_left _ (by
    simp only [List.mem_cons, List.not_mem_nil, or_false] at h
    rcases h with rfl | rfl | rfl <;> simp))))))
theorem glo_c (H : Hd S K mg base) (h : S.hc = true) : mg "_law_caught" = some (.ref (He.ga K "_law_caught")) :=
  H.glo (List.mem_append_right _ (List.mem_append_right _ (List.mem_append_right _ (List.mem_append_right _ (List.mem_append_right _ (by simp [h]))))))
theorem gl_of (H : Hd S K mg base) (W : Wf S) (p g c : Addr) : ∀ x d, S.T.gl.lookup x = some d → ∃ v u, mg x = some u ∧ RelV v u ∧ ∀ Hs, Rep K (S.gh K p g c) Hs v d := fun x d hl => by
  have hm := lookup_in hl
  have w := W.gl _ hm
  cases d with
  | int i =>
    obtain ⟨t, ht⟩ := He.int_ok H.X H.G (H.fa (.int x i) (List.mem_append_right _ (List.mem_append_left _ (List.mem_filterMap.mpr ⟨_, hm, rfl⟩))))
    exact ⟨.int i, _, ht, ⟨t, rfl⟩, fun _ => .int i⟩
  | _ => cases w
theorem eqs_of (H : Hd S K mg base) (W : Wf S) (C : Cmps S.T S.fns) (p g c : Addr) : ∀ i k j, S.prog.cls i = some k → k.eq = some j → (∃ e f fd, S.prog.fns j = some ⟨.plain, e.ps.length, e.N.length, e.bd⟩ ∧ FnF K mg base (S.gh K p g c) S.T e f fd ∧ PySem.W.findIn K (.ref ((S.gh K p g c).ca i)) "__eq__" = some (some (.ref f)) ∧ PySem.W.isFn K (.ref f) = true) ∧
    PySem.W.findIn K (.ref ((S.gh K p g c).ca i)) "__ne__" = some (some (.builtin "object.__ne__")) ∧ PySem.W.subIn K (.ref ((S.gh K p g c).ca i)) (.type "object") = some true ∧ ∀ d u, typed S.prog.cls d = true → dTy (S.gh K p g c) d = some u → PySem.W.notFirst K ((S.gh K p g c).ca i) u = true := fun i k j hk hj => by
  obtain ⟨kx, h1, rfl⟩ := clsT_get (show S.clsT i = some k from hk)
  have z := (exF_of H.ex).eq i kx h1
  unfold Desc.eqB at z
  rw [hj] at z
  simp only [Option.isNone_some, Bool.false_or] at z
  obtain ⟨z1, z⟩ := ba2 z
  obtain ⟨z2, z⟩ := ba2 z
  obtain ⟨z3, z⟩ := ba2 z
  obtain ⟨z4, z5⟩ := ba2 z
  have w := W.cls i kx h1
  unfold Desc.clsW at w
  obtain ⟨_, w⟩ := ba2 w
  obtain ⟨_, w⟩ := ba2 w
  obtain ⟨_, w⟩ := ba2 w
  obtain ⟨_, w⟩ := ba2 w
  obtain ⟨_, w⟩ := ba2 w
  rw [hj] at w
  dsimp only at w
  split at w
  · rename_i r hr
    obtain ⟨w1, w2⟩ := ba2 w
    have ea := of_decide_eq_true w1
    have ek : r.kd = none := by simpa using w2
    obtain ⟨fd, F⟩ := fnF_of H W C p g c (List.mem_of_getElem? hr)
    have ef : He.fAd K r.at_ = He.ma K (He.ga K kx.x) "__eq__" := by rw [ea] <;> rfl
    have en : (S.gh K p g c).ca i = He.ga K kx.x := by
      show He.ga K (S.nm i) = _
      rw [nm_get h1]
    refine ⟨⟨r.e, _, fd, ?_, F, ?_, ?_⟩, ?_, ?_, fun d u hd hu => ?_⟩
    · rw [fns_get hr, ek]
      rfl
    · rw [en, ef]
      exact He.eqO_ok z1
    · rw [ef]
      exact z2
    · rw [en]
      exact He.eqO_ok z3
    · rw [en]
      exact of_decide_eq_true z4
    · rw [en]
      obtain ⟨d0, m0, q1, q2⟩ := typed_sample (show typed S.clsT d = true from hd) hu
      have y := List.all_eq_true.mp z5 d0 m0
      unfold Desc.nfB at y
      rw [q1, q2] at y
      simpa using y
  · cases w
theorem sub_lt (W : Wf S) : ∀ (n a : Nat), subC S.clsT n a S.base = true → a < S.cls.length
  | 0, a, h => by
    have e : a = S.base := eq_of_beq h
    rw [e]
    exact W.base
  | n + 1, a, h => by
    unfold subC at h
    rcases Bool.or_eq_true_iff.mp h with h | h
    · have e : a = S.base := eq_of_beq h
      rw [e]
      exact W.base
    · cases hk : S.clsT a with
      | none =>
        rw [hk] at h
        cases h
      | some k =>
        obtain ⟨kx, h1, _⟩ := clsT_get hk
        exact (List.getElem?_eq_some_iff.mp h1).1
/-- the text's facts -/
theorem txt_of (H : Hd S K mg base) (W : Wf S) (C : Cmps S.T S.fns) (ca : ∀ (p g c : Addr) (m : Mod), ExmOk K (S.gh K p g c) m (He.ga K S.cs) → CaughtF K mg (S.gh K p g c) m) (p g c : Addr) : Txt K mg base (S.gh K p g c) S.T S.prog where
  gl := gl_of H W p g c
  fn := fun x i ps hl => by
    have hm := lookup_in hl
    have w := W.fn _ hm
    unfold Desc.fnW at w
    dsimp only at w
    split at w
    · rename_i r hr
      obtain ⟨w1, w⟩ := ba2 w
      obtain ⟨w2, w3⟩ := ba2 w
      have ea := of_decide_eq_true w1
      have ek : r.kd = none := by simpa using w2
      obtain ⟨fd, F⟩ := fnF_of H W C p g c (List.mem_of_getElem? hr)
      have ef : He.fAd K r.at_ = He.ga K x := by rw [ea] <;> rfl
      refine ⟨r.e, _, fd, ?_, of_decide_eq_true w3, ?_, F⟩
      · rw [ef]
        exact glo_fn H hm
      · rw [fns_get hr, ek]
        rfl
    · cases w
  cl := fun x i ps hl => by
    have hm := lookup_in hl
    have w := W.cl _ hm
    unfold Desc.clW at w
    dsimp only at w
    split at w
    · rename_i k hk
      obtain ⟨w1, w⟩ := ba2 w
      obtain ⟨w2, w⟩ := ba2 w
      have ex : k.x = x := of_decide_eq_true w1
      have he : k.d.exc = false := by simpa using w2
      split at w
      · rename_i r hr
        obtain ⟨w3, w⟩ := ba2 w
        obtain ⟨w4, w⟩ := ba2 w
        have ea := of_decide_eq_true w3
        have ek : r.kd = some i := of_decide_eq_true w4
        split at w
        · rename_i q0 ps' hps
          have e3 := of_decide_eq_true w
          obtain ⟨fd, F⟩ := fnF_of H W C p g c (List.mem_of_getElem? hr)
          have en : (S.gh K p g c).ca i = He.ga K x := by
            show He.ga K (S.nm i) = _
            rw [nm_get hk, ex]
          have ef : He.fAd K r.at_ = He.ma K (He.ga K x) "__init__" := by rw [ea] <;> rfl
          have mk := He.mkr_ok (H.clsFa hk (f := .mkr k.x) (by rw [he]; simp))
          have gx := H.gloC hk
          rw [ex] at mk gx
          refine ⟨r.e, _, fd, q0, k.d, ?_, ?_, by rw [hps, e3], cls_get hk, ?_, ?_, F⟩
          · rw [en]
            exact gx
          · rw [en, ef]
            exact mk
          · rw [fns_get hr, ek]
            rfl
          · show (S.cf i).length = _
            rw [cf_get hk, List.length_map]
        · cases w
      · cases w
    · cases w
  cx := fun x i hl => by
    have w := W.cx _ (lookup_in hl)
    unfold Desc.cxW at w
    dsimp only at w
    split at w
    · rename_i k hk
      have ex : k.x = x := of_decide_eq_true w
      have gx := H.gloC hk
      show mg x = some (.ref (He.ga K (S.nm i)))
      rw [nm_get hk, ← ex]
      exact gx
    · cases w
  isa := isa_ok H p g c
  blt := blt_of H
  fld := fun X m f y hX hm hf => fld_of H W p g c hX hm hf
  fls := fun X m f y hX hm hf => flds_of H W p g c hX hm hf
  rs := fun x i hl X t j p1 p2 pos hX hmg hg => by
    have w := W.rs _ (lookup_in hl)
    unfold Desc.rsW at w
    dsimp only at w
    split at w
    · rename_i k hk
      obtain ⟨w1, w⟩ := ba2 w
      obtain ⟨w2, w3⟩ := ba2 w
      have ex : k.x = x := of_decide_eq_true w1
      obtain ⟨e1, e2, e3, e4⟩ := He.exc_ok (H.clsFa hk (f := .exc k.x) (by rw [w2]; simp))
      have gx := H.gloC hk
      rw [ex] at gx e1 e2 e3 e4
      have en : (S.gh K p g c).ca i = He.ga K x := by
        show He.ga K (S.nm i) = _
        rw [nm_get hk, ex]
      rw [en]
      subst hX hmg
      exact pmk_own PySem.F.excBase_ValueError e1 gx e2 (raises_own e3 e4) hg (by simpa using w3)
    · cases w
  eqs := eqs_of H W C p g c
  ca := fun m h1 h2 => ca p g c m fun i hi => by
    rw [h1, h2] at hi
    have hlt := sub_lt W 8 i hi
    have z := (exF_of H.ex).exm i hlt
    unfold Desc.exmB at z
    rw [show subC S.clsT 8 i S.base = true from hi] at z
    simp only [Bool.not_true, Bool.false_or] at z
    exact of_decide_eq_true z
end
end Fw

/-! FwZc: a law's end. -/
namespace Fw
open PySem L2 PyProof.Rows
open Desc
def posAt (l : List Pos) (i : Nat) : Pos := l.getD (i - 1) ⟨0, 0, 0, 0⟩
def begunBody (p : Nat → Pos) : List Stmt := [.Assign [.Name "great" (p 1)] (.ListComp (.BinOp (.Call (.Name "abs" (p 2)) [.Name "cell" (p 3)] [] (p 4)) .Sub (.BinOp (.Constant (.int 10) 0 (p 5)) .Pow (.Constant (.int 18) 0 (p 6)) (p 7)) (p 8))
      [⟨.Name "cell" (p 9), .Name "script" (p 10), [.Compare (.Call (.Name "abs" (p 11)) [.Name "cell" (p 12)] [] (p 13)) [.GtE] [.BinOp (.Constant (.int 10) 0 (p 14)) .Pow (.Constant (.int 18) 0 (p 15)) (p 16)] (p 17)], 0⟩] blkSc (p 18)) (p 19),
      .Return (some (.Dict [some (.Constant (.str "great") 0 (p 20)), some (.Constant (.str "cells") 0 (p 21)), some (.Constant (.str "left") 0 (p 22)), some (.Constant (.str "turn") 0 (p 23))]
        [.Name "great" (p 24), .ListComp (.Call (.Name "abs" (p 25)) [.Name "cell" (p 26)] [] (p 27)) [⟨.Name "cell" (p 28), .Name "script" (p 29), [], 0⟩] blkSc (p 30), .Constant (.int 0) 0 (p 31), .Constant (.int 0) 0 (p 32)] (p 33))) (p 34)]
def caughtBody (p : Nat → Pos) (e : Str) : List Stmt := [.Assign [.Name "caught" (p 1)] (.Constant .none 0 (p 2)) (p 3),
      .Try [.Expr (.Call (.Name "work" (p 4)) [] [] (p 5)) (p 6)] [.ExceptHandler (some (.Name e (p 7))) (some "error") [.Assign [.Name "caught" (p 8)] (.Name "error" (p 9)) (p 10)] (p 11)] [] [] (p 12), .Return (some (.Name "caught" (p 13))) (p 14)]
/-- state = _law_begun(script), or state, right = _law_begun(script), 0 -/
def lawHead (p : Nat → Pos) : Option (Nat × Nat) → Stmt
  | none => .Assign [.Name "state" (p 1)] (.Call (.Name "_law_begun" (p 2)) [.Name "script" (p 3)] [] (p 4)) (p 5)
  | some (kt, k2) => .Assign [.Tuple [.Name "state" (p 1), .Name "right" (p 2)] kt (p 3)] (.Tuple [.Call (.Name "_law_begun" (p 4)) [.Name "script" (p 5)] [] (p 6), .Constant (.int 0) 0 (p 7)] k2 (p 8)) (p 9)
/-- a law -/
structure LawD where
  S : Desc
  N : List Str
  lam : Bool
  mu : List Nat
  rest : List Stmt
  bd : Sd
  pl : Arguments
  sl : Scope
  pb : Arguments
  sb : Scope
  pc : Arguments
  sc : Scope
  ql : List Pos
  qb : List Pos
  qc : List Pos
  zk : Option (Nat × Nat)
namespace LawD
variable (L : LawD)
def dl : He.DefD := ⟨("law", none), "law", "law", L.pl, lawHead (posAt L.ql) L.zk :: L.rest, L.sl, [], []⟩
def db : He.DefD := ⟨("_law_begun", none), "_law_begun", "_law_begun", L.pb, begunBody (posAt L.qb), L.sb, [], []⟩
def dc : He.DefD := ⟨("_law_caught", none), "_law_caught", "_law_caught", L.pc, caughtBody (posAt L.qc) L.S.cs, L.sc, [], []⟩
def Γ : Ctx := ⟨L.N, L.sl, none, L.lam, L.mu, true⟩
def isB (sc : Scope) (x : Str) (k : NameKind) : Bool := decide (sc.names.lookup x = some k)
def xs3 : List He.DefD := [L.dl, L.db] ++ if L.S.hc then [L.dc] else []
def okC : Bool := plainP ["work"] L.pc && (scB ["work", "caught", "error"] ["work"] L.sc && (isB L.sc "caught" .local && (isB L.sc "error" .local && (isB L.sc "work" .local && (isB L.sc L.S.cs .globalImplicit && !(L.S.cs == ("__debug__" : Str)))))))
def okZ : Bool := match L.zk with
  | none => true
  | some _ => decide (L.N[2]? = some ("right" : Str)) && (isB L.sl "state" .local && (isB L.sl "right" .local &&
    decide (swOf L.sl [.Name "state" (posAt L.ql 1), .Name "right" (posAt L.ql 2)] [.Call (.Name "_law_begun" (posAt L.ql 4)) [.Name "script" (posAt L.ql 5)] [] (posAt L.ql 6), .Constant (.int 0) 0 (posAt L.ql 7)] = some (some [("state" : Str), ("right" : Str)]))))
def ok : Bool := plainP ["script"] L.pl && (plainP ["script"] L.pb && (scB L.N ["script"] L.sl && (scB ["script", "great", "cell"] ["script"] L.sb &&
  (decide (L.N[0]? = some ("script" : Str)) && (decide (L.N[1]? = some ("state" : Str)) && (isB L.sl "script" .local && ((isB L.sl "state" .local || isB L.sl "state" .cell) && (isB L.sl "_law_begun" .globalImplicit &&
  (isB L.sb "script" .local && (isB L.sb "great" .local &&
  ((posAt L.qb 1).line == (posAt L.qb 18).line && ((!L.lam || L.S.tf.contains (("law", none), "law")) && ((if L.S.hc then L.okC else L.S.tf.isEmpty) && L.okZ)))))))))))))
end LawD
section
variable {L : LawD} {K : PySem.W.Frag} {mg : Str → Option Value} {base : Heap} {P : Program} {w : World} {n wb : Nat}
theorem caught_of {fd : FuncData} {p : Nat → Pos} {e : Str} {pc : Arguments} {sc : Scope} {g : Addr} (F : FunD K "_law_caught" "_law_caught" pc (caughtBody p e) sc [] [] g fd) (hp : plainP ["work"] pc = true) (Sc : FnScope ["work", "caught", "error"] ["work"] sc)
    (h1 : sc.names.lookup ("caught" : Str) = some .local) (h2 : sc.names.lookup ("error" : Str) = some .local) (h3 : sc.names.lookup ("work" : Str) = some .local) (h4 : sc.names.lookup e = some .globalImplicit) (hd : (e == ("__debug__" : Str)) = false) {CS : Addr} (hm : mg e = some (.ref CS)) (hg : mg "_law_caught" = some (.ref g))
    {G : Gh} {m : Mod} (hx : ExmOk K G m CS) : CaughtF K mg G m := by
  have bb : L2.Binds K fd ["work"] [] := (funD_p F hp).binds
  obtain ⟨oc, od, dV, kV, doc, pm, an, cdv, ct, osl, rfl, lk, hcd, hD, hK⟩ := F.ex
  exact ⟨.inr ⟨g, CS, e, sc, pc, dV, kV, doc, pm, cdv, ct, oc, an, od, osl, 0, p 1, p 2, p 3, p 4, p 5, p 6, p 7, p 8, p 9, p 10, p 11, p 12, p 13, p 14, _, rfl, hg, F.kp, lk, hcd, bb, Sc, h1, h2, h3, h4, hm, hd, hx⟩⟩
structure LawC (L : LawD) : Prop where
  pc : plainP ["work"] L.pc = true
  sc : FnScope ["work", "caught", "error"] ["work"] L.sc
  c1 : L.sc.names.lookup ("caught" : Str) = some .local
  c2 : L.sc.names.lookup ("error" : Str) = some .local
  c3 : L.sc.names.lookup ("work" : Str) = some .local
  c4 : L.sc.names.lookup L.S.cs = some .globalImplicit
  cd : (L.S.cs == ("__debug__" : Str)) = false
theorem lawC_of (h : L.okC = true) : LawC L := by
  unfold LawD.okC at h
  obtain ⟨h1, h⟩ := ba2 h
  obtain ⟨h2, h⟩ := ba2 h
  obtain ⟨h3, h⟩ := ba2 h
  obtain ⟨h4, h⟩ := ba2 h
  obtain ⟨h5, h⟩ := ba2 h
  obtain ⟨h6, h7⟩ := ba2 h
  exact ⟨h1, scB_ok h2, of_decide_eq_true h3, of_decide_eq_true h4, of_decide_eq_true h5, of_decide_eq_true h6, by simpa using h7⟩
structure LawF (L : LawD) : Prop where
  pl : plainP ["script"] L.pl = true
  pb : plainP ["script"] L.pb = true
  sl : FnScope L.N ["script"] L.sl
  sb : FnScope ["script", "great", "cell"] ["script"] L.sb
  n0 : L.N[0]? = some ("script" : Str)
  n1 : L.N[1]? = some ("state" : Str)
  v0 : L.sl.names.lookup ("script" : Str) = some .local
  v1 : L.sl.names.lookup ("state" : Str) = some .local ∨ L.sl.names.lookup ("state" : Str) = some .cell
  gb : L.sl.names.lookup ("_law_begun" : Str) = some .globalImplicit
  b1 : L.sb.names.lookup ("script" : Str) = some .local
  b2 : L.sb.names.lookup ("great" : Str) = some .local
  ln : ((posAt L.qb 1).line == (posAt L.qb 18).line) = true
  lm : L.lam = true → ((("law", none), "law") : (Str × Option Str) × Str) ∈ L.S.tf
  cc : L.S.hc = true → LawC L
  nc : L.S.hc = false → L.S.tf = []
  oz : L.okZ = true
theorem lawF_of (h : L.ok = true) : LawF L := by
  unfold LawD.ok at h
  obtain ⟨h1, h⟩ := ba2 h
  obtain ⟨h2, h⟩ := ba2 h
  obtain ⟨h3, h⟩ := ba2 h
  obtain ⟨h4, h⟩ := ba2 h
  obtain ⟨h5, h⟩ := ba2 h
  obtain ⟨h6, h⟩ := ba2 h
  obtain ⟨h7, h⟩ := ba2 h
  obtain ⟨h8, h⟩ := ba2 h
  obtain ⟨h9, h⟩ := ba2 h
  obtain ⟨h10, h⟩ := ba2 h
  obtain ⟨h11, h⟩ := ba2 h
  obtain ⟨h12, h⟩ := ba2 h
  obtain ⟨h13, h⟩ := ba2 h
  obtain ⟨h14, h15⟩ := ba2 h
  refine ⟨h1, h2, scB_ok h3, scB_ok h4, of_decide_eq_true h5, of_decide_eq_true h6, of_decide_eq_true h7, ?_, of_decide_eq_true h9, of_decide_eq_true h10, of_decide_eq_true h11, h12, fun hl => ?_, fun hc => ?_, fun hc => ?_, h15⟩
  · rcases Bool.or_eq_true_iff.mp h8 with z | z
    · exact .inl (of_decide_eq_true z)
    · exact .inr (of_decide_eq_true z)
  · rw [hl] at h13
    simpa using h13
  · rw [if_pos hc] at h14
    exact lawC_of h14
  · rw [if_neg (by simp [hc])] at h14
    exact List.isEmpty_iff.mp h14
theorem head_at (F : LawF L) {fb : Addr} {fdb : FuncData} {cdv : Value} {fl : Addr} {A : Around} {outer : List Env} {s : Shared} {H : Hp} {E : XK} (Fb : FnOk P w K mg base (L2.CX P w) 1 fb fdb ["script"] (spB K)) (kb : PySem.W.keepIn K (.ref fb) = true) (bb : L2.Binds K fdb ["script"] []) (mb : mg "_law_begun" = some (.ref fb)) (hr : Room 1 (A.deeper (envOfC "law" L.sl s.heap.objs.size fl cdv))) :
    PS (cxOf (L2.CX P w) P w K mg base L.N "law" L.sl fl cdv A outer s H E) (lawHead (posAt L.ql) L.zk) (tHead K L.zk.isSome E) := by
  have hz := F.oz
  unfold LawD.okZ at hz
  cases e : L.zk with
  | none => exact head_one F.sl F.n0 F.n1 F.v0 F.v1 F.gb Fb kb bb mb hr
  | some k =>
    rw [e] at hz
    obtain ⟨g1, hz⟩ := ba2 hz
    obtain ⟨g2, hz⟩ := ba2 hz
    obtain ⟨g3, g4⟩ := ba2 hz
    exact head_two F.sl F.n0 F.n1 (of_decide_eq_true g1) F.v0 (of_decide_eq_true g2) (of_decide_eq_true g3) F.gb Fb kb bb mb hr (of_decide_eq_true g4)
theorem zk_len (F : LawF L) (h : L.zk.isSome = true) : 2 < L.N.length := by
  have hz := F.oz
  unfold LawD.okZ at hz
  cases e : L.zk with
  | none =>
    rw [e] at h
    cases h
  | some k =>
    rw [e] at hz
    obtain ⟨g1, hz⟩ := ba2 hz
    exact (List.getElem?_eq_some_iff.mp (of_decide_eq_true g1)).1
/-- the law's promise -/
theorem law_fn (hx : L.S.xs = L.xs3) (F : LawF L) (W : Wf L.S) (C : Cmps L.S.T L.S.fns) (hc : compS L.S.T 40 80 L.Γ L.rest = some L.bd) (hp : PureZ L.zk.isSome (L.S.prog.mod wb n) wb L.N.length L.bd) (H : Hd L.S K mg base) {fdl : FuncData}
    (Fl : FunD K "law" "law" L.pl (lawHead (posAt L.ql) L.zk :: L.rest) L.sl [] [] (He.ga K "law") fdl) (hroom : Room (lv n + 4) callerA) {s1 : Shared} {a : Addr} {ns : List Int} (h63 : ns.length ≤ 63) : RunG P w K mg (He.ga K "law") (L.S.tf.map fun p => He.cT K p.1) base s1 a ns := by
  intro H1 e1 hT1 hS1
  have xm : ∀ d ∈ L.xs3, d ∈ L.S.dfs := fun d hd => List.mem_append_right _ (by rw [hx]; exact hd)
  obtain ⟨fdb, Fb⟩ := H.df L.db (xm _ (by simp [LawD.xs3]))
  have ca : ∀ (p g c : Addr) (m : Mod), ExmOk K (L.S.gh K p g c) m (He.ga K L.S.cs) → CaughtF K mg (L.S.gh K p g c) m := fun p g c m hxm => by
    cases hhc : L.S.hc with
    | true =>
      have C1 := F.cc hhc
      obtain ⟨fdc, Fc⟩ := H.df L.dc (xm _ (by simp [LawD.xs3, hhc]))
      exact caught_of Fc C1.pc C1.sc C1.c1 C1.c2 C1.c3 C1.c4 C1.cd (glo_x H (by simp)) (glo_c H hhc) hxm
    | false =>
      refine ⟨.inl ?_⟩
      show L.S.tt K = []
      unfold Desc.tt
      rw [F.nc hhc]
      rfl
  have txt := txt_of H W C ca
  have okb : FnOk P w K mg base (L2.CX P w) 1 (He.ga K "_law_begun") fdb ["script"] (spB K) := begun_ok Fb F.sb F.b1 F.b2 F.ln (blt_of H "abs" (by simp [blts]))
  have bb : L2.Binds K fdb ["script"] [] := (funD_p Fb F.pb).binds
  obtain ⟨oc, od, dV, kV, doc, pm, an, cdv, ct, osl, e, lk, hcd, hD, hK⟩ := Fl.ex
  have lk' : K.lookup (He.ga K "law") = some ⟨oc, od, .func fdl, osl⟩ := lk
  have e' : fdl = PySem.W.fnOf "law" "law" L.pl (lawHead (posAt L.ql) L.zk :: L.rest) L.sl dV kV doc pm an cdv ct := e
  have tabs : LamX.Tabs (L.S.tt K) H1 := fun p hp' => by
    obtain ⟨q, hq, rfl⟩ := List.mem_map.mp hp'
    exact ⟨#[], hT1 _ (List.mem_map.mpr ⟨q, hq, rfl⟩), by first | trivial | exact fun _ z => nomatch z | simp [TriplesOk], fun pos cv z => by cases z⟩
  have bl : ∀ (s : Shared) (u : Value), BindsTo s fdl ⟨[u], []⟩ [("script", u)] := fun s u =>
    FunD.bindsA (ps := ["script"]) Fl (fun kV doc pm an cdv ct us hl => binds_plain F.pl hl) s [u] rfl
  refine law_ok (T := L.S.T) (mu := L.mu) (lam := L.lam) (G := L.S.gh K) (TT := L.S.tt K) (m := L.S.prog.mod wb n) (fun _ _ _ => ⟨rfl, rfl, rfl, rfl⟩) lk' e' hcd F.sl F.n0 F.n1 (zk_len F) (fun A outer s H' E hr => head_at F okb Fb.kp bb (glo_x H (x := "_law_begun") (by simp)) (hr.mono (by omega))) (by cases n <;> simp [lv]) (fun p g c A outer s H' E hgd hr => ?_) hp hroom rfl e1 (us := [.ref a]) (bl s1 (.ref a)) (.cons rfl .nil) hS1 h63 tabs (fun _ => rfl)
  have gl := glo_all (wb := wb) (P := P) (w := w) (txt p g c) n
  have tk : Takes (cxOf (L2.CX P w) P w K mg base L.N "law" L.sl (He.ga K "law") cdv A outer s H' E) fun cls d _ H => E cls d H := takes_of (E := E) (X := cxOf (L2.CX P w) P w K mg base L.N "law" L.sl (He.ga K "law") cdv A outer s H' E) rfl rfl rfl rfl
  refine sndS (n := 40) 80 _ _ _ hc _ _ ⟨⟨gl, rfl, F.sl.nd, rfl, rfl, hr.mono (by omega), passes_call tk fun _ _ _ _ z => z, fun x hx' => ?_, fun hl => ?_, fun _ => hgd⟩, tk, passes_of (X := cxOf (L2.CX P w) P w K mg base L.N "law" L.sl (He.ga K "law") cdv A outer s H' E) rfl, F.sl.kind⟩
  · have hx2 : (decide (L.sl.names.lookup x = some .local) || (decide (L.sl.names.lookup x = some .cell) && true)) = true := hx'
    simp only [Bool.and_true, Bool.or_eq_true, decide_eq_true_eq] at hx2
    rcases hx2 with hx2 | hx2
    · exact ⟨.inl hx2, .inl rfl⟩
    · exact ⟨.inr hx2, .inl rfl⟩
  · have hm := F.lm hl
    have T := H.tb _ hm
    obtain ⟨cc, rfl⟩ := He.codeIn_ref hcd
    have hcc : (He.cT K (("law", none) : Str × Option Str)).1 = cc := He.codeOf_eq (p := ("law", none)) lk (by rw [e] <;> rfl)
    dsimp only at T
    rw [hcc] at T
    refine ⟨hr, (txt p g c).ca _ (mod_cls _ _ _) (mod_base _ _ _), cc, (He.cT K (("law", none) : Str × Option Str)).2, T, rfl, List.mem_map.mpr ⟨_, hm, rfl⟩, fun q hq e2 => ?_⟩
    obtain ⟨q0, hq0, rfl⟩ := List.mem_map.mp hq
    rw [(exF_of H.ex).tab q0 hq0 _ hm e2] <;> rfl
/-- for walk_G -/
theorem law_at {l : PySem.W.OpenLaw} {k : Nat} {fa : Addr} {h : Heap} (hx : L.S.xs = L.xs3) (hok : L.ok = true) (hwf : L.S.wf = true) (C : Cmps L.S.T L.S.fns) (hc : compS L.S.T 40 80 L.Γ L.rest = some L.bd) (hp : PureZ L.zk.isSome (L.S.prog.mod wb n) wb L.N.length L.bd) (hroom : Room (lv n + 4) callerA)
    (Y : (He.hookX k L.S.fa L.S.dfs [] (L.S.tf.map (·.1)) L.S.ex).says w h) (G : h.Ns mainGlobals mg) (hmg : mg "law" = some (.ref fa)) : ∃ K : PySem.W.Frag, K.In h ∧ EndG l w K mg fa h := by
  obtain ⟨K, KX, c⟩ := Y
  have F := lawF_of hok
  have W := wf_of hwf
  have hfa : fa = He.ga K "law" := by
    have z := He.glo_ok KX G (c.t.d.facts (f := .glo "law") (List.mem_append_right _ (List.mem_append_right _ (List.mem_append_right _ (List.mem_append_right _ (List.mem_append_left _ (by simp)))))))
    rw [hmg] at z
    cases z
    rfl
  have xm : L.dl ∈ L.S.dfs := List.mem_append_right _ (by rw [hx]; simp [LawD.xs3])
  obtain ⟨fdl, Fl⟩ := c.t.d.defs xm
  refine ⟨K, KX, L.S.tf.map (fun p => He.cT K p.1), fun p hp' => ?_, fun p hp' => ?_, fun p hp' => ?_, fun base h1 h2 h3 s1 a ns hl => ?_⟩
  · obtain ⟨q, hq, rfl⟩ := List.mem_map.mp hp'
    exact c.empty _ (List.mem_map.mpr ⟨q, hq, rfl⟩)
  · obtain ⟨q, hq, rfl⟩ := List.mem_map.mp hp'
    exact c.out _ (List.mem_map.mpr ⟨q, hq, rfl⟩)
  · obtain ⟨q, hq, rfl⟩ := List.mem_map.mp hp'
    exact PySem.W.codeHd_of_K KX (c.hd _ (List.mem_map.mpr ⟨q, hq, rfl⟩))
  · have H : Hd L.S K mg base := ⟨h1, h2, fun f hf => c.t.d.facts hf, fun d hd => c.t.d.defs hd, c.more, fun p hp' => h3 _ (List.mem_map.mpr ⟨p, hp', rfl⟩)⟩
    rw [hfa]
    exact law_fn hx F W C hc hp H Fl hroom hl
end
end Fw

namespace Lw
open PySem L2 PyProof.Rows Fw
def top (i : Nat) : Stmt := PySem.Challenge.pw_sharesheld_k09_whole_judge_of_programs.main.body.getD i (.Pass ⟨0, 0, 0, 0⟩)
def T : Tab where
  fn := [(("is_int" : Str), 0, [("value" : Str)]), (("common" : Str), 1, [("one" : Str), ("other" : Str)]), (("is_fraction" : Str), 2, [("value" : Str)]), (("lowest" : Str), 3, [("upper" : Str), ("lower" : Str)]), (("summed" : Str), 4, [("one" : Str), ("other" : Str)]), (("multiplied" : Str), 5, [("one" : Str), ("other" : Str)]), (("below" : Str), 6, [("one" : Str), ("other" : Str)]), (("total" : Str), 7, [("several" : Str)]), (("sum_of" : Str), 8, [("row" : Str), ("setting" : Str)]), (("are_fractions" : Str), 9, [("many" : Str), ("value" : Str)]), (("need_goal" : Str), 10, [("goal" : Str)]), (("is_limit" : Str), 11, [("many" : Str), ("value" : Str)]), (("need_program" : Str), 12, [("goal" : Str), ("limits" : Str)]), (("keeps" : Str), 13, [("limits" : Str), ("setting" : Str)]), (("are_limit_weights" : Str), 14, [("limits" : Str), ("value" : Str)]), (("weighed" : Str), 15, [("many" : Str), ("limits" : Str), ("weights" : Str)]), (("is_none_paper" : Str), 16, [("many" : Str), ("limits" : Str), ("value" : Str)]), (("is_endless_paper" : Str), 17, [("goal" : Str), ("limits" : Str), ("setting" : Str), ("way" : Str)]), (("is_least_sum" : Str), 18, [("goal" : Str), ("limits" : Str), ("value" : Str)]), (("_law_blended" : Str), 19, [("state" : Str)]), (("_law_draw" : Str), 20, [("state" : Str), ("size_here" : Str)]), (("_law_pick" : Str), 21, [("state" : Str), ("several" : Str)]), (("_law_is_truth" : Str), 22, [("found" : Str), ("due" : Str)]), (("_law_is_whole" : Str), 23, [("item" : Str)]), (("_law_bent" : Str), 24, [("state" : Str), ("item" : Str)]), (("_law_odd" : Str), 25, [("state" : Str)]), (("_law_fr_common" : Str), 26, [("one" : Str), ("other" : Str)]), (("_law_fr" : Str), 27, [("upper" : Str), ("lower" : Str)]), (("_law_fr_is" : Str), 28, [("value" : Str)]), (("_law_fr_plus" : Str), 29, [("one" : Str), ("other" : Str)]), (("_law_fr_minus" : Str), 30, [("one" : Str), ("other" : Str)]), (("_law_fr_times" : Str), 31, [("one" : Str), ("other" : Str)]), (("_law_fr_below" : Str), 32, [("one" : Str), ("other" : Str)]), (("_law_hb_times" : Str), 33, [("row" : Str), ("setting" : Str)]), (("_law_hb_are" : Str), 34, [("many" : Str), ("value" : Str)]), (("_law_hb_come" : Str), 35, [("many" : Str), ("rows" : Str), ("weights" : Str)]), (("_law_hb_turned" : Str), 36, [("row" : Str)]), (("_law_hb_plus" : Str), 37, [("one" : Str), ("other" : Str)]), (("_law_hb_scaled" : Str), 38, [("row" : Str), ("number" : Str)]), (("_law_hb_keeps" : Str), 39, [("limits" : Str), ("setting" : Str)]), (("_law_hb_are_weights" : Str), 40, [("limits" : Str), ("value" : Str)]), (("_law_hb_is_sum" : Str), 41, [("goal" : Str), ("limits" : Str), ("value" : Str)]), (("_law_hb_row" : Str), 42, [("state" : Str), ("many" : Str), ("most" : Str)]), (("_law_k09_least" : Str), 43, [("state" : Str), ("many" : Str)]), (("_law_k09_least_ones" : Str), 44, [("state" : Str), ("many" : Str)]), (("_law_k09_none_ones" : Str), 45, [("state" : Str), ("many" : Str)]), (("_law_k09_endless_ones" : Str), 46, [("state" : Str), ("many" : Str)])]
  cl := []
  cx := [(("ShareError" : Str), 0), (("BadGoal" : Str), 1), (("BadLimits" : Str), 2)]
  gl := [(("MOST_UNKNOWNS" : Str), .int (8)), (("MOST_LIMITS" : Str), .int (40))]
  fl := []
  rs := [(("ShareError" : Str), 0), (("BadGoal" : Str), 1), (("BadLimits" : Str), 2)]
def e0 (bd : Sd) : FnE := ⟨("is_int" : Str), ("is_int" : Str), [("value" : Str)], [("value" : Str)], L2.defArgs (top 5), L2.defBody (top 5), L2.defScope (top 5), false, [], bd⟩
def e1 (bd : Sd) : FnE := ⟨("common" : Str), ("common" : Str), [("one" : Str), ("other" : Str)], [("one" : Str), ("other" : Str)], L2.defArgs (top 6), L2.defBody (top 6), L2.defScope (top 6), false, [], bd⟩
def e2 (bd : Sd) : FnE := ⟨("is_fraction" : Str), ("is_fraction" : Str), [("value" : Str)], [("value" : Str)], L2.defArgs (top 7), L2.defBody (top 7), L2.defScope (top 7), false, [], bd⟩
def e3 (bd : Sd) : FnE := ⟨("lowest" : Str), ("lowest" : Str), [("upper" : Str), ("lower" : Str)], [("upper" : Str), ("lower" : Str), ("shared" : Str)], L2.defArgs (top 8), L2.defBody (top 8), L2.defScope (top 8), false, [], bd⟩
def e4 (bd : Sd) : FnE := ⟨("summed" : Str), ("summed" : Str), [("one" : Str), ("other" : Str)], [("one" : Str), ("other" : Str)], L2.defArgs (top 9), L2.defBody (top 9), L2.defScope (top 9), false, [], bd⟩
def e5 (bd : Sd) : FnE := ⟨("multiplied" : Str), ("multiplied" : Str), [("one" : Str), ("other" : Str)], [("one" : Str), ("other" : Str)], L2.defArgs (top 10), L2.defBody (top 10), L2.defScope (top 10), false, [], bd⟩
def e6 (bd : Sd) : FnE := ⟨("below" : Str), ("below" : Str), [("one" : Str), ("other" : Str)], [("one" : Str), ("other" : Str)], L2.defArgs (top 11), L2.defBody (top 11), L2.defScope (top 11), false, [], bd⟩
def e7 (bd : Sd) : FnE := ⟨("total" : Str), ("total" : Str), [("several" : Str)], [("several" : Str), ("found" : Str), ("one" : Str)], L2.defArgs (top 12), L2.defBody (top 12), L2.defScope (top 12), false, [], bd⟩
def e8 (bd : Sd) : FnE := ⟨("sum_of" : Str), ("sum_of" : Str), [("row" : Str), ("setting" : Str)], [("row" : Str), ("setting" : Str), ("one" : Str), ("other" : Str)], L2.defArgs (top 16), L2.defBody (top 16), L2.defScope (top 16), false, [], bd⟩
def e9 (bd : Sd) : FnE := ⟨("are_fractions" : Str), ("are_fractions" : Str), [("many" : Str), ("value" : Str)], [("many" : Str), ("value" : Str), ("part" : Str)], L2.defArgs (top 17), L2.defBody (top 17), L2.defScope (top 17), false, [], bd⟩
def e10 (bd : Sd) : FnE := ⟨("need_goal" : Str), ("need_goal" : Str), [("goal" : Str)], [("goal" : Str)], L2.defArgs (top 18), L2.defBody (top 18), L2.defScope (top 18), false, [], bd⟩
def e11 (bd : Sd) : FnE := ⟨("is_limit" : Str), ("is_limit" : Str), [("many" : Str), ("value" : Str)], [("many" : Str), ("value" : Str)], L2.defArgs (top 19), L2.defBody (top 19), L2.defScope (top 19), false, [], bd⟩
def e12 (bd : Sd) : FnE := ⟨("need_program" : Str), ("need_program" : Str), [("goal" : Str), ("limits" : Str)], [("goal" : Str), ("limits" : Str), ("one" : Str)], L2.defArgs (top 20), L2.defBody (top 20), L2.defScope (top 20), false, [], bd⟩
def e13 (bd : Sd) : FnE := ⟨("keeps" : Str), ("keeps" : Str), [("limits" : Str), ("setting" : Str)], [("limits" : Str), ("setting" : Str), ("word" : Str), ("parts" : Str), ("bound" : Str), ("one" : Str)], L2.defArgs (top 21), L2.defBody (top 21), L2.defScope (top 21), false, [], bd⟩
def e14 (bd : Sd) : FnE := ⟨("are_limit_weights" : Str), ("are_limit_weights" : Str), [("limits" : Str), ("value" : Str)], [("limits" : Str), ("value" : Str), ("limit" : Str), ("weight" : Str)], L2.defArgs (top 22), L2.defBody (top 22), L2.defScope (top 22), false, [], bd⟩
def e15 (bd : Sd) : FnE := ⟨("weighed" : Str), ("weighed" : Str), [("many" : Str), ("limits" : Str), ("weights" : Str)], [("many" : Str), ("limits" : Str), ("weights" : Str), ("parts" : Str), ("limit" : Str), ("at" : Str)], L2.defArgs (top 23), L2.defBody (top 23), L2.defScope (top 23), false, [], bd⟩
def e16 (bd : Sd) : FnE := ⟨("is_none_paper" : Str), ("is_none_paper" : Str), [("many" : Str), ("limits" : Str), ("value" : Str)], [("many" : Str), ("limits" : Str), ("value" : Str), ("parts" : Str), ("bound" : Str)], L2.defArgs (top 24), L2.defBody (top 24), L2.defScope (top 24), false, [], bd⟩
def e17 (bd : Sd) : FnE := ⟨("is_endless_paper" : Str), ("is_endless_paper" : Str), [("goal" : Str), ("limits" : Str), ("setting" : Str), ("way" : Str)], [("goal" : Str), ("limits" : Str), ("setting" : Str), ("way" : Str), ("word" : Str), ("parts" : Str), ("bound" : Str)], L2.defArgs (top 25), L2.defBody (top 25), L2.defScope (top 25), false, [], bd⟩
def e18 (bd : Sd) : FnE := ⟨("is_least_sum" : Str), ("is_least_sum" : Str), [("goal" : Str), ("limits" : Str), ("value" : Str)], [("goal" : Str), ("limits" : Str), ("value" : Str), ("many" : Str)], L2.defArgs (top 26), L2.defBody (top 26), L2.defScope (top 26), false, [], bd⟩
def e19 (bd : Sd) : FnE := ⟨("_law_blended" : Str), ("_law_blended" : Str), [("state" : Str)], [("state" : Str), ("turn" : Str), ("found" : Str), ("prime" : Str), ("blend" : Str), ("cell" : Str)], L2.defArgs (top 29), L2.defBody (top 29), L2.defScope (top 29), false, [], bd⟩
def e20 (bd : Sd) : FnE := ⟨("_law_draw" : Str), ("_law_draw" : Str), [("state" : Str), ("size_here" : Str)], [("state" : Str), ("size_here" : Str), ("found" : Str)], L2.defArgs (top 30), L2.defBody (top 30), L2.defScope (top 30), false, [], bd⟩
def e21 (bd : Sd) : FnE := ⟨("_law_pick" : Str), ("_law_pick" : Str), [("state" : Str), ("several" : Str)], [("state" : Str), ("several" : Str)], L2.defArgs (top 31), L2.defBody (top 31), L2.defScope (top 31), false, [], bd⟩
def e22 (bd : Sd) : FnE := ⟨("_law_is_truth" : Str), ("_law_is_truth" : Str), [("found" : Str), ("due" : Str)], [("found" : Str), ("due" : Str)], L2.defArgs (top 32), L2.defBody (top 32), L2.defScope (top 32), false, [], bd⟩
def e23 (bd : Sd) : FnE := ⟨("_law_is_whole" : Str), ("_law_is_whole" : Str), [("item" : Str)], [("item" : Str)], L2.defArgs (top 33), L2.defBody (top 33), L2.defScope (top 33), false, [], bd⟩
def e24 (bd : Sd) : FnE := ⟨("_law_bent" : Str), ("_law_bent" : Str), [("state" : Str), ("item" : Str)], [("state" : Str), ("item" : Str), ("at" : Str), ("way" : Str)], L2.defArgs (top 34), L2.defBody (top 34), L2.defScope (top 34), false, [], bd⟩
def e25 (bd : Sd) : FnE := ⟨("_law_odd" : Str), ("_law_odd" : Str), [("state" : Str)], [("state" : Str)], L2.defArgs (top 35), L2.defBody (top 35), L2.defScope (top 35), false, [], bd⟩
def e26 (bd : Sd) : FnE := ⟨("_law_fr_common" : Str), ("_law_fr_common" : Str), [("one" : Str), ("other" : Str)], [("one" : Str), ("other" : Str)], L2.defArgs (top 36), L2.defBody (top 36), L2.defScope (top 36), false, [], bd⟩
def e27 (bd : Sd) : FnE := ⟨("_law_fr" : Str), ("_law_fr" : Str), [("upper" : Str), ("lower" : Str)], [("upper" : Str), ("lower" : Str), ("shared" : Str)], L2.defArgs (top 37), L2.defBody (top 37), L2.defScope (top 37), false, [], bd⟩
def e28 (bd : Sd) : FnE := ⟨("_law_fr_is" : Str), ("_law_fr_is" : Str), [("value" : Str)], [("value" : Str), ("item" : Str)], L2.defArgs (top 38), L2.defBody (top 38), L2.defScope (top 38), false, [], bd⟩
def e29 (bd : Sd) : FnE := ⟨("_law_fr_plus" : Str), ("_law_fr_plus" : Str), [("one" : Str), ("other" : Str)], [("one" : Str), ("other" : Str)], L2.defArgs (top 39), L2.defBody (top 39), L2.defScope (top 39), false, [], bd⟩
def e30 (bd : Sd) : FnE := ⟨("_law_fr_minus" : Str), ("_law_fr_minus" : Str), [("one" : Str), ("other" : Str)], [("one" : Str), ("other" : Str)], L2.defArgs (top 40), L2.defBody (top 40), L2.defScope (top 40), false, [], bd⟩
def e31 (bd : Sd) : FnE := ⟨("_law_fr_times" : Str), ("_law_fr_times" : Str), [("one" : Str), ("other" : Str)], [("one" : Str), ("other" : Str)], L2.defArgs (top 41), L2.defBody (top 41), L2.defScope (top 41), false, [], bd⟩
def e32 (bd : Sd) : FnE := ⟨("_law_fr_below" : Str), ("_law_fr_below" : Str), [("one" : Str), ("other" : Str)], [("one" : Str), ("other" : Str)], L2.defArgs (top 42), L2.defBody (top 42), L2.defScope (top 42), false, [], bd⟩
def e33 (bd : Sd) : FnE := ⟨("_law_hb_times" : Str), ("_law_hb_times" : Str), [("row" : Str), ("setting" : Str)], [("row" : Str), ("setting" : Str), ("found" : Str), ("one" : Str), ("other" : Str)], L2.defArgs (top 43), L2.defBody (top 43), L2.defScope (top 43), false, [], bd⟩
def e34 (bd : Sd) : FnE := ⟨("_law_hb_are" : Str), ("_law_hb_are" : Str), [("many" : Str), ("value" : Str)], [("many" : Str), ("value" : Str), ("part" : Str)], L2.defArgs (top 44), L2.defBody (top 44), L2.defScope (top 44), false, [], bd⟩
def e35 (bd : Sd) : FnE := ⟨("_law_hb_come" : Str), ("_law_hb_come" : Str), [("many" : Str), ("rows" : Str), ("weights" : Str)], [("many" : Str), ("rows" : Str), ("weights" : Str), ("row" : Str), ("at" : Str)], L2.defArgs (top 45), L2.defBody (top 45), L2.defScope (top 45), false, [], bd⟩
def e36 (bd : Sd) : FnE := ⟨("_law_hb_turned" : Str), ("_law_hb_turned" : Str), [("row" : Str)], [("row" : Str), ("part" : Str)], L2.defArgs (top 46), L2.defBody (top 46), L2.defScope (top 46), false, [], bd⟩
def e37 (bd : Sd) : FnE := ⟨("_law_hb_plus" : Str), ("_law_hb_plus" : Str), [("one" : Str), ("other" : Str)], [("one" : Str), ("other" : Str), ("part" : Str), ("more" : Str)], L2.defArgs (top 47), L2.defBody (top 47), L2.defScope (top 47), false, [], bd⟩
def e38 (bd : Sd) : FnE := ⟨("_law_hb_scaled" : Str), ("_law_hb_scaled" : Str), [("row" : Str), ("number" : Str)], [("row" : Str), ("number" : Str), ("part" : Str)], L2.defArgs (top 48), L2.defBody (top 48), L2.defScope (top 48), false, [], bd⟩
def e39 (bd : Sd) : FnE := ⟨("_law_hb_keeps" : Str), ("_law_hb_keeps" : Str), [("limits" : Str), ("setting" : Str)], [("limits" : Str), ("setting" : Str), ("word" : Str), ("parts" : Str), ("bound" : Str), ("one" : Str)], L2.defArgs (top 49), L2.defBody (top 49), L2.defScope (top 49), false, [], bd⟩
def e40 (bd : Sd) : FnE := ⟨("_law_hb_are_weights" : Str), ("_law_hb_are_weights" : Str), [("limits" : Str), ("value" : Str)], [("limits" : Str), ("value" : Str), ("limit" : Str), ("weight" : Str)], L2.defArgs (top 50), L2.defBody (top 50), L2.defScope (top 50), false, [], bd⟩
def e41 (bd : Sd) : FnE := ⟨("_law_hb_is_sum" : Str), ("_law_hb_is_sum" : Str), [("goal" : Str), ("limits" : Str), ("value" : Str)], [("goal" : Str), ("limits" : Str), ("value" : Str), ("many" : Str), ("rows" : Str), ("limit" : Str), ("found" : Str), ("flat" : Str)], L2.defArgs (top 51), L2.defBody (top 51), L2.defScope (top 51), false, [], bd⟩
def e42 (bd : Sd) : FnE := ⟨("_law_hb_row" : Str), ("_law_hb_row" : Str), [("state" : Str), ("many" : Str), ("most" : Str)], [("state" : Str), ("many" : Str), ("most" : Str), ("found" : Str), ("way" : Str), ("at" : Str), ("number" : Str)], L2.defArgs (top 52), L2.defBody (top 52), L2.defScope (top 52), false, [3], bd⟩
def e43 (bd : Sd) : FnE := ⟨("_law_k09_least" : Str), ("_law_k09_least" : Str), [("state" : Str), ("many" : Str)], [("state" : Str), ("many" : Str), ("setting" : Str), ("parts" : Str), ("other" : Str), ("flat" : Str), ("one" : Str), ("two" : Str), ("bound" : Str), ("just" : Str), ("loose" : Str), ("limits" : Str), ("goal" : Str)], L2.defArgs (top 53), L2.defBody (top 53), L2.defScope (top 53), false, [], bd⟩
def e44 (bd : Sd) : FnE := ⟨("_law_k09_least_ones" : Str), ("_law_k09_least_ones" : Str), [("state" : Str), ("many" : Str)], [("state" : Str), ("many" : Str), ("goal" : Str), ("limits" : Str), ("value" : Str), ("worth_here" : Str), ("setting" : Str), ("weights" : Str), ("one" : Str), ("two" : Str), ("half" : Str), ("more" : Str), ("found" : Str), ("far" : Str), ("edge" : Str), ("limit" : Str), ("at" : Str), ("raised" : Str), ("low" : Str), ("own" : Str), ("free" : Str), ("spot" : Str), ("plain" : Str), ("moved_here" : Str), ("told_here" : Str), ("bent" : Str)], L2.defArgs (top 54), L2.defBody (top 54), L2.defScope (top 54), false, [12], bd⟩
def e45 (bd : Sd) : FnE := ⟨("_law_k09_none_ones" : Str), ("_law_k09_none_ones" : Str), [("state" : Str), ("many" : Str)], [("state" : Str), ("many" : Str), ("goal" : Str), ("parts" : Str), ("first" : Str), ("gap" : Str), ("second" : Str), ("free" : Str), ("both" : Str), ("met" : Str), ("just" : Str), ("found" : Str), ("limits" : Str), ("weights" : Str)], L2.defArgs (top 55), L2.defBody (top 55), L2.defScope (top 55), false, [], bd⟩
def e46 (bd : Sd) : FnE := ⟨("_law_k09_endless_ones" : Str), ("_law_k09_endless_ones" : Str), [("state" : Str), ("many" : Str)], [("state" : Str), ("many" : Str), ("setting" : Str), ("way" : Str), ("at" : Str), ("down" : Str), ("along" : Str), ("spot" : Str), ("edge" : Str), ("limits" : Str), ("found" : Str), ("goal" : Str), ("some" : Str), ("one" : Str), ("other" : Str)], L2.defArgs (top 56), L2.defBody (top 56), L2.defScope (top 56), false, [10], bd⟩
def lawN : List Str := [("script" : Str), ("state" : Str), ("right" : Str), ("turn" : Str), ("many" : Str), ("ones" : Str), ("some" : Str), ("goal" : Str), ("limits" : Str), ("value" : Str), ("due" : Str), ("lap" : Str), ("bent" : Str), ("other" : Str)]
def lawMu : List Nat := []
def sLaw : Stmt := top 57
def lawRest : List Stmt := (L2.defBody sLaw).tail
def lawΓ : Fw.Ctx := ⟨lawN, L2.defScope sLaw, none, false, lawMu, true⟩
end Lw

namespace Lw
open PySem L2 PyProof.Rows Fw
@[irreducible] def f_is_int : Nat := 0
@[irreducible] def f_common : Nat := 1
@[irreducible] def f_is_fraction : Nat := 2
@[irreducible] def f_lowest : Nat := 3
@[irreducible] def f_summed : Nat := 4
@[irreducible] def f_multiplied : Nat := 5
@[irreducible] def f_below : Nat := 6
@[irreducible] def f_total : Nat := 7
@[irreducible] def f_sum_of : Nat := 8
@[irreducible] def f_are_fractions : Nat := 9
@[irreducible] def f_need_goal : Nat := 10
@[irreducible] def f_is_limit : Nat := 11
@[irreducible] def f_need_program : Nat := 12
@[irreducible] def f_keeps : Nat := 13
@[irreducible] def f_are_limit_weights : Nat := 14
@[irreducible] def f_weighed : Nat := 15
@[irreducible] def f_is_none_paper : Nat := 16
@[irreducible] def f_is_endless_paper : Nat := 17
@[irreducible] def f_is_least_sum : Nat := 18
@[irreducible] def f_law_blended : Nat := 19
@[irreducible] def f_law_draw : Nat := 20
@[irreducible] def f_law_pick : Nat := 21
@[irreducible] def f_law_is_truth : Nat := 22
@[irreducible] def f_law_is_whole : Nat := 23
@[irreducible] def f_law_bent : Nat := 24
@[irreducible] def f_law_odd : Nat := 25
@[irreducible] def f_law_fr_common : Nat := 26
@[irreducible] def f_law_fr : Nat := 27
@[irreducible] def f_law_fr_is : Nat := 28
@[irreducible] def f_law_fr_plus : Nat := 29
@[irreducible] def f_law_fr_minus : Nat := 30
@[irreducible] def f_law_fr_times : Nat := 31
@[irreducible] def f_law_fr_below : Nat := 32
@[irreducible] def f_law_hb_times : Nat := 33
@[irreducible] def f_law_hb_are : Nat := 34
@[irreducible] def f_law_hb_come : Nat := 35
@[irreducible] def f_law_hb_turned : Nat := 36
@[irreducible] def f_law_hb_plus : Nat := 37
@[irreducible] def f_law_hb_scaled : Nat := 38
@[irreducible] def f_law_hb_keeps : Nat := 39
@[irreducible] def f_law_hb_are_weights : Nat := 40
@[irreducible] def f_law_hb_is_sum : Nat := 41
@[irreducible] def f_law_hb_row : Nat := 42
@[irreducible] def f_law_k09_least : Nat := 43
@[irreducible] def f_law_k09_least_ones : Nat := 44
@[irreducible] def f_law_k09_none_ones : Nat := 45
@[irreducible] def f_law_k09_endless_ones : Nat := 46
@[irreducible] def k_ShareError : Nat := 0
@[irreducible] def k_BadGoal : Nat := 1
@[irreducible] def k_BadLimits : Nat := 2
def B_is_int : Sd := (.seq (.ret (.and (.isa (.var 0) .int) (.not (.isa (.var 0) .bool))) []) .skip)
theorem c0 : compS T 40 80 (e0 B_is_int).Γ (e0 B_is_int).body = some B_is_int := by kernel_rfl
def B_common : Sd := (.seq (.asg (.tcons (.v 0) (.tcons (.v 1) .tnil)) (.tup (.cons (.blt .abs (.cons (.var 0) .nil)) (.cons (.blt .abs (.cons (.var 1) .nil)) .nil))) []) (.seq (.whl (.cmp .ne (.var 1) (.lit (.int 0))) (.seq (.asg (.tcons (.v 0) (.tcons (.v 1) .tnil)) (.tup (.cons (.var 1) (.cons (.bin .mod (.var 0) (.var 1)) .nil))) []) .skip) []) (.seq (.ret (.var 0) []) .skip)))
theorem c1 : compS T 40 80 (e1 B_common).Γ (e1 B_common).body = some B_common := by kernel_rfl
def B_is_fraction : Sd := (.seq (.ite (.or (.not (.isa (.var 0) .tuple)) (.or (.cmp .ne (.blt .len (.cons (.var 0) .nil)) (.lit (.int 2))) (.or (.not (.call f_is_int (.cons (.idx (.var 0) (.lit (.int 0))) .nil))) (.not (.call f_is_int (.cons (.idx (.var 0) (.lit (.int 1))) .nil)))))) (.seq (.ret (.lit (.bl false)) []) .skip) .skip []) (.seq (.ret (.and (.cmp .ge (.idx (.var 0) (.lit (.int 1))) (.lit (.int 1))) (.cmp .eq (.call f_common (.cons (.idx (.var 0) (.lit (.int 0))) (.cons (.idx (.var 0) (.lit (.int 1))) .nil))) (.lit (.int 1)))) []) .skip))
theorem c2 : compS T 40 80 (e2 B_is_fraction).Γ (e2 B_is_fraction).body = some B_is_fraction := by kernel_rfl
def B_lowest : Sd := (.seq (.asg (.v 2) (.ite (.cmp .gt (.var 1) (.lit (.int 0))) (.call f_common (.cons (.var 0) (.cons (.var 1) .nil))) (.neg (.call f_common (.cons (.var 0) (.cons (.var 1) .nil))))) []) (.seq (.ret (.tup (.cons (.bin .fdiv (.var 0) (.var 2)) (.cons (.bin .fdiv (.var 1) (.var 2)) .nil))) []) .skip))
theorem c3 : compS T 40 80 (e3 B_lowest).Γ (e3 B_lowest).body = some B_lowest := by kernel_rfl
def B_summed : Sd := (.seq (.ret (.call f_lowest (.cons (.bin .add (.bin .mul (.idx (.var 0) (.lit (.int 0))) (.idx (.var 1) (.lit (.int 1)))) (.bin .mul (.idx (.var 1) (.lit (.int 0))) (.idx (.var 0) (.lit (.int 1))))) (.cons (.bin .mul (.idx (.var 0) (.lit (.int 1))) (.idx (.var 1) (.lit (.int 1)))) .nil))) []) .skip)
theorem c4 : compS T 40 80 (e4 B_summed).Γ (e4 B_summed).body = some B_summed := by kernel_rfl
def B_multiplied : Sd := (.seq (.ret (.call f_lowest (.cons (.bin .mul (.idx (.var 0) (.lit (.int 0))) (.idx (.var 1) (.lit (.int 0)))) (.cons (.bin .mul (.idx (.var 0) (.lit (.int 1))) (.idx (.var 1) (.lit (.int 1)))) .nil))) []) .skip)
theorem c5 : compS T 40 80 (e5 B_multiplied).Γ (e5 B_multiplied).body = some B_multiplied := by kernel_rfl
def B_below : Sd := (.seq (.ret (.cmp .lt (.bin .mul (.idx (.var 0) (.lit (.int 0))) (.idx (.var 1) (.lit (.int 1)))) (.bin .mul (.idx (.var 1) (.lit (.int 0))) (.idx (.var 0) (.lit (.int 1))))) []) .skip)
theorem c6 : compS T 40 80 (e6 B_below).Γ (e6 B_below).body = some B_below := by kernel_rfl
def B_total : Sd := (.seq (.asg (.v 1) (.tup (.cons (.lit (.int 0)) (.cons (.lit (.int 1)) .nil))) []) (.seq (.for_ .plain (.cons (.var 0) .nil) (.v 2) (.seq (.asg (.v 1) (.call f_summed (.cons (.var 1) (.cons (.var 2) .nil))) []) .skip) []) (.seq (.ret (.var 1) []) .skip)))
theorem c7 : compS T 40 80 (e7 B_total).Γ (e7 B_total).body = some B_total := by kernel_rfl
def B_sum_of : Sd := (.seq (.ret (.call f_total (.cons (.comp .zip (.cons (.var 0) (.cons (.var 1) .nil)) [2, 3] (.tcons (.v 2) (.tcons (.v 3) .tnil)) (.lit (.bl true)) (.call f_multiplied (.cons (.var 2) (.cons (.var 3) .nil)))) .nil)) []) .skip)
theorem c8 : compS T 40 80 (e8 B_sum_of).Γ (e8 B_sum_of).body = some B_sum_of := by kernel_rfl
def B_are_fractions : Sd := (.seq (.ret (.and (.isa (.var 1) .tuple) (.and (.cmp .eq (.blt .len (.cons (.var 1) .nil)) (.var 0)) (.blt .all (.cons (.comp .plain (.cons (.var 1) .nil) [2] (.v 2) (.lit (.bl true)) (.call f_is_fraction (.cons (.var 2) .nil))) .nil)))) []) .skip)
theorem c9 : compS T 40 80 (e9 B_are_fractions).Γ (e9 B_are_fractions).body = some B_are_fractions := by kernel_rfl
def B_need_goal : Sd := (.seq (.ite (.or (.not (.isa (.var 0) .tuple)) (.or (.not (.chain .le .le (.lit (.int 1)) (.blt .len (.cons (.var 0) .nil)) (.lit (.int 8)))) (.not (.call f_are_fractions (.cons (.blt .len (.cons (.var 0) .nil)) (.cons (.var 0) .nil)))))) (.seq (.raise k_BadGoal .nil) .skip) .skip []) .skip)
theorem c10 : compS T 40 80 (e10 B_need_goal).Γ (e10 B_need_goal).body = some B_need_goal := by kernel_rfl
def B_is_limit : Sd := (.seq (.ite (.or (.not (.isa (.var 1) .tuple)) (.or (.cmp .ne (.blt .len (.cons (.var 1) .nil)) (.lit (.int 3))) (.not (.isa (.idx (.var 1) (.lit (.int 0))) .str)))) (.seq (.ret (.lit (.bl false)) []) .skip) .skip []) (.seq (.ret (.and (.cmp .inn (.idx (.var 1) (.lit (.int 0))) (.tup (.cons (.lit (.str "least")) (.cons (.lit (.str "just")) .nil)))) (.and (.call f_are_fractions (.cons (.var 0) (.cons (.idx (.var 1) (.lit (.int 1))) .nil))) (.call f_is_fraction (.cons (.idx (.var 1) (.lit (.int 2))) .nil)))) []) .skip))
theorem c11 : compS T 40 80 (e11 B_is_limit).Γ (e11 B_is_limit).body = some B_is_limit := by kernel_rfl
def B_need_program : Sd := (.seq (.expr (.call f_need_goal (.cons (.var 0) .nil)) []) (.seq (.ite (.or (.not (.isa (.var 1) .tuple)) (.cmp .gt (.blt .len (.cons (.var 1) .nil)) (.lit (.int 40)))) (.seq (.raise k_BadLimits .nil) .skip) .skip []) (.seq (.ite (.not (.blt .all (.cons (.comp .plain (.cons (.var 1) .nil) [2] (.v 2) (.lit (.bl true)) (.call f_is_limit (.cons (.blt .len (.cons (.var 0) .nil)) (.cons (.var 2) .nil)))) .nil))) (.seq (.raise k_BadLimits .nil) .skip) .skip []) .skip)))
theorem c12 : compS T 40 80 (e12 B_need_program).Γ (e12 B_need_program).body = some B_need_program := by kernel_rfl
def B_keeps : Sd := (.seq (.for_ .plain (.cons (.var 0) .nil) (.tcons (.v 2) (.tcons (.v 3) (.tcons (.v 4) .tnil))) (.seq (.asg (.v 5) (.call f_sum_of (.cons (.var 3) (.cons (.var 1) .nil))) []) (.seq (.ite (.or (.call f_below (.cons (.var 5) (.cons (.var 4) .nil))) (.and (.cmp .eq (.var 2) (.lit (.str "just"))) (.cmp .ne (.var 5) (.var 4)))) (.seq (.ret (.lit (.bl false)) []) .skip) .skip []) .skip)) []) (.seq (.ret (.lit (.bl true)) []) .skip))
theorem c13 : compS T 40 80 (e13 B_keeps).Γ (e13 B_keeps).body = some B_keeps := by kernel_rfl
def B_are_limit_weights : Sd := (.seq (.ite (.not (.call f_are_fractions (.cons (.blt .len (.cons (.var 0) .nil)) (.cons (.var 1) .nil)))) (.seq (.ret (.lit (.bl false)) []) .skip) .skip []) (.seq (.ret (.blt .all (.cons (.comp .zip (.cons (.var 0) (.cons (.var 1) .nil)) [2, 3] (.tcons (.v 2) (.tcons (.v 3) .tnil)) (.lit (.bl true)) (.or (.cmp .eq (.idx (.var 2) (.lit (.int 0))) (.lit (.str "just"))) (.cmp .ge (.idx (.var 3) (.lit (.int 0))) (.lit (.int 0))))) .nil)) []) .skip))
theorem c14 : compS T 40 80 (e14 B_are_limit_weights).Γ (e14 B_are_limit_weights).body = some B_are_limit_weights := by kernel_rfl
def B_weighed : Sd := (.seq (.asg (.v 3) (.comp .rng1 (.cons (.var 0) .nil) [5] (.v 5) (.lit (.bl true)) (.call f_sum_of (.cons (.comp .plain (.cons (.var 1) .nil) [4] (.v 4) (.lit (.bl true)) (.idx (.idx (.var 4) (.lit (.int 1))) (.var 5))) (.cons (.var 2) .nil)))) []) (.seq (.ret (.tup (.cons (.seqT .plain (.cons (.var 3) .nil)) (.cons (.call f_sum_of (.cons (.comp .plain (.cons (.var 1) .nil) [4] (.v 4) (.lit (.bl true)) (.idx (.var 4) (.lit (.int 2)))) (.cons (.var 2) .nil))) .nil))) []) .skip))
theorem c15 : compS T 40 80 (e15 B_weighed).Γ (e15 B_weighed).body = some B_weighed := by kernel_rfl
def B_is_none_paper : Sd := (.seq (.ite (.not (.call f_are_limit_weights (.cons (.var 1) (.cons (.var 2) .nil)))) (.seq (.ret (.lit (.bl false)) []) .skip) .skip []) (.seq (.asg (.tcons (.v 3) (.tcons (.v 4) .tnil)) (.call f_weighed (.cons (.var 0) (.cons (.var 1) (.cons (.var 2) .nil)))) []) (.seq (.ret (.and (.cmp .eq (.var 3) (.bin .mul (.tup (.cons (.tup (.cons (.lit (.int 0)) (.cons (.lit (.int 1)) .nil))) .nil)) (.var 0))) (.cmp .gt (.idx (.var 4) (.lit (.int 0))) (.lit (.int 0)))) []) .skip)))
theorem c16 : compS T 40 80 (e16 B_is_none_paper).Γ (e16 B_is_none_paper).body = some B_is_none_paper := by kernel_rfl
def B_is_endless_paper : Sd := (.seq (.ite (.or (.not (.call f_are_fractions (.cons (.blt .len (.cons (.var 0) .nil)) (.cons (.var 2) .nil)))) (.not (.call f_are_fractions (.cons (.blt .len (.cons (.var 0) .nil)) (.cons (.var 3) .nil))))) (.seq (.ret (.lit (.bl false)) []) .skip) .skip []) (.seq (.ite (.or (.not (.call f_keeps (.cons (.var 1) (.cons (.var 2) .nil)))) (.cmp .ge (.idx (.call f_sum_of (.cons (.var 0) (.cons (.var 3) .nil))) (.lit (.int 0))) (.lit (.int 0)))) (.seq (.ret (.lit (.bl false)) []) .skip) .skip []) (.seq (.ret (.call f_keeps (.cons (.comp .plain (.cons (.var 1) .nil) [4, 5, 6] (.tcons (.v 4) (.tcons (.v 5) (.tcons (.v 6) .tnil))) (.lit (.bl true)) (.tup (.cons (.var 4) (.cons (.var 5) (.cons (.tup (.cons (.lit (.int 0)) (.cons (.lit (.int 1)) .nil))) .nil))))) (.cons (.var 3) .nil))) []) .skip)))
theorem c17 : compS T 40 80 (e17 B_is_endless_paper).Γ (e17 B_is_endless_paper).body = some B_is_endless_paper := by kernel_rfl
def B_is_least_sum : Sd := (.seq (.expr (.call f_need_program (.cons (.var 0) (.cons (.var 1) .nil))) []) (.seq (.asg (.v 3) (.blt .len (.cons (.var 0) .nil)) []) (.seq (.ite (.or (.not (.isa (.var 2) .tuple)) (.or (.cmp .eq (.var 2) (.tup .nil)) (.not (.isa (.idx (.var 2) (.lit (.int 0))) .str)))) (.seq (.ret (.lit (.bl false)) []) .skip) .skip []) (.seq (.ite (.and (.cmp .eq (.idx (.var 2) (.lit (.int 0))) (.lit (.str "none"))) (.cmp .eq (.blt .len (.cons (.var 2) .nil)) (.lit (.int 2)))) (.seq (.ret (.call f_is_none_paper (.cons (.var 3) (.cons (.var 1) (.cons (.idx (.var 2) (.lit (.int 1))) .nil)))) []) .skip) .skip []) (.seq (.ite (.and (.cmp .eq (.idx (.var 2) (.lit (.int 0))) (.lit (.str "endless"))) (.cmp .eq (.blt .len (.cons (.var 2) .nil)) (.lit (.int 3)))) (.seq (.ret (.call f_is_endless_paper (.cons (.var 0) (.cons (.var 1) (.cons (.idx (.var 2) (.lit (.int 1))) (.cons (.idx (.var 2) (.lit (.int 2))) .nil))))) []) .skip) .skip []) (.seq (.ite (.or (.cmp .ne (.idx (.var 2) (.lit (.int 0))) (.lit (.str "least"))) (.or (.cmp .ne (.blt .len (.cons (.var 2) .nil)) (.lit (.int 4))) (.or (.not (.call f_is_fraction (.cons (.idx (.var 2) (.lit (.int 1))) .nil))) (.not (.call f_are_fractions (.cons (.var 3) (.cons (.idx (.var 2) (.lit (.int 2))) .nil))))))) (.seq (.ret (.lit (.bl false)) []) .skip) .skip []) (.seq (.ite (.or (.not (.call f_are_limit_weights (.cons (.var 1) (.cons (.idx (.var 2) (.lit (.int 3))) .nil)))) (.or (.not (.call f_keeps (.cons (.var 1) (.cons (.idx (.var 2) (.lit (.int 2))) .nil)))) (.cmp .ne (.call f_sum_of (.cons (.var 0) (.cons (.idx (.var 2) (.lit (.int 2))) .nil))) (.idx (.var 2) (.lit (.int 1)))))) (.seq (.ret (.lit (.bl false)) []) .skip) .skip []) (.seq (.ret (.cmp .eq (.call f_weighed (.cons (.var 3) (.cons (.var 1) (.cons (.idx (.var 2) (.lit (.int 3))) .nil)))) (.tup (.cons (.seqT .plain (.cons (.var 0) .nil)) (.cons (.idx (.var 2) (.lit (.int 1))) .nil)))) []) .skip))))))))
theorem c18 : compS T 40 80 (e18 B_is_least_sum).Γ (e18 B_is_least_sum).body = some B_is_least_sum := by kernel_rfl
def B_law_blended : Sd := (.seq (.asg (.tcons (.v 1) (.tcons (.v 2) .tnil)) (.tup (.cons (.bin .add (.stI 1 (.var 0)) (.lit (.int 1))) (.cons (.lit (.int 0)) .nil))) []) (.seq (.stS 1 (.var 0) (.var 1)) (.seq (.for_ .plain (.cons (.lst (.cons (.lit (.int 2147482223)) (.cons (.lit (.int 2147482121)) (.cons (.lit (.int 2147482093)) .nil)))) .nil) (.v 3) (.seq (.asg (.v 4) (.bin .add (.bin .mul (.lit (.int 39373)) (.var 1)) (.bin .fdiv (.var 3) (.lit (.int 67)))) []) (.seq (.for_ .plain (.cons (.stC (.var 0)) .nil) (.v 5) (.seq (.asg (.v 4) (.bin .mod (.blt .int (.cons (.bin .add (.bin .add (.bin .mul (.var 4) (.lit (.int 69621))) (.var 5)) (.var 1)) .nil)) (.var 3)) []) .skip) []) (.seq (.asg (.v 2) (.bin .add (.bin .mul (.var 2) (.lit (.int 2147483647))) (.bin .mod (.blt .int (.cons (.bin .pow (.var 4) (.lit (.int 5))) .nil)) (.var 3))) []) .skip))) []) (.seq (.ret (.var 2) []) .skip))))
theorem c19 : compS T 40 80 (e19 B_law_blended).Γ (e19 B_law_blended).body = some B_law_blended := by kernel_rfl
def B_law_draw : Sd := (.seq (.ite (.cmp .eq (.stI 0 (.var 0)) (.lit (.int 0))) (.seq (.stS 0 (.var 0) (.ite (.stE (.var 0)) (.stP (.var 0)) (.call f_law_blended (.cons (.var 0) .nil)))) .skip) .skip []) (.seq (.asg (.v 2) (.bin .mod (.blt .int (.cons (.stI 0 (.var 0)) .nil)) (.var 1)) []) (.seq (.stS 0 (.var 0) (.bin .fdiv (.stI 0 (.var 0)) (.var 1))) (.seq (.ret (.var 2) []) .skip))))
theorem c20 : compS T 40 80 (e20 B_law_draw).Γ (e20 B_law_draw).body = some B_law_draw := by kernel_rfl
def B_law_pick : Sd := (.seq (.ret (.idx (.var 1) (.call f_law_draw (.cons (.var 0) (.cons (.blt .len (.cons (.var 1) .nil)) .nil)))) []) .skip)
theorem c21 : compS T 40 80 (e21 B_law_pick).Γ (e21 B_law_pick).body = some B_law_pick := by kernel_rfl
def B_law_is_truth : Sd := (.seq (.ret (.ite (.var 1) (.cmp .isN (.var 0) (.lit (.bl true))) (.cmp .isN (.var 0) (.lit (.bl false)))) []) .skip)
theorem c22 : compS T 40 80 (e22 B_law_is_truth).Γ (e22 B_law_is_truth).body = some B_law_is_truth := by kernel_rfl
def B_law_is_whole : Sd := (.seq (.ret (.and (.isa (.var 0) .int) (.not (.isa (.var 0) .bool))) []) .skip)
theorem c23 : compS T 40 80 (e23 B_law_is_whole).Γ (e23 B_law_is_whole).body = some B_law_is_whole := by kernel_rfl
def B_law_bent : Sd := (.seq (.ite (.or (.not (.isa (.var 1) .tuple)) (.or (.cmp .eq (.var 1) (.tup .nil)) (.cmp .eq (.call f_law_draw (.cons (.var 0) (.cons (.lit (.int 9)) .nil))) (.lit (.int 0))))) (.seq (.ret (.call f_law_odd (.cons (.var 0) .nil)) []) .skip) .skip []) (.seq (.asg (.tcons (.v 2) (.tcons (.v 3) .tnil)) (.tup (.cons (.call f_law_draw (.cons (.var 0) (.cons (.blt .len (.cons (.var 1) .nil)) .nil))) (.cons (.call f_law_draw (.cons (.var 0) (.cons (.lit (.int 8)) .nil))) .nil))) []) (.seq (.ite (.cmp .lt (.var 3) (.lit (.int 4))) (.seq (.ret (.bin .add (.bin .add (.slc false true (.var 1) .nil (.var 2)) (.tup (.cons (.call f_law_bent (.cons (.var 0) (.cons (.idx (.var 1) (.var 2)) .nil))) .nil))) (.slc true false (.var 1) (.bin .add (.var 2) (.lit (.int 1))) .nil)) []) .skip) .skip []) (.seq (.ite (.cmp .eq (.var 3) (.lit (.int 4))) (.seq (.ret (.bin .add (.slc false true (.var 1) .nil (.var 2)) (.slc true false (.var 1) (.bin .add (.var 2) (.lit (.int 1))) .nil)) []) .skip) .skip []) (.seq (.ite (.cmp .eq (.var 3) (.lit (.int 5))) (.seq (.ret (.bin .add (.bin .add (.slc false true (.var 1) .nil (.var 2)) (.slc true true (.var 1) (.var 2) (.bin .add (.var 2) (.lit (.int 1))))) (.slc true false (.var 1) (.var 2) .nil)) []) .skip) .skip []) (.seq (.ite (.and (.cmp .eq (.var 3) (.lit (.int 6))) (.call f_law_is_whole (.cons (.idx (.var 1) (.var 2)) .nil))) (.seq (.ret (.bin .add (.bin .add (.slc false true (.var 1) .nil (.var 2)) (.tup (.cons (.bin .add (.idx (.var 1) (.var 2)) (.call f_law_pick (.cons (.var 0) (.cons (.lst (.cons (.lit (.int 1)) (.cons (.neg (.lit (.int 1))) .nil))) .nil)))) .nil))) (.slc true false (.var 1) (.bin .add (.var 2) (.lit (.int 1))) .nil)) []) .skip) .skip []) (.seq (.ret (.ite (.cmp .eq (.var 3) (.lit (.int 7))) (.rev (.var 1)) (.seqL .plain (.cons (.var 1) .nil))) []) .skip)))))))
theorem c24 : compS T 40 80 (e24 B_law_bent).Γ (e24 B_law_bent).body = some B_law_bent := by kernel_rfl
def B_law_odd : Sd := (.seq (.ret (.call f_law_pick (.cons (.var 0) (.cons (.lst (.cons (.lit .non) (.cons (.lit (.int 0)) (.cons (.neg (.lit (.int 1))) (.cons (.lit (.bl true)) (.cons (.lit (.str "1")) (.cons (.lit (.str "")) (.cons (.tup .nil) (.cons (.lst .nil) (.cons (.lit (.dic [] [])) (.cons (.tup (.cons (.lit (.int 1)) .nil)) (.cons (.tup (.cons (.tup (.cons (.lit (.int 0)) .nil)) .nil)) (.cons (.tup (.cons (.lit (.str "a")) .nil)) (.cons (.tup (.cons (.lit (.str "a")) (.cons (.lit (.str "a")) .nil))) (.cons (.bin .pow (.lit (.int 10)) (.lit (.int 18))) .nil))))))))))))))) .nil))) []) .skip)
theorem c25 : compS T 40 80 (e25 B_law_odd).Γ (e25 B_law_odd).body = some B_law_odd := by kernel_rfl
def B_law_fr_common : Sd := (.seq (.asg (.tcons (.v 0) (.tcons (.v 1) .tnil)) (.tup (.cons (.blt .abs (.cons (.var 0) .nil)) (.cons (.blt .abs (.cons (.var 1) .nil)) .nil))) []) (.seq (.whl (.cmp .ne (.var 1) (.lit (.int 0))) (.seq (.asg (.tcons (.v 0) (.tcons (.v 1) .tnil)) (.tup (.cons (.var 1) (.cons (.bin .mod (.blt .int (.cons (.var 0) .nil)) (.var 1)) .nil))) []) .skip) []) (.seq (.ret (.var 0) []) .skip)))
theorem c26 : compS T 40 80 (e26 B_law_fr_common).Γ (e26 B_law_fr_common).body = some B_law_fr_common := by kernel_rfl
def B_law_fr : Sd := (.seq (.asg (.v 2) (.call f_law_fr_common (.cons (.var 0) (.cons (.var 1) .nil))) []) (.seq (.ite (.cmp .lt (.var 1) (.lit (.int 0))) (.seq (.asg (.v 2) (.neg (.var 2)) []) .skip) .skip []) (.seq (.ret (.tup (.cons (.bin .fdiv (.var 0) (.var 2)) (.cons (.bin .fdiv (.var 1) (.var 2)) .nil))) []) .skip)))
theorem c27 : compS T 40 80 (e27 B_law_fr).Γ (e27 B_law_fr).body = some B_law_fr := by kernel_rfl
def B_law_fr_is : Sd := (.seq (.ite (.or (.not (.isa (.var 0) .tuple)) (.cmp .ne (.blt .len (.cons (.var 0) .nil)) (.lit (.int 2)))) (.seq (.ret (.lit (.bl false)) []) .skip) .skip []) (.seq (.for_ .plain (.cons (.var 0) .nil) (.v 1) (.seq (.ite (.or (.not (.isa (.var 1) .int)) (.isa (.var 1) .bool)) (.seq (.ret (.lit (.bl false)) []) .skip) .skip []) .skip) []) (.seq (.ret (.and (.cmp .ge (.idx (.var 0) (.lit (.int 1))) (.lit (.int 1))) (.cmp .eq (.call f_law_fr_common (.cons (.idx (.var 0) (.lit (.int 0))) (.cons (.idx (.var 0) (.lit (.int 1))) .nil))) (.lit (.int 1)))) []) .skip)))
theorem c28 : compS T 40 80 (e28 B_law_fr_is).Γ (e28 B_law_fr_is).body = some B_law_fr_is := by kernel_rfl
def B_law_fr_plus : Sd := (.seq (.ret (.call f_law_fr (.cons (.bin .add (.bin .mul (.idx (.var 0) (.lit (.int 0))) (.idx (.var 1) (.lit (.int 1)))) (.bin .mul (.idx (.var 1) (.lit (.int 0))) (.idx (.var 0) (.lit (.int 1))))) (.cons (.bin .mul (.idx (.var 0) (.lit (.int 1))) (.idx (.var 1) (.lit (.int 1)))) .nil))) []) .skip)
theorem c29 : compS T 40 80 (e29 B_law_fr_plus).Γ (e29 B_law_fr_plus).body = some B_law_fr_plus := by kernel_rfl
def B_law_fr_minus : Sd := (.seq (.ret (.call f_law_fr (.cons (.bin .sub (.bin .mul (.idx (.var 0) (.lit (.int 0))) (.idx (.var 1) (.lit (.int 1)))) (.bin .mul (.idx (.var 1) (.lit (.int 0))) (.idx (.var 0) (.lit (.int 1))))) (.cons (.bin .mul (.idx (.var 0) (.lit (.int 1))) (.idx (.var 1) (.lit (.int 1)))) .nil))) []) .skip)
theorem c30 : compS T 40 80 (e30 B_law_fr_minus).Γ (e30 B_law_fr_minus).body = some B_law_fr_minus := by kernel_rfl
def B_law_fr_times : Sd := (.seq (.ret (.call f_law_fr (.cons (.bin .mul (.idx (.var 0) (.lit (.int 0))) (.idx (.var 1) (.lit (.int 0)))) (.cons (.bin .mul (.idx (.var 0) (.lit (.int 1))) (.idx (.var 1) (.lit (.int 1)))) .nil))) []) .skip)
theorem c31 : compS T 40 80 (e31 B_law_fr_times).Γ (e31 B_law_fr_times).body = some B_law_fr_times := by kernel_rfl
def B_law_fr_below : Sd := (.seq (.ret (.cmp .lt (.bin .mul (.idx (.var 0) (.lit (.int 0))) (.idx (.var 1) (.lit (.int 1)))) (.bin .mul (.idx (.var 1) (.lit (.int 0))) (.idx (.var 0) (.lit (.int 1))))) []) .skip)
theorem c32 : compS T 40 80 (e32 B_law_fr_below).Γ (e32 B_law_fr_below).body = some B_law_fr_below := by kernel_rfl
def B_law_hb_times : Sd := (.seq (.asg (.v 2) (.tup (.cons (.lit (.int 0)) (.cons (.lit (.int 1)) .nil))) []) (.seq (.for_ .zip (.cons (.var 0) (.cons (.var 1) .nil)) (.tcons (.v 3) (.tcons (.v 4) .tnil)) (.seq (.ite (.and (.cmp .ne (.idx (.var 3) (.lit (.int 0))) (.lit (.int 0))) (.cmp .ne (.idx (.var 4) (.lit (.int 0))) (.lit (.int 0)))) (.seq (.asg (.v 2) (.call f_law_fr (.cons (.bin .add (.bin .mul (.bin .mul (.idx (.var 2) (.lit (.int 0))) (.idx (.var 3) (.lit (.int 1)))) (.idx (.var 4) (.lit (.int 1)))) (.bin .mul (.bin .mul (.idx (.var 3) (.lit (.int 0))) (.idx (.var 4) (.lit (.int 0)))) (.idx (.var 2) (.lit (.int 1))))) (.cons (.bin .mul (.bin .mul (.idx (.var 2) (.lit (.int 1))) (.idx (.var 3) (.lit (.int 1)))) (.idx (.var 4) (.lit (.int 1)))) .nil))) []) .skip) .skip []) .skip) []) (.seq (.ret (.var 2) []) .skip)))
theorem c33 : compS T 40 80 (e33 B_law_hb_times).Γ (e33 B_law_hb_times).body = some B_law_hb_times := by kernel_rfl
def B_law_hb_are : Sd := (.seq (.ret (.and (.isa (.var 1) .tuple) (.and (.cmp .eq (.blt .len (.cons (.var 1) .nil)) (.var 0)) (.cmp .eq (.comp .plain (.cons (.var 1) .nil) [2] (.v 2) (.not (.call f_law_fr_is (.cons (.var 2) .nil))) (.lit (.int 1))) (.lst .nil)))) []) .skip)
theorem c34 : compS T 40 80 (e34 B_law_hb_are).Γ (e34 B_law_hb_are).body = some B_law_hb_are := by kernel_rfl
def B_law_hb_come : Sd := (.seq (.ret (.seqT .plain (.cons (.comp .rng1 (.cons (.var 0) .nil) [4] (.v 4) (.lit (.bl true)) (.call f_law_hb_times (.cons (.comp .plain (.cons (.var 1) .nil) [3] (.v 3) (.lit (.bl true)) (.idx (.var 3) (.var 4))) (.cons (.var 2) .nil)))) .nil)) []) .skip)
theorem c35 : compS T 40 80 (e35 B_law_hb_come).Γ (e35 B_law_hb_come).body = some B_law_hb_come := by kernel_rfl
def B_law_hb_turned : Sd := (.seq (.ret (.seqT .plain (.cons (.comp .plain (.cons (.var 0) .nil) [1] (.v 1) (.lit (.bl true)) (.tup (.cons (.bin .sub (.lit (.int 0)) (.idx (.var 1) (.lit (.int 0)))) (.cons (.idx (.var 1) (.lit (.int 1))) .nil)))) .nil)) []) .skip)
theorem c36 : compS T 40 80 (e36 B_law_hb_turned).Γ (e36 B_law_hb_turned).body = some B_law_hb_turned := by kernel_rfl
def B_law_hb_plus : Sd := (.seq (.ret (.seqT .plain (.cons (.comp .zip (.cons (.var 0) (.cons (.var 1) .nil)) [2, 3] (.tcons (.v 2) (.tcons (.v 3) .tnil)) (.lit (.bl true)) (.call f_law_fr_plus (.cons (.var 2) (.cons (.var 3) .nil)))) .nil)) []) .skip)
theorem c37 : compS T 40 80 (e37 B_law_hb_plus).Γ (e37 B_law_hb_plus).body = some B_law_hb_plus := by kernel_rfl
def B_law_hb_scaled : Sd := (.seq (.ret (.seqT .plain (.cons (.comp .plain (.cons (.var 0) .nil) [2] (.v 2) (.lit (.bl true)) (.call f_law_fr_times (.cons (.var 2) (.cons (.var 1) .nil)))) .nil)) []) .skip)
theorem c38 : compS T 40 80 (e38 B_law_hb_scaled).Γ (e38 B_law_hb_scaled).body = some B_law_hb_scaled := by kernel_rfl
def B_law_hb_keeps : Sd := (.seq (.for_ .plain (.cons (.var 0) .nil) (.tcons (.v 2) (.tcons (.v 3) (.tcons (.v 4) .tnil))) (.seq (.asg (.v 5) (.call f_law_hb_times (.cons (.var 3) (.cons (.var 1) .nil))) []) (.seq (.ite (.or (.call f_law_fr_below (.cons (.var 5) (.cons (.var 4) .nil))) (.and (.cmp .eq (.var 2) (.lit (.str "just"))) (.cmp .ne (.var 5) (.var 4)))) (.seq (.ret (.lit (.bl false)) []) .skip) .skip []) .skip)) []) (.seq (.ret (.lit (.bl true)) []) .skip))
theorem c39 : compS T 40 80 (e39 B_law_hb_keeps).Γ (e39 B_law_hb_keeps).body = some B_law_hb_keeps := by kernel_rfl
def B_law_hb_are_weights : Sd := (.seq (.ite (.not (.call f_law_hb_are (.cons (.blt .len (.cons (.var 0) .nil)) (.cons (.var 1) .nil)))) (.seq (.ret (.lit (.bl false)) []) .skip) .skip []) (.seq (.ret (.cmp .eq (.comp .zip (.cons (.var 0) (.cons (.var 1) .nil)) [2, 3] (.tcons (.v 2) (.tcons (.v 3) .tnil)) (.and (.cmp .eq (.idx (.var 2) (.lit (.int 0))) (.lit (.str "least"))) (.cmp .lt (.idx (.var 3) (.lit (.int 0))) (.lit (.int 0)))) (.lit (.int 1))) (.lst .nil)) []) .skip))
theorem c40 : compS T 40 80 (e40 B_law_hb_are_weights).Γ (e40 B_law_hb_are_weights).body = some B_law_hb_are_weights := by kernel_rfl
def B_law_hb_is_sum : Sd := (.seq (.asg (.v 3) (.blt .len (.cons (.var 0) .nil)) []) (.seq (.ite (.or (.not (.isa (.var 2) .tuple)) (.or (.cmp .lt (.blt .len (.cons (.var 2) .nil)) (.lit (.int 2))) (.not (.isa (.idx (.var 2) (.lit (.int 0))) .str)))) (.seq (.ret (.lit (.bl false)) []) .skip) .skip []) (.seq (.asg (.v 4) (.comp .plain (.cons (.var 1) .nil) [5] (.v 5) (.lit (.bl true)) (.bin .add (.idx (.var 5) (.lit (.int 1))) (.tup (.cons (.idx (.var 5) (.lit (.int 2))) .nil)))) []) (.seq (.ite (.cmp .eq (.idx (.var 2) (.lit (.int 0))) (.lit (.str "none"))) (.seq (.ite (.or (.cmp .ne (.blt .len (.cons (.var 2) .nil)) (.lit (.int 2))) (.not (.call f_law_hb_are_weights (.cons (.var 1) (.cons (.idx (.var 2) (.lit (.int 1))) .nil))))) (.seq (.ret (.lit (.bl false)) []) .skip) .skip []) (.seq (.asg (.v 6) (.call f_law_hb_come (.cons (.bin .add (.var 3) (.lit (.int 1))) (.cons (.var 4) (.cons (.idx (.var 2) (.lit (.int 1))) .nil)))) []) (.seq (.ret (.and (.cmp .eq (.slc false true (.var 6) .nil (.var 3)) (.bin .mul (.tup (.cons (.tup (.cons (.lit (.int 0)) (.cons (.lit (.int 1)) .nil))) .nil)) (.var 3))) (.cmp .gt (.idx (.idx (.var 6) (.var 3)) (.lit (.int 0))) (.lit (.int 0)))) []) .skip))) .skip []) (.seq (.ite (.cmp .eq (.idx (.var 2) (.lit (.int 0))) (.lit (.str "endless"))) (.seq (.ite (.or (.cmp .ne (.blt .len (.cons (.var 2) .nil)) (.lit (.int 3))) (.or (.not (.call f_law_hb_are (.cons (.var 3) (.cons (.idx (.var 2) (.lit (.int 1))) .nil)))) (.not (.call f_law_hb_are (.cons (.var 3) (.cons (.idx (.var 2) (.lit (.int 2))) .nil)))))) (.seq (.ret (.lit (.bl false)) []) .skip) .skip []) (.seq (.asg (.v 7) (.comp .plain (.cons (.var 1) .nil) [5] (.v 5) (.lit (.bl true)) (.tup (.cons (.idx (.var 5) (.lit (.int 0))) (.cons (.idx (.var 5) (.lit (.int 1))) (.cons (.tup (.cons (.lit (.int 0)) (.cons (.lit (.int 1)) .nil))) .nil))))) []) (.seq (.ret (.and (.call f_law_hb_keeps (.cons (.var 1) (.cons (.idx (.var 2) (.lit (.int 1))) .nil))) (.and (.call f_law_hb_keeps (.cons (.var 7) (.cons (.idx (.var 2) (.lit (.int 2))) .nil))) (.cmp .lt (.idx (.call f_law_hb_times (.cons (.var 0) (.cons (.idx (.var 2) (.lit (.int 2))) .nil))) (.lit (.int 0))) (.lit (.int 0))))) []) .skip))) .skip []) (.seq (.ite (.or (.cmp .ne (.idx (.var 2) (.lit (.int 0))) (.lit (.str "least"))) (.or (.cmp .ne (.blt .len (.cons (.var 2) .nil)) (.lit (.int 4))) (.or (.not (.call f_law_fr_is (.cons (.idx (.var 2) (.lit (.int 1))) .nil))) (.not (.call f_law_hb_are (.cons (.var 3) (.cons (.idx (.var 2) (.lit (.int 2))) .nil))))))) (.seq (.ret (.lit (.bl false)) []) .skip) .skip []) (.seq (.ite (.or (.not (.call f_law_hb_are_weights (.cons (.var 1) (.cons (.idx (.var 2) (.lit (.int 3))) .nil)))) (.not (.call f_law_hb_keeps (.cons (.var 1) (.cons (.idx (.var 2) (.lit (.int 2))) .nil))))) (.seq (.ret (.lit (.bl false)) []) .skip) .skip []) (.seq (.ret (.and (.cmp .eq (.call f_law_hb_times (.cons (.var 0) (.cons (.idx (.var 2) (.lit (.int 2))) .nil))) (.idx (.var 2) (.lit (.int 1)))) (.cmp .eq (.call f_law_hb_come (.cons (.bin .add (.var 3) (.lit (.int 1))) (.cons (.var 4) (.cons (.idx (.var 2) (.lit (.int 3))) .nil)))) (.bin .add (.seqT .plain (.cons (.var 0) .nil)) (.tup (.cons (.idx (.var 2) (.lit (.int 1))) .nil))))) []) .skip))))))))
theorem c41 : compS T 40 80 (e41 B_law_hb_is_sum).Γ (e41 B_law_hb_is_sum).body = some B_law_hb_is_sum := by kernel_rfl
def B_law_hb_row : Sd := (.seq (.asgP [(3, true), (4, false)] (.cons (.lst .nil) (.cons (.call f_law_draw (.cons (.var 0) (.cons (.lit (.int 4)) .nil))) .nil))) (.seq (.for_ .rng1 (.cons (.var 1) .nil) (.v 5) (.seq (.asg (.v 6) (.bin .sub (.call f_law_draw (.cons (.var 0) (.cons (.bin .add (.bin .mul (.lit (.int 2)) (.var 2)) (.lit (.int 1))) .nil))) (.var 2)) []) (.seq (.ite (.and (.cmp .eq (.var 4) (.lit (.int 0))) (.cmp .eq (.call f_law_draw (.cons (.var 0) (.cons (.lit (.int 2)) .nil))) (.lit (.int 0)))) (.seq (.asg (.v 6) (.lit (.int 0)) []) .skip) .skip []) (.seq (.app 3 (.ite (.cmp .eq (.var 4) (.lit (.int 1))) (.call f_law_fr (.cons (.var 6) (.cons (.bin .add (.lit (.int 1)) (.call f_law_draw (.cons (.var 0) (.cons (.var 2) .nil)))) .nil))) (.tup (.cons (.var 6) (.cons (.lit (.int 1)) .nil)))) []) .skip))) []) (.seq (.ret (.seqT .plain (.cons (.var 3) .nil)) [3]) .skip)))
theorem c42 : compS T 40 80 (e42 B_law_hb_row).Γ (e42 B_law_hb_row).body = some B_law_hb_row := by kernel_rfl
def B_law_k09_least : Sd := (.seq (.asgP [(2, false), (3, false), (4, false)] (.cons (.call f_law_hb_row (.cons (.var 0) (.cons (.var 1) (.cons (.lit (.int 5)) .nil)))) (.cons (.call f_law_hb_row (.cons (.var 0) (.cons (.var 1) (.cons (.lit (.int 4)) .nil)))) (.cons (.call f_law_hb_row (.cons (.var 0) (.cons (.var 1) (.cons (.lit (.int 4)) .nil)))) .nil)))) (.seq (.asg (.v 5) (.call f_law_hb_row (.cons (.var 0) (.cons (.var 1) (.cons (.lit (.int 3)) .nil)))) []) (.seq (.asg (.v 5) (.ite (.cmp .ge (.idx (.call f_law_hb_times (.cons (.var 5) (.cons (.var 2) .nil))) (.lit (.int 0))) (.lit (.int 0))) (.var 5) (.call f_law_hb_turned (.cons (.var 5) .nil))) []) (.seq (.asg (.tcons (.v 6) (.tcons (.v 7) .tnil)) (.tup (.cons (.tup (.cons (.bin .add (.lit (.int 1)) (.call f_law_draw (.cons (.var 0) (.cons (.lit (.int 5)) .nil)))) (.cons (.bin .add (.lit (.int 1)) (.call f_law_draw (.cons (.var 0) (.cons (.lit (.int 2)) .nil)))) .nil))) (.cons (.bin .sub (.call f_law_draw (.cons (.var 0) (.cons (.lit (.int 7)) .nil))) (.lit (.int 3))) .nil))) []) (.seq (.asg (.tcons (.v 6) (.tcons (.v 7) .tnil)) (.tup (.cons (.call f_law_fr (.cons (.idx (.var 6) (.lit (.int 0))) (.cons (.idx (.var 6) (.lit (.int 1))) .nil))) (.cons (.tup (.cons (.var 7) (.cons (.lit (.int 1)) .nil))) .nil))) []) (.seq (.asg (.tcons (.v 8) (.tcons (.v 9) .tnil)) (.tup (.cons (.call f_law_hb_times (.cons (.var 3) (.cons (.var 2) .nil))) (.cons (.call f_law_hb_times (.cons (.var 4) (.cons (.var 2) .nil))) .nil))) []) (.seq (.asg (.v 10) (.call f_law_hb_row (.cons (.var 0) (.cons (.var 1) (.cons (.lit (.int 4)) .nil)))) []) (.seq (.asg (.v 11) (.lst (.cons (.tup (.cons (.lit (.str "least")) (.cons (.var 3) (.cons (.var 8) .nil)))) (.cons (.tup (.cons (.lit (.str "least")) (.cons (.var 3) (.cons (.var 8) .nil)))) (.cons (.tup (.cons (.lit (.str "just")) (.cons (.var 4) (.cons (.var 9) .nil)))) (.cons (.tup (.cons (.lit (.str "least")) (.cons (.var 10) (.cons (.call f_law_fr_minus (.cons (.call f_law_hb_times (.cons (.var 10) (.cons (.var 2) .nil))) (.cons (.tup (.cons (.lit (.int 1)) (.cons (.lit (.int 2)) .nil))) .nil))) .nil)))) .nil))))) []) (.seq (.asg (.v 11) (.bin .add (.var 11) (.lst (.cons (.tup (.cons (.lit (.str "least")) (.cons (.var 5) (.cons (.tup (.cons (.lit (.int 0)) (.cons (.lit (.int 1)) .nil))) .nil)))) (.cons (.tup (.cons (.lit (.str "least")) (.cons (.bin .mul (.tup (.cons (.tup (.cons (.lit (.int 0)) (.cons (.lit (.int 1)) .nil))) .nil)) (.var 1)) (.cons (.tup (.cons (.neg (.lit (.int 1))) (.cons (.lit (.int 1)) .nil))) .nil)))) .nil)))) []) (.seq (.asg (.v 12) (.call f_law_hb_plus (.cons (.call f_law_hb_scaled (.cons (.var 3) (.cons (.var 6) .nil))) (.cons (.call f_law_hb_scaled (.cons (.var 4) (.cons (.var 7) .nil))) .nil))) []) (.seq (.ret (.tup (.cons (.var 12) (.cons (.seqT .plain (.cons (.var 11) .nil)) (.cons (.tup (.cons (.lit (.str "least")) (.cons (.call f_law_hb_times (.cons (.var 12) (.cons (.var 2) .nil))) (.cons (.var 2) (.cons (.tup (.cons (.var 6) (.cons (.tup (.cons (.lit (.int 0)) (.cons (.lit (.int 1)) .nil))) (.cons (.var 7) (.cons (.tup (.cons (.lit (.int 0)) (.cons (.lit (.int 1)) .nil))) (.cons (.tup (.cons (.lit (.int 0)) (.cons (.lit (.int 1)) .nil))) (.cons (.tup (.cons (.lit (.int 0)) (.cons (.lit (.int 1)) .nil))) .nil))))))) .nil))))) .nil)))) []) .skip)))))))))))
theorem c43 : compS T 40 80 (e43 B_law_k09_least).Γ (e43 B_law_k09_least).body = some B_law_k09_least := by kernel_rfl
def B_law_k09_least_ones : Sd := (.seq (.asg (.tcons (.v 2) (.tcons (.v 3) (.tcons (.v 4) .tnil))) (.call f_law_k09_least (.cons (.var 0) (.cons (.var 1) .nil))) []) (.seq (.asg (.tcons (.v 5) (.tcons (.v 6) (.tcons (.v 7) .tnil))) (.slc true false (.var 4) (.lit (.int 1)) .nil) []) (.seq (.asg (.tcons (.v 8) (.tcons (.v 9) .tnil)) (.tup (.cons (.idx (.var 7) (.lit (.int 0))) (.cons (.idx (.var 7) (.lit (.int 2))) .nil))) []) (.seq (.asg (.tcons (.v 10) (.tcons (.v 11) .tnil)) (.tup (.cons (.call f_law_fr_times (.cons (.var 8) (.cons (.tup (.cons (.lit (.int 1)) (.cons (.lit (.int 2)) .nil))) .nil))) (.cons (.call f_law_fr_plus (.cons (.var 8) (.cons (.tup (.cons (.lit (.int 1)) (.cons (.lit (.int 1)) .nil))) .nil))) .nil))) []) (.seq (.asgF 12 (.lst (.cons (.tup (.cons (.var 2) (.cons (.var 3) (.cons (.var 4) .nil)))) (.cons (.tup (.cons (.var 2) (.cons (.var 3) (.cons (.tup (.cons (.lit (.str "least")) (.cons (.var 5) (.cons (.var 6) (.cons (.bin .add (.tup (.cons (.var 10) (.cons (.var 10) .nil))) (.slc true false (.var 7) (.lit (.int 2)) .nil)) .nil))))) .nil)))) .nil))) []) (.seq (.app 12 (.tup (.cons (.var 2) (.cons (.var 3) (.cons (.tup (.cons (.lit (.str "least")) (.cons (.var 5) (.cons (.var 6) (.cons (.bin .add (.tup (.cons (.var 11) (.cons (.tup (.cons (.neg (.lit (.int 1))) (.cons (.lit (.int 1)) .nil))) .nil))) (.slc true false (.var 7) (.lit (.int 2)) .nil)) .nil))))) .nil)))) []) (.seq (.app 12 (.tup (.cons (.var 2) (.cons (.var 3) (.cons (.tup (.cons (.lit (.str "least")) (.cons (.var 5) (.cons (.var 6) (.cons (.bin .add (.slc false true (.var 7) .nil (.lit (.int 4))) (.tup (.cons (.tup (.cons (.lit (.int 1)) (.cons (.lit (.int 1)) .nil))) (.cons (.tup (.cons (.lit (.int 0)) (.cons (.lit (.int 1)) .nil))) .nil)))) .nil))))) .nil)))) []) (.seq (.app 12 (.tup (.cons (.var 2) (.cons (.var 3) (.cons (.tup (.cons (.lit (.str "least")) (.cons (.var 5) (.cons (.var 6) (.cons (.bin .add (.slc false true (.var 7) .nil (.lit (.int 5))) (.tup (.cons (.tup (.cons (.lit (.int 1)) (.cons (.lit (.int 1)) .nil))) .nil))) .nil))))) .nil)))) []) (.seq (.app 12 (.tup (.cons (.var 2) (.cons (.var 3) (.cons (.tup (.cons (.lit (.str "least")) (.cons (.call f_law_fr_plus (.cons (.var 5) (.cons (.tup (.cons (.lit (.int 1)) (.cons (.lit (.int 3)) .nil))) .nil))) (.cons (.var 6) (.cons (.var 7) .nil))))) .nil)))) []) (.seq (.asg (.v 13) (.call f_law_hb_row (.cons (.var 0) (.cons (.var 1) (.cons (.lit (.int 4)) .nil)))) []) (.seq (.asg (.v 14) (.call f_law_hb_times (.cons (.var 13) (.cons (.var 6) .nil))) []) (.seq (.for_ .plain (.cons (.lst (.cons (.tup (.cons (.lit (.str "least")) (.cons (.var 13) (.cons (.var 14) .nil)))) (.cons (.tup (.cons (.lit (.str "least")) (.cons (.var 13) (.cons (.call f_law_fr_plus (.cons (.var 14) (.cons (.tup (.cons (.lit (.int 1)) (.cons (.lit (.int 7)) .nil))) .nil))) .nil)))) (.cons (.tup (.cons (.lit (.str "just")) (.cons (.var 13) (.cons (.call f_law_fr_minus (.cons (.var 14) (.cons (.tup (.cons (.lit (.int 1)) (.cons (.lit (.int 7)) .nil))) .nil))) .nil)))) (.cons (.tup (.cons (.lit (.str "just")) (.cons (.var 13) (.cons (.var 14) .nil)))) (.cons (.tup (.cons (.lit (.str "just")) (.cons (.var 13) (.cons (.call f_law_fr_plus (.cons (.var 14) (.cons (.tup (.cons (.lit (.int 1)) (.cons (.lit (.int 7)) .nil))) .nil))) .nil)))) .nil)))))) .nil) (.v 15) (.seq (.app 12 (.tup (.cons (.var 2) (.cons (.bin .add (.var 3) (.tup (.cons (.var 15) .nil))) (.cons (.tup (.cons (.lit (.str "least")) (.cons (.var 5) (.cons (.var 6) (.cons (.bin .add (.var 7) (.tup (.cons (.tup (.cons (.lit (.int 0)) (.cons (.lit (.int 1)) .nil))) .nil))) .nil))))) .nil)))) []) .skip) []) (.seq (.asg (.v 16) (.call f_law_draw (.cons (.var 0) (.cons (.var 1) .nil))) []) (.seq (.asg (.v 17) (.bin .add (.bin .add (.slc false true (.var 6) .nil (.var 16)) (.tup (.cons (.call f_law_fr_plus (.cons (.idx (.var 6) (.var 16)) (.cons (.tup (.cons (.lit (.int 1)) (.cons (.lit (.int 1)) .nil))) .nil))) .nil))) (.slc true false (.var 6) (.bin .add (.var 16) (.lit (.int 1))) .nil)) []) (.seq (.asg (.v 18) (.bin .add (.bin .add (.slc false true (.var 6) .nil (.var 16)) (.tup (.cons (.call f_law_fr_minus (.cons (.idx (.var 6) (.var 16)) (.cons (.tup (.cons (.lit (.int 1)) (.cons (.lit (.int 1)) .nil))) .nil))) .nil))) (.slc true false (.var 6) (.bin .add (.var 16) (.lit (.int 1))) .nil)) []) (.seq (.asg (.tcons (.v 19) (.tcons (.v 20) .tnil)) (.tup (.cons (.seqT .plain (.cons (.comp .rng1 (.cons (.var 1) .nil) [21] (.v 21) (.lit (.bl true)) (.tup (.cons (.ite (.cmp .eq (.var 21) (.var 16)) (.lit (.int 1)) (.lit (.int 0))) (.cons (.lit (.int 1)) .nil)))) .nil)) (.cons (.tup (.cons (.lit (.str "least")) (.cons (.bin .mul (.tup (.cons (.tup (.cons (.lit (.int 0)) (.cons (.lit (.int 1)) .nil))) .nil)) (.var 1)) (.cons (.tup (.cons (.neg (.lit (.int 2))) (.cons (.lit (.int 1)) .nil))) .nil)))) .nil))) []) (.seq (.asg (.v 22) (.tup (.cons (.tup (.cons (.lit (.str "least")) (.cons (.var 19) (.cons (.idx (.var 6) (.var 16)) .nil)))) (.cons (.var 20) .nil))) []) (.seq (.for_ .plain (.cons (.lst (.cons (.var 6) (.cons (.var 17) (.cons (.var 18) .nil)))) .nil) (.v 23) (.seq (.for_ .plain (.cons (.lst (.cons (.idx (.var 6) (.var 16)) (.cons (.idx (.var 23) (.var 16)) .nil))) .nil) (.v 24) (.seq (.app 12 (.tup (.cons (.var 19) (.cons (.var 22) (.cons (.tup (.cons (.lit (.str "least")) (.cons (.var 24) (.cons (.var 23) (.cons (.tup (.cons (.tup (.cons (.lit (.int 1)) (.cons (.lit (.int 1)) .nil))) (.cons (.tup (.cons (.lit (.int 0)) (.cons (.lit (.int 1)) .nil))) .nil))) .nil))))) .nil)))) []) .skip) []) .skip) []) (.seq (.for_ .plain (.cons (.lst (.cons (.tup (.cons (.lit (.str "just")) (.cons (.var 5) (.cons (.var 6) (.cons (.var 7) .nil))))) (.cons (.tup (.cons (.lit (.str "least")) (.cons (.var 5) (.cons (.var 6) .nil)))) (.cons (.tup (.cons (.lit (.str "least")) (.cons (.var 5) (.cons (.var 6) (.cons (.var 7) (.cons (.tup .nil) .nil)))))) (.cons (.lst (.cons (.lit (.str "least")) (.cons (.var 5) (.cons (.var 6) (.cons (.var 7) .nil))))) (.cons (.tup (.cons (.lit (.str "least")) (.cons (.var 5) (.cons (.seqL .plain (.cons (.var 6) .nil)) (.cons (.var 7) .nil))))) .nil)))))) .nil) (.v 25) (.seq (.app 12 (.tup (.cons (.var 2) (.cons (.var 3) (.cons (.var 25) .nil)))) []) .skip) []) (.seq (.app 12 (.tup (.cons (.var 2) (.cons (.var 3) (.cons (.tup (.cons (.lit (.str "least")) (.cons (.var 5) (.cons (.var 6) (.cons (.slc false true (.var 7) .nil (.neg (.lit (.int 1)))) .nil))))) .nil)))) []) (.seq (.app 12 (.tup (.cons (.var 2) (.cons (.var 3) (.cons (.tup (.cons (.lit (.str "least")) (.cons (.var 5) (.cons (.bin .add (.var 6) (.tup (.cons (.tup (.cons (.lit (.int 0)) (.cons (.lit (.int 1)) .nil))) .nil))) (.cons (.var 7) .nil))))) .nil)))) []) (.seq (.app 12 (.tup (.cons (.var 2) (.cons (.var 3) (.cons (.tup (.cons (.lit (.str "least")) (.cons (.var 5) (.cons (.var 6) (.cons (.bin .add (.slc false true (.var 7) .nil (.neg (.lit (.int 1)))) (.tup (.cons (.lit (.int 0)) .nil))) .nil))))) .nil)))) []) (.seq (.app 12 (.tup (.cons (.var 2) (.cons (.var 3) (.cons (.tup (.cons (.lit (.str "least")) (.cons (.tup (.cons (.bin .mul (.lit (.int 2)) (.idx (.var 5) (.lit (.int 0)))) (.cons (.bin .mul (.lit (.int 2)) (.idx (.var 5) (.lit (.int 1)))) .nil))) (.cons (.var 6) (.cons (.var 7) .nil))))) .nil)))) []) (.seq (.ret (.var 12) [12]) .skip))))))))))))))))))))))))
theorem c44 : compS T 40 80 (e44 B_law_k09_least_ones).Γ (e44 B_law_k09_least_ones).body = some B_law_k09_least_ones := by kernel_rfl
def B_law_k09_none_ones : Sd := (.seq (.asg (.tcons (.v 2) (.tcons (.v 3) (.tcons (.v 4) .tnil))) (.tup (.cons (.call f_law_hb_row (.cons (.var 0) (.cons (.var 1) (.cons (.lit (.int 3)) .nil)))) (.cons (.call f_law_hb_row (.cons (.var 0) (.cons (.var 1) (.cons (.lit (.int 4)) .nil)))) (.cons (.idx (.call f_law_hb_row (.cons (.var 0) (.cons (.lit (.int 1)) (.cons (.lit (.int 5)) .nil)))) (.lit (.int 0))) .nil)))) []) (.seq (.asg (.v 5) (.call f_law_pick (.cons (.var 0) (.cons (.lst (.cons (.tup (.cons (.lit (.int 1)) (.cons (.lit (.int 1)) .nil))) (.cons (.tup (.cons (.lit (.int 1)) (.cons (.lit (.int 5)) .nil))) (.cons (.tup (.cons (.lit (.int 3)) (.cons (.lit (.int 1)) .nil))) .nil)))) .nil))) []) (.seq (.asg (.tcons (.v 6) (.tcons (.v 7) .tnil)) (.tup (.cons (.call f_law_fr_minus (.cons (.var 5) (.cons (.var 4) .nil))) (.cons (.tup (.cons (.lit (.str "least")) (.cons (.bin .mul (.tup (.cons (.tup (.cons (.lit (.int 0)) (.cons (.lit (.int 1)) .nil))) .nil)) (.var 1)) (.cons (.tup (.cons (.neg (.lit (.int 1))) (.cons (.lit (.int 1)) .nil))) .nil)))) .nil))) []) (.seq (.asg (.v 8) (.tup (.cons (.tup (.cons (.lit (.str "least")) (.cons (.var 3) (.cons (.var 4) .nil)))) (.cons (.tup (.cons (.lit (.str "least")) (.cons (.call f_law_hb_turned (.cons (.var 3) .nil)) (.cons (.var 6) .nil)))) (.cons (.var 7) .nil)))) []) (.seq (.asg (.v 9) (.tup (.cons (.tup (.cons (.lit (.str "least")) (.cons (.var 3) (.cons (.var 4) .nil)))) (.cons (.tup (.cons (.lit (.str "least")) (.cons (.call f_law_hb_turned (.cons (.var 3) .nil)) (.cons (.tup (.cons (.bin .sub (.lit (.int 0)) (.idx (.var 4) (.lit (.int 0)))) (.cons (.idx (.var 4) (.lit (.int 1))) .nil))) .nil)))) (.cons (.var 7) .nil)))) []) (.seq (.asg (.v 10) (.tup (.cons (.tup (.cons (.lit (.str "just")) (.cons (.var 3) (.cons (.call f_law_fr_plus (.cons (.var 4) (.cons (.var 5) .nil))) .nil)))) (.cons (.tup (.cons (.lit (.str "just")) (.cons (.var 3) (.cons (.var 4) .nil)))) (.cons (.var 7) .nil)))) []) (.seq (.asg (.v 11) (.lst (.cons (.tup (.cons (.var 8) (.cons (.tup (.cons (.tup (.cons (.lit (.int 1)) (.cons (.lit (.int 1)) .nil))) (.cons (.tup (.cons (.lit (.int 1)) (.cons (.lit (.int 1)) .nil))) (.cons (.tup (.cons (.lit (.int 0)) (.cons (.lit (.int 1)) .nil))) .nil)))) .nil))) (.cons (.tup (.cons (.var 8) (.cons (.tup (.cons (.tup (.cons (.lit (.int 7)) (.cons (.lit (.int 2)) .nil))) (.cons (.tup (.cons (.lit (.int 7)) (.cons (.lit (.int 2)) .nil))) (.cons (.tup (.cons (.lit (.int 0)) (.cons (.lit (.int 1)) .nil))) .nil)))) .nil))) (.cons (.tup (.cons (.var 8) (.cons (.tup (.cons (.tup (.cons (.lit (.int 1)) (.cons (.lit (.int 1)) .nil))) (.cons (.tup (.cons (.lit (.int 2)) (.cons (.lit (.int 1)) .nil))) (.cons (.tup (.cons (.lit (.int 0)) (.cons (.lit (.int 1)) .nil))) .nil)))) .nil))) (.cons (.tup (.cons (.var 8) (.cons (.tup (.cons (.tup (.cons (.neg (.lit (.int 1))) (.cons (.lit (.int 1)) .nil))) (.cons (.tup (.cons (.neg (.lit (.int 1))) (.cons (.lit (.int 1)) .nil))) (.cons (.tup (.cons (.lit (.int 0)) (.cons (.lit (.int 1)) .nil))) .nil)))) .nil))) .nil))))) []) (.seq (.asg (.v 11) (.bin .add (.var 11) (.lst (.cons (.tup (.cons (.var 8) (.cons (.bin .mul (.tup (.cons (.tup (.cons (.lit (.int 0)) (.cons (.lit (.int 1)) .nil))) .nil)) (.lit (.int 3))) .nil))) (.cons (.tup (.cons (.var 9) (.cons (.tup (.cons (.tup (.cons (.lit (.int 1)) (.cons (.lit (.int 1)) .nil))) (.cons (.tup (.cons (.lit (.int 1)) (.cons (.lit (.int 1)) .nil))) (.cons (.tup (.cons (.lit (.int 0)) (.cons (.lit (.int 1)) .nil))) .nil)))) .nil))) (.cons (.tup (.cons (.var 9) (.cons (.tup (.cons (.tup (.cons (.lit (.int 1)) (.cons (.lit (.int 1)) .nil))) (.cons (.tup (.cons (.lit (.int 1)) (.cons (.lit (.int 1)) .nil))) (.cons (.tup (.cons (.neg (.lit (.int 1))) (.cons (.lit (.int 1)) .nil))) .nil)))) .nil))) (.cons (.tup (.cons (.var 9) (.cons (.tup (.cons (.tup (.cons (.lit (.int 0)) (.cons (.lit (.int 1)) .nil))) (.cons (.tup (.cons (.lit (.int 0)) (.cons (.lit (.int 1)) .nil))) (.cons (.tup (.cons (.neg (.lit (.int 1))) (.cons (.lit (.int 1)) .nil))) .nil)))) .nil))) .nil)))))) []) (.seq (.asg (.v 11) (.bin .add (.var 11) (.lst (.cons (.tup (.cons (.var 10) (.cons (.tup (.cons (.tup (.cons (.lit (.int 1)) (.cons (.lit (.int 1)) .nil))) (.cons (.tup (.cons (.neg (.lit (.int 1))) (.cons (.lit (.int 1)) .nil))) (.cons (.tup (.cons (.lit (.int 0)) (.cons (.lit (.int 1)) .nil))) .nil)))) .nil))) (.cons (.tup (.cons (.var 10) (.cons (.tup (.cons (.tup (.cons (.neg (.lit (.int 1))) (.cons (.lit (.int 1)) .nil))) (.cons (.tup (.cons (.lit (.int 1)) (.cons (.lit (.int 1)) .nil))) (.cons (.tup (.cons (.lit (.int 0)) (.cons (.lit (.int 1)) .nil))) .nil)))) .nil))) (.cons (.tup (.cons (.var 10) (.cons (.tup (.cons (.tup (.cons (.lit (.int 2)) (.cons (.lit (.int 3)) .nil))) (.cons (.tup (.cons (.neg (.lit (.int 2))) (.cons (.lit (.int 3)) .nil))) (.cons (.tup (.cons (.lit (.int 0)) (.cons (.lit (.int 1)) .nil))) .nil)))) .nil))) (.cons (.tup (.cons (.var 10) (.cons (.tup (.cons (.tup (.cons (.lit (.int 1)) (.cons (.lit (.int 1)) .nil))) (.cons (.tup (.cons (.neg (.lit (.int 1))) (.cons (.lit (.int 1)) .nil))) .nil))) .nil))) .nil)))))) []) (.seq (.asg (.v 11) (.bin .add (.var 11) (.lst (.cons (.tup (.cons (.var 10) (.cons (.lst (.cons (.tup (.cons (.lit (.int 1)) (.cons (.lit (.int 1)) .nil))) (.cons (.tup (.cons (.neg (.lit (.int 1))) (.cons (.lit (.int 1)) .nil))) (.cons (.tup (.cons (.lit (.int 0)) (.cons (.lit (.int 1)) .nil))) .nil)))) .nil))) (.cons (.tup (.cons (.var 8) (.cons (.tup (.cons (.tup (.cons (.lit (.int 1)) (.cons (.lit (.int 1)) .nil))) (.cons (.tup (.cons (.lit (.int 1)) (.cons (.lit (.int 1)) .nil))) (.cons (.lit (.int 0)) .nil)))) .nil))) (.cons (.tup (.cons (.var 8) (.cons (.tup (.cons (.tup (.cons (.lit (.int 2)) (.cons (.lit (.int 2)) .nil))) (.cons (.tup (.cons (.lit (.int 1)) (.cons (.lit (.int 1)) .nil))) (.cons (.tup (.cons (.lit (.int 0)) (.cons (.lit (.int 1)) .nil))) .nil)))) .nil))) .nil))))) []) (.seq (.ret (.bin .add (.comp .plain (.cons (.var 11) .nil) [12, 13] (.tcons (.v 12) (.tcons (.v 13) .tnil)) (.lit (.bl true)) (.tup (.cons (.var 2) (.cons (.var 12) (.cons (.tup (.cons (.lit (.str "none")) (.cons (.var 13) .nil))) .nil))))) (.lst (.cons (.tup (.cons (.var 2) (.cons (.var 8) (.cons (.tup (.cons (.lit (.str "none")) (.cons (.tup (.cons (.tup (.cons (.lit (.int 1)) (.cons (.lit (.int 1)) .nil))) (.cons (.tup (.cons (.lit (.int 1)) (.cons (.lit (.int 1)) .nil))) (.cons (.tup (.cons (.lit (.int 0)) (.cons (.lit (.int 1)) .nil))) .nil)))) (.cons (.tup .nil) .nil)))) .nil)))) .nil))) []) .skip)))))))))))
theorem c45 : compS T 40 80 (e45 B_law_k09_none_ones).Γ (e45 B_law_k09_none_ones).body = some B_law_k09_none_ones := by kernel_rfl
def B_law_k09_endless_ones : Sd := (.seq (.asg (.tcons (.v 2) (.tcons (.v 3) .tnil)) (.tup (.cons (.call f_law_hb_row (.cons (.var 0) (.cons (.var 1) (.cons (.lit (.int 4)) .nil)))) (.cons (.call f_law_hb_row (.cons (.var 0) (.cons (.var 1) (.cons (.lit (.int 3)) .nil)))) .nil))) []) (.seq (.asg (.v 4) (.call f_law_draw (.cons (.var 0) (.cons (.var 1) .nil))) []) (.seq (.asg (.v 3) (.bin .add (.bin .add (.slc false true (.var 3) .nil (.var 4)) (.tup (.cons (.tup (.cons (.bin .add (.lit (.int 1)) (.call f_law_draw (.cons (.var 0) (.cons (.lit (.int 3)) .nil)))) (.cons (.lit (.int 1)) .nil))) .nil))) (.slc true false (.var 3) (.bin .add (.var 4) (.lit (.int 1))) .nil)) []) (.seq (.asg (.tcons (.v 5) (.tcons (.v 6) .tnil)) (.tup (.cons (.call f_law_hb_turned (.cons (.var 3) .nil)) (.cons (.seqT .plain (.cons (.comp .rng1 (.cons (.var 1) .nil) [7] (.v 7) (.lit (.bl true)) (.tup (.cons (.ite (.cmp .eq (.var 7) (.var 4)) (.lit (.int 1)) (.lit (.int 0))) (.cons (.lit (.int 1)) .nil)))) .nil)) .nil))) []) (.seq (.asg (.v 8) (.call f_law_hb_times (.cons (.var 6) (.cons (.var 2) .nil))) []) (.seq (.asg (.v 9) (.tup (.cons (.tup (.cons (.lit (.str "least")) (.cons (.var 6) (.cons (.var 8) .nil)))) (.cons (.tup (.cons (.lit (.str "least")) (.cons (.bin .mul (.tup (.cons (.tup (.cons (.lit (.int 0)) (.cons (.lit (.int 1)) .nil))) .nil)) (.var 1)) (.cons (.tup (.cons (.lit (.int 0)) (.cons (.lit (.int 1)) .nil))) .nil)))) .nil))) []) (.seq (.asgF 10 (.lst (.cons (.tup (.cons (.var 5) (.cons (.var 9) (.cons (.var 2) (.cons (.var 3) .nil))))) (.cons (.tup (.cons (.var 3) (.cons (.var 9) (.cons (.var 2) (.cons (.var 3) .nil))))) (.cons (.tup (.cons (.bin .mul (.tup (.cons (.tup (.cons (.lit (.int 0)) (.cons (.lit (.int 1)) .nil))) .nil)) (.var 1)) (.cons (.var 9) (.cons (.var 2) (.cons (.var 3) .nil))))) (.cons (.tup (.cons (.var 3) (.cons (.var 9) (.cons (.var 2) (.cons (.var 5) .nil))))) .nil))))) []) (.seq (.app 10 (.tup (.cons (.var 5) (.cons (.bin .add (.var 9) (.tup (.cons (.tup (.cons (.lit (.str "just")) (.cons (.var 6) (.cons (.var 8) .nil)))) .nil))) (.cons (.var 2) (.cons (.var 3) .nil))))) []) (.seq (.app 10 (.tup (.cons (.var 5) (.cons (.bin .add (.tup (.cons (.tup (.cons (.lit (.str "just")) (.cons (.bin .mul (.tup (.cons (.tup (.cons (.lit (.int 0)) (.cons (.lit (.int 1)) .nil))) .nil)) (.var 1)) (.cons (.tup (.cons (.lit (.int 0)) (.cons (.lit (.int 1)) .nil))) .nil)))) .nil)) (.var 9)) (.cons (.var 2) (.cons (.call f_law_hb_scaled (.cons (.var 3) (.cons (.tup (.cons (.lit (.int 5)) (.cons (.lit (.int 3)) .nil))) .nil))) .nil))))) []) (.seq (.app 10 (.tup (.cons (.var 5) (.cons (.tup (.cons (.tup (.cons (.lit (.str "least")) (.cons (.var 6) (.cons (.call f_law_fr_plus (.cons (.var 8) (.cons (.tup (.cons (.lit (.int 1)) (.cons (.lit (.int 9)) .nil))) .nil))) .nil)))) .nil)) (.cons (.var 2) (.cons (.var 3) .nil))))) []) (.seq (.app 10 (.tup (.cons (.var 5) (.cons (.tup (.cons (.tup (.cons (.lit (.str "just")) (.cons (.bin .mul (.tup (.cons (.tup (.cons (.lit (.int 0)) (.cons (.lit (.int 1)) .nil))) .nil)) (.var 1)) (.cons (.tup (.cons (.lit (.int 1)) (.cons (.lit (.int 9)) .nil))) .nil)))) .nil)) (.cons (.var 2) (.cons (.var 3) .nil))))) []) (.seq (.app 10 (.tup (.cons (.var 5) (.cons (.tup (.cons (.tup (.cons (.lit (.str "least")) (.cons (.call f_law_hb_turned (.cons (.var 6) .nil)) (.cons (.call f_law_fr_minus (.cons (.tup (.cons (.bin .sub (.lit (.int 0)) (.idx (.var 8) (.lit (.int 0)))) (.cons (.idx (.var 8) (.lit (.int 1))) .nil))) (.cons (.tup (.cons (.lit (.int 4)) (.cons (.lit (.int 1)) .nil))) .nil))) .nil)))) .nil)) (.cons (.var 2) (.cons (.var 3) .nil))))) []) (.seq (.asgF 10 (.comp .plain (.cons (.var 10) .nil) [11, 12, 13, 14] (.tcons (.v 11) (.tcons (.v 12) (.tcons (.v 13) (.tcons (.v 14) .tnil)))) (.lit (.bl true)) (.tup (.cons (.var 11) (.cons (.var 12) (.cons (.tup (.cons (.lit (.str "endless")) (.cons (.var 13) (.cons (.var 14) .nil)))) .nil))))) [10]) (.seq (.ret (.bin .add (.var 10) (.lst (.cons (.tup (.cons (.var 5) (.cons (.var 9) (.cons (.tup (.cons (.lit (.str "endless")) (.cons (.var 2) .nil))) .nil)))) (.cons (.tup (.cons (.var 5) (.cons (.var 9) (.cons (.tup (.cons (.lit (.str "endless")) (.cons (.var 3) (.cons (.seqL .plain (.cons (.var 3) .nil)) .nil)))) .nil)))) (.cons (.tup (.cons (.var 5) (.cons (.var 9) (.cons (.tup (.cons (.lit (.str "endless")) (.cons (.var 2) (.cons (.slc true false (.var 3) (.lit (.int 1)) .nil) .nil)))) .nil)))) (.cons (.tup (.cons (.var 5) (.cons (.var 9) (.cons (.tup (.cons (.lit (.str "Endless")) (.cons (.var 2) (.cons (.var 3) .nil)))) .nil)))) .nil)))))) [10]) .skip))))))))))))))
theorem c46 : compS T 40 80 (e46 B_law_k09_endless_ones).Γ (e46 B_law_k09_endless_ones).body = some B_law_k09_endless_ones := by kernel_rfl
def lawB : Sd := (.seq (.for_ .rng1 (.cons (.bin .add (.lit (.int 3)) (.blt .min2 (.cons (.blt .len (.cons (.var 0) .nil)) (.cons (.lit (.int 5)) .nil)))) .nil) (.v 3) (.seq (.asg (.v 4) (.bin .add (.lit (.int 1)) (.call f_law_draw (.cons (.var 1) (.cons (.call f_law_pick (.cons (.var 1) (.cons (.lst (.cons (.lit (.int 1)) (.cons (.lit (.int 2)) (.cons (.lit (.int 3)) (.cons (.lit (.int 8)) .nil))))) .nil))) .nil)))) []) (.seq (.asg (.v 5) (.call f_law_k09_least_ones (.cons (.var 1) (.cons (.var 4) .nil))) []) (.seq (.ite (.or (.not (.call f_law_hb_is_sum (.cons (.idx (.idx (.var 5) (.lit (.int 0))) (.lit (.int 0))) (.cons (.idx (.idx (.var 5) (.lit (.int 0))) (.lit (.int 1))) (.cons (.idx (.idx (.var 5) (.lit (.int 0))) (.lit (.int 2))) .nil))))) (.not (.call f_law_hb_is_sum (.cons (.idx (.idx (.var 5) (.lit (.int 1))) (.lit (.int 0))) (.cons (.idx (.idx (.var 5) (.lit (.int 1))) (.lit (.int 1))) (.cons (.idx (.idx (.var 5) (.lit (.int 1))) (.lit (.int 2))) .nil)))))) (.seq (.ret (.lit (.bl false)) []) .skip) .skip []) (.seq (.for_ .plain (.cons (.lst (.cons (.var 5) (.cons (.call f_law_k09_none_ones (.cons (.var 1) (.cons (.var 4) .nil))) (.cons (.call f_law_k09_endless_ones (.cons (.var 1) (.cons (.var 4) .nil))) .nil)))) .nil) (.v 6) (.seq (.ite (.cmp .notN (.call f_is_least_sum (.cons (.idx (.idx (.var 6) (.lit (.int 0))) (.lit (.int 0))) (.cons (.idx (.idx (.var 6) (.lit (.int 0))) (.lit (.int 1))) (.cons (.idx (.idx (.var 6) (.lit (.int 0))) (.lit (.int 2))) .nil)))) (.lit (.bl true))) (.seq (.ret (.lit (.bl false)) []) .skip) .skip []) (.seq (.for_ .plain (.cons (.var 6) .nil) (.tcons (.v 7) (.tcons (.v 8) (.tcons (.v 9) .tnil))) (.seq (.asg (.v 10) (.call f_law_hb_is_sum (.cons (.var 7) (.cons (.var 8) (.cons (.var 9) .nil)))) []) (.seq (.asg (.v 2) (.bin .add (.var 2) (.ite (.var 10) (.lit (.int 1)) (.lit (.int 0)))) []) (.seq (.ite (.not (.call f_law_is_truth (.cons (.call f_is_least_sum (.cons (.var 7) (.cons (.var 8) (.cons (.var 9) .nil)))) (.cons (.var 10) .nil)))) (.seq (.ret (.lit (.bl false)) []) .skip) .skip []) .skip))) []) (.seq (.asg (.tcons (.v 7) (.tcons (.v 8) (.tcons (.v 9) .tnil))) (.idx (.var 6) (.lit (.int 0))) []) (.seq (.for_ .rng1 (.cons (.lit (.int 6)) .nil) (.v 11) (.seq (.asg (.v 12) (.call f_law_bent (.cons (.var 1) (.cons (.var 9) .nil))) []) (.seq (.ite (.not (.call f_law_is_truth (.cons (.call f_is_least_sum (.perm 0 3 [1, 2, 0] .nil (.cons (.var 12) (.cons (.var 7) (.cons (.var 8) .nil))))) (.cons (.call f_law_hb_is_sum (.cons (.var 7) (.cons (.var 8) (.cons (.var 12) .nil)))) .nil)))) (.seq (.ret (.lit (.bl false)) []) .skip) .skip []) .skip)) []) (.seq (.for_ .plain (.cons (.bin .add (.slc false true (.var 5) .nil (.lit (.int 3))) (.lst (.cons (.tup (.cons (.var 7) (.cons (.var 8) (.cons (.lit .non) .nil)))) (.cons (.tup (.cons (.var 7) (.cons (.var 8) (.cons (.tup .nil) .nil)))) (.cons (.tup (.cons (.var 7) (.cons (.var 8) (.cons (.tup (.cons (.lit (.str "least")) .nil)) .nil)))) (.cons (.tup (.cons (.var 7) (.cons (.var 8) (.cons (.tup (.cons (.var 9) .nil)) .nil)))) (.cons (.tup (.cons (.var 7) (.cons (.var 8) (.cons (.lit (.int 0)) .nil)))) .nil))))))) .nil) (.v 13) (.seq (.ite (.not (.call f_law_is_truth (.cons (.call f_is_least_sum (.cons (.var 7) (.cons (.var 8) (.cons (.idx (.var 13) (.lit (.int 2))) .nil)))) (.cons (.call f_law_hb_is_sum (.cons (.var 7) (.cons (.var 8) (.cons (.idx (.var 13) (.lit (.int 2))) .nil)))) .nil)))) (.seq (.ret (.lit (.bl false)) []) .skip) .skip []) .skip) []) .skip))))) []) .skip)))) []) (.seq (.ret (.cmp .gt (.var 2) (.lit (.int 9))) []) .skip))
theorem cLaw : compS T 40 80 lawΓ lawRest = some lawB := by kernel_rfl
def rs : List FnR := [⟨e0 B_is_int, (("is_int" : Str), none), none⟩, ⟨e1 B_common, (("common" : Str), none), none⟩, ⟨e2 B_is_fraction, (("is_fraction" : Str), none), none⟩, ⟨e3 B_lowest, (("lowest" : Str), none), none⟩, ⟨e4 B_summed, (("summed" : Str), none), none⟩, ⟨e5 B_multiplied, (("multiplied" : Str), none), none⟩, ⟨e6 B_below, (("below" : Str), none), none⟩, ⟨e7 B_total, (("total" : Str), none), none⟩, ⟨e8 B_sum_of, (("sum_of" : Str), none), none⟩, ⟨e9 B_are_fractions, (("are_fractions" : Str), none), none⟩, ⟨e10 B_need_goal, (("need_goal" : Str), none), none⟩, ⟨e11 B_is_limit, (("is_limit" : Str), none), none⟩, ⟨e12 B_need_program, (("need_program" : Str), none), none⟩, ⟨e13 B_keeps, (("keeps" : Str), none), none⟩, ⟨e14 B_are_limit_weights, (("are_limit_weights" : Str), none), none⟩, ⟨e15 B_weighed, (("weighed" : Str), none), none⟩, ⟨e16 B_is_none_paper, (("is_none_paper" : Str), none), none⟩, ⟨e17 B_is_endless_paper, (("is_endless_paper" : Str), none), none⟩, ⟨e18 B_is_least_sum, (("is_least_sum" : Str), none), none⟩, ⟨e19 B_law_blended, (("_law_blended" : Str), none), none⟩, ⟨e20 B_law_draw, (("_law_draw" : Str), none), none⟩, ⟨e21 B_law_pick, (("_law_pick" : Str), none), none⟩, ⟨e22 B_law_is_truth, (("_law_is_truth" : Str), none), none⟩, ⟨e23 B_law_is_whole, (("_law_is_whole" : Str), none), none⟩, ⟨e24 B_law_bent, (("_law_bent" : Str), none), none⟩, ⟨e25 B_law_odd, (("_law_odd" : Str), none), none⟩, ⟨e26 B_law_fr_common, (("_law_fr_common" : Str), none), none⟩, ⟨e27 B_law_fr, (("_law_fr" : Str), none), none⟩, ⟨e28 B_law_fr_is, (("_law_fr_is" : Str), none), none⟩, ⟨e29 B_law_fr_plus, (("_law_fr_plus" : Str), none), none⟩, ⟨e30 B_law_fr_minus, (("_law_fr_minus" : Str), none), none⟩, ⟨e31 B_law_fr_times, (("_law_fr_times" : Str), none), none⟩, ⟨e32 B_law_fr_below, (("_law_fr_below" : Str), none), none⟩, ⟨e33 B_law_hb_times, (("_law_hb_times" : Str), none), none⟩, ⟨e34 B_law_hb_are, (("_law_hb_are" : Str), none), none⟩, ⟨e35 B_law_hb_come, (("_law_hb_come" : Str), none), none⟩, ⟨e36 B_law_hb_turned, (("_law_hb_turned" : Str), none), none⟩, ⟨e37 B_law_hb_plus, (("_law_hb_plus" : Str), none), none⟩, ⟨e38 B_law_hb_scaled, (("_law_hb_scaled" : Str), none), none⟩, ⟨e39 B_law_hb_keeps, (("_law_hb_keeps" : Str), none), none⟩, ⟨e40 B_law_hb_are_weights, (("_law_hb_are_weights" : Str), none), none⟩, ⟨e41 B_law_hb_is_sum, (("_law_hb_is_sum" : Str), none), none⟩, ⟨e42 B_law_hb_row, (("_law_hb_row" : Str), none), none⟩, ⟨e43 B_law_k09_least, (("_law_k09_least" : Str), none), none⟩, ⟨e44 B_law_k09_least_ones, (("_law_k09_least_ones" : Str), none), none⟩, ⟨e45 B_law_k09_none_ones, (("_law_k09_none_ones" : Str), none), none⟩, ⟨e46 B_law_k09_endless_ones, (("_law_k09_endless_ones" : Str), none), none⟩]
def cs : List ClsX := [⟨("ShareError" : Str), ⟨true, none, [], 1000, none⟩⟩, ⟨("BadGoal" : Str), ⟨true, some 0, [], 1000, none⟩⟩, ⟨("BadLimits" : Str), ⟨true, some 0, [], 1000, none⟩⟩]
def S0 : Desc := ⟨T, rs, cs, 0, ("ShareError" : Str), [], [], false⟩
def L0 : LawD := ⟨S0, lawN, false, lawMu, lawRest, lawB, L2.defArgs sLaw, L2.defScope sLaw, L2.defArgs (top 28), L2.defScope (top 28), L2.defArgs (top 28), L2.defScope (top 28), [⟨280, 4, 280, 9⟩, ⟨280, 11, 280, 16⟩, ⟨280, 4, 280, 16⟩, ⟨280, 20, 280, 30⟩, ⟨280, 31, 280, 37⟩, ⟨280, 20, 280, 38⟩, ⟨280, 40, 280, 41⟩, ⟨280, 19, 280, 42⟩, ⟨280, 4, 280, 42⟩], [⟨94, 4, 94, 9⟩, ⟨94, 13, 94, 16⟩, ⟨94, 17, 94, 21⟩, ⟨94, 13, 94, 22⟩, ⟨94, 25, 94, 27⟩, ⟨94, 31, 94, 33⟩, ⟨94, 25, 94, 33⟩, ⟨94, 13, 94, 33⟩, ⟨94, 38, 94, 42⟩, ⟨94, 46, 94, 52⟩, ⟨94, 56, 94, 59⟩, ⟨94, 60, 94, 64⟩, ⟨94, 56, 94, 65⟩, ⟨94, 69, 94, 71⟩, ⟨94, 75, 94, 77⟩, ⟨94, 69, 94, 77⟩, ⟨94, 56, 94, 77⟩, ⟨94, 12, 94, 78⟩, ⟨94, 4, 94, 78⟩, ⟨95, 12, 95, 19⟩, ⟨95, 28, 95, 35⟩, ⟨95, 69, 95, 75⟩, ⟨95, 80, 95, 86⟩, ⟨95, 21, 95, 26⟩, ⟨95, 38, 95, 41⟩, ⟨95, 42, 95, 46⟩, ⟨95, 38, 95, 47⟩, ⟨95, 52, 95, 56⟩, ⟨95, 60, 95, 66⟩, ⟨95, 37, 95, 67⟩, ⟨95, 77, 95, 78⟩, ⟨95, 88, 95, 89⟩, ⟨95, 11, 95, 90⟩, ⟨95, 4, 95, 90⟩], [], some (0, 0)⟩
def S1 : Desc := { S0 with xs := L0.xs3 }
def L1 : LawD := { L0 with S := S1 }
theorem cmps : Cmps T rs := ⟨c0, c1, c2, c3, c4, c5, c6, c7, c8, c9, c10, c11, c12, c13, c14, c15, c16, c17, c18, c19, c20, c21, c22, c23, c24, c25, c26, c27, c28, c29, c30, c31, c32, c33, c34, c35, c36, c37, c38, c39, c40, c41, c42, c43, c44, c45, c46, trivial⟩
theorem wf1 : S1.wf = true := by kernel_rfl
theorem ok1 : L1.ok = true := by kernel_rfl
def WB : Nat := 5000
@[irreducible] def M (n : Nat) : Mod := S1.prog.mod WB n
@[irreducible] def Cl : ClsT := S1.prog.cls
theorem M_eq (n : Nat) : M n = S1.prog.mod WB n := by unfold M; rfl
theorem Cl_eq : Cl = S1.prog.cls := by unfold Cl; rfl
theorem g_is_int : S1.prog.fns f_is_int = some ⟨.plain, 1, 1, B_is_int⟩ := by kernel_rfl
theorem g_common : S1.prog.fns f_common = some ⟨.plain, 2, 2, B_common⟩ := by kernel_rfl
theorem g_is_fraction : S1.prog.fns f_is_fraction = some ⟨.plain, 1, 1, B_is_fraction⟩ := by kernel_rfl
theorem g_lowest : S1.prog.fns f_lowest = some ⟨.plain, 2, 3, B_lowest⟩ := by kernel_rfl
theorem g_summed : S1.prog.fns f_summed = some ⟨.plain, 2, 2, B_summed⟩ := by kernel_rfl
theorem g_multiplied : S1.prog.fns f_multiplied = some ⟨.plain, 2, 2, B_multiplied⟩ := by kernel_rfl
theorem g_below : S1.prog.fns f_below = some ⟨.plain, 2, 2, B_below⟩ := by kernel_rfl
theorem g_total : S1.prog.fns f_total = some ⟨.plain, 1, 3, B_total⟩ := by kernel_rfl
theorem g_sum_of : S1.prog.fns f_sum_of = some ⟨.plain, 2, 4, B_sum_of⟩ := by kernel_rfl
theorem g_are_fractions : S1.prog.fns f_are_fractions = some ⟨.plain, 2, 3, B_are_fractions⟩ := by kernel_rfl
theorem g_need_goal : S1.prog.fns f_need_goal = some ⟨.plain, 1, 1, B_need_goal⟩ := by kernel_rfl
theorem g_is_limit : S1.prog.fns f_is_limit = some ⟨.plain, 2, 2, B_is_limit⟩ := by kernel_rfl
theorem g_need_program : S1.prog.fns f_need_program = some ⟨.plain, 2, 3, B_need_program⟩ := by kernel_rfl
theorem g_keeps : S1.prog.fns f_keeps = some ⟨.plain, 2, 6, B_keeps⟩ := by kernel_rfl
theorem g_are_limit_weights : S1.prog.fns f_are_limit_weights = some ⟨.plain, 2, 4, B_are_limit_weights⟩ := by kernel_rfl
theorem g_weighed : S1.prog.fns f_weighed = some ⟨.plain, 3, 6, B_weighed⟩ := by kernel_rfl
theorem g_is_none_paper : S1.prog.fns f_is_none_paper = some ⟨.plain, 3, 5, B_is_none_paper⟩ := by kernel_rfl
theorem g_is_endless_paper : S1.prog.fns f_is_endless_paper = some ⟨.plain, 4, 7, B_is_endless_paper⟩ := by kernel_rfl
theorem g_is_least_sum : S1.prog.fns f_is_least_sum = some ⟨.plain, 3, 4, B_is_least_sum⟩ := by kernel_rfl
theorem g_law_blended : S1.prog.fns f_law_blended = some ⟨.plain, 1, 6, B_law_blended⟩ := by kernel_rfl
theorem g_law_draw : S1.prog.fns f_law_draw = some ⟨.plain, 2, 3, B_law_draw⟩ := by kernel_rfl
theorem g_law_pick : S1.prog.fns f_law_pick = some ⟨.plain, 2, 2, B_law_pick⟩ := by kernel_rfl
theorem g_law_is_truth : S1.prog.fns f_law_is_truth = some ⟨.plain, 2, 2, B_law_is_truth⟩ := by kernel_rfl
theorem g_law_is_whole : S1.prog.fns f_law_is_whole = some ⟨.plain, 1, 1, B_law_is_whole⟩ := by kernel_rfl
theorem g_law_bent : S1.prog.fns f_law_bent = some ⟨.plain, 2, 4, B_law_bent⟩ := by kernel_rfl
theorem g_law_odd : S1.prog.fns f_law_odd = some ⟨.plain, 1, 1, B_law_odd⟩ := by kernel_rfl
theorem g_law_fr_common : S1.prog.fns f_law_fr_common = some ⟨.plain, 2, 2, B_law_fr_common⟩ := by kernel_rfl
theorem g_law_fr : S1.prog.fns f_law_fr = some ⟨.plain, 2, 3, B_law_fr⟩ := by kernel_rfl
theorem g_law_fr_is : S1.prog.fns f_law_fr_is = some ⟨.plain, 1, 2, B_law_fr_is⟩ := by kernel_rfl
theorem g_law_fr_plus : S1.prog.fns f_law_fr_plus = some ⟨.plain, 2, 2, B_law_fr_plus⟩ := by kernel_rfl
theorem g_law_fr_minus : S1.prog.fns f_law_fr_minus = some ⟨.plain, 2, 2, B_law_fr_minus⟩ := by kernel_rfl
theorem g_law_fr_times : S1.prog.fns f_law_fr_times = some ⟨.plain, 2, 2, B_law_fr_times⟩ := by kernel_rfl
theorem g_law_fr_below : S1.prog.fns f_law_fr_below = some ⟨.plain, 2, 2, B_law_fr_below⟩ := by kernel_rfl
theorem g_law_hb_times : S1.prog.fns f_law_hb_times = some ⟨.plain, 2, 5, B_law_hb_times⟩ := by kernel_rfl
theorem g_law_hb_are : S1.prog.fns f_law_hb_are = some ⟨.plain, 2, 3, B_law_hb_are⟩ := by kernel_rfl
theorem g_law_hb_come : S1.prog.fns f_law_hb_come = some ⟨.plain, 3, 5, B_law_hb_come⟩ := by kernel_rfl
theorem g_law_hb_turned : S1.prog.fns f_law_hb_turned = some ⟨.plain, 1, 2, B_law_hb_turned⟩ := by kernel_rfl
theorem g_law_hb_plus : S1.prog.fns f_law_hb_plus = some ⟨.plain, 2, 4, B_law_hb_plus⟩ := by kernel_rfl
theorem g_law_hb_scaled : S1.prog.fns f_law_hb_scaled = some ⟨.plain, 2, 3, B_law_hb_scaled⟩ := by kernel_rfl
theorem g_law_hb_keeps : S1.prog.fns f_law_hb_keeps = some ⟨.plain, 2, 6, B_law_hb_keeps⟩ := by kernel_rfl
theorem g_law_hb_are_weights : S1.prog.fns f_law_hb_are_weights = some ⟨.plain, 2, 4, B_law_hb_are_weights⟩ := by kernel_rfl
theorem g_law_hb_is_sum : S1.prog.fns f_law_hb_is_sum = some ⟨.plain, 3, 8, B_law_hb_is_sum⟩ := by kernel_rfl
theorem g_law_hb_row : S1.prog.fns f_law_hb_row = some ⟨.plain, 3, 7, B_law_hb_row⟩ := by kernel_rfl
theorem g_law_k09_least : S1.prog.fns f_law_k09_least = some ⟨.plain, 2, 13, B_law_k09_least⟩ := by kernel_rfl
theorem g_law_k09_least_ones : S1.prog.fns f_law_k09_least_ones = some ⟨.plain, 2, 26, B_law_k09_least_ones⟩ := by kernel_rfl
theorem g_law_k09_none_ones : S1.prog.fns f_law_k09_none_ones = some ⟨.plain, 2, 14, B_law_k09_none_ones⟩ := by kernel_rfl
theorem g_law_k09_endless_ones : S1.prog.fns f_law_k09_endless_ones = some ⟨.plain, 2, 15, B_law_k09_endless_ones⟩ := by kernel_rfl
theorem gk_ShareError : S1.prog.cls k_ShareError = some ⟨true, none, [], 1000, none⟩ := by kernel_rfl
theorem gk_BadGoal : S1.prog.cls k_BadGoal = some ⟨true, some k_ShareError, [], 1000, none⟩ := by kernel_rfl
theorem gk_BadLimits : S1.prog.cls k_BadLimits = some ⟨true, some k_ShareError, [], 1000, none⟩ := by kernel_rfl
end Lw

namespace Lw
open PySem L2 PyProof.Rows Fw
def loose0 : List Str := [("ShareError" : Str), ("BadGoal" : Str), ("BadLimits" : Str), ("is_int" : Str), ("common" : Str), ("is_fraction" : Str), ("lowest" : Str), ("summed" : Str), ("multiplied" : Str), ("below" : Str), ("total" : Str), ("MOST_UNKNOWNS" : Str), ("MOST_LIMITS" : Str), ("sum_of" : Str), ("are_fractions" : Str), ("need_goal" : Str), ("is_limit" : Str), ("need_program" : Str), ("keeps" : Str), ("are_limit_weights" : Str), ("weighed" : Str), ("is_none_paper" : Str), ("is_endless_paper" : Str), ("is_least_sum" : Str), ("_law_begun" : Str), ("_law_blended" : Str), ("_law_draw" : Str), ("_law_pick" : Str), ("_law_is_truth" : Str), ("_law_is_whole" : Str), ("_law_bent" : Str), ("_law_odd" : Str), ("_law_fr_common" : Str), ("_law_fr" : Str), ("_law_fr_is" : Str)]
def loose1 : List Str := [("_law_fr_plus" : Str), ("_law_fr_minus" : Str), ("_law_fr_times" : Str), ("_law_fr_below" : Str), ("_law_hb_times" : Str), ("_law_hb_are" : Str), ("_law_hb_come" : Str), ("_law_hb_turned" : Str), ("_law_hb_plus" : Str), ("_law_hb_scaled" : Str), ("_law_hb_keeps" : Str), ("_law_hb_are_weights" : Str), ("_law_hb_is_sum" : Str), ("_law_hb_row" : Str), ("_law_k09_least" : Str), ("_law_k09_least_ones" : Str), ("_law_k09_none_ones" : Str), ("_law_k09_endless_ones" : Str)]
def loose : List Str := loose0 ++ loose1
def tfs : List He.Defn := S1.tf.map (·.1)
abbrev R : PySem.W.OpenRow := PySem.W.OpenLaw.row PySem.Challenge.rw_sharesheld_k09_whole_judge_of_programs
abbrev hk : PySem.W.Hook := He.hookX 6 S1.fa S1.dfs [] (S1.tf.map (·.1)) S1.ex
def ob (s : PySem.W.SharedT) : He.AlX := He.obsX 6 S1.fa S1.dfs [] (S1.tf.map (·.1)) S1.ex (HandSHeadRun.getT s)
theorem ob_eq (s : PySem.W.SharedT) : ob s = hk.obs s.abs := He.obsX_eq (HandSHeadRun.getT_eq s)
theorem map3 {α β γ δ : Type _} {x : Option α} {f : α → β} {g : α → γ} {h : α → δ} {a : β} {b : γ} {c : δ} (h1 : x.map f = some a) (h2 : x.map g = some b) (h3 : x.map h = some c) : (x.map fun s => (f s, g s, h s)) = some (a, b, c) := by
  cases x with
  | none => cases h1
  | some s =>
    cases h1
    cases h2
    cases h3
    rfl
open HandSHeadRun PySem.W in
theorem run1 (w : World) (os : OsState) : ((endF (stepQ (denQ tabQ) R.prog w) 20000 R.prog w os).map fun s => looksF R.prog (boot_heap w.params) s.abs) = some true := by kernel_rfl
open HandSHeadRun PySem.W in
theorem run2 (w : World) (os : OsState) : ((endF (stepQ (denQ tabQ) R.prog w) 20000 R.prog w os).map fun s => seenQ (view R.prog [57]) loose (importedModules R.prog.main.body) (fun s => xlAt (view R.prog [57]) [] s && recOk R.toRowW.records s) s.abs) = some (openGood (view R.prog [57]) loose) := by kernel_rfl
theorem mapX {σ : Type _} {x : Option σ} {f : σ → He.AlX} {a c : Bool} {b : List He.FnW} (hts : ∀ s, (f s).1.2 = []) (h1 : (x.map fun s => (f s).1.1.1) = some a) (h2 : (x.map fun s => (f s).1.1.2) = some b) (h3 : (x.map fun s => (f s).2) = some c) : (x.map fun s => f s) = some (((a, b), []), c) := by
  cases x with
  | none => cases h1
  | some s =>
    have h1 : some (f s).1.1.1 = some a := h1
    have h2 : some (f s).1.1.2 = some b := h2
    have h3 : some (f s).2 = some c := h3
    have h4 := hts s
    injection h1 with h1
    injection h2 with h2
    injection h3 with h3
    show some (f s) = _
    rw [← h1, ← h2, ← h3, ← h4]
open HandSHeadRun PySem.W in
theorem run3a (w : World) (os : OsState) : ((endF (stepQ (denQ tabQ) R.prog w) 20000 R.prog w os).map fun s => (ob s).1.1.1) = some true := by kernel_rfl
open HandSHeadRun PySem.W in
theorem run3b (w : World) (os : OsState) : ((endF (stepQ (denQ tabQ) R.prog w) 20000 R.prog w os).map fun s => (ob s).1.1.2) = some (S1.dfs.map He.DefD.val) := by kernel_rfl
open HandSHeadRun PySem.W in
theorem run3c (w : World) (os : OsState) : ((endF (stepQ (denQ tabQ) R.prog w) 20000 R.prog w os).map fun s => (ob s).2) = some true := by kernel_rfl
theorem run (w : World) : HandSHeadRun.RunEq R (PySem.W.view R.prog [57]) hk ob 20000 loose w := fun os => map3 (run1 w os) (run2 w os) (mapX (fun _ => rfl) (run3a w os) (run3b w os) (run3c w os))
end Lw

/-! FwZd: what is wished of an evaluation (weakest wishes), for the mathematics of a law. -/
namespace Fw
open PySem
/-- a mark: what it names is left alone by simp -/
inductive Tg {α β : Sort _} (a : α) (b : β) : Type
  | mk
/-- r ends, and well: P its value, X its exception -/
def wR0 {α : Type} (r : Res α) (P : α → RS → Prop) (X : Nat → List D → RS → Prop) : Prop := match r with
  | .ok a s => P a s
  | .err c fs s => X c fs s
  | .stuck => False
@[irreducible] def wR {α : Type} (r : Res α) (P : α → RS → Prop) (X : Nat → List D → RS → Prop) (_ : Tg P X := .mk) : Prop := wR0 r P X
theorem wR_un {α : Type} (r : Res α) (P : α → RS → Prop) (X : Nat → List D → RS → Prop) : wR r P X = wR0 r P X := by
  unfold wR
  rfl
/-- the wishes of a statement -/
structure WS where
  nx : List Sl → RS → Prop
  rt : D → RS → Prop
  bk : List Sl → RS → Prop
  ct : List Sl → RS → Prop
  er : Nat → List D → RS → Prop
def wS0 (r : SRes) (p : WS) : Prop := match r with
  | .nx σ s => p.nx σ s
  | .rt d s => p.rt d s
  | .bk σ s => p.bk σ s
  | .ct σ s => p.ct σ s
  | .err c fs s => p.er c fs s
  | .stuck => False
@[irreducible] def wS (r : SRes) (p : WS) (_ : Tg p p := .mk) : Prop := wS0 r p
theorem wS_un (r : SRes) (p : WS) : wS r p = wS0 r p := by
  unfold wS
  rfl
abbrev no2 : List Sl → RS → Prop := fun _ _ => False
section
variable {α β : Type} {X : Nat → List D → RS → Prop}
theorem wR_bind (r : Res α) (k : α → RS → Res β) (P : β → RS → Prop) : wR (r.bind k) P X = wR r (fun a s => wR (k a s) P X) X := by cases r <;> simp only [wR_un, wS_un] <;> rfl
@[simp] theorem wR_ok (a : α) (s : RS) (P : α → RS → Prop) : wR (.ok a s) P X = P a s := by simp only [wR_un, wS_un]; rfl
@[simp] theorem wR_err (c : Nat) (fs : List D) (s : RS) (P : α → RS → Prop) : wR (.err c fs s : Res α) P X = X c fs s := by simp only [wR_un, wS_un]; rfl
theorem wR_stuck (P : α → RS → Prop) : wR (.stuck : Res α) P X = False := by simp only [wR_un, wS_un]; rfl
theorem wR_lift (o : Option α) (s : RS) (P : α → RS → Prop) : wR (liftO o s) P X = ∃ a, o = some a ∧ P a s := by
  cases o with
  | none => simp [liftO, wR_un, wR0]
  | some a => simp [liftO, wR_un, wR0]
theorem wR_ite (c : Prop) [Decidable c] (a b : Res α) (P : α → RS → Prop) : wR (if c then a else b) P X = if c then wR a P X else wR b P X := by split <;> rfl
theorem wR_noErr (r : Res α) (P : α → RS → Prop) : wR (noErr r) P X = wR r P fun _ _ _ => False := by cases r <;> simp only [wR_un, wS_un] <;> rfl
theorem wR_imp {r : Res α} {P P' : α → RS → Prop} {X' : Nat → List D → RS → Prop} (h : wR r P X) (k : ∀ a s, P a s → P' a s) (kx : ∀ c fs s, X c fs s → X' c fs s) : wR r P' X' := by
  rw [wR_un] at h ⊢
  cases r with
  | ok a s => exact k _ _ h
  | err c fs s => exact kx _ _ _ h
  | stuck => exact h
theorem wS_ofR (r : Res α) (k : α → RS → SRes) (p : WS) : wS (SRes.ofR r k) p = wR r (fun a s => wS (k a s) p) p.er := by cases r <;> simp only [wR_un, wS_un] <;> rfl
theorem wS_then (r : SRes) (k : List Sl → RS → SRes) (p : WS) : wS (r.andThen k) p = wS r { p with nx := fun σ s => wS (k σ s) p } := by cases r <;> simp only [wR_un, wS_un] <;> rfl
theorem wS_nx (σ : List Sl) (s : RS) (p : WS) : wS (.nx σ s) p = p.nx σ s := by simp only [wR_un, wS_un]; rfl
theorem wS_rt (d : D) (s : RS) (p : WS) : wS (.rt d s) p = p.rt d s := by simp only [wR_un, wS_un]; rfl
theorem wS_bk (σ : List Sl) (s : RS) (p : WS) : wS (.bk σ s) p = p.bk σ s := by simp only [wR_un, wS_un]; rfl
theorem wS_ct (σ : List Sl) (s : RS) (p : WS) : wS (.ct σ s) p = p.ct σ s := by simp only [wR_un, wS_un]; rfl
theorem wS_err (c : Nat) (fs : List D) (s : RS) (p : WS) : wS (.err c fs s) p = p.er c fs s := by simp only [wR_un, wS_un]; rfl
theorem wS_stuck (p : WS) : wS .stuck p = False := by simp only [wR_un, wS_un]; rfl
theorem wS_ite (c : Prop) [Decidable c] (a b : SRes) (p : WS) : wS (if c then a else b) p = if c then wS a p else wS b p := by split <;> rfl
theorem wS_imp {r : SRes} {p q : WS} (h : wS r p) (h1 : ∀ σ s, p.nx σ s → q.nx σ s) (h2 : ∀ d s, p.rt d s → q.rt d s) (h3 : ∀ σ s, p.bk σ s → q.bk σ s) (h4 : ∀ σ s, p.ct σ s → q.ct σ s) (h5 : ∀ c fs s, p.er c fs s → q.er c fs s) : wS r q := by
  rw [wS_un] at h ⊢
  cases r with
  | nx σ s => exact h1 _ _ h
  | rt d s => exact h2 _ _ h
  | bk σ s => exact h3 _ _ h
  | ct σ s => exact h4 _ _ h
  | err c fs s => exact h5 _ _ _ h
  | stuck => exact h
theorem wR_end (r : SRes) (P : D → RS → Prop) : wR (endRes r) P X = wS r ⟨fun _ s => P .non s, P, no2, no2, X⟩ := by cases r <;> simp only [wR_un, wS_un] <;> rfl
/-- a call of a def -/
theorem wR_call {Pr : Prog} {w n f ar sl : Nat} {bd : Sd} {xs : List D} {s : RS} {P : D → RS → Prop} (hf : Pr.fns f = some ⟨.plain, ar, sl, bd⟩) (hl : xs.length = ar)
    (h : wS (evS (Pr.mod w n) w bd (startS sl (xs.map Sl.val)) s) ⟨fun _ s => P .non s, P, no2, no2, X⟩) : wR ((Pr.mod w (n + 1)).call f xs s) P X := by
  have e : (Pr.mod w (n + 1)).call f xs s = endRes (evS (Pr.mod w n) w bd (startS sl (xs.map Sl.val)) s) := by
    show (match Pr.fns f with
      | some F => match F.kind with
        | .plain => if xs.length = F.arity then endRes (evS (Pr.mod w n) w F.body (startS F.slots (xs.map Sl.val)) s) else .stuck
        | .prim p => p xs s
        | .init _ => .stuck
      | none => .stuck) = _
    rw [hf]
    simp only [hl, if_true]
  rw [e, wR_end]
  exact h
/-- an instance is made -/
theorem wR_make {Pr : Prog} {w n c : Nat} {k : ClsD} {ar sl : Nat} {bd : Sd} {kd : FnK} {xs : List D} {s : RS} {P : D → RS → Prop} (hc : Pr.cls c = some k) (hf : Pr.fns k.init = some ⟨kd, ar, sl, bd⟩) (hl : ar = xs.length + 1)
    (h : wR (endMk c k.fields.length (evS (Pr.mod w n) w bd (startS sl (.own (.ins c []) :: xs.map Sl.val)) s)) P X) : wR ((Pr.mod w (n + 1)).make c xs s) P X := by
  have e : (Pr.mod w (n + 1)).make c xs s = endMk c k.fields.length (evS (Pr.mod w n) w bd (startS sl (.own (.ins c []) :: xs.map Sl.val)) s) := by
    show (match Pr.cls c with
      | some k => match Pr.fns k.init with
        | some F => if F.arity = xs.length + 1 then endMk c k.fields.length (evS (Pr.mod w n) w F.body (startS F.slots (.own (.ins c []) :: xs.map Sl.val)) s) else .stuck
        | none => .stuck
      | none => .stuck) = _
    rw [hc]
    simp only [hf, hl, if_true]
  rw [e]
  exact h
/-- item by item -/
inductive All2 {α β : Type} (Q : α → β → Prop) : List α → List β → Prop
  | nil : All2 Q [] []
  | cons {x : α} {y : β} {xs : List α} {ys : List β} (h : Q x y) (r : All2 Q xs ys) : All2 Q (x :: xs) (y :: ys)
theorem All2.length {α β : Type} {Q : α → β → Prop} : ∀ {xs : List α} {ys : List β}, All2 Q xs ys → ys.length = xs.length
  | _, _, .nil => rfl
  | _, _, .cons _ r => congrArg Nat.succ r.length
/-! ### loops -/
theorem wS_for {f : D → List Sl → RS → SRes} {p : WS} (I : List D → List Sl → RS → Prop) : ∀ (xs : List D) {σ : List Sl} {s : RS},
    (∀ x r σ s, (∃ h, xs = h ++ x :: r) → I (x :: r) σ s → wS (f x σ s) ⟨I r, p.rt, p.nx, I r, p.er⟩) → I xs σ s → (∀ σ s, I [] σ s → p.nx σ s) → wS (forL f xs σ s) p
  | [], σ, s, _, h0, h1 => by
    rw [wS_un]
    exact h1 _ _ h0
  | x :: xs, σ, s, hf, h0, h1 => by
    have h := hf x xs σ s ⟨[], rfl⟩ h0
    rw [wS_un] at h ⊢
    show wS0 (match f x σ s with
      | .nx σ s => forL f xs σ s
      | .ct σ s => forL f xs σ s
      | .bk σ s => .nx σ s
      | r => r) p
    have ih : ∀ σ s, I xs σ s → wS0 (forL f xs σ s) p := fun σ s h2 => by
      rw [← wS_un]
      exact wS_for I xs (fun x r σ s ⟨h, e⟩ => hf x r σ s ⟨_ :: h, by rw [e]; rfl⟩) h2 h1
    cases hr : f x σ s with
    | nx σ' s' =>
      rw [hr] at h
      exact ih _ _ h
    | ct σ' s' =>
      rw [hr] at h
      exact ih _ _ h
    | bk σ' s' =>
      rw [hr] at h
      exact h
    | rt d s' =>
      rw [hr] at h
      exact h
    | err c fs s' =>
      rw [hr] at h
      exact h
    | stuck =>
      rw [hr] at h
      exact h
/-- a comprehension whose items are told by F, whatever the state -/
theorem wR_comp {f : D → RS → Res (Option D)} (F : D → Option D) : ∀ (xs : List D) {s : RS} {P : List D → RS → Prop}, (∀ x ∈ xs, ∀ s, wR (f x s) (fun o _ => o = F x) X) → (∀ s, P (xs.filterMap F) s) → wR (compL f xs s) P X
  | [], s, P, _, h => by
    rw [wR_un]
    exact h s
  | x :: xs, s, P, hf, h => by
    unfold compL
    rw [wR_bind]
    refine wR_imp (hf x List.mem_cons_self s) (fun o s1 e => ?_) fun _ _ _ z => z
    subst e
    rw [wR_bind]
    refine wR_comp F xs (fun y hy => hf y (List.mem_cons_of_mem _ hy)) fun s2 => ?_
    rw [wR_ok]
    have := h s2
    rw [List.filterMap_cons] at this
    cases hF : F x <;> rw [hF] at this <;> exact this
/-- .. whose items are all there and have Q -/
theorem wR_compQ {f : D → RS → Res (Option D)} (Q : D → D → Prop) : ∀ (xs : List D) {s : RS} {P : List D → RS → Prop}, (∀ x ∈ xs, ∀ s, wR (f x s) (fun o _ => ∃ y, o = some y ∧ Q x y) X) → (∀ ys s, All2 Q xs ys → P ys s) → wR (compL f xs s) P X
  | [], s, P, _, h => by
    rw [wR_un]
    exact h [] s .nil
  | x :: xs, s, P, hf, h => by
    unfold compL
    rw [wR_bind]
    refine wR_imp (hf x List.mem_cons_self s) (fun o s1 e => ?_) fun _ _ _ z => z
    obtain ⟨y, rfl, hq⟩ := e
    rw [wR_bind]
    exact wR_compQ Q xs (fun y hy => hf y (List.mem_cons_of_mem _ hy)) fun ys s2 hs => by
      rw [wR_ok]
      exact h (y :: ys) s2 (.cons hq hs)
end
/-! ### without marks, for the proofs of the equations -/
section
variable {α β : Type} {X : Nat → List D → RS → Prop}
theorem wR0_bind (r : Res α) (k : α → RS → Res β) (P : β → RS → Prop) : wR0 (r.bind k) P X = wR0 r (fun a s => wR0 (k a s) P X) X := by cases r <;> rfl
theorem wR0_ok (a : α) (s : RS) (P : α → RS → Prop) : wR0 (.ok a s) P X = P a s := rfl
theorem wR0_ite (c : Prop) [Decidable c] (a b : Res α) (P : α → RS → Prop) : wR0 (if c then a else b) P X = if c then wR0 a P X else wR0 b P X := by split <;> rfl
theorem wR0_noErr (r : Res α) (P : α → RS → Prop) : wR0 (noErr r) P X = wR0 r P fun _ _ _ => False := by cases r <;> rfl
theorem wS0_ofR (r : Res α) (k : α → RS → SRes) (p : WS) : wS0 (SRes.ofR r k) p = wR0 r (fun a s => wS0 (k a s) p) p.er := by cases r <;> rfl
theorem wS0_then (r : SRes) (k : List Sl → RS → SRes) (p : WS) : wS0 (r.andThen k) p = wS0 r { p with nx := fun σ s => wS0 (k σ s) p } := by cases r <;> rfl
theorem wS0_ite (c : Prop) [Decidable c] (a b : SRes) (p : WS) : wS0 (if c then a else b) p = if c then wS0 a p else wS0 b p := by split <;> rfl
theorem wS0_stuck (p : WS) : wS0 .stuck p = False := rfl
end
end Fw

/-! FwZe: the wishes of each code, as equations for simp. -/
namespace Fw
open PySem
/-- a loop's body, an item taken -/
def loopB (m : Mod) (w : Nat) (p : Pat) (b : Sd) (d : D) (σ : List Sl) (s : RS) : SRes := match setP Sl.val p d σ with
  | some σ => evS m w b σ s
  | none => .stuck
/-- a comprehension's item -/
def compB (m : Mod) (vs : List Nat) (p : Pat) (c e : Cd) (σ : Ev) (d : D) (s : RS) : Res (Option D) := (liftO (setP some p d (wipeE σ vs)) s).bind fun σ s => (evE m c σ s).bind fun b s => (liftO (asB b) s).bind fun b s =>
  if b then (evE m e σ s).bind fun y s => .ok (some y) s else .ok none s
section
variable {m : Mod} {w : Nat} {en : Ev} {s : RS} {P : D → RS → Prop} {X : Nat → List D → RS → Prop}
def optR0 {α : Type} (o : Option α) (P : α → Prop) : Prop := match o with
  | some a => P a
  | none => False
@[irreducible] def optR {α : Type} (o : Option α) (P : α → Prop) (_ : Tg P P := .mk) : Prop := optR0 o P
theorem optR_un {α : Type} (o : Option α) (P : α → Prop) : optR o P = optR0 o P := by
  unfold optR
  rfl
@[simp] theorem optR_some {α : Type} (a : α) (P : α → Prop) : optR (some a) P = P a := by simp only [optR_un]; rfl
@[simp] theorem optR_none {α : Type} (P : α → Prop) : optR none P = False := by simp only [optR_un]; rfl
/-- one of two -/
def cnd0 (k : Bool) (A B : Prop) : Prop := match k with
  | true => A
  | false => B
@[irreducible] def cnd (k : Bool) (A B : Prop) (_ : Tg A B := .mk) : Prop := cnd0 k A B
theorem cnd_un (k : Bool) (A B : Prop) : cnd k A B = cnd0 k A B := by
  unfold cnd
  rfl
@[simp] theorem cnd_true (A B : Prop) : cnd true A B = A := by simp only [cnd_un]; rfl
@[simp] theorem cnd_false (A B : Prop) : cnd false A B = B := by simp only [cnd_un]; rfl
theorem cnd_ite {k : Bool} {A B : Prop} : cnd k A B = if k = true then A else B := by cases k <;> simp [cnd_un, cnd0]
theorem cnd_i {k : Bool} {A B : Prop} (h1 : k = true → A) (h2 : k = false → B) : cnd k A B := by
  rw [cnd_un]
  cases k with
  | true => exact h1 rfl
  | false => exact h2 rfl
@[simp] theorem optR0_some {α : Type} (a : α) (P : α → Prop) : optR0 (some a) P = P a := (rfl)
@[simp] theorem optR0_none {α : Type} (P : α → Prop) : optR0 none P = False := (rfl)
theorem cnd0_ite {k : Bool} {A B : Prop} : cnd0 k A B = if k = true then A else B := by cases k <;> simp [cnd0]
theorem wR0_lift' {α : Type} (o : Option α) (s : RS) (P : α → RS → Prop) : wR0 (liftO o s) P X = optR0 o fun a => P a s := by cases o <;> rfl
theorem optR_i {α : Type} {o : Option α} {a : α} {P : α → Prop} (h : o = some a) (k : P a) : optR o P := by
  rw [h, optR_some]
  exact k
theorem wR_lift' {α : Type} (o : Option α) (s : RS) (P : α → RS → Prop) : wR (liftO o s) P X = optR o fun a => P a s := by cases o <;> simp only [wR_un, optR_un] <;> rfl
@[simp ↓] theorem e_var (i : Nat) : wR (evE m (.var i) en s) P X = optR (en[i]?.join) fun d => P d s := by
  simp only [wR_un, optR_un, cnd_un, evE]
  cases h : en[i]? with
  | none => rfl
  | some o => cases o <;> rfl
@[simp ↓] theorem e_lit (d : D) : wR (evE m (.lit d) en s) P X = P d s := by simp only [wR_un]; rfl
@[simp ↓] theorem e_nil : wR (evE m .nil en s) P X = P (.tup []) s := by simp only [wR_un]; rfl
@[simp ↓] theorem e_cons (a r : Cd) : wR (evE m (.cons a r) en s) P X = wR (evE m a en s) (fun x s => wR (evE m r en s) (fun y s => optR (asTup y) fun xs => P (.tup (x :: xs)) s) X) X := by
  simp only [wR_un, optR_un, cnd_un, evE, wR0_bind]
  congr 1; funext x s; congr 1; funext y s
  cases y <;> rfl
@[simp ↓] theorem e_tup (a : Cd) : wR (evE m (.tup a) en s) P X = wR (evE m a en s) (fun x s => optR (asTup x) fun xs => szOk xs.length = true ∧ P (.tup xs) s) X := by
  simp only [wR_un, optR_un, cnd_un, evE, wR0_bind]
  congr 1; funext x s
  cases x <;> first
    | rfl
    | (simp only [asTup, optR0_some]; by_cases h : szOk (List.length ‹List D›) = true <;> simp [h, wR0])
@[simp ↓] theorem e_lst (a : Cd) : wR (evE m (.lst a) en s) P X = wR (evE m a en s) (fun x s => optR (asTup x) fun xs => szOk xs.length = true ∧ P (.lst xs) s) X := by
  simp only [wR_un, optR_un, cnd_un, evE, wR0_bind]
  congr 1; funext x s
  cases x <;> first
    | rfl
    | (simp only [asTup, optR0_some]; by_cases h : szOk (List.length ‹List D›) = true <;> simp [h, wR0])
@[simp ↓] theorem e_bin (o : BOp) (a b : Cd) : wR (evE m (.bin o a b) en s) P X = wR (evE m a en s) (fun x s => wR (evE m b en s) (fun y s => optR (binD o x y) fun d => P d s) X) X := by
  simp only [wR_un, optR_un, cnd_un, evE, wR0_bind, wR0_lift']
@[simp ↓] theorem e_cmp (o : COp) (a b : Cd) : wR (evE m (.cmp o a b) en s) P X = wR (evE m a en s) (fun x s => wR (evE m b en s) (fun y s => wR (cmpE m o x y s) P X) X) X := by
  simp only [wR_un, optR_un, cnd_un, evE, wR0_bind]
@[simp ↓] theorem e_chain (o1 o2 : COp) (a b c : Cd) : wR (evE m (.chain o1 o2 a b c) en s) P X = wR (evE m a en s) (fun x s => wR (evE m b en s) (fun y s => optR (cmpD o1 x y) fun k => cnd k (wR (evE m c en s) (fun z s => optR (cmpD o2 y z) fun k => P (.bl k) s) X) (P (.bl false) s)) X) X := by
  simp only [wR_un, optR_un, cnd_un, evE, wR0_bind, wR0_lift']
  congr 1; funext x s; congr 1; funext y s; congr 1; funext k
  cases k
  · rfl
  · simp only [if_true, wR0_bind, wR0_lift', cnd0_ite]
    congr 1; funext z s
    cases cmpD o2 y z <;> rfl
@[simp ↓] theorem e_and (a b : Cd) : wR (evE m (.and a b) en s) P X = wR (evE m a en s) (fun x s => optR (asB x) fun k => cnd k (wR (evE m b en s) P X) (P (.bl false) s)) X := by
  simp only [wR_un, optR_un, cnd_un, evE, wR0_bind, wR0_lift', wR0_ite, wR0_ok, cnd0_ite]
@[simp ↓] theorem e_or (a b : Cd) : wR (evE m (.or a b) en s) P X = wR (evE m a en s) (fun x s => optR (asB x) fun k => cnd k (P (.bl true) s) (wR (evE m b en s) P X)) X := by
  simp only [wR_un, optR_un, cnd_un, evE, wR0_bind, wR0_lift', wR0_ite, wR0_ok, cnd0_ite]
@[simp ↓] theorem e_not (a : Cd) : wR (evE m (.not a) en s) P X = wR (evE m a en s) (fun x s => optR (asB x) fun k => P (.bl (!k)) s) X := by
  simp only [wR_un, optR_un, cnd_un, evE, wR0_bind, wR0_lift', wR0_ok]
@[simp ↓] theorem e_neg (a : Cd) : wR (evE m (.neg a) en s) P X = wR (evE m a en s) (fun x s => optR (asI x) fun i => P (.int (-i)) s) X := by
  simp only [wR_un, optR_un, cnd_un, evE, wR0_bind]
  congr 1; funext x s
  cases x <;> rfl
@[simp ↓] theorem e_ite (c a b : Cd) : wR (evE m (.ite c a b) en s) P X = wR (evE m c en s) (fun x s => optR (asB x) fun k => cnd k (wR (evE m a en s) P X) (wR (evE m b en s) P X)) X := by
  simp only [wR_un, optR_un, cnd_un, evE, wR0_bind, wR0_lift', wR0_ite, cnd0_ite]
@[simp ↓] theorem e_idx (a b : Cd) : wR (evE m (.idx a b) en s) P X = wR (evE m a en s) (fun x s => wR (evE m b en s) (fun y s => optR (idxD x y) fun d => P d s) X) X := by
  simp only [wR_un, optR_un, cnd_un, evE, wR0_bind, wR0_lift']
@[simp ↓] theorem e_rev (a : Cd) : wR (evE m (.rev a) en s) P X = wR (evE m a en s) (fun x s => optR (revD x) fun d => P d s) X := by
  simp only [wR_un, optR_un, cnd_un, evE, wR0_bind, wR0_lift']
@[simp ↓] theorem e_rp (a : Cd) : wR (evE m (.rp a) en s) P X = wR (evE m a en s) (fun x s => optR (rpD x) fun d => P d s) X := by
  simp only [wR_un, optR_un, cnd_un, evE, wR0_bind, wR0_lift']
@[simp ↓] theorem e_blt (f : Blt) (a : Cd) : wR (evE m (.blt f a) en s) P X = wR (evE m a en s) (fun x s => optR (asTup x) fun xs => optR (bltD f xs) fun d => P d s) X := by
  simp only [wR_un, optR_un, cnd_un, evE, wR0_bind, wR0_lift']
  congr 1; funext x s
  cases asTup x <;> rfl
@[simp ↓] theorem e_seqT (k : ItK) (a : Cd) : wR (evE m (.seqT k a) en s) P X = wR (evE m a en s) (fun x s => optR (asTup x) fun xs => optR (itemsD k xs) fun xs => P (.tup xs) s) X := by
  simp only [wR_un, optR_un, cnd_un, evE, wR0_bind, wR0_lift']
  congr 1; funext x s
  cases asTup x with
  | none => rfl
  | some xs =>
    simp only [optR0_some, Option.bind_some]
    cases itemsD k xs <;> rfl
@[simp ↓] theorem e_seqL (k : ItK) (a : Cd) : wR (evE m (.seqL k a) en s) P X = wR (evE m a en s) (fun x s => optR (asTup x) fun xs => optR (itemsD k xs) fun xs => P (.lst xs) s) X := by
  simp only [wR_un, optR_un, cnd_un, evE, wR0_bind, wR0_lift']
  congr 1; funext x s
  cases asTup x with
  | none => rfl
  | some xs =>
    simp only [optR0_some, Option.bind_some]
    cases itemsD k xs <;> rfl
@[simp ↓] theorem e_call (f : Nat) (a : Cd) : wR (evE m (.call f a) en s) P X = wR (evE m a en s) (fun x s => optR (asTup x) fun xs => wR (m.call f xs s) P X) X := by
  simp only [wR_un, optR_un, cnd_un, evE, wR0_bind, wR0_lift']
@[simp ↓] theorem e_mk (c : Nat) (a : Cd) : wR (evE m (.mk c a) en s) P X = wR (evE m a en s) (fun x s => optR (asTup x) fun xs => wR (m.make c xs s) P X) X := by
  simp only [wR_un, optR_un, cnd_un, evE, wR0_bind, wR0_lift']
@[simp ↓] theorem e_fld (a : Cd) (f : Nat) : wR (evE m (.fld a f) en s) P X = wR (evE m a en s) (fun x s => optR (fldD m.cls x f) fun d => P d s) X := by
  simp only [wR_un, optR_un, cnd_un, evE, wR0_bind, wR0_lift']
@[simp ↓] theorem e_isa (a : Cd) (t : Ty) : wR (evE m (.isa a t) en s) P X = wR (evE m a en s) (fun x s => optR (isaD m.cls x t) fun b => P (.bl b) s) X := by
  simp only [wR_un, optR_un, cnd_un, evE, wR0_bind, wR0_lift']
  congr 1; funext x s
  cases isaD m.cls x t <;> rfl
@[simp ↓] theorem e_caught (a : Cd) : wR (evE m (.caught a) en s) P X = wR (evE m a en s) (fun _ s => P .non s) fun c fs s => subC m.cls 8 c m.base = true ∧ P (.exc c fs) s := by
  simp only [wR_un, optR_un, cnd_un, evE]
  cases evE m a en s with
  | ok d s => rfl
  | stuck => rfl
  | err c fs s =>
    show wR0 (if subC m.cls 8 c m.base = true then Res.ok (D.exc c fs) s else .stuck) P X = _
    by_cases h : subC m.cls 8 c m.base = true <;> simp [h, wR0]
@[simp ↓] theorem e_comp (k : ItK) (src : Cd) (vs : List Nat) (p : Pat) (c e : Cd) : wR (evE m (.comp k src vs p c e) en s) P X = wR (evE m src en s) (fun x s => optR (asTup x) fun xs => optR (itemsD k xs) fun xs => wR (compL (compB m vs p c e en) xs s) (fun r s => P (.lst r) s) fun _ _ _ => False) X := by
  simp only [wR_un, optR_un, cnd_un, evE, wR0_bind, wR0_lift', wR0_noErr, wR0_ok]
  congr 1; funext x s
  cases asTup x <;> rfl
end
end Fw

/-! FwZf: the wishes of slices, of the draws' state, of statements. -/
namespace Fw
open PySem
section
variable {m : Mod} {w : Nat} {en : Ev} {s : RS} {P : D → RS → Prop} {X : Nat → List D → RS → Prop}
@[simp ↓] theorem e_stI (k : Nat) (a : Cd) : wR (evE m (.stI k a) en s) P X = wR (evE m a en s) (fun x s => x = .st ∧ P (.int (if k = 0 then s.left else s.turn)) s) X := by
  simp only [wR_un, optR_un, cnd_un, evE, wR0_bind]
  congr 1; funext x s
  cases x <;> simp [wR0]
@[simp ↓] theorem e_stC (a : Cd) : wR (evE m (.stC a) en s) P X = wR (evE m a en s) (fun x s => x = .st ∧ P (.lst (s.cells.map D.int)) s) X := by
  simp only [wR_un, optR_un, cnd_un, evE, wR0_bind]
  congr 1; funext x s
  cases x <;> simp [wR0]
@[simp ↓] theorem e_stE (a : Cd) : wR (evE m (.stE a) en s) P X = wR (evE m a en s) (fun x s => x = .st ∧ P (.bl (!s.great.isEmpty)) s) X := by
  simp only [wR_un, optR_un, cnd_un, evE, wR0_bind]
  congr 1; funext x s
  cases x <;> simp [wR0]
/-- great's first, taken -/
def popW (s : RS) (k : Int → RS → Prop) : Prop := match s.great with
  | z :: r => k z { s with great := r }
  | [] => False
@[simp ↓] theorem e_stP (a : Cd) : wR (evE m (.stP a) en s) P X = wR (evE m a en s) (fun x s => x = .st ∧ popW s fun z s => P (.int z) s) X := by
  simp only [wR_un, optR_un, cnd_un, evE, wR0_bind]
  congr 1; funext x s
  unfold popW
  cases x <;> cases s.great <;> simp [wR0]
@[simp ↓] theorem e_slc11 (a lo hi : Cd) : wR (evE m (.slc true true a lo hi) en s) P X = wR (evE m a en s) (fun x s => wR (evE m lo en s) (fun y s => optR (asI y) fun i => wR (evE m hi en s) (fun z s => optR (asI z) fun j => optR (slcD x (some i) (some j)) fun d => P d s) X) X) X := by
  simp only [wR_un, optR_un, cnd_un, evE, wR0_bind, wR0_lift', if_true, wR0_ok]
@[simp ↓] theorem e_slc10 (a lo hi : Cd) : wR (evE m (.slc true false a lo hi) en s) P X = wR (evE m a en s) (fun x s => wR (evE m lo en s) (fun y s => optR (asI y) fun i => optR (slcD x (some i) none) fun d => P d s) X) X := by
  simp only [wR_un, optR_un, cnd_un, evE, wR0_bind, wR0_lift', if_true, wR0_ok, Bool.false_eq_true, if_false]
@[simp ↓] theorem e_slc01 (a lo hi : Cd) : wR (evE m (.slc false true a lo hi) en s) P X = wR (evE m a en s) (fun x s => wR (evE m hi en s) (fun z s => optR (asI z) fun j => optR (slcD x none (some j)) fun d => P d s) X) X := by
  simp only [wR_un, optR_un, cnd_un, evE, wR0_bind, wR0_lift', if_true, wR0_ok, Bool.false_eq_true, if_false]
@[simp ↓] theorem e_perm (n k : Nat) (p : List Nat) (a b : Cd) : wR (evE m (.perm n k p a b) en s) P X = wR (evE m a en s) (fun x s => optR (asTupN n x) fun xs => wR (evE m b en s) (fun y s => optR (asTupN k y) fun ys => optR (p.mapM fun i => (xs ++ ys)[i]?) fun ds => P (.tup ds) s) X) X := by
  simp only [wR_un, optR_un, cnd_un, evE, wR0_bind, wR0_lift']
  congr 1; funext x s; congr 1; funext xs; congr 1; funext y s; congr 1; funext ys
  cases (p.mapM fun i => (xs ++ ys)[i]?) <;> rfl
end
section
variable {m : Mod} {w : Nat} {σ : List Sl} {s : RS} {q : WS}
@[simp ↓] theorem s_skip : wS (evS m w .skip σ s) q = q.nx σ s := by simp only [wS_un]; rfl
@[simp ↓] theorem s_brk : wS (evS m w .brk σ s) q = q.bk σ s := by simp only [wS_un]; rfl
@[simp ↓] theorem s_cnt : wS (evS m w .cnt σ s) q = q.ct σ s := by simp only [wS_un]; rfl
@[simp ↓] theorem s_seq (a b : Sd) : wS (evS m w (.seq a b) σ s) q = wS (evS m w a σ s) ⟨fun σ s => wS (evS m w b σ s) q, q.rt, q.bk, q.ct, q.er⟩ := by
  simp only [wR_un, wS_un, optR_un, cnd_un, evS, wS0_then]
@[simp ↓] theorem s_asg (p : Pat) (e : Cd) (ms : List Nat) : wS (evS m w (.asg p e ms) σ s) q = wR (evE m e (viewS ms 0 σ) s) (fun d s => optR (setP Sl.val p d (settle ms d σ)) fun σ => q.nx σ s) q.er := by
  simp only [wR_un, wS_un, optR_un, cnd_un, evS, wS0_ofR]
  congr 1; funext d s
  cases setP Sl.val p d (settle ms d σ) <;> rfl
@[simp ↓] theorem s_asgF (i : Nat) (e : Cd) (ms : List Nat) : wS (evS m w (.asgF i e ms) σ s) q = wR (evE m e (viewS ms 0 σ) s) (fun d s => optR (asLst d) fun xs => q.nx ((if ms.isEmpty || D.lfs xs then σ else shareS ms 0 σ).set i (.own (.lst xs))) s) q.er := by
  simp only [wR_un, wS_un, optR_un, cnd_un, evS, wS0_ofR]
  congr 1; funext d s
  cases d <;> rfl
@[simp ↓] theorem s_asgP (ts : List (Nat × Bool)) (e : Cd) : wS (evS m w (.asgP ts e) σ s) q = wR (evE m e (viewS [] 0 σ) s) (fun d s => optR (asTup d) fun ds => optR (setF ts ds σ) fun σ => q.nx σ s) q.er := by
  simp only [wR_un, wS_un, optR_un, cnd_un, evS, wS0_ofR]
  congr 1; funext d s
  cases asTup d with
  | none => rfl
  | some ds =>
    simp only [optR0_some, Option.bind_some]
    cases setF ts ds σ <;> rfl
/-- what is behind an append -/
def appW0 (σ : List Sl) (i : Nat) (d : D) (k : List Sl → Prop) : Prop := match σ[i]? with
  | some (.own (.lst xs)) => szOk (xs.length + 1) = true ∧ k (σ.set i (.own (.lst (xs ++ [d]))))
  | _ => False
@[irreducible] def appW (σ : List Sl) (i : Nat) (d : D) (k : List Sl → Prop) (_ : Tg k k := .mk) : Prop := appW0 σ i d k
theorem appW_un (σ : List Sl) (i : Nat) (d : D) (k : List Sl → Prop) : appW σ i d k = appW0 σ i d k := by
  unfold appW
  rfl
@[simp] theorem appW_own {σ : List Sl} {i : Nat} {xs : List D} (h : σ[i]? = some (.own (.lst xs))) (d : D) (k : List Sl → Prop) : appW σ i d k = (xs.length + 1 ≤ 16777216 ∧ k (σ.set i (.own (.lst (xs ++ [d]))))) := by
  rw [appW_un]
  unfold appW0
  rw [h]
  simp [szOk]
@[simp] theorem ownL_own {σ : List Sl} {i : Nat} {xs : List D} (h : σ[i]? = some (.own (.lst xs))) : ownL σ i = true := by
  unfold ownL
  rw [h]
@[simp ↓] theorem s_app (i : Nat) (e : Cd) (ms : List Nat) : wS (evS m w (.app i e ms) σ s) q = (ownL σ i = true ∧ wR (evE m e (viewS ms 0 σ) s) (fun d s => appW (settle ms d σ) i d fun σ => q.nx σ s) q.er) := by
  simp only [wR_un, wS_un, optR_un, cnd_un, appW_un, evS, wS0_ite, wS0_stuck]
  by_cases h : ownL σ i = true
  · rw [if_pos h, wS0_ofR]
    simp only [h, true_and]
    congr 1; funext d s
    unfold appW0
    cases (settle ms d σ)[i]? with
    | none => rfl
    | some x => cases x with
      | own y => cases y with
        | lst xs =>
          by_cases hz : szOk (xs.length + 1) = true <;> simp [hz, wS0]
        | _ => rfl
      | _ => rfl
  · simp [h]
@[simp ↓] theorem s_popA (i j : Nat) (e : Cd) (ms : List Nat) : wS (evS m w (.popA i j e ms) σ s) q = ((ownL σ i && (ownL σ j && !(i == j))) = true ∧ wR (evE m e (viewS ms 0 σ) s) (fun x s => optR (asI x) fun k => optR (popX σ i j k) fun σ => q.nx σ s) q.er) := by
  simp only [wR_un, wS_un, optR_un, evS, wS0_ite, wS0_stuck]
  by_cases h : (ownL σ i && (ownL σ j && !(i == j))) = true
  · rw [if_pos h, wS0_ofR]
    simp only [h, true_and, wR0_bind, wR0_lift', optR_un]
    congr 1; funext x s
    cases asI x with
    | none => rfl
    | some k =>
      show wS0 (match popX σ i j k with
        | some σ => SRes.nx σ s
        | none => .stuck) q = optR0 (popX σ i j k) fun σ => q.nx σ s
      cases popX σ i j k <;> rfl
  · simp [h]
@[simp ↓] theorem s_ite (c : Cd) (a b : Sd) (ms : List Nat) : wS (evS m w (.ite c a b ms) σ s) q = wR (evE m c (viewS ms 0 σ) s) (fun x s => optR (asB x) fun k => cnd k (wS (evS m w a σ s) q) (wS (evS m w b σ s) q)) q.er := by
  simp only [wR_un, wS_un, optR_un, cnd_un, evS, wS0_ofR, wR0_bind, wR0_lift', wS0_ite, cnd0_ite]
@[simp ↓] theorem s_for (k : ItK) (src : Cd) (p : Pat) (b : Sd) (ms : List Nat) : wS (evS m w (.for_ k src p b ms) σ s) q = wR (evE m src (viewS ms 0 σ) s) (fun x s => optR (asTup x) fun xs => optR (itemsD k xs) fun xs => wS (forL (loopB m w p b) xs (if isRng k || ms.isEmpty then σ else shareS ms 0 σ) s) q) q.er := by
  simp only [wR_un, wS_un, optR_un, cnd_un, evS, wS0_ofR]
  congr 1; funext x s
  cases asTup x with
  | none => rfl
  | some xs =>
    simp only [optR0_some, Option.bind_some]
    cases itemsD k xs <;> rfl
@[simp ↓] theorem s_ret (e : Cd) (ms : List Nat) : wS (evS m w (.ret e ms) σ s) q = wR (evE m e (viewS ms 0 σ) s) q.rt q.er := by
  simp only [wR_un, wS_un, optR_un, cnd_un, evS, wS0_ofR]
  rfl
@[simp ↓] theorem s_raise (c : Nat) : wS (evS m w (.raise c .nil) σ s) q = q.er c [] s := by simp only [wS_un]; rfl
@[simp ↓] theorem s_stS (k : Nat) (a e : Cd) : wS (evS m w (.stS k a e) σ s) q = wR (evE m e (viewS [] 0 σ) s) (fun x s => optR (asI x) fun i => wR (evE m a (viewS [] 0 σ) s) (fun y s => y = .st ∧ q.nx σ (setI k i s)) q.er) q.er := by
  simp only [wR_un, wS_un, optR_un, cnd_un, evS, wS0_ofR, wR0_bind, wR0_lift']
  congr 1; funext x s; congr 1; funext i; congr 1; funext y s
  cases y <;> simp [wS0]
@[simp ↓] theorem s_expr (e : Cd) (ms : List Nat) : wS (evS m w (.expr e ms) σ s) q = wR (evE m e (viewS ms 0 σ) s) (fun d s => q.nx (settle ms d σ) s) q.er := by
  simp only [wR_un, wS_un, optR_un, cnd_un, evS, wS0_ofR]
  rfl
@[simp ↓] theorem loopB_w (p : Pat) (b : Sd) (d : D) : wS (loopB m w p b d σ s) q = optR (setP Sl.val p d σ) fun σ => wS (evS m w b σ s) q := by
  unfold loopB
  simp only [wS_un, optR_un]
  cases setP Sl.val p d σ <;> rfl
end
section
variable {m : Mod} {en : Ev} {s : RS} {X : Nat → List D → RS → Prop}
theorem compB_w (vs : List Nat) (p : Pat) (c e : Cd) (d : D) (P : Option D → RS → Prop) : wR (compB m vs p c e en d s) P X = optR (setP some p d (wipeE en vs)) fun en => wR (evE m c en s) (fun b s => optR (asB b) fun b => cnd b (wR (evE m e en s) (fun y s => P (some y) s) X) (P none s)) X := by
  unfold compB
  simp only [wR_un, optR_un, cnd_un, wR0_bind, wR0_lift', wR0_ite, wR0_ok, cnd0_ite]
end
/-! ### small steps for simp -/
@[simp] theorem viewS_nil' (ms : List Nat) (i : Nat) : viewS ms i [] = [] := (rfl)
@[simp] theorem viewS_cons' (ms : List Nat) (i : Nat) (x : Sl) (r : List Sl) : viewS ms i (x :: r) = view1 (ms.contains i) x :: viewS ms (i + 1) r := (rfl)
@[simp] theorem view1_un (b : Bool) : view1 b .un = none := (rfl)
@[simp] theorem view1_val (b : Bool) (d : D) : view1 b (.val d) = some d := (rfl)
@[simp] theorem view1_own (b : Bool) (xs : List D) : view1 b (.own (.lst xs)) = if b then some (.lst xs) else none := (rfl)
@[simp] theorem settle_nil' (d : D) (σ : List Sl) : settle [] d σ = σ := (rfl)
@[simp] theorem settle_cons' (x : Nat) (ms : List Nat) (d : D) (σ : List Sl) : settle (x :: ms) d σ = if d.lf then σ else shareS (x :: ms) 0 σ := by simp [settle]
@[simp] theorem shareS_nil' (ms : List Nat) (i : Nat) : shareS ms i [] = [] := (rfl)
@[simp] theorem shareS_cons' (ms : List Nat) (i : Nat) (x : Sl) (r : List Sl) : shareS ms i (x :: r) = share1 (ms.contains i) x :: shareS ms (i + 1) r := (rfl)
@[simp] theorem share1_un (b : Bool) : share1 b .un = .un := (rfl)
@[simp] theorem share1_val (b : Bool) (d : D) : share1 b (.val d) = .val d := (rfl)
@[simp] theorem share1_own (b : Bool) (xs : List D) : share1 b (.own (.lst xs)) = if b then .val (.lst xs) else .own (.lst xs) := (rfl)
@[simp] theorem isPs_v (i : Nat) : isPs (.v i) = false := (rfl)
@[simp] theorem isPs_nil : isPs .tnil = true := (rfl)
@[simp] theorem isPs_cons (p q : Pat) : isPs (.tcons p q) = true := (rfl)
@[simp] theorem setP_v {α : Type} (j : D → α) (i : Nat) (d : D) (σ : List α) : setP j (.v i) d σ = some (σ.set i (j d)) := by rw [setP]
@[simp] theorem setP_nil {α : Type} (j : D → α) (σ : List α) : setP j .tnil (.tup []) σ = some σ := by rw [setP]
@[simp] theorem setP_cons {α : Type} (j : D → α) (p q : Pat) (x : D) (xs : List D) (σ : List α) : setP j (.tcons p q) (.tup (x :: xs)) σ = if isPs q then (setP j p x σ).bind (setP j q (.tup xs)) else none := by rw [setP]
@[simp] theorem asB_bl (b : Bool) : asB (.bl b) = some b := (rfl)
@[simp] theorem asI_int (i : Int) : asI (.int i) = some i := (rfl)
@[simp] theorem asTup_tup (xs : List D) : asTup (.tup xs) = some xs := (rfl)
@[simp] theorem asLst_lst (xs : List D) : asLst (.lst xs) = some xs := (rfl)
@[simp] theorem isRng_p : isRng .plain = false := (rfl)
@[simp] theorem isRng_1 : isRng .rng1 = true := (rfl)
@[simp] theorem isRng_2 : isRng .rng2 = true := (rfl)
@[simp] theorem isRng_e : isRng .enum = false := (rfl)
@[simp] theorem isRng_z : isRng .zip = false := (rfl)
@[simp] theorem wipeE_nil (e : Ev) : wipeE e [] = e := (rfl)
@[simp] theorem wipeE_cons (e : Ev) (v : Nat) (vs : List Nat) : wipeE e (v :: vs) = (wipeE e vs).set v none := (rfl)
@[simp] theorem szOk_lit (n : Nat) : (szOk n = true) = (n ≤ 16777216) := by simp [szOk]
@[simp] theorem it_tup (xs : List D) : itemsD .plain [.tup xs] = some xs := (rfl)
@[simp] theorem it_lst (xs : List D) : itemsD .plain [.lst xs] = some xs := (rfl)
@[simp] theorem it_zipL (xs ys : List D) : itemsD .zip [.lst xs, .lst ys] = some (zipD xs ys) := (rfl)
@[simp] theorem it_zipT (xs ys : List D) : itemsD .zip [.tup xs, .tup ys] = some (zipD xs ys) := (rfl)
@[simp] theorem it_zipM (xs ys : List D) : itemsD .zip [.lst xs, .tup ys] = some (zipD xs ys) := (rfl)
@[simp] theorem it_zipN (xs ys : List D) : itemsD .zip [.tup xs, .lst ys] = some (zipD xs ys) := (rfl)
@[simp] theorem blt_lenT (xs : List D) : bltD .len [.tup xs] = some (.int xs.length) := (rfl)
@[simp] theorem blt_lenL (xs : List D) : bltD .len [.lst xs] = some (.int xs.length) := (rfl)
@[simp] theorem blt_lenS (n : Nat) : bltD .len [.scr n] = some (.int n) := (rfl)
@[simp] theorem blt_min2 (i j : Int) : bltD .min2 [.int i, .int j] = some (.int (if j < i then j else i)) := (rfl)
@[simp] theorem blt_max2 (i j : Int) : bltD .max2 [.int i, .int j] = some (.int (if j > i then j else i)) := (rfl)
@[simp] theorem blt_absI (i : Int) : bltD .abs [.int i] = some (.int (if i < 0 then -i else i)) := (rfl)
@[simp] theorem blt_intI (i : Int) : bltD .int [.int i] = some (.int i) := (rfl)
end Fw

/-! FwZg: the draws: _law_blended, _law_draw. -/
namespace Fw
open PySem
def blendedB : Sd := (.seq (.asg (.tcons (.v 1) (.tcons (.v 2) .tnil)) (.tup (.cons (.bin .add (.stI 1 (.var 0)) (.lit (.int 1))) (.cons (.lit (.int 0)) .nil))) []) (.seq (.stS 1 (.var 0) (.var 1)) (.seq (.for_ .plain (.cons (.lst (.cons (.lit (.int 2147482223)) (.cons (.lit (.int 2147482121)) (.cons (.lit (.int 2147482093)) .nil)))) .nil) (.v 3) (.seq (.asg (.v 4) (.bin .add (.bin .mul (.lit (.int 39373)) (.var 1)) (.bin .fdiv (.var 3) (.lit (.int 67)))) []) (.seq (.for_ .plain (.cons (.stC (.var 0)) .nil) (.v 5) (.seq (.asg (.v 4) (.bin .mod (.blt .int (.cons (.bin .add (.bin .add (.bin .mul (.var 4) (.lit (.int 69621))) (.var 5)) (.var 1)) .nil)) (.var 3)) []) .skip) []) (.seq (.asg (.v 2) (.bin .add (.bin .mul (.var 2) (.lit (.int 2147483647))) (.bin .mod (.blt .int (.cons (.bin .pow (.var 4) (.lit (.int 5))) .nil)) (.var 3))) []) .skip))) []) (.seq (.ret (.var 2) []) .skip))))
def drawB (i : Nat) : Sd := (.seq (.ite (.cmp .eq (.stI 0 (.var 0)) (.lit (.int 0))) (.seq (.stS 0 (.var 0) (.ite (.stE (.var 0)) (.stP (.var 0)) (.call i (.cons (.var 0) .nil)))) .skip) .skip []) (.seq (.asg (.v 2) (.bin .mod (.blt .int (.cons (.stI 0 (.var 0)) .nil)) (.var 1)) []) (.seq (.stS 0 (.var 0) (.bin .fdiv (.stI 0 (.var 0)) (.var 1))) (.seq (.ret (.var 2) []) .skip))))
/-- k draws are still to be had -/
def Bd (k : Nat) (s : RS) : Prop := s.cells ≠ [] ∨ (0 ≤ s.turn ∧ s.turn + k ≤ 2 ^ 40)
theorem Bd.le {j k : Nat} {s : RS} (h : Bd k s) (e : j ≤ k) : Bd j s := by
  rcases h with h | ⟨h1, h2⟩
  · exact .inl h
  · exact .inr ⟨h1, by omega⟩
section
variable {Pr : Prog} {w n : Nat}
@[simp] theorem add_i (i j : Int) : binD .add (.int i) (.int j) = some (.int (i + j)) := (rfl)
@[simp] theorem sub_i (i j : Int) : binD .sub (.int i) (.int j) = some (.int (i - j)) := (rfl)
theorem mul_i {i j : Int} (h : mulOk i j = true) : binD .mul (.int i) (.int j) = some (.int (i * j)) := by simp [binD, h]
theorem mulOk_l {i j : Int} (h : i.natAbs < 2 ^ 64) : mulOk i j = true := by simp only [mulOk, Bool.or_eq_true, decide_eq_true_eq]; exact .inl (.inl h)
theorem mulOk_r {i j : Int} (h : j.natAbs < 2 ^ 64) : mulOk i j = true := by simp only [mulOk, Bool.or_eq_true, decide_eq_true_eq]; exact .inl (.inr h)
theorem mod_i {i j : Int} (h : j ≠ 0) : binD .mod (.int i) (.int j) = some (.int (i.fmod j)) := by simp [binD, h]
theorem fdiv_i {i j : Int} (h : j ≠ 0) (h2 : j.natAbs.log2 < 9000) : binD .fdiv (.int i) (.int j) = some (.int (i.fdiv j)) := by simp [binD, h, h2]
theorem pow_i {i j : Int} (h : 0 ≤ j) (h1 : j ≤ 1000000) (h2 : i.natAbs < 2 ^ 64) : binD .pow (.int i) (.int j) = some (.int (i ^ j.toNat)) := by simp [binD, h, h1, h2]
theorem blended_spec {i : Nat} (h4 : Pr.fns i = some ⟨.plain, 1, 6, blendedB⟩) {k : Nat} {s : RS} (hB : Bd (k + 1) s) {P : D → RS → Prop} {X : Nat → List D → RS → Prop} (h : ∀ (r : Int) s', Bd k s' → s'.great = s.great → s'.left = s.left → P (.int r) s') : wR ((Pr.mod w (n + 1)).call i [.st] s) P X := by
  refine wR_call h4 rfl ?_
  unfold blendedB
  simp [startS, viewS, view1, settle, setP, isPs, asTup, itemsD, szOk, asI, isRng]
  have hB' : Bd k (setI 1 (s.turn + 1) s) := by
    rcases hB with h | ⟨h1, h2⟩
    · exact .inl h
    · exact .inr ⟨by show 0 ≤ s.turn + 1; omega, by show s.turn + 1 + k ≤ 2 ^ 40; omega⟩
  have key : s.cells ≠ [] ∨ (39373 * (s.turn + 1)).natAbs < 2 ^ 63 := by
    rcases hB with h | ⟨h1, h2⟩
    · exact .inl h
    · exact .inr (by omega)
  refine wS_for (fun r σ s' => s' = setI 1 (s.turn + 1) s ∧ (∀ x ∈ r, ∃ z : Int, x = .int z ∧ 0 < z ∧ z < 2 ^ 32) ∧ ∃ (f : Int) (a b c : Sl), σ = [.val .st, .val (.int (s.turn + 1)), .val (.int f), a, b, c]) _ ?_ ⟨rfl, ?_, 0, _, _, _, rfl⟩ ?_
  · rintro x r σ s' _ ⟨rfl, hx, f, a, b, c, rfl⟩
    obtain ⟨z, rfl, z1, z2⟩ := hx x List.mem_cons_self
    have hr : ∀ y ∈ r, ∃ z : Int, y = .int z ∧ 0 < z ∧ z < 2 ^ 32 := fun y hy => hx y (List.mem_cons_of_mem _ hy)
    simp [viewS, view1, settle, setP, isPs, asTup, itemsD, szOk, asI, isRng, mul_i, mulOk_l, mulOk_r]
    rw [fdiv_i (by decide) (by decide +kernel), optR_some]
    simp
    have hz : z ≠ 0 := by omega
    refine wS_for (fun r2 σ s' => s' = setI 1 (s.turn + 1) s ∧ (∀ x ∈ r2, ∃ z : Int, x = .int z) ∧ ∃ (bl : Int) (c : Sl), σ = [.val .st, .val (.int (s.turn + 1)), .val (.int f), .val (.int z), .val (.int bl), c] ∧ ((r2 = s.cells.map D.int ∧ bl = 39373 * (s.turn + 1) + z.fdiv 67) ∨ (0 ≤ bl ∧ bl < z))) _ ?_ ⟨rfl, fun x hx => ?_, _, _, rfl, .inl ⟨rfl, rfl⟩⟩ ?_
    · rintro x r2 σ s' _ ⟨rfl, hx2, bl, c, rfl, hb⟩
      obtain ⟨y, rfl⟩ := hx2 x List.mem_cons_self
      simp [viewS, view1, settle, setP, isPs, asTup, itemsD, szOk, asI, isRng, mul_i, mulOk_l, mulOk_r, mod_i hz, bltD]
      exact ⟨fun w hw => hx2 w (List.mem_cons_of_mem _ hw), .inr ⟨Int.fmod_nonneg_of_pos _ z1, Int.fmod_lt_of_pos _ z1⟩⟩
    · obtain ⟨y, _, rfl⟩ := List.mem_map.mp hx
      exact ⟨y, rfl⟩
    · rintro σ s' ⟨rfl, _, bl, c, rfl, hb⟩
      have hbl : bl.natAbs < 2 ^ 64 := by
        rcases hb with ⟨e1, e2⟩ | ⟨e1, e2⟩
        · have e3 : s.cells = [] := by
            cases hc : s.cells with
            | nil => rfl
            | cons y ys =>
              rw [hc] at e1
              cases e1
          have k2 := key.resolve_left (fun q => q e3)
          have k3 : 0 ≤ z.fdiv 67 := Int.fdiv_nonneg (by omega) (by decide)
          have k4 : z.fdiv 67 ≤ z := by
            rw [Int.fdiv_eq_ediv_of_nonneg _ (by decide)]
            omega
          omega
        · omega
      simp [viewS, view1, settle, setP, isPs, asTup, itemsD, szOk, asI, isRng, mul_i, mulOk_l, mulOk_r, mod_i hz, bltD, pow_i (by decide : (0 : Int) ≤ 5) (by decide) hbl]
      exact hr
  · intro x hx
    simp only [List.mem_cons, List.not_mem_nil, or_false] at hx
    rcases hx with rfl | rfl | rfl <;> exact ⟨_, rfl, by decide, by decide⟩
  · rintro σ s' ⟨rfl, _, f, a, b, c, rfl⟩
    simp [viewS, view1]
    exact h _ _ hB' rfl rfl
/-! ### comparisons of numbers -/
variable {m : Mod} {X : Nat → List D → RS → Prop} {P : D → RS → Prop} {s : RS}
@[simp] theorem c_eq (i j : Int) : wR (cmpE m .eq (.int i) (.int j) s) P X = P (.bl (i == j)) s := by
  have e : cmpE m .eq (.int i) (.int j) s = .ok (.bl (i == j)) s := rfl
  rw [e, wR_ok]
@[simp] theorem c_ne (i j : Int) : wR (cmpE m .ne (.int i) (.int j) s) P X = P (.bl (!(i == j))) s := by
  have e : cmpE m .ne (.int i) (.int j) s = .ok (.bl (!(i == j))) s := rfl
  rw [e, wR_ok]
@[simp] theorem c_lt (i j : Int) : wR (cmpE m .lt (.int i) (.int j) s) P X = P (.bl (decide (i < j))) s := by rw [wR_un]; rfl
@[simp] theorem c_le (i j : Int) : wR (cmpE m .le (.int i) (.int j) s) P X = P (.bl (decide (i ≤ j))) s := by rw [wR_un]; rfl
@[simp] theorem c_gt (i j : Int) : wR (cmpE m .gt (.int i) (.int j) s) P X = P (.bl (decide (j < i))) s := by rw [wR_un]; rfl
@[simp] theorem c_ge (i j : Int) : wR (cmpE m .ge (.int i) (.int j) s) P X = P (.bl (decide (j ≤ i))) s := by rw [wR_un]; rfl
theorem draw_spec {i4 i5 : Nat} (h4 : Pr.fns i4 = some ⟨.plain, 1, 6, blendedB⟩) (h5 : Pr.fns i5 = some ⟨.plain, 2, 3, drawB i4⟩) {k : Nat} {z : Int} (hz : 0 < z) (hz2 : z.natAbs.log2 < 9000) (hB : Bd (k + 1) s) (h : ∀ (r : Int) s', 0 ≤ r → r < z → Bd k s' → P (.int r) s') :
    wR ((Pr.mod w (n + 2)).call i5 [.st, .int z] s) P X := by
  refine wR_call h5 rfl ?_
  unfold drawB
  have z0 : z ≠ 0 := by omega
  simp [startS]
  refine cnd_i (fun hl => ?_) fun hl => ?_
  · simp
    cases hg : s.great with
    | nil =>
      simp [hg]
      refine blended_spec h4 hB fun r s' hb _ _ => ?_
      simp [mod_i z0, fdiv_i z0 hz2]
      exact h _ _ (Int.fmod_nonneg_of_pos _ hz) (Int.fmod_lt_of_pos _ hz) hb
    | cons g gs =>
      simp [hg, popW, mod_i z0, fdiv_i z0 hz2]
      exact h _ _ (Int.fmod_nonneg_of_pos _ hz) (Int.fmod_lt_of_pos _ hz) (hB.le (Nat.le_succ _))
  · simp [mod_i z0, fdiv_i z0 hz2]
    exact h _ _ (Int.fmod_nonneg_of_pos _ hz) (Int.fmod_lt_of_pos _ hz) (hB.le (Nat.le_succ _))
end
end Fw

/-! FwZh: loops by number; comprehensions of plain functions, of draws; all groups; what values are. -/
namespace Fw
open PySem
theorem wS_forI {f : D → List Sl → RS → SRes} {p : WS} (I : Nat → List Sl → RS → Prop) (xs : List D) {σ : List Sl} {s : RS}
    (hf : ∀ (j : Nat) x σ s, xs[j]? = some x → I j σ s → wS (f x σ s) ⟨I (j + 1), p.rt, p.nx, I (j + 1), p.er⟩) (h0 : I 0 σ s) (h1 : ∀ σ s, I xs.length σ s → p.nx σ s) : wS (forL f xs σ s) p := by
  refine wS_for (fun r σ s => r.length ≤ xs.length ∧ r = xs.drop (xs.length - r.length) ∧ I (xs.length - r.length) σ s) xs (fun x r σ s _ ⟨e1, e2, e3⟩ => ?_) ⟨Nat.le_refl _, by rw [Nat.sub_self]; rfl, by rw [Nat.sub_self]; exact h0⟩ fun σ s ⟨_, _, e⟩ => h1 σ s e
  have l1 : (x :: r).length = r.length + 1 := rfl
  rw [l1] at e1 e2 e3
  have hx : xs[xs.length - (r.length + 1)]? = some x := by
    have := congrArg (fun l : List D => l[0]?) e2
    simpa [List.getElem?_drop] using this.symm
  have hr : r = xs.drop (xs.length - r.length) := by
    have := congrArg List.tail e2
    rw [List.tail_drop] at this
    have e4 : xs.length - (r.length + 1) + 1 = xs.length - r.length := by omega
    rw [e4] at this
    exact this
  have e5 : xs.length - (r.length + 1) + 1 = xs.length - r.length := by omega
  have z := hf _ x σ s hx e3
  rw [e5] at z
  exact wS_imp z (fun σ s q => ⟨by omega, hr, q⟩) (fun _ _ q => q) (fun _ _ q => q) (fun σ s q => ⟨by omega, hr, q⟩) fun _ _ _ q => q
section
variable {X : Nat → List D → RS → Prop} {f : D → RS → Res (Option D)} {α : Type}
/-- a comprehension of a plain function over the data of a list; some left out -/
theorem wR_cfil (t : α → D) (p : α → Bool) (g : α → D) {s : RS} : ∀ (l : List α) {P : List D → RS → Prop}, (∀ a ∈ l, wR (f (t a) s) (fun o s' => o = (if p a then some (g a) else none) ∧ s' = s) X) → P ((l.filter p).map g) s → wR (compL f (l.map t) s) P X
  | [], P, _, h => by
    rw [wR_un]
    exact h
  | a :: l, P, hf, h => by
    rw [List.map_cons]
    unfold compL
    rw [wR_bind]
    refine wR_imp (hf a List.mem_cons_self) (fun o s1 e => ?_) fun _ _ _ z => z
    obtain ⟨rfl, rfl⟩ := e
    rw [wR_bind]
    refine wR_cfil t p g l (fun y hy => hf y (List.mem_cons_of_mem _ hy)) ?_
    rw [wR_ok]
    rw [List.filter_cons] at h
    cases hp : p a <;> simp [hp] at h ⊢ <;> exact h
theorem wR_cmap (t : α → D) (g : α → D) {s : RS} (l : List α) {P : List D → RS → Prop} (hf : ∀ a ∈ l, wR (f (t a) s) (fun o s' => o = some (g a) ∧ s' = s) X) (h : P (l.map g) s) : wR (compL f (l.map t) s) P X := by
  refine wR_cfil t (fun _ => true) g l (fun a ha => ?_) ?_
  · simpa using hf a ha
  · have e : l.filter (fun _ => true) = l := by simp
    rw [e]
    exact h
/-- a comprehension whose items take u draws at most, and are data of things with Q -/
theorem wR_cdraw {β : Type} (t : β → D) (Q : D → β → Prop) (u : Nat) : ∀ (xs : List D) {k : Nat} {s : RS} {P : List D → RS → Prop}, (∀ x ∈ xs, ∀ k s, Bd (k + u) s → wR (f x s) (fun o s' => ∃ b, o = some (t b) ∧ Q x b ∧ Bd k s') X) → Bd (k + u * xs.length) s →
    (∀ bs s', All2 Q xs bs → Bd k s' → P (bs.map t) s') → wR (compL f xs s) P X
  | [], k, s, P, _, hB, h => by
    rw [wR_un]
    exact h [] s .nil hB
  | x :: xs, k, s, P, hf, hB, h => by
    unfold compL
    rw [wR_bind]
    have hB' : Bd ((k + u * xs.length) + u) s := hB.le (by rw [List.length_cons, Nat.mul_succ]; omega)
    refine wR_imp (hf x List.mem_cons_self _ s hB') (fun o s1 e => ?_) fun _ _ _ z => z
    obtain ⟨b, rfl, q, hb⟩ := e
    rw [wR_bind]
    refine wR_cdraw t Q u xs (fun y hy => hf y (List.mem_cons_of_mem _ hy)) hb fun bs s2 hs hb2 => ?_
    rw [wR_ok]
    exact h (b :: bs) s2 (.cons q hs) hb2
end
theorem All2.right {α β : Type} {Q : α → β → Prop} {R : β → Prop} (h : ∀ a b, Q a b → R b) : ∀ {xs : List α} {ys : List β}, All2 Q xs ys → ∀ y ∈ ys, R y
  | _, _, .nil, y, hy => by cases hy
  | _, _, .cons q r, y, hy => by
    rcases List.mem_cons.mp hy with rfl | hy
    · exact h _ _ q
    · exact r.right h y hy
/-! ### numbers -/
theorem rgOk_nat {k : Nat} (hk : k ≤ 16777216) : rgOk 0 (k : Int) = true := by
  simp only [rgOk, Bool.and_eq_true, decide_eq_true_eq]
  have e1 : ((2 : Int) ^ 62) = 4611686018427387904 := by decide
  rw [e1]
  omega
theorem rgOk_int {i : Int} (hk : i ≤ 16777216) (h0 : 0 ≤ i) : rgOk 0 i = true := by
  obtain ⟨k, rfl⟩ := Int.eq_ofNat_of_zero_le h0
  exact rgOk_nat (by omega)
theorem szOk_of {n : Nat} (h : n ≤ 16777216) : szOk n = true := by
  unfold szOk
  exact decide_eq_true h
theorem it_rng1 {i : Int} (h0 : 0 ≤ i) (h : i ≤ 16777216) : itemsD .rng1 [.int i] = some ((List.range i.toNat).map fun k => D.int (k : Nat)) := by
  have e : itemsD .rng1 [.int i] = if rgOk 0 i then some (rngD 0 i) else none := rfl
  rw [e, rgOk_int h h0]
  simp [rngD]
theorem it_rng1n {k : Nat} (h : k ≤ 16777216) : itemsD .rng1 [.int (k : Nat)] = some ((List.range k).map fun k => D.int (k : Nat)) := by
  rw [it_rng1 (by omega) (by omega)]
  rfl
theorem zipD_map {α β : Type} (f : α → D) (g : β → D) : ∀ (xs : List α) (ys : List β), zipD (xs.map f) (ys.map g) = (xs.zip ys).map fun p => .tup [f p.1, g p.2]
  | [], _ => by cases ‹List β› <;> rfl
  | x :: xs, [] => rfl
  | x :: xs, y :: ys => by simp [zipD, zipD_map f g xs ys]
theorem add_t {xs ys : List D} (h : xs.length + ys.length ≤ 16777216) : binD .add (.tup xs) (.tup ys) = some (.tup (xs ++ ys)) := by simp only [binD, szOk_of h, if_true]
theorem add_l {xs ys : List D} (h : xs.length + ys.length ≤ 16777216) : binD .add (.lst xs) (.lst ys) = some (.lst (xs ++ ys)) := by simp only [binD, szOk_of h, if_true]
theorem intsD_map : ∀ l : List Int, intsD (l.map D.int) = some l
  | [] => rfl
  | i :: l => by simp [intsD, intsD_map l]
theorem boolsD_map : ∀ l : List Bool, boolsD (l.map D.bl) = some l
  | [] => rfl
  | i :: l => by simp [boolsD, boolsD_map l]
theorem blt_sum (l : List Int) : bltD .sum [.lst (l.map D.int)] = some (.int l.sum) := by simp [bltD, intsD_map]
theorem blt_sum_map {α : Type} (f : α → Int) (l : List α) : bltD .sum [.lst (l.map fun a => D.int (f a))] = some (.int (l.map f).sum) := by
  rw [← blt_sum, List.map_map]
  rfl
theorem blt_all (l : List Bool) : bltD .all [.lst (l.map D.bl)] = some (.bl (l.all id)) := by simp [bltD, boolsD_map]
theorem blt_any (l : List Bool) : bltD .any [.lst (l.map D.bl)] = some (.bl (l.any id)) := by simp [bltD, boolsD_map]
theorem idx_t {xs : List D} {k : Nat} {d : D} (h : xs[k]? = some d) : idxD (.tup xs) (.int (k : Nat)) = some d := by
  have hk : k < xs.length := (List.getElem?_eq_some_iff.mp h).1
  have e : L2.ixN xs.length (k : Int) = some k := by
    unfold L2.ixN
    simp
    omega
  simp [idxD, e, h]
theorem idx_l {xs : List D} {k : Nat} {d : D} (h : xs[k]? = some d) : idxD (.lst xs) (.int (k : Nat)) = some d := by
  have hk : k < xs.length := (List.getElem?_eq_some_iff.mp h).1
  have e : L2.ixN xs.length (k : Int) = some k := by
    unfold L2.ixN
    simp
    omega
  simp [idxD, e, h]
/-! ### comparisons -/
section
variable {m : Mod} {s : RS}
theorem cmp_non (o : COp) (y : D) : cmpE m o .non y s = liftO ((cmpD o .non y).map D.bl) s := by cases o <;> rfl
theorem cmp_bl (o : COp) (b : Bool) (y : D) : cmpE m o (.bl b) y s = liftO ((cmpD o (.bl b) y).map D.bl) s := by cases o <;> rfl
theorem cmp_int (o : COp) (i : Int) (y : D) : cmpE m o (.int i) y s = liftO ((cmpD o (.int i) y).map D.bl) s := by cases o <;> rfl
theorem cmp_str (o : COp) (x : Str) (y : D) : cmpE m o (.str x) y s = liftO ((cmpD o (.str x) y).map D.bl) s := by cases o <;> rfl
theorem cmp_tup (o : COp) (xs : List D) (y : D) : cmpE m o (.tup xs) y s = liftO ((cmpD o (.tup xs) y).map D.bl) s := by cases o <;> rfl
theorem cmp_lst (o : COp) (xs : List D) (y : D) : cmpE m o (.lst xs) y s = liftO ((cmpD o (.lst xs) y).map D.bl) s := by cases o <;> rfl
theorem cmp_dic (o : COp) (xs ys : List D) (y : D) : cmpE m o (.dic xs ys) y s = liftO ((cmpD o (.dic xs ys) y).map D.bl) s := by cases o <;> rfl
end
theorem cmpD_eq {a b : D} (h : eqOk a b = true) : cmpD .eq a b = some (a.eqv b) := by
  have e : cmpD .eq a b = if eqOk a b then some (a.eqv b) else nilEq a b := by cases a <;> rfl
  rw [e, h]
  rfl
theorem cmpD_ne {a b : D} (h : eqOk a b = true) : cmpD .ne a b = some (!a.eqv b) := by
  have e : cmpD .ne a b = if eqOk a b then some (!a.eqv b) else none := by cases a <;> rfl
  rw [e, h]
  rfl
theorem plns_ints : ∀ l : List Int, D.plns (l.map D.int) = true
  | [] => rfl
  | i :: l => by simp [D.plns, D.pln, plns_ints l]
theorem plns_of {α : Type} {f : α → D} (h : ∀ a, (f a).pln = true) : ∀ l : List α, D.plns (l.map f) = true
  | [] => rfl
  | i :: l => by simp [D.plns, h, plns_of h l]
theorem dles_of {α : Type} {n : Nat} {f : α → D} (h : ∀ a, (f a).dle n = true) : ∀ l : List α, D.dles n (l.map f) = true
  | [] => rfl
  | i :: l => by simp [D.dles, h, dles_of h l]
theorem dles_ints (n : Nat) (l : List Int) : D.dles n (l.map D.int) = true := dles_of (fun _ => by cases n <;> rfl) l
theorem eqvs_of {α : Type} [DecidableEq α] {f : α → D} (h : ∀ a b, (f a).eqv (f b) = decide (a = b)) : ∀ l l' : List α, D.eqvs (l.map f) (l'.map f) = decide (l = l')
  | [], [] => by simp [D.eqvs]
  | [], y :: l' => by simp [D.eqvs]
  | x :: l, [] => by simp [D.eqvs]
  | x :: l, y :: l' => by simp [D.eqvs, h, eqvs_of h l l']
theorem eqv_int (a b : Int) : (D.int a).eqv (D.int b) = decide (a = b) := by
  rw [D.eqv]
  by_cases h : a = b <;> simp [h]
theorem eqvs_ints (l l' : List Int) : D.eqvs (l.map D.int) (l'.map D.int) = decide (l = l') := eqvs_of eqv_int l l'
/-! ### groups -/
/-- all groups, in their sequence -/
def gps : Nat → List (List Nat)
  | 0 => [[]]
  | n + 1 => gps n ++ (gps n).map (· ++ [n])
theorem gps_len : ∀ n, (gps n).length = 2 ^ n
  | 0 => rfl
  | n + 1 => by
    unfold gps
    rw [List.length_append, List.length_map, gps_len n, Nat.pow_succ]
    omega
theorem gps_small : ∀ n, ∀ g ∈ gps n, g.length ≤ n ∧ ∀ x ∈ g, x < n
  | 0, g, h => by
    simp [gps] at h
    simp [h]
  | n + 1, g, h => by
    unfold gps at h
    rcases List.mem_append.mp h with h | h
    · exact ⟨Nat.le_succ_of_le (gps_small n g h).1, fun x hx => Nat.lt_succ_of_lt ((gps_small n g h).2 x hx)⟩
    · obtain ⟨g', h', rfl⟩ := List.mem_map.mp h
      have := gps_small n g' h'
      simp only [List.length_append, List.length_singleton, List.mem_append, List.mem_singleton]
      refine ⟨by omega, fun x hx => ?_⟩
      rcases hx with hx | rfl
      · exact Nat.lt_succ_of_lt (this.2 x hx)
      · exact Nat.lt_succ_self _
theorem gps_head : ∀ n, ∃ r, gps n = [] :: r
  | 0 => ⟨[], rfl⟩
  | n + 1 => by
    obtain ⟨r, e⟩ := gps_head n
    exact ⟨r ++ (gps n).map (· ++ [n]), by rw [gps, e]; rfl⟩
abbrev natD (x : Nat) : D := .int (x : Nat)
def grpD (g : List Nat) : D := .tup (g.map natD)
def gpsD (n : Nat) : D := .lst ((gps n).map grpD)
theorem pow5 {j : Nat} (h : j ≤ 5) : 2 ^ j ≤ 32 := Nat.le_trans (Nat.pow_le_pow_right (Nat.succ_pos 1) h) (Nat.le_refl (2 ^ 5))
theorem pow15 {j : Nat} (h : j ≤ 15) : 2 ^ j ≤ 32768 := Nat.le_trans (Nat.pow_le_pow_right (Nat.succ_pos 1) h) (Nat.le_refl (2 ^ 15))
theorem natD_pln (x : Nat) : (natD x).pln = true := rfl
theorem natD_dle (n x : Nat) : (natD x).dle n = true := by cases n <;> rfl
theorem natD_eqv (a b : Nat) : (natD a).eqv (natD b) = decide (a = b) := by
  unfold natD
  rw [eqv_int]
  simp
  omega
theorem grpD_pln (g : List Nat) : (grpD g).pln = true := by simp [grpD, D.pln, plns_of natD_pln]
theorem grpD_dle (n : Nat) (g : List Nat) : (grpD g).dle (n + 1) = true := by simp [grpD, D.dle, dles_of (natD_dle n)]
theorem grpD_eqv (a b : List Nat) : (grpD a).eqv (grpD b) = decide (a = b) := by
  unfold grpD
  rw [D.eqv, eqvs_of natD_eqv]
end Fw

/-! FwZi: slices, places, tables as data, small judges on groups. -/
namespace Fw
open PySem
/-! ### slices -/
@[simp] theorem slc_t (xs : List D) (lo hi : Option Int) : slcD (.tup xs) lo hi = some (.tup (cutD xs lo hi)) := (rfl)
@[simp] theorem slc_l (xs : List D) (lo hi : Option Int) : slcD (.lst xs) lo hi = some (.lst (cutD xs lo hi)) := (rfl)
theorem cut_from (xs : List D) (k : Nat) : cutD xs (some (k : Int)) none = xs.drop k := by
  unfold cutD
  rw [HT.sIx_nat, HT.sIx_none]
  by_cases h : k ≤ xs.length
  · rw [Nat.min_eq_left h]
    exact List.take_of_length_le (by simp)
  · have h' : xs.length ≤ k := by omega
    rw [Nat.min_eq_right h', List.drop_eq_nil_of_le (Nat.le_refl _), List.drop_eq_nil_of_le h', List.take_nil]
theorem cut_to (xs : List D) (k : Nat) : cutD xs none (some (k : Int)) = xs.take k := by
  unfold cutD
  rw [HT.sIx_nat, HT.sIx_none]
  simp
theorem cut_fromI (xs : List D) {i : Int} (h : 0 ≤ i) : cutD xs (some i) none = xs.drop i.toNat := by
  obtain ⟨k, rfl⟩ := Int.eq_ofNat_of_zero_le h
  exact cut_from xs k
theorem cut_toI (xs : List D) {i : Int} (h : 0 ≤ i) : cutD xs none (some i) = xs.take i.toNat := by
  obtain ⟨k, rfl⟩ := Int.eq_ofNat_of_zero_le h
  exact cut_to xs k
@[simp] theorem cut_1 (xs : List D) : cutD xs (some 1) none = xs.drop 1 := cut_from xs 1
theorem cut_s (xs : List D) (k : Nat) : cutD xs (some ((k : Int) + 1)) none = xs.drop (k + 1) := cut_from xs (k + 1)
theorem set_split {α : Type} : ∀ (xs : List α) (k : Nat) (v : α), k < xs.length → xs.take k ++ ([v] ++ xs.drop (k + 1)) = xs.set k v
  | [], k, v, h => by cases h
  | x :: xs, 0, v, h => rfl
  | x :: xs, k + 1, v, h => by
    have := set_split xs k v (by simpa using h)
    simp at this ⊢
    exact this
/-! ### arithmetic -/
theorem fdiv_s (i : Int) {j : Int} (h : 0 < j) (h2 : j < 18446744073709551616) : binD .fdiv (.int i) (.int j) = some (.int (i / j)) := by
  have h0 : j ≠ 0 := by omega
  have h1 : j.natAbs.log2 < 9000 := by
    by_cases h0 : j.natAbs = 0
    · rw [h0]
      decide
    · have := (Nat.log2_lt (k := 64) h0).mpr (by omega)
      omega
  rw [fdiv_i h0 h1, Int.fdiv_eq_ediv_of_nonneg _ (by omega)]
theorem mod_s (i : Int) {j : Int} (h : 0 < j) : binD .mod (.int i) (.int j) = some (.int (i % j)) := by
  rw [mod_i (by omega), Int.fmod_eq_emod_of_nonneg _ (by omega)]
theorem sum_bound {m : Int} : ∀ l : List Int, (∀ x ∈ l, -m ≤ x ∧ x ≤ m) → -(m * l.length) ≤ l.sum ∧ l.sum ≤ m * l.length
  | [], _ => by simp
  | x :: l, h => by
    have h1 := h x List.mem_cons_self
    have h2 := sum_bound l fun y hy => h y (List.mem_cons_of_mem _ hy)
    rw [List.sum_cons, List.length_cons]
    have e : m * ((l.length + 1 : Nat) : Int) = m * (l.length : Int) + m := by
      rw [show ((l.length + 1 : Nat) : Int) = (l.length : Int) + 1 by omega, Int.mul_add, Int.mul_one]
    rw [e]
    omega
theorem sum_bound' {m : Int} {k : Nat} {l : List Int} (h : ∀ x ∈ l, -m ≤ x ∧ x ≤ m) (hm : 0 ≤ m) (hk : l.length ≤ k) : -(m * k) ≤ l.sum ∧ l.sum ≤ m * k := by
  have h1 := sum_bound l h
  have h2 : m * (l.length : Int) ≤ m * (k : Int) := Int.mul_le_mul_of_nonneg_left (by omega) hm
  omega
/-! ### groups -/
@[simp] theorem it_grp (g : List Nat) : itemsD .plain [grpD g] = some (g.map natD) := (rfl)
@[simp] theorem len_grp (g : List Nat) : bltD .len [grpD g] = some (.int g.length) := by
  show some (D.int ((g.map natD).length : Nat)) = _
  rw [List.length_map]
theorem grp_nil : D.tup [] = grpD [] := rfl
section
variable {m : Mod} {s : RS} {P : D → RS → Prop} {X : Nat → List D → RS → Prop}
theorem c_liftB (o : Option Bool) (b : Bool) (h : o = some b) : wR (liftO (o.map D.bl) s) P X = P (.bl b) s := by rw [h, wR_un]; rfl
theorem c_grp_eq (a b : List Nat) : wR (cmpE m .eq (grpD a) (grpD b) s) P X = P (.bl (decide (a = b))) s := by
  unfold grpD
  rw [cmp_tup]
  refine c_liftB _ _ ?_
  have h : eqOk (D.tup (a.map natD)) (D.tup (b.map natD)) = true := by
    have h1 := grpD_pln a
    have h2 := grpD_pln b
    have h3 := grpD_dle 19 a
    unfold grpD at h1 h2 h3
    simp [eqOk, h1, h2, h3]
  rw [cmpD_eq h]
  exact congrArg some (grpD_eqv a b)
theorem c_grp_ne (a b : List Nat) : wR (cmpE m .ne (grpD a) (grpD b) s) P X = P (.bl (!decide (a = b))) s := by
  unfold grpD
  rw [cmp_tup]
  refine c_liftB _ _ ?_
  have h : eqOk (D.tup (a.map natD)) (D.tup (b.map natD)) = true := by
    have h1 := grpD_pln a
    have h2 := grpD_pln b
    have h3 := grpD_dle 19 a
    unfold grpD at h1 h2 h3
    simp [eqOk, h1, h2, h3]
  rw [cmpD_ne h]
  have e := grpD_eqv a b
  unfold grpD at e
  rw [e]
@[simp] theorem c_grp_ne0 (a : List Nat) : wR (cmpE m .ne (grpD a) (.tup []) s) P X = P (.bl (!decide (a = []))) s := c_grp_ne a []
@[simp] theorem c_grp_eq0 (a : List Nat) : wR (cmpE m .eq (grpD a) (.tup []) s) P X = P (.bl (decide (a = []))) s := c_grp_eq a []
theorem inOk_grp (x : Nat) (g : List Nat) : inOk (natD x) (g.map natD) = true := by
  simp [inOk, plns_of natD_pln, natD_pln, natD_dle]
theorem any_grp (x : Nat) (g : List Nat) : ((g.map natD).any fun y => y.eqv (natD x)) = decide (x ∈ g) := by
  induction g with
  | nil => simp
  | cons y g ih =>
    rw [List.map_cons, List.any_cons, ih, natD_eqv]
    by_cases h : y = x
    · simp [h]
    · have h' : ¬ x = y := fun e => h e.symm
      simp [h, h']
@[simp] theorem c_nin_grp (x : Nat) (g : List Nat) : wR (cmpE m .nin (.int (x : Nat)) (grpD g) s) P X = P (.bl (!decide (x ∈ g))) s := by
  rw [cmp_int]
  refine c_liftB _ _ ?_
  show (if inOk (natD x) (g.map natD) then some (!(g.map natD).any fun y => y.eqv (natD x)) else none) = _
  rw [inOk_grp, any_grp]
  rfl
@[simp] theorem c_inn_grp (x : Nat) (g : List Nat) : wR (cmpE m .inn (.int (x : Nat)) (grpD g) s) P X = P (.bl (decide (x ∈ g))) s := by
  rw [cmp_int]
  refine c_liftB _ _ ?_
  show (if inOk (natD x) (g.map natD) then some ((g.map natD).any fun y => y.eqv (natD x)) else none) = _
  rw [inOk_grp, any_grp]
  rfl
/-- is a list empty -/
theorem c_lst_nil {xs : List D} (h : D.plns xs = true) : wR (cmpE m .eq (.lst xs) (.lst []) s) P X = P (.bl xs.isEmpty) s := by
  rw [cmp_lst]
  refine c_liftB _ _ ?_
  have h : eqOk (D.lst xs) (D.lst []) = true := by simp [eqOk, D.pln, D.plns, D.dle, D.dles, h]
  rw [cmpD_eq h]
  cases xs <;> rfl
theorem c_lst_nnil {xs : List D} (h : D.plns xs = true) : wR (cmpE m .ne (.lst xs) (.lst []) s) P X = P (.bl (!xs.isEmpty)) s := by
  rw [cmp_lst]
  refine c_liftB _ _ ?_
  have h : eqOk (D.lst xs) (D.lst []) = true := by simp [eqOk, D.pln, D.plns, D.dle, D.dles, h]
  rw [cmpD_ne h]
  cases xs <;> rfl
@[simp] theorem c_ones_nil {α : Type} (l : List α) (i : Int) : wR (cmpE m .eq (.lst (l.map fun _ => D.int i)) (.lst []) s) P X = P (.bl l.isEmpty) s := by
  rw [c_lst_nil (plns_of (fun _ => rfl) l)]
  cases l <;> rfl
@[simp] theorem c_ones_nnil {α : Type} (l : List α) (i : Int) : wR (cmpE m .ne (.lst (l.map fun _ => D.int i)) (.lst []) s) P X = P (.bl (!l.isEmpty)) s := by
  rw [c_lst_nnil (plns_of (fun _ => rfl) l)]
  cases l <;> rfl
end
theorem lf_grp (g : List Nat) : (grpD g).lf = true := by
  unfold grpD
  rw [D.lf]
  induction g with
  | nil => rfl
  | cons x g ih => simp [D.lfs, D.lf, ih]
theorem lfs_of {α : Type} {f : α → D} (h : ∀ a, (f a).lf = true) : ∀ l : List α, D.lfs (l.map f) = true
  | [] => rfl
  | i :: l => by simp [D.lfs, h, lfs_of h l]
theorem lfs_grps (gs : List (List Nat)) : D.lfs (gs.map grpD) = true := lfs_of lf_grp gs
theorem lfs_ints (is : List Int) : D.lfs (is.map D.int) = true := lfs_of (fun _ => rfl) is
/-! ### tables -/
def tabD (n : Nat) (ws : List Int) : D := .tup [natD n, .tup (ws.map D.int)]
/-- worths for n partners, within m -/
structure OkT (m : Int) (n : Nat) (ws : List Int) : Prop where
  n5 : n ≤ 5
  len : ws.length = 2 ^ n
  hd : ws[0]? = some 0
  bd : ∀ w ∈ ws, -m ≤ w ∧ w ≤ m
theorem OkT.mono {m m' : Int} {n : Nat} {ws : List Int} (h : OkT m n ws) (e : m ≤ m') : OkT m' n ws := ⟨h.n5, h.len, h.hd, fun w hw => by have := h.bd w hw; omega⟩
theorem OkT.l32 {m : Int} {n : Nat} {ws : List Int} (h : OkT m n ws) : ws.length ≤ 32 := by
  rw [h.len]
  exact pow5 h.n5
theorem OkT.pos {m : Int} {n : Nat} {ws : List Int} (h : OkT m n ws) : 0 < ws.length := by
  rw [h.len]
  exact Nat.pow_pos (by decide)
theorem set_ok {m : Int} {n : Nat} {ws : List Int} (h : OkT m n ws) {k : Nat} {v : Int} (hk : 0 < k) (hv : -m ≤ v ∧ v ≤ m) : OkT m n (ws.set k v) := by
  refine ⟨h.n5, by rw [List.length_set]; exact h.len, ?_, fun w hw => ?_⟩
  · rw [List.getElem?_set_ne (by omega)]
    exact h.hd
  · rcases List.mem_or_eq_of_mem_set hw with z | z
    · exact h.bd w z
    · rw [z]
      exact hv
@[simp] theorem idx_tab0 (n : Nat) (ws : List Int) : idxD (tabD n ws) (.int 0) = some (.int n) := by
  unfold tabD
  exact idx_t (k := 0) rfl
@[simp] theorem idx_tab1 (n : Nat) (ws : List Int) : idxD (tabD n ws) (.int 1) = some (.tup (ws.map D.int)) := by
  unfold tabD
  exact idx_t (k := 1) rfl
theorem ints_set {ws : List Int} {k : Nat} (h : k < ws.length) (v : Int) : (ws.map D.int).take k ++ ([D.int v] ++ (ws.map D.int).drop (k + 1)) = (ws.set k v).map D.int := by
  rw [set_split _ _ _ (by simpa using h), List.map_set]
theorem idx_ints {ws : List Int} {k : Nat} (h : k < ws.length) : idxD (.tup (ws.map D.int)) (.int (k : Nat)) = some (.int ws[k]) := by
  refine idx_t ?_
  rw [List.getElem?_map, List.getElem?_eq_getElem h]
  rfl
theorem idx_intsL {ws : List Int} {k : Nat} (h : k < ws.length) : idxD (.lst (ws.map D.int)) (.int (k : Nat)) = some (.int ws[k]) := by
  refine idx_l ?_
  rw [List.getElem?_map, List.getElem?_eq_getElem h]
  rfl
theorem ints_set' {ws : List Int} {k : Nat} (h : k < ws.length) (v : Int) : (ws.map D.int).take k ++ D.int v :: (ws.map D.int).drop (k + 1) = (ws.set k v).map D.int := ints_set h v
end Fw

/-! FwZj: repr of numbers, truth values, None, lists and tuples of these. -/
namespace Fw
open PySem
theorem strOk_os (x : String) : PyData.strOk (Str.ofString x) = true := by
  rw [Str.ofString_eq_toList]
  unfold PyData.strOk
  rw [Array.all_eq_true_iff_forall_mem]
  intro c hc
  obtain ⟨ch, _, rfl⟩ := List.mem_map.mp (List.mem_toArray.mp hc)
  have h := ch.valid
  have h2 : ch.toNat < 0x110000 := by
    have : ch.toNat.isValidChar := h
    rcases this with h | h <;> omega
  simpa using h2
theorem strOk_app2 {x y : Str} (a : PyData.strOk x = true) (b : PyData.strOk y = true) : PyData.strOk (x ++ y) = true := strOk_app a b
theorem strOk_from : ∀ (ts : List Str) (k : Nat) (acc : Str), PyData.strOk acc = true → (∀ t ∈ ts, PyData.strOk t = true) → PyData.strOk (textFrom k acc ts) = true
  | [], _, acc, h, _ => h
  | t :: ts, k, acc, h, ht => by
    unfold textFrom
    refine strOk_from ts _ _ (strOk_app2 (strOk_app2 h ?_) (ht t List.mem_cons_self)) fun u hu => ht u (List.mem_cons_of_mem _ hu)
    exact strOk_os _
theorem strOk_join : ∀ ts : List Str, (∀ t ∈ ts, PyData.strOk t = true) → PyData.strOk (Str.join ", " ts) = true
  | [], _ => by simp [Str.join, Str.empty, PyData.strOk]
  | [x], h => h x List.mem_cons_self
  | x :: y :: r, h => by
    show PyData.strOk (x ++ ", " ++ Str.join ", " (y :: r)) = true
    exact strOk_app2 (strOk_app2 (h x List.mem_cons_self) (strOk_os _)) (strOk_join (y :: r) fun t ht => h t (List.mem_cons_of_mem _ ht))
mutual
/-- numbers of a decent size, truth values, None, in lists and tuples -/
def D.shw : D → Bool
  | .non => true
  | .bl _ => true
  | .int i => decide (i.natAbs.log2 < 1900)
  | .tup xs => D.shws xs
  | .lst xs => D.shws xs
  | _ => false
def D.shws : List D → Bool
  | [] => true
  | x :: xs => D.shw x && D.shws xs
end
mutual
def D.wt : D → Nat
  | .int i => i.natAbs.log2 + 1
  | .tup xs => D.wts xs
  | .lst xs => D.wts xs
  | _ => 0
def D.wts : List D → Nat
  | [] => 0
  | x :: xs => D.wt x + 1 + D.wts xs
end
mutual
def D.dep : D → Nat
  | .tup xs => D.deps xs + 1
  | .lst xs => D.deps xs + 1
  | _ => 0
def D.deps : List D → Nat
  | [] => 0
  | x :: xs => max (D.dep x) (D.deps xs)
end
mutual
theorem shw_facts : ∀ x : D, x.shw = true → x.pln = true ∧ (toPy x).showable = true ∧ (toPy x).leavesShort 1921 = true ∧ PyData.strOk (toPy x).shown = true ∧ (toPy x).weight ≤ x.wt ∧ (toPy x).depth = x.dep
  | .non, _ => ⟨rfl, rfl, rfl, by
      show PyData.strOk (PyData.shown .none) = true
      rw [PyData.shown]
      exact strOk_os _, Nat.le_refl _, rfl⟩
  | .bl b, _ => ⟨rfl, rfl, rfl, by
      show PyData.strOk (PyData.shown (.bool b)) = true
      rw [PyData.shown]
      cases b <;> exact strOk_os _, Nat.le_refl _, rfl⟩
  | .int i, h => by
    have h1 : i.natAbs.log2 < 1900 := by simpa [D.shw] using h
    have e : toPy (.int i) = .int i := by rw [toPy]
    rw [e]
    refine ⟨rfl, ?_, ?_, ?_, ?_, by rw [PyData.depth]; rfl⟩
    · simp [PyData.showable]
      omega
    · rw [PyData.leavesShort]
      have h2 : (PyData.shown (.int i)) = Str.ofString (toString i) := by rw [PyData.shown]
      rw [h2, ofString_length, decide_eq_true_eq]
      have := int_text_length_le (a := i) (k := 1900) (by decide) h1
      omega
    · rw [PyData.shown]
      exact strOk_os _
    · rw [PyData.weight, D.wt]
      split <;> omega
  | .tup xs, h => by
    obtain ⟨a1, a2, a3, a4, a5, a6⟩ := shws_facts xs (by simpa [D.shw] using h)
    have e : toPy (.tup xs) = .tuple (toPys xs) := by rw [toPy]
    rw [e]
    refine ⟨by rw [D.pln]; exact a1, by rw [PyData.showable]; exact a2, by rw [PyData.leavesShort]; exact a3, ?_, by rw [PyData.weight, D.wt]; exact a5, by rw [PyData.depth, D.dep, a6]⟩
    rw [PyData.shown]
    unfold tupleText
    exact strOk_app2 (strOk_app2 (strOk_os _) (strOk_join _ a4)) (strOk_os _)
  | .lst xs, h => by
    obtain ⟨a1, a2, a3, a4, a5, a6⟩ := shws_facts xs (by simpa [D.shw] using h)
    have e : toPy (.lst xs) = .list (toPys xs) := by rw [toPy]
    rw [e]
    refine ⟨by rw [D.pln]; exact a1, by rw [PyData.showable]; exact a2, by rw [PyData.leavesShort]; exact a3, ?_, by rw [PyData.weight, D.wt]; exact a5, by rw [PyData.depth, D.dep, a6]⟩
    rw [PyData.shown]
    unfold listText
    exact strOk_app2 (strOk_from _ _ _ (strOk_os _) a4) (strOk_os _)
  | .str _, h => by simp [D.shw] at h
  | .dic _ _, h => by simp [D.shw] at h
  | .ins _ _, h => by simp [D.shw] at h
  | .exc _ _, h => by simp [D.shw] at h
  | .st, h => by simp [D.shw] at h
  | .scr _, h => by simp [D.shw] at h
theorem shws_facts : ∀ xs : List D, D.shws xs = true → D.plns xs = true ∧ PyData.showableAll (toPys xs) = true ∧ PyData.leavesShortAll 1921 (toPys xs) = true ∧ (∀ t ∈ PyData.shownAll (toPys xs), PyData.strOk t = true) ∧ PyData.weightAll (toPys xs) ≤ D.wts xs ∧ PyData.depthAll (toPys xs) = D.deps xs
  | [], _ => ⟨rfl, rfl, rfl, fun t ht => (by cases ht), Nat.le_refl _, rfl⟩
  | x :: xs, h => by
    have h' : x.shw = true ∧ D.shws xs = true := by simpa [D.shws] using h
    obtain ⟨b1, b2, b3, b4, b5, b6⟩ := shw_facts x h'.1
    obtain ⟨a1, a2, a3, a4, a5, a6⟩ := shws_facts xs h'.2
    rw [toPys]
    refine ⟨by rw [D.plns, b1, a1]; rfl, by rw [PyData.showableAll, b2, a2]; rfl, by rw [PyData.leavesShortAll, b3, a3]; rfl, fun t ht => ?_, by rw [PyData.weightAll, D.wts]; omega, by rw [PyData.depthAll, D.deps, b6, a6]⟩
    rw [PyData.shownAll] at ht
    rcases List.mem_cons.mp ht with rfl | ht
    · exact b4
    · exact a4 t ht
end
theorem rp_ok {x : D} (h : x.shw = true) (hw : x.wt ≤ 8000) (hd : x.dep ≤ 60) : rpD x = some (.str (toPy x).shown) := by
  obtain ⟨b1, b2, b3, b4, b5, b6⟩ := shw_facts x h
  have hl := PyData.shown_le 1921 (by decide) (toPy x) b3
  have hl2 : (1921 + 2) * (toPy x).weight ≤ (1921 + 2) * 8000 := Nat.mul_le_mul_left _ (by omega)
  unfold rpD
  rw [if_pos]
  simp only [b1, b2, b4, Bool.true_and, Bool.and_true, Bool.and_eq_true, decide_eq_true_eq]
  refine ⟨szOk_of (by omega), by omega⟩
theorem shws_ints {m : Int} (hm : m ≤ 1000000000) : ∀ l : List Int, (∀ x ∈ l, -m ≤ x ∧ x ≤ m) → D.shws (l.map D.int) = true ∧ D.wts (l.map D.int) ≤ 32 * l.length ∧ D.deps (l.map D.int) = 0
  | [], _ => ⟨rfl, Nat.le_refl _, rfl⟩
  | x :: l, h => by
    obtain ⟨h1, h2, h3⟩ := shws_ints hm l fun y hy => h y (List.mem_cons_of_mem _ hy)
    have hx := h x List.mem_cons_self
    have hx2 : x.natAbs.log2 < 30 := by
      by_cases h0 : x.natAbs = 0
      · rw [h0]
        decide
      · exact (Nat.log2_lt h0).mpr (by omega)
    refine ⟨?_, ?_, ?_⟩
    · rw [List.map_cons, D.shws, h1, D.shw]
      simp
      omega
    · rw [List.map_cons, D.wts, D.wt, List.length_cons]
      omega
    · rw [List.map_cons, D.deps, h3]
      rfl
/-- repr of [many, worths] -/
theorem rp_tab {m : Int} (hm : m ≤ 1000000000) {n : Nat} {ws : List Int} (h : OkT m n ws) : rpD (.lst [.int n, .tup (ws.map D.int)]) = some (.str (toPy (.lst [.int n, .tup (ws.map D.int)])).shown) := by
  obtain ⟨h1, h2, h3⟩ := shws_ints hm ws h.bd
  have h5 := h.n5
  have h32 := h.l32
  have hn : ((n : Int).natAbs).log2 < 30 := by
    by_cases h0 : (n : Int).natAbs = 0
    · rw [h0]
      decide
    · exact (Nat.log2_lt h0).mpr (by omega)
  refine rp_ok ?_ ?_ ?_
  · simp [D.shw, D.shws, h1]
    simp at hn
    omega
  · simp [D.wt, D.wts]
    simp at hn
    omega
  · simp [D.dep, D.deps, h3]
end Fw

/-! FwZk: kinds of values, instances made, small judges. -/
namespace Fw
open PySem
mutual
/-- None, truth values, numbers, texts, dicts without items, lists and tuples of these -/
def D.good : D → Bool
  | .non => true
  | .bl _ => true
  | .int _ => true
  | .str _ => true
  | .tup xs => D.goods xs
  | .lst xs => D.goods xs
  | .dic _ _ => true
  | _ => false
def D.goods : List D → Bool
  | [] => true
  | x :: xs => D.good x && D.goods xs
end
theorem goods_mem : ∀ {xs : List D}, D.goods xs = true → ∀ x ∈ xs, x.good = true
  | [], _, x, hx => by cases hx
  | y :: ys, h, x, hx => by
    have h' : y.good = true ∧ D.goods ys = true := by simpa [D.goods] using h
    rcases List.mem_cons.mp hx with rfl | hx
    · exact h'.1
    · exact goods_mem h'.2 x hx
theorem goods_iff : ∀ {xs : List D}, (∀ x ∈ xs, x.good = true) → D.goods xs = true
  | [], _ => rfl
  | y :: ys, h => by
    rw [D.goods, h y List.mem_cons_self, goods_iff fun x hx => h x (List.mem_cons_of_mem _ hx)]
    rfl
theorem goods_ints (l : List Int) : D.goods (l.map D.int) = true := goods_iff fun x hx => by
  obtain ⟨i, _, rfl⟩ := List.mem_map.mp hx
  rfl
theorem good_typed {T : ClsT} {d : D} (h : d.good = true) : typed T d = true := by
  cases d <;> first | rfl | (simp [D.good] at h)
def D.isInt : D → Bool
  | .int _ => true
  | _ => false
def D.isBool : D → Bool
  | .bl _ => true
  | _ => false
def D.isTup : D → Bool
  | .tup _ => true
  | _ => false
/-- a number within two, no bool -/
def numD (lo hi : Int) : D → Bool
  | .int i => decide (-1000000000000000000 < i) && (decide (i < 1000000000000000000) && (decide (lo ≤ i) && decide (i ≤ hi)))
  | _ => false
def wholeD : D → Bool
  | .int i => decide (-1000000000000000000 < i) && decide (i < 1000000000000000000)
  | _ => false
section
variable {T : ClsT}
theorem typed_ins {d : D} (h : typed T d = true) : insOk T d = true := by
  cases d <;> first | exact h | rfl
theorem isa_int {d : D} (h : typed T d = true) : isaD T d .int = some (d.isInt || d.isBool) := by
  have h2 := typed_ins h
  cases d <;> simp [isaD, tyOk, h2, D.isInt, D.isBool] <;> simp [typed] at h
theorem isa_bool {d : D} (h : typed T d = true) : isaD T d .bool = some d.isBool := by
  have h2 := typed_ins h
  cases d <;> simp [isaD, tyOk, h2, D.isInt, D.isBool] <;> simp [typed] at h
theorem isa_tuple {d : D} (h : typed T d = true) : isaD T d .tuple = some d.isTup := by
  have h2 := typed_ins h
  cases d <;> simp [isaD, tyOk, h2, D.isTup] <;> simp [typed] at h
theorem isa_cls {d : D} {b : Nat} (hb : (T b).isSome = true) (h : d.good = true) : isaD T d (.cls b) = some false := by
  cases d <;> simp [isaD, tyOk, insOk, hb] <;> simp [D.good] at h
end
/-! ### instances -/
section
variable {P : D → RS → Prop} {X : Nat → List D → RS → Prop}
/-- the instance at an __init__'s end -/
def mkW (σ : List Sl) (c n : Nat) (k : List D → Prop) : Prop := match σ with
  | .own (.ins c' fs) :: _ => c' = c ∧ fs.length = n ∧ k fs
  | _ => False
theorem mkW_own (c n : Nat) (fs : List D) (r : List Sl) (k : List D → Prop) : mkW (.own (.ins c fs) :: r) c n k = (fs.length = n ∧ k fs) := by simp [mkW]
theorem wR_endMk (c n : Nat) (r : SRes) : wR (endMk c n r) P X = wS r ⟨fun σ s => mkW σ c n fun fs => P (.ins c fs) s, fun _ _ => False, no2, no2, X⟩ := by
  simp only [wR_un, wS_un]
  cases r with
  | nx σ s =>
    show wR0 (endMk c n (.nx σ s)) P X = mkW σ c n fun fs => P (.ins c fs) s
    cases σ with
    | nil => rfl
    | cons a σ =>
      cases a with
      | own d =>
        cases d with
        | ins c' fs =>
          show wR0 (if c' = c ∧ fs.length = n then .ok (.ins c fs) s else .stuck) P X = (c' = c ∧ fs.length = n ∧ P (.ins c fs) s)
          by_cases h : c' = c ∧ fs.length = n
          · rw [if_pos h]
            simp [h, wR0]
          · rw [if_neg h]
            exact propext ⟨False.elim, fun z => h ⟨z.1, z.2.1⟩⟩
        | _ => rfl
      | _ => rfl
  | _ => rfl
/-- a field is set -/
def fstW0 (T : ClsT) (f : Nat) (σ : List Sl) (d : D) (k : List Sl → Prop) : Prop := match σ.head? with
  | some (.own (.ins c fs)) => match T c with
    | some kk => if kk.fields[fs.length]? = some f then k (σ.set 0 (.own (.ins c (fs ++ [d])))) else False
    | none => False
  | _ => False
@[irreducible] def fstW (T : ClsT) (f : Nat) (σ : List Sl) (d : D) (k : List Sl → Prop) (_ : Tg k k := .mk) : Prop := fstW0 T f σ d k
theorem fstW_un (T : ClsT) (f : Nat) (σ : List Sl) (d : D) (k : List Sl → Prop) : fstW T f σ d k = fstW0 T f σ d k := by
  unfold fstW
  rfl
theorem fstW_own {T : ClsT} {f c : Nat} {fs : List D} {r : List Sl} {kk : ClsD} (hc : T c = some kk) (hf : kk.fields[fs.length]? = some f) (d : D) {k : List Sl → Prop} (h : k (.own (.ins c (fs ++ [d])) :: r)) : fstW T f (.own (.ins c fs) :: r) d k := by
  rw [fstW_un]
  unfold fstW0
  simp only [List.head?_cons, hc]
  rw [if_pos hf]
  exact h
@[simp ↓] theorem s_fldS {m : Mod} {w : Nat} {σ : List Sl} {s : RS} {q : WS} (f : Nat) (e : Cd) : wS (evS m w (.fldS f e) σ s) q = wR (evE m e (viewS [] 0 σ) s) (fun d s => fstW m.cls f σ d fun σ => q.nx σ s) q.er := by
  simp only [wR_un, wS_un, fstW_un, evS, wS0_ofR]
  congr 1; funext d s
  unfold fstW0
  cases σ.head? with
  | none => rfl
  | some a =>
    cases a with
    | own d =>
      cases d with
      | ins c fs =>
        show wS0 (match m.cls c with
          | some k => if k.fields[fs.length]? = some f then .nx (σ.set 0 (.own (.ins c (fs ++ [d])))) s else .stuck
          | none => .stuck) q = (match m.cls c with
          | some k => if k.fields[fs.length]? = some f then q.nx (σ.set 0 (.own (.ins c (fs ++ [d])))) s else False
          | none => False)
        cases m.cls c with
        | none => rfl
        | some k =>
          show wS0 (if k.fields[fs.length]? = some f then .nx (σ.set 0 (.own (.ins c (fs ++ [d])))) s else .stuck) q = if k.fields[fs.length]? = some f then q.nx (σ.set 0 (.own (.ins c (fs ++ [d])))) s else False
          simp only [wS0_ite, wS0_stuck]
          rfl
      | _ => rfl
    | _ => rfl
end
/-! ### own == -/
section
variable {m : Mod} {s : RS} {P : D → RS → Prop} {X : Nat → List D → RS → Prop}
/-- x == y by the own __eq__ of x -/
theorem c_own_eq {c f : Nat} {fs : List D} {y : D} {b : Bool} (hx : typed m.cls (.ins c fs) = true) (hy : typed m.cls y = true) (hf : (m.cls c).bind (·.eq) = some f) (e : m.call f [.ins c fs, y] s = .ok (.bl b) s) (h : P (.bl b) s) : wR (cmpE m .eq (.ins c fs) y s) P X := by
  have e1 : eqOf m .eq (.ins c fs) y = some (f, false) := by simp [eqOf, hx, hy, hf]
  have e2 : cmpE m .eq (.ins c fs) y s = .ok (.bl b) s := by
    unfold cmpE
    rw [e1]
    show (noErr (m.call f [.ins c fs, y] s)).bind (notD false) = _
    rw [e]
    cases b <;> rfl
  rw [e2, wR_ok]
  exact h
theorem c_own_ne {c f : Nat} {fs : List D} {y : D} {b : Bool} (hx : typed m.cls (.ins c fs) = true) (hy : typed m.cls y = true) (hf : (m.cls c).bind (·.eq) = some f) (e : m.call f [.ins c fs, y] s = .ok (.bl b) s) (h : P (.bl (!b)) s) : wR (cmpE m .ne (.ins c fs) y s) P X := by
  have e1 : eqOf m .ne (.ins c fs) y = some (f, true) := by simp [eqOf, hx, hy, hf]
  have e2 : cmpE m .ne (.ins c fs) y s = .ok (.bl (!b)) s := by
    unfold cmpE
    rw [e1]
    show (noErr (m.call f [.ins c fs, y] s)).bind (notD true) = _
    rw [e]
    cases b <;> rfl
  rw [e2, wR_ok]
  exact h
@[simp] theorem c_strEq (x y : Str) : wR (cmpE m .eq (.str x) (.str y) s) P X = P (.bl (x == y)) s := by
  rw [cmp_str, cmpD_eq (by rfl), wR_un]
  rfl
@[simp] theorem c_strNe (x y : Str) : wR (cmpE m .ne (.str x) (.str y) s) P X = P (.bl (!(x == y))) s := by
  rw [cmp_str, cmpD_ne (by rfl), wR_un]
  rfl
@[simp] theorem c_blEq (x y : Bool) : wR (cmpE m .eq (.bl x) (.bl y) s) P X = P (.bl (x == y)) s := by
  rw [cmp_bl, cmpD_eq (by rfl), wR_un]
  rfl
@[simp] theorem c_blNe (x y : Bool) : wR (cmpE m .ne (.bl x) (.bl y) s) P X = P (.bl (!(x == y))) s := by
  rw [cmp_bl, cmpD_ne (by rfl), wR_un]
  rfl
end
@[simp] theorem k_le (i j : Int) : cmpD .le (.int i) (.int j) = some (decide (i ≤ j)) := rfl
@[simp] theorem k_lt (i j : Int) : cmpD .lt (.int i) (.int j) = some (decide (i < j)) := rfl
@[simp] theorem k_ge (i j : Int) : cmpD .ge (.int i) (.int j) = some (decide (j ≤ i)) := rfl
@[simp] theorem k_gt (i j : Int) : cmpD .gt (.int i) (.int j) = some (decide (j < i)) := rfl
@[simp] theorem pow_10_18 : binD .pow (.int 10) (.int 18) = some (.int 1000000000000000000) := by rw [pow_i (by decide) (by decide) (by decide)]; rfl
@[simp] theorem pow_10_6 : binD .pow (.int 10) (.int 6) = some (.int 1000000) := by rw [pow_i (by decide) (by decide) (by decide)]; rfl
theorem wR_cfilD {X : Nat → List D → RS → Prop} {f : D → RS → Res (Option D)} (p : D → Bool) (g : D → D) {s : RS} (l : List D) {P : List D → RS → Prop} (hf : ∀ a ∈ l, wR (f a s) (fun o s' => o = (if p a then some (g a) else none) ∧ s' = s) X) (h : P ((l.filter p).map g) s) : wR (compL f l s) P X := by
  have z := wR_cfil (f := f) (X := X) (s := s) (id : D → D) p g l hf h
  rwa [List.map_id] at z
theorem wR_cmapD {X : Nat → List D → RS → Prop} {f : D → RS → Res (Option D)} (g : D → D) {s : RS} (l : List D) {P : List D → RS → Prop} (hf : ∀ a ∈ l, wR (f a s) (fun o s' => o = some (g a) ∧ s' = s) X) (h : P (l.map g) s) : wR (compL f l s) P X := by
  have z := wR_cmap (f := f) (X := X) (s := s) (id : D → D) g l hf h
  rwa [List.map_id] at z
theorem blt_all_map {α : Type} (f : α → Bool) (l : List α) : bltD .all [.lst (l.map fun a => D.bl (f a))] = some (.bl (l.all f)) := by
  have := blt_all (l.map f)
  rw [List.map_map] at this
  have e : (l.map f).all id = l.all f := by simp
  rw [e] at this
  exact this
theorem blt_any_map {α : Type} (f : α → Bool) (l : List α) : bltD .any [.lst (l.map fun a => D.bl (f a))] = some (.bl (l.any f)) := by
  have := blt_any (l.map f)
  rw [List.map_map] at this
  have e : (l.map f).any id = l.any f := by simp
  rw [e] at this
  exact this
theorem optR_iff {α : Type} {o : Option α} {a : α} (h : o = some a) (P : α → Prop) : optR o P = P a := by rw [h, optR_some]
@[simp] theorem idx_c0 (x : D) (xs : List D) : idxD (.tup (x :: xs)) (.int 0) = some x := idx_t (k := 0) rfl
@[simp] theorem idx_c1 (x y : D) (xs : List D) : idxD (.tup (x :: y :: xs)) (.int 1) = some y := idx_t (k := 1) rfl
@[simp] theorem idx_c2 (x y z : D) (xs : List D) : idxD (.tup (x :: y :: z :: xs)) (.int 2) = some z := idx_t (k := 2) rfl
end Fw

/-! FwZl: whiles, greatest common divisors, fractions. -/
namespace Fw
open PySem
/-- a while: I k means that k turns at most are left -/
theorem wS_whlL {c : List Sl → RS → Res Bool} {b : List Sl → RS → SRes} {q : WS} (I : Nat → List Sl → RS → Prop)
    (h : ∀ k σ s, I k σ s → wR (c σ s) (fun z s' => (z = true → ∃ j, k = j + 1 ∧ wS (b σ s') ⟨I j, q.rt, q.nx, I j, q.er⟩) ∧ (z = false → q.nx σ s')) q.er) : ∀ (w k : Nat) {σ : List Sl} {s : RS}, k < w → I k σ s → wS (whlL c b w σ s) q
  | 0, k, σ, s, hk, _ => by omega
  | w + 1, k, σ, s, hk, hI => by
    unfold whlL
    rw [wS_ofR]
    refine wR_imp (h k σ s hI) (fun z s' ⟨h1, h2⟩ => ?_) fun _ _ _ z => z
    cases z with
    | false =>
      rw [if_neg Bool.false_ne_true, wS_un]
      exact h2 rfl
    | true =>
      rw [if_pos rfl]
      obtain ⟨j, rfl, hb⟩ := h1 rfl
      have ih : ∀ σ s, I j σ s → wS0 (whlL c b w σ s) q := fun σ s hI => by
        rw [← wS_un]
        exact wS_whlL I h w j (by omega) hI
      rw [wS_un] at hb ⊢
      cases hr : b σ s' with
      | nx σ' t => rw [hr] at hb; exact ih _ _ hb
      | ct σ' t => rw [hr] at hb; exact ih _ _ hb
      | bk σ' t => rw [hr] at hb; exact hb
      | rt d t => rw [hr] at hb; exact hb
      | err c fs t => rw [hr] at hb; exact hb
      | stuck => rw [hr] at hb; exact hb
@[simp ↓] theorem s_whl {m : Mod} {w : Nat} {σ : List Sl} {s : RS} {q : WS} (c : Cd) (b : Sd) (ms : List Nat) : wS (evS m w (.whl c b ms) σ s) q = wS (whlL (fun σ s => (evE m c (viewS ms 0 σ) s).bind fun x s => liftO (asB x) s) (evS m w b) w σ s) q := by
  simp only [evS]
@[simp ↓] theorem s_forget {m : Mod} {w : Nat} {σ : List Sl} {s : RS} {q : WS} (is : List Nat) : wS (evS m w (.forget is) σ s) q = q.nx (forgetS is σ) s := by
  simp only [wS_un, evS, wS0]
@[simp] theorem forgetS_nil (σ : List Sl) : forgetS [] σ = σ := (rfl)
@[simp] theorem forgetS_cons (i : Nat) (is : List Nat) (σ : List Sl) : forgetS (i :: is) σ = (forgetS is σ).set i .un := (rfl)
/-- Euclid's loop -/
theorem gcd_whl {c : List Sl → RS → Res Bool} {b : List Sl → RS → SRes} {q : WS} {w : Nat} {s : RS}
    (hc : ∀ a e : Nat, wR (c [.val (.int a), .val (.int e)] s) (fun z s' => z = decide (e ≠ 0) ∧ s' = s) q.er)
    (hb : ∀ a e : Nat, e ≠ 0 → wS (b [.val (.int a), .val (.int e)] s) ⟨fun σ s' => σ = [.val (.int e), .val (.int (a % e : Nat))] ∧ s' = s, q.rt, q.nx, fun _ _ => False, q.er⟩)
    {a e k : Nat} (hk : a * e < 2 ^ k) (hw : k + 1 < w) (h : q.nx [.val (.int (Nat.gcd a e)), .val (.int (0 : Nat))] s) : wS (whlL c b w [.val (.int a), .val (.int e)] s) q := by
  refine wS_whlL (fun k σ s' => s' = s ∧ ∃ a' e' : Nat, σ = [.val (.int a'), .val (.int e')] ∧ Nat.gcd a' e' = Nat.gcd a e ∧ ((e' ≤ a' ∧ a' * e' < 2 ^ k) ∨ (a' < e' ∧ ∃ j, k = j + 1 ∧ a' * e' < 2 ^ j))) (fun k σ s' hI => ?_) w (k + 1) hw ?_
  · obtain ⟨rfl, a', e', rfl, hg, hm⟩ := hI
    refine wR_imp (hc a' e') (fun z s2 hz => ?_) fun _ _ _ z => z
    obtain ⟨rfl, rfl⟩ := hz
    refine ⟨fun hz => ?_, fun hz => ?_⟩
    · have he : e' ≠ 0 := by simpa using hz
      have gstep : Nat.gcd e' (a' % e') = Nat.gcd a e := by
        rw [← hg, Nat.gcd_comm a' e', Nat.gcd_rec e' a', Nat.gcd_comm]
      have lt := Nat.mod_lt a' (Nat.pos_of_ne_zero he)
      have key : ∃ j, k = j + 1 ∧ e' * (a' % e') < 2 ^ j := by
        rcases hm with ⟨h1, h2⟩ | ⟨h1, j, rfl, h2⟩
        · cases k with
          | zero =>
            have : a' * e' = 0 := by omega
            rcases Nat.mul_eq_zero.mp this with z | z
            · omega
            · exact absurd z he
          | succ j =>
            refine ⟨j, rfl, ?_⟩
            have hd : 2 * (a' % e') ≤ a' := by
              have h3 := Nat.div_add_mod a' e'
              have h4 : 1 ≤ a' / e' := (Nat.one_le_div_iff (Nat.pos_of_ne_zero he)).mpr h1
              have h5 : e' * 1 ≤ e' * (a' / e') := Nat.mul_le_mul_left _ h4
              omega
            have h6 : e' * (2 * (a' % e')) ≤ e' * a' := Nat.mul_le_mul_left _ hd
            have h7 : e' * a' = a' * e' := Nat.mul_comm _ _
            have h8 : e' * (2 * (a' % e')) = 2 * (e' * (a' % e')) := by rw [← Nat.mul_assoc, Nat.mul_comm e' 2, Nat.mul_assoc]
            rw [Nat.pow_succ] at h2
            omega
        · refine ⟨j, rfl, ?_⟩
          rw [Nat.mod_eq_of_lt h1, Nat.mul_comm]
          exact h2
      obtain ⟨j, rfl, hj⟩ := key
      refine ⟨j, rfl, wS_imp (hb a' e' he) (fun σ s3 hx => ?_) (fun _ _ z => z) (fun _ _ z => z) (fun _ _ z => z.elim) fun _ _ _ z => z⟩
      obtain ⟨rfl, rfl⟩ := hx
      exact ⟨rfl, e', a' % e', rfl, gstep, .inl ⟨Nat.le_of_lt lt, hj⟩⟩
    · have he : e' = 0 := by simpa using hz
      subst he
      rw [Nat.gcd_zero_right] at hg
      rw [hg]
      exact h
  · refine ⟨rfl, a, e, rfl, rfl, ?_⟩
    by_cases hle : e ≤ a
    · exact .inl ⟨hle, by rw [Nat.pow_succ]; omega⟩
    · exact .inr ⟨by omega, k, rfl, hk⟩
/-! ### fractions -/
def ratD (q : Rat) : D := .tup [.int q.num, .int (q.den : Nat)]
/-- both parts below 2 ^ k -/
def Sm (k : Nat) (q : Rat) : Prop := q.num.natAbs < 2 ^ k ∧ q.den < 2 ^ k
theorem Sm.mono {j k : Nat} {q : Rat} (h : Sm j q) (e : j ≤ k) : Sm k q := ⟨Nat.lt_of_lt_of_le h.1 (Nat.pow_le_pow_right (by decide) e), Nat.lt_of_lt_of_le h.2 (Nat.pow_le_pow_right (by decide) e)⟩
theorem log2_of {n k : Nat} (h : n < 2 ^ k) (hk : 0 < k) : n.log2 < k := by
  by_cases h0 : n = 0
  · rw [h0, Nat.log2_zero]
    exact hk
  · exact (Nat.log2_lt h0).mpr h
theorem mulOk_b {i j : Int} {a b : Nat} (hi : i.natAbs < 2 ^ a) (hj : j.natAbs < 2 ^ b) (ha : 0 < a) (hb : 0 < b) (hs : a + b ≤ 100000) : mulOk i j = true := by
  have h1 := log2_of hi ha
  have h2 := log2_of hj hb
  simp only [mulOk, Bool.or_eq_true, decide_eq_true_eq]
  exact .inr (by omega)
theorem fdiv_b (i : Int) {j : Int} {k : Nat} (h : 0 < j) (hj : j.natAbs < 2 ^ k) (hk : k ≤ 8000) : binD .fdiv (.int i) (.int j) = some (.int (i / j)) := by
  have h0 : j ≠ 0 := by omega
  have h1 : j.natAbs.log2 < 9000 := by
    have := log2_of (Nat.lt_of_lt_of_le hj (Nat.pow_le_pow_right (by decide) hk)) (by decide)
    omega
  rw [fdiv_i h0 h1, Int.fdiv_eq_ediv_of_nonneg _ (by omega)]
theorem mul_lt {a b j k : Nat} (h : a < 2 ^ j) (g : b < 2 ^ k) : a * b < 2 ^ (j + k) := by
  rw [Nat.pow_add]
  exact Nat.mul_lt_mul'' h g
theorem imul_lt {a b : Int} {j k : Nat} (h : a.natAbs < 2 ^ j) (g : b.natAbs < 2 ^ k) : (a * b).natAbs < 2 ^ (j + k) := by
  rw [Int.natAbs_mul]
  exact mul_lt h g
theorem iadd_lt {a b : Int} {j : Nat} (h : a.natAbs < 2 ^ j) (g : b.natAbs < 2 ^ j) : (a + b).natAbs < 2 ^ (j + 1) := by
  rw [Nat.pow_succ]
  have := Int.natAbs_add_le a b
  omega
theorem isub_lt {a b : Int} {j : Nat} (h : a.natAbs < 2 ^ j) (g : b.natAbs < 2 ^ j) : (a - b).natAbs < 2 ^ (j + 1) := by
  rw [Nat.pow_succ]
  have := Int.natAbs_sub_le a b
  omega
theorem mkRat_sm {n : Int} {d k : Nat} (hd : d ≠ 0) (hn : n.natAbs < 2 ^ k) (hk : d < 2 ^ k) : Sm k (mkRat n d) := by
  refine ⟨?_, ?_⟩
  · rw [Rat.num_mkRat, if_neg hd]
    refine Nat.lt_of_le_of_lt ?_ hn
    rw [Int.natAbs_ediv_of_dvd (by
      have := Nat.gcd_dvd_right d n.natAbs
      exact Int.ofNat_dvd_left.mpr this)]
    exact Nat.div_le_self _ _
  · rw [Rat.den_mkRat, if_neg hd]
    exact Nat.lt_of_le_of_lt (Nat.div_le_self _ _) hk
theorem Sm.add {a b : Rat} {j k : Nat} (ha : Sm j a) (hb : Sm k b) : Sm (j + k + 1) (a + b) := by
  rw [Rat.add_def']
  refine mkRat_sm (Nat.mul_ne_zero a.den_nz b.den_nz) (iadd_lt (imul_lt ha.1 hb.2) ?_) (Nat.lt_of_lt_of_le (mul_lt ha.2 hb.2) (Nat.pow_le_pow_right (by decide) (by omega)))
  rw [Nat.add_comm j k]
  exact imul_lt hb.1 ha.2
theorem Sm.sub {a b : Rat} {j k : Nat} (ha : Sm j a) (hb : Sm k b) : Sm (j + k + 1) (a - b) := by
  rw [Rat.sub_def']
  refine mkRat_sm (Nat.mul_ne_zero a.den_nz b.den_nz) (isub_lt (imul_lt ha.1 hb.2) ?_) (Nat.lt_of_lt_of_le (mul_lt ha.2 hb.2) (Nat.pow_le_pow_right (by decide) (by omega)))
  rw [Nat.add_comm j k]
  exact imul_lt hb.1 ha.2
theorem den_pos (q : Rat) : 0 < q.den := Nat.pos_of_ne_zero q.den_nz
/-- what lowest makes of a part and a number above 0 -/
theorem mkRat_parts {n : Int} {d : Nat} (hd : 0 < d) : ratD (mkRat n d) = .tup [.int (n / (Nat.gcd n.natAbs d : Nat)), .int ((d : Int) / (Nat.gcd n.natAbs d : Nat))] := by
  have h0 : d ≠ 0 := by omega
  unfold ratD
  rw [Rat.num_mkRat, Rat.den_mkRat, if_neg h0, if_neg h0, Nat.gcd_comm d]
  rw [Int.natCast_ediv]
end Fw

/-! FwZm: bounded data, sums of fractions, shares. -/
namespace Fw
open PySem
/-- is it a fraction -/
def fracD : D → Bool
  | .tup [.int a, .int b] => decide (1 ≤ b) && decide (Nat.gcd a.natAbs b.natAbs = 1)
  | _ => false
theorem frac_rat {d : D} (h : fracD d = true) : ∃ q : Rat, d = ratD q := by
  unfold fracD at h
  split at h
  · rename_i a b
    simp at h
    refine ⟨⟨a, b.natAbs, by omega, h.2⟩, ?_⟩
    unfold ratD
    have e : (b.natAbs : Int) = b := by omega
    rw [e]
  · cases h
theorem rat_frac (q : Rat) : fracD (ratD q) = true := by
  have h1 := den_pos q
  have h2 := q.reduced
  simp [fracD, ratD]
  exact ⟨by omega, h2⟩
/-- the sum of fractions -/
def rsum (qs : List Rat) : Rat := qs.foldl (· + ·) 0
mutual
/-- good, with numbers below 2 ^ k -/
def D.gb (k : Nat) : D → Bool
  | .non => true
  | .bl _ => true
  | .str _ => true
  | .dic _ _ => true
  | .int i => decide (i.natAbs < 2 ^ k)
  | .tup xs => D.gbs k xs
  | .lst xs => D.gbs k xs
  | _ => false
def D.gbs (k : Nat) : List D → Bool
  | [] => true
  | x :: xs => D.gb k x && D.gbs k xs
end
theorem gbs_iff {k : Nat} : ∀ {xs : List D}, D.gbs k xs = true ↔ ∀ x ∈ xs, x.gb k = true
  | [] => by simp [D.gbs]
  | x :: xs => by simp [D.gbs, gbs_iff (xs := xs)]
mutual
theorem gb_good {k : Nat} : ∀ d : D, d.gb k = true → d.good = true
  | .non, _ => rfl
  | .bl _, _ => rfl
  | .str _, _ => rfl
  | .dic _ _, _ => rfl
  | .int _, _ => rfl
  | .tup xs, h => by
    rw [D.good]
    exact gbs_goods xs (by simpa [D.gb] using h)
  | .lst xs, h => by
    rw [D.good]
    exact gbs_goods xs (by simpa [D.gb] using h)
  | .ins _ _, h => by simp [D.gb] at h
  | .exc _ _, h => by simp [D.gb] at h
  | .st, h => by simp [D.gb] at h
  | .scr _, h => by simp [D.gb] at h
theorem gbs_goods {k : Nat} : ∀ xs : List D, D.gbs k xs = true → D.goods xs = true
  | [], _ => rfl
  | x :: xs, h => by
    have h' : x.gb k = true ∧ D.gbs k xs = true := by simpa [D.gbs] using h
    rw [D.goods, gb_good x h'.1, gbs_goods xs h'.2]
    rfl
end
theorem gb_frac {k : Nat} {d : D} (h : d.gb k = true) : ∀ a b, d = .tup [.int a, .int b] → a.natAbs < 2 ^ k ∧ b.natAbs < 2 ^ k := fun a b e => by
  subst e
  simpa [D.gb, D.gbs] using h
def ratOf : D → Rat
  | .tup [.int a, .int b] => mkRat a b.toNat
  | _ => 0
theorem ratOf_ratD (q : Rat) : ratOf (ratD q) = q := by
  show mkRat q.num ((q.den : Int)).toNat = q
  rw [Int.toNat_natCast, Rat.mkRat_self]
theorem rats_of : ∀ {xs : List D}, xs.all fracD = true → xs = (xs.map ratOf).map ratD
  | [], _ => rfl
  | x :: xs, h => by
    have h' : fracD x = true ∧ xs.all fracD = true := by simpa using h
    obtain ⟨q, rfl⟩ := frac_rat h'.1
    rw [List.map_cons, List.map_cons, ratOf_ratD, ← rats_of h'.2]
theorem gb_rat {k : Nat} {q : Rat} : (ratD q).gb k = true ↔ Sm k q := by
  simp [ratD, D.gb, D.gbs, Sm]
theorem rsum_snoc (qs : List Rat) (q : Rat) : rsum (qs ++ [q]) = rsum qs + q := by simp [rsum]
theorem rsum_add : ∀ (qs : List Rat) (a : Rat), qs.foldl (· + ·) a = a + rsum qs
  | [], a => by simp [rsum, Rat.add_zero]
  | q :: qs, a => by
    unfold rsum
    rw [List.foldl_cons, List.foldl_cons, rsum_add qs (a + q), rsum_add qs (0 + q), Rat.zero_add, Rat.add_assoc]
theorem rsum_cons (q : Rat) (qs : List Rat) : rsum (q :: qs) = q + rsum qs := by
  unfold rsum
  rw [List.foldl_cons, rsum_add, Rat.zero_add]
  rfl
theorem rsum_app : ∀ as bs : List Rat, rsum (as ++ bs) = rsum as + rsum bs
  | [], bs => by simp [rsum, Rat.zero_add]
  | a :: as, bs => by rw [List.cons_append, rsum_cons, rsum_cons, rsum_app as bs, Rat.add_assoc]
theorem rsum_sm {k : Nat} : ∀ qs : List Rat, (∀ q ∈ qs, Sm k q) → Sm ((k + 1) * qs.length + 1) (rsum qs)
  | [], _ => by simp [rsum, Sm]
  | q :: qs, h => by
    rw [rsum_cons]
    refine ((h q List.mem_cons_self).add (rsum_sm qs fun x hx => h x (List.mem_cons_of_mem _ hx))).mono ?_
    rw [List.length_cons, Nat.mul_succ]
    omega
/-- what a sharing gives a group -/
def shG (qs : List Rat) (g : List Nat) : Rat := rsum (g.map fun x => qs.getD x 0)
/-- is it a sharing -/
def shrOk (n : Nat) (w : Int) : D → Bool
  | .tup xs => decide (xs.length = n) && (xs.all fracD && decide (rsum (xs.map ratOf) = (w : Rat)))
  | _ => false
theorem sm_int {w : Int} {k : Nat} (h : w.natAbs < 2 ^ k) (hk : 0 < k) : Sm k (w : Rat) := by
  refine ⟨by simpa using h, ?_⟩
  show 1 < 2 ^ k
  exact Nat.one_lt_two_pow (by omega)
theorem intD (w : Int) : D.tup [.int w, .int 1] = ratD (w : Rat) := rfl
end Fw

/-! FwZn: wide and deep data. -/
namespace Fw
open PySem
mutual
/-- no tuple is longer than N -/
def D.wid (N : Nat) : D → Bool
  | .tup xs => decide (xs.length ≤ N) && D.wids N xs
  | .lst xs => decide (xs.length ≤ N) && D.wids N xs
  | _ => true
def D.wids (N : Nat) : List D → Bool
  | [] => true
  | x :: xs => D.wid N x && D.wids N xs
end
theorem wids_iff {k : Nat} : ∀ {xs : List D}, D.wids k xs = true ↔ ∀ x ∈ xs, x.wid k = true
  | [] => by simp [D.wids]
  | x :: xs => by simp [D.wids, wids_iff (xs := xs)]
theorem plns_iff : ∀ {xs : List D}, D.plns xs = true ↔ ∀ x ∈ xs, x.pln = true
  | [] => by simp [D.plns]
  | x :: xs => by simp [D.plns, plns_iff (xs := xs)]
theorem deps_le {k : Nat} : ∀ {xs : List D}, D.deps xs ≤ k ↔ ∀ x ∈ xs, x.dep ≤ k
  | [] => by simp [D.deps]
  | x :: xs => by
    rw [D.deps, Nat.max_le, deps_le (xs := xs)]
    simp
mutual
theorem gb_mono {j k : Nat} (e : j ≤ k) : ∀ d : D, d.gb j = true → d.gb k = true
  | .non, _ => rfl
  | .bl _, _ => rfl
  | .str _, _ => rfl
  | .dic _ _, _ => rfl
  | .int i, h => by
    simp [D.gb] at h ⊢
    exact Nat.lt_of_lt_of_le h (Nat.pow_le_pow_right (by decide) e)
  | .tup xs, h => by
    rw [D.gb] at h ⊢
    exact gbs_mono e xs h
  | .lst xs, h => by
    rw [D.gb] at h ⊢
    exact gbs_mono e xs h
  | .ins _ _, h => by simp [D.gb] at h
  | .exc _ _, h => by simp [D.gb] at h
  | .st, h => by simp [D.gb] at h
  | .scr _, h => by simp [D.gb] at h
theorem gbs_mono {j k : Nat} (e : j ≤ k) : ∀ xs : List D, D.gbs j xs = true → D.gbs k xs = true
  | [], _ => rfl
  | x :: xs, h => by
    have h' : x.gb j = true ∧ D.gbs j xs = true := by simpa [D.gbs] using h
    rw [D.gbs, gb_mono e x h'.1, gbs_mono e xs h'.2]
    rfl
end
theorem c_tup_nil {m : Mod} {s : RS} {P : D → RS → Prop} {X : Nat → List D → RS → Prop} {xs : List D} (h : D.plns xs = true) : wR (cmpE m .eq (.tup xs) (.tup []) s) P X = P (.bl xs.isEmpty) s := by
  rw [cmp_tup]
  refine c_liftB _ _ ?_
  have h : eqOk (D.tup xs) (D.tup []) = true := by simp [eqOk, D.pln, D.plns, D.dle, D.dles, h]
  rw [cmpD_eq h]
  cases xs <;> rfl
theorem c_nil {m : Mod} {s : RS} {P : D → RS → Prop} {X : Nat → List D → RS → Prop} (xs : List D) : wR (cmpE m .eq (.tup xs) (.tup []) s) P X = P (.bl xs.isEmpty) s := by
  refine c_liftB _ _ ?_
  have e : cmpD .eq (.tup xs) (.tup []) = if eqOk (.tup xs) (.tup []) then some ((D.tup xs).eqv (.tup [])) else some xs.isEmpty := rfl
  have e2 : (D.tup xs).eqv (.tup []) = xs.isEmpty := by
    cases xs <;> simp [D.eqv, D.eqvs]
  rw [e, e2]
  split <;> rfl
theorem gbs_app {k : Nat} {xs ys : List D} (h1 : D.gbs k xs = true) (h2 : D.gbs k ys = true) : D.gbs k (xs ++ ys) = true := gbs_iff.mpr fun x hx => by
  rcases List.mem_append.mp hx with hx | hx
  · exact gbs_iff.mp h1 x hx
  · exact gbs_iff.mp h2 x hx
theorem gbs_drop {k : Nat} {xs : List D} (h1 : D.gbs k xs = true) (j : Nat) : D.gbs k (xs.drop j) = true := gbs_iff.mpr fun x hx => gbs_iff.mp h1 x (List.mem_of_mem_drop hx)
theorem gbs_take {k : Nat} {xs : List D} (h1 : D.gbs k xs = true) (j : Nat) : D.gbs k (xs.take j) = true := gbs_iff.mpr fun x hx => gbs_iff.mp h1 x (List.mem_of_mem_take hx)
theorem cut_mid (xs : List D) (i j : Nat) : cutD xs (some (i : Int)) (some (j : Int)) = (xs.drop (min i xs.length)).take (min j xs.length - min i xs.length) := by
  unfold cutD
  rw [HT.sIx_nat, HT.sIx_nat]
end Fw

/-! MA: draws, groups, small judges. -/
namespace Lw
open PySem Fw
section
variable {n : Nat} {s : RS} {P : D → RS → Prop} {X : Nat → List D → RS → Prop}
theorem w_call {f ar sl : Nat} {bd : Sd} {xs : List D} (hf : S1.prog.fns f = some ⟨.plain, ar, sl, bd⟩) (hl : xs.length = ar)
    (h : wS (evS (M n) WB bd (startS sl (xs.map Sl.val)) s) ⟨fun _ s => P .non s, P, no2, no2, X⟩) : wR ((M (n + 1)).call f xs s) P X := by
  rw [M_eq] at h ⊢
  exact wR_call hf hl h
theorem w_ok {α : Type} {r : Res α} {v : α} {t : RS} {P : α → RS → Prop} (e : r = .ok v t) (h : P v t) : wR r P X := by
  rw [e, wR_ok]
  exact h
theorem w_err {α : Type} {r : Res α} {c : Nat} {fs : List D} {t : RS} {P : α → RS → Prop} (e : r = .err c fs t) (h : X c fs t) : wR r P X := by
  rw [e, wR_err]
  exact h
theorem w_val {α : Type} {r : Res α} {v : α} {t : RS} {P : α → RS → Prop} (h : wR r (fun d u => d = v ∧ u = t) (fun _ _ _ => False)) (k : P v t) : wR r P X := by
  refine wR_imp h (fun a u e => ?_) fun _ _ _ z => z.elim
  rw [e.1, e.2]
  exact k
theorem eq_of_w {r : Res D} {d : D} {s : RS} (h : wR r (fun d' s' => d' = d ∧ s' = s) (fun _ _ _ => False)) : r = .ok d s := by
  rw [wR_un] at h
  cases r with
  | ok a t => rw [h.1, h.2]
  | err c fs t => exact h.elim
  | stuck => exact h.elim
theorem eq_of_wx {r : Res D} {c : Nat} {fs : List D} {s : RS} (h : wR r (fun _ _ => False) (fun c' fs' s' => c' = c ∧ fs' = fs ∧ s' = s)) : r = .err c fs s := by
  rw [wR_un] at h
  cases r with
  | ok a t => exact h.elim
  | err c fs t => rw [h.1, h.2.1, h.2.2]
  | stuck => exact h.elim
@[simp] theorem M_cls : (M n).cls = Cl := by rw [M_eq, Cl_eq]; cases n <;> rfl
@[simp] theorem M_base : (M n).base = k_ShareError := by rw [M_eq]; cases n <;> kernel_rfl
theorem w_draw {k : Nat} {z : Int} (hz : 0 < z) (hz2 : z.natAbs.log2 < 9000) (hB : Bd (k + 1) s) (h : ∀ (r : Int) s', 0 ≤ r → r < z → Bd k s' → P (.int r) s') :
    wR ((M (n + 2)).call f_law_draw [.st, .int z] s) P X := by
  rw [M_eq]
  exact draw_spec (i4 := f_law_blended) g_law_blended g_law_draw hz hz2 hB h
theorem log2_small {z : Int} (h : z.natAbs < 2 ^ 64) : z.natAbs.log2 < 9000 := by
  by_cases h0 : z.natAbs = 0
  · rw [h0]
    decide
  · have := (Nat.log2_lt h0).mpr h
    omega
/-- a draw below a small number -/
theorem w_draws {k : Nat} {z : Int} (hz : 0 < z) (hz2 : z < 2 ^ 64) (hB : Bd (k + 1) s) (h : ∀ (r : Int) s', 0 ≤ r → r < z → Bd k s' → P (.int r) s') :
    wR ((M (n + 2)).call f_law_draw [.st, .int z] s) P X := w_draw hz (log2_small (by omega)) hB h
theorem w_pickL {k : Nat} {xs : List D} (hx : xs ≠ []) (hl : xs.length ≤ 16777216) (hB : Bd (k + 1) s) (h : ∀ d s', d ∈ xs → Bd k s' → P d s') :
    wR ((M (n + 3)).call f_law_pick [.st, .lst xs] s) P X := by
  refine w_call g_law_pick rfl ?_
  unfold B_law_pick
  simp [startS]
  have h0 : 0 < xs.length := List.length_pos_iff.mpr hx
  refine w_draws (by omega) (by omega) hB fun r s' h0 h1 hb => ?_
  obtain ⟨j, rfl⟩ := Int.eq_ofNat_of_zero_le h0
  have hj : j < xs.length := by omega
  simp [idx_l (List.getElem?_eq_getElem hj)]
  exact h _ _ (List.getElem_mem hj) hb
end
end Lw

/-! MB: drawn tables. -/
namespace Lw
open PySem Fw
section
variable {n : Nat} {s : RS} {P : D → RS → Prop} {X : Nat → List D → RS → Prop}
theorem zip_len {α β : Type} (a : List α) (b : List β) (h : b.length = a.length) : (a.zip b).length = a.length := by
  rw [List.length_zip, h, Nat.min_self]
/-- the parts of a lot that lie within a group -/
def inB (g : List Nat) (p : List Nat × Int) : Bool := !decide (p.1 = []) && (p.1.filter fun x => !decide (x ∈ g)).isEmpty
end
end Lw

/-! MC: drawn tables of seats, any drawn table. -/
namespace Lw
open PySem Fw
section
variable {n : Nat} {s : RS} {P : D → RS → Prop} {X : Nat → List D → RS → Prop}
/-- does a group hold a lot -/
def subB (low g : List Nat) : Bool := (low.filter fun x => !decide (x ∈ g)).isEmpty
theorem subB_nil {low : List Nat} (h : low ≠ []) : subB low [] = false := by
  cases low with
  | nil => exact absurd rfl h
  | cons x r => simp [subB]
theorem w_pickI {k : Nat} {is : List Int} (hx : is ≠ []) (hl : is.length ≤ 16777216) (hB : Bd (k + 1) s) (h : ∀ i s', i ∈ is → Bd k s' → P (.int i) s') :
    wR ((M (n + 3)).call f_law_pick [.st, .lst (is.map D.int)] s) P X := by
  refine w_pickL (by simpa using hx) (by simpa using hl) hB fun d s' hd hb => ?_
  obtain ⟨i, hi, rfl⟩ := List.mem_map.mp hd
  exact h i s' hi hb
theorem max1 (x : Int) : (if 1 < x then x else 1) = max 1 x := by
  rw [Int.max_def]
  split <;> split <;> omega
end
end Lw

/-! MD: the package's judges of numbers, Table. -/
namespace Lw
open PySem Fw
section
variable {n : Nat} {s : RS} {P : D → RS → Prop} {X : Nat → List D → RS → Prop}
theorem w_make {c sl ar : Nat} {k : ClsD} {kd : FnK} {bd : Sd} {xs : List D} (hc : S1.prog.cls c = some k) (hf : S1.prog.fns k.init = some ⟨kd, ar, sl, bd⟩) (hl : ar = xs.length + 1)
    (h : wS (evS (M n) WB bd (startS sl (.own (.ins c []) :: xs.map Sl.val)) s) ⟨fun σ s => mkW σ c k.fields.length fun fs => P (.ins c fs) s, fun _ _ => False, no2, no2, X⟩) : wR ((M (n + 1)).make c xs s) P X := by
  rw [M_eq] at h ⊢
  refine wR_make hc hf hl ?_
  rw [wR_endMk]
  exact h
theorem Cl_at {c : Nat} {k : ClsD} (h : S1.prog.cls c = some k) : Cl c = some k := by rw [Cl_eq]; exact h
theorem law_is_whole_eq {d : D} (h : typed Cl d = true) : (M (n + 1)).call f_law_is_whole [d] s = .ok (.bl d.isInt) s := by
  refine eq_of_w (w_call g_law_is_whole rfl ?_)
  unfold B_law_is_whole
  have e1 := isa_int h
  have e2 := isa_bool h
  cases d <;> simp [startS, e1, e2, D.isInt, D.isBool]
/-- what are_worths tells -/
def worthsD (k : Nat) : D → Bool
  | .tup xs => decide (xs.length = 2 ^ k) && (xs.all (numD (-1000000) 1000000) && (match xs with
    | .int i :: _ => i == 0
    | _ => false))
  | _ => false
theorem len_pow {k : Nat} : ((gps k).map grpD).length = 2 ^ k := by rw [List.length_map, gps_len]
theorem num5 {d : D} (h : numD 0 5 d = true) : ∃ k : Nat, k ≤ 5 ∧ d = .int k := by
  cases d with
  | int i =>
    simp [numD] at h
    exact ⟨i.toNat, by omega, by congr 1; omega⟩
  | _ => simp [numD] at h
theorem worths_of {m : Int} (hm : m ≤ 1000000) {k : Nat} {ws : List Int} (h : OkT m k ws) : worthsD k (.tup (ws.map D.int)) = true := by
  have hp := h.pos
  cases ws with
  | nil => simp at hp
  | cons w ws =>
    have hw : w = 0 := by simpa using h.hd
    have hb : ∀ x ∈ w :: ws, numD (-1000000) 1000000 (.int x) = true := fun x hx => by
      have := h.bd x hx
      simp [numD]
      omega
    have hl := h.len
    simp only [worthsD, List.length_map, hl, decide_true, Bool.true_and, List.map_cons, hw, List.all_cons, List.all_map]
    subst hw
    have h1 := hb 0 List.mem_cons_self
    rw [h1]
    simp
    exact ⟨by simpa using hl, fun x hx => hb x (List.mem_cons_of_mem _ hx)⟩
end
end Lw

/-! ME: equal tables, odd values, kinds of errors. -/
namespace Lw
open PySem Fw
section
variable {n : Nat} {s : RS} {P : D → RS → Prop} {X : Nat → List D → RS → Prop}
theorem w_odd {k : Nat} (hB : Bd (k + 1) s) (h : ∀ d s', d.good = true → d.isTup = false ∨ d.isTup = true → Bd k s' → P d s') : wR ((M (n + 4)).call f_law_odd [.st] s) P X := by
  refine w_call g_law_odd rfl ?_
  unfold B_law_odd
  simp [startS]
  refine w_pickL (k := k) (by simp) (by simp) hB fun d s' hd hb => ?_
  refine h d s' (goods_mem ?_ d hd) (by cases d.isTup <;> simp) hb
  rfl
/-- _law_bent of what is no tuple -/
theorem w_bent0 {k : Nat} {d : D} (hg : d.good = true) (ht : d.isTup = false) (hB : Bd (k + 1) s) (h : ∀ d s', d.good = true → Bd k s' → P d s') : wR ((M (n + 5)).call f_law_bent [.st, d] s) P X := by
  refine w_call g_law_bent rfl ?_
  unfold B_law_bent
  simp [startS, isa_tuple (T := Cl) (good_typed hg), ht]
  refine w_odd hB fun d s' h1 _ h2 => ?_
  exact h d s' h1 h2
theorem goods_app {xs ys : List D} (h1 : D.goods xs = true) (h2 : D.goods ys = true) : D.goods (xs ++ ys) = true := goods_iff fun x hx => by
  rcases List.mem_append.mp hx with hx | hx
  · exact goods_mem h1 x hx
  · exact goods_mem h2 x hx
theorem goods_drop {xs : List D} (h1 : D.goods xs = true) (k : Nat) : D.goods (xs.drop k) = true := goods_iff fun x hx => goods_mem h1 x (List.mem_of_mem_drop hx)
theorem goods_take {xs : List D} (h1 : D.goods xs = true) (k : Nat) : D.goods (xs.take k) = true := goods_iff fun x hx => goods_mem h1 x (List.mem_of_mem_take hx)
theorem goods_tail {xs : List D} (h1 : D.goods xs = true) : D.goods xs.tail = true := goods_iff fun x hx => goods_mem h1 x (List.mem_of_mem_tail hx)
theorem o_add_t {xs ys : List D} {Q : D → Prop} (h : xs.length + ys.length ≤ 16777216) (k : Q (.tup (xs ++ ys))) : optR (binD .add (.tup xs) (.tup ys)) Q := optR_i (add_t h) k
theorem o_add_l {xs ys : List D} {Q : D → Prop} (h : xs.length + ys.length ≤ 16777216) (k : Q (.lst (xs ++ ys))) : optR (binD .add (.lst xs) (.lst ys)) Q := optR_i (add_l h) k
theorem pure_of {m : Mod} {w slots : Nat} {bd : Sd} (h : ∀ ns : List Int, ns.length ≤ 63 → wS (evS m w bd (startS slots [.val (.scr ns.length), .val .st]) (rs0 ns)) ⟨no2, fun d _ => d = .bl true, no2, no2, fun _ _ _ => False⟩) : Pure m w slots bd := fun ns hn => by
  have z := h ns hn
  rw [wS_un] at z
  cases hr : evS m w bd (startS slots [.val (.scr ns.length), .val .st]) (rs0 ns) with
  | rt d s' =>
    rw [hr] at z
    exact ⟨s', by rw [show d = .bl true from z]⟩
  | nx _ _ => rw [hr] at z; exact z.elim
  | bk _ _ => rw [hr] at z; exact z.elim
  | ct _ _ => rw [hr] at z; exact z.elim
  | err _ _ _ => rw [hr] at z; exact z.elim
  | stuck => rw [hr] at z; exact z.elim
theorem Bd0 {k : Nat} (ns : List Int) (h : k ≤ 2 ^ 40) : Bd k (rs0 ns) := .inr ⟨Int.le_refl _, by
  show (0 : Int) + k ≤ 2 ^ 40
  omega⟩
theorem ints_of : ∀ {xs : List D} {lo hi : Int}, xs.all (numD lo hi) = true → ∃ ws : List Int, xs = ws.map D.int
  | [], _, _, _ => ⟨[], rfl⟩
  | x :: xs, lo, hi, h => by
    have h' : numD lo hi x = true ∧ xs.all (numD lo hi) = true := by simpa using h
    obtain ⟨ws, rfl⟩ := ints_of h'.2
    cases x with
    | int i => exact ⟨i :: ws, rfl⟩
    | _ => simp [numD] at h'
@[simp] theorem setP_tab (n : Nat) (ws : List Int) (i j : Nat) (σ : List Sl) : setP Sl.val (.tcons (.v i) (.tcons (.v j) .tnil)) (tabD n ws) σ = some ((σ.set i (.val (.int n))).set j (.val (.tup (ws.map D.int)))) := by simp [tabD]
theorem st_self (x : Str) : (x == x) = true := by
  have : ReflBEq Str := inferInstance
  exact BEq.rfl
theorem c_tab_eq {m : Mod} (n1 n2 : Nat) (w1 w2 : List Int) : wR (cmpE m .eq (.tup [.int n1, .tup (w1.map D.int)]) (tabD n2 w2) s) P X = P (.bl (decide (n1 = n2) && decide (w1 = w2))) s := by
  unfold tabD
  rw [cmp_tup]
  refine c_liftB _ _ ?_
  rw [cmpD_eq]
  · simp [D.eqv, D.eqvs, eqvs_ints]
    by_cases h1 : n1 = n2
    · simp [h1]
    · simp [h1]
      omega
  · simp [eqOk, D.pln, D.plns, plns_ints, D.dle, D.dles, dles_ints]
end
end Lw

/-! MF: fractions. -/
namespace Lw
open PySem Fw
section
variable {n : Nat} {s : RS} {P : D → RS → Prop} {X : Nat → List D → RS → Prop}
theorem WB_eq : WB = 5000 := rfl
theorem absI_eq (i : Int) : (if i < 0 then -i else i) = (i.natAbs : Int) := by split <;> omega
theorem emod_nat (a e : Nat) : ((a : Int) % (e : Int)) = ((a % e : Nat) : Int) := by omega
theorem common_eq {a b : Int} {k : Nat} (h : a.natAbs * b.natAbs < 2 ^ k) (hk : k ≤ 4000) : (M (n + 1)).call f_common [.int a, .int b] s = .ok (.int (Nat.gcd a.natAbs b.natAbs)) s := by
  refine eq_of_w (w_call g_common rfl ?_)
  unfold B_common
  simp [startS, absI_eq]
  refine gcd_whl (k := k) (fun a e => ?_) (fun a e he => ?_) h (by rw [WB_eq]; omega) ?_
  · rw [wR_bind]
    simp [wR_lift']
    by_cases h0 : e = 0
    · simp [h0]
    · simp [h0]
  · simp
    rw [mod_s _ (by omega)]
    simp
  · simp
theorem fr_common_eq {a b : Int} {k : Nat} (h : a.natAbs * b.natAbs < 2 ^ k) (hk : k ≤ 4000) : (M (n + 1)).call f_law_fr_common [.int a, .int b] s = .ok (.int (Nat.gcd a.natAbs b.natAbs)) s := by
  refine eq_of_w (w_call g_law_fr_common rfl ?_)
  unfold B_law_fr_common
  simp [startS, absI_eq]
  refine gcd_whl (k := k) (fun a e => ?_) (fun a e he => ?_) h (by rw [WB_eq]; omega) ?_
  · rw [wR_bind]
    simp [wR_lift']
    by_cases h0 : e = 0
    · simp [h0]
    · simp [h0]
  · simp
    rw [mod_s _ (by omega)]
    simp
  · simp
theorem gcd_lt {a : Int} {d k : Nat} (hd : 0 < d) (h : d < 2 ^ k) : 0 < ((Nat.gcd a.natAbs d : Nat) : Int) ∧ ((Nat.gcd a.natAbs d : Nat) : Int).natAbs < 2 ^ k := by
  have h1 := Nat.gcd_pos_of_pos_right a.natAbs hd
  have h2 := Nat.gcd_le_right a.natAbs hd
  exact ⟨by omega, by rw [Int.natAbs_natCast]; omega⟩
theorem lowest_eq {a : Int} {d k : Nat} (hd : 0 < d) (ha : a.natAbs < 2 ^ k) (hk : d < 2 ^ k) (h2 : k ≤ 2000) : (M (n + 2)).call f_lowest [.int a, .int d] s = .ok (ratD (mkRat a d)) s := by
  have hg := gcd_lt (a := a) hd hk
  refine eq_of_w (w_call g_lowest rfl ?_)
  unfold B_lowest
  simp [startS, hd]
  refine w_ok (common_eq (k := k + k) (by rw [Int.natAbs_natCast]; exact mul_lt ha hk) (by omega)) ?_
  simp
  rw [fdiv_b _ hg.1 hg.2 (by omega)]
  simp
  rw [fdiv_b _ hg.1 hg.2 (by omega)]
  simp [mkRat_parts hd]
theorem fr_eq {a : Int} {d k : Nat} (hd : 0 < d) (ha : a.natAbs < 2 ^ k) (hk : d < 2 ^ k) (h2 : k ≤ 2000) : (M (n + 2)).call f_law_fr [.int a, .int d] s = .ok (ratD (mkRat a d)) s := by
  have hg := gcd_lt (a := a) hd hk
  refine eq_of_w (w_call g_law_fr rfl ?_)
  unfold B_law_fr
  simp [startS]
  refine w_ok (fr_common_eq (k := k + k) (by rw [Int.natAbs_natCast]; exact mul_lt ha hk) (by omega)) ?_
  have hd' : ¬ ((d : Int) < 0) := by omega
  simp [hd']
  rw [fdiv_b _ hg.1 hg.2 (by omega)]
  simp
  rw [fdiv_b _ hg.1 hg.2 (by omega)]
  simp [mkRat_parts hd]
/-- the products -/
theorem parts_mul {p q : Rat} {j k : Nat} (hp : Sm j p) (hq : Sm k q) (hj : 0 < j) (hk : 0 < k) (h : j + k ≤ 3000) : mulOk p.num q.den = true ∧ mulOk q.num p.den = true ∧ mulOk p.den q.den = true :=
  ⟨mulOk_b hp.1 (by rw [Int.natAbs_natCast]; exact hq.2) hj hk (by omega), mulOk_b hq.1 (by rw [Int.natAbs_natCast]; exact hp.2) hk hj (by omega), mulOk_b (by rw [Int.natAbs_natCast]; exact hp.2) (by rw [Int.natAbs_natCast]; exact hq.2) hj hk (by omega)⟩
theorem sum_bits {p q : Rat} {j k : Nat} (hp : Sm j p) (hq : Sm k q) : (p.num * q.den + q.num * p.den).natAbs < 2 ^ (j + k + 1) ∧ (p.num * q.den - q.num * p.den).natAbs < 2 ^ (j + k + 1) ∧ p.den * q.den < 2 ^ (j + k + 1) := by
  have h1 : (p.num * q.den).natAbs < 2 ^ (j + k) := imul_lt hp.1 (by rw [Int.natAbs_natCast]; exact hq.2)
  have h2 : (q.num * p.den).natAbs < 2 ^ (j + k) := by
    rw [Nat.add_comm j k]
    exact imul_lt hq.1 (by rw [Int.natAbs_natCast]; exact hp.2)
  exact ⟨iadd_lt h1 h2, isub_lt h1 h2, Nat.lt_of_lt_of_le (mul_lt hp.2 hq.2) (Nat.pow_le_pow_right (by decide) (by omega))⟩
theorem den_mul_pos (p q : Rat) : 0 < p.den * q.den := Nat.mul_pos (den_pos p) (den_pos q)
theorem summed_eq {p q : Rat} {j k : Nat} (hp : Sm j p) (hq : Sm k q) (hj : 0 < j) (hk : 0 < k) (h : j + k ≤ 1900) : (M (n + 3)).call f_summed [ratD p, ratD q] s = .ok (ratD (p + q)) s := by
  obtain ⟨m1, m2, m3⟩ := parts_mul hp hq hj hk (by omega)
  obtain ⟨b1, b2, b3⟩ := sum_bits hp hq
  refine eq_of_w (w_call g_summed rfl ?_)
  unfold B_summed
  simp [startS, ratD, mul_i, m1, m2, m3]
  have e : ((p.den : Int) * (q.den : Int)) = ((p.den * q.den : Nat) : Int) := by omega
  rw [e]
  refine w_ok (lowest_eq (den_mul_pos p q) b1 b3 (by omega)) ?_
  simp [Rat.add_def', ratD]
theorem fr_plus_eq {p q : Rat} {j k : Nat} (hp : Sm j p) (hq : Sm k q) (hj : 0 < j) (hk : 0 < k) (h : j + k ≤ 1900) : (M (n + 3)).call f_law_fr_plus [ratD p, ratD q] s = .ok (ratD (p + q)) s := by
  obtain ⟨m1, m2, m3⟩ := parts_mul hp hq hj hk (by omega)
  obtain ⟨b1, b2, b3⟩ := sum_bits hp hq
  refine eq_of_w (w_call g_law_fr_plus rfl ?_)
  unfold B_law_fr_plus
  simp [startS, ratD, mul_i, m1, m2, m3]
  have e : ((p.den : Int) * (q.den : Int)) = ((p.den * q.den : Nat) : Int) := by omega
  rw [e]
  refine w_ok (fr_eq (den_mul_pos p q) b1 b3 (by omega)) ?_
  simp [Rat.add_def', ratD]
theorem fr_minus_eq {p q : Rat} {j k : Nat} (hp : Sm j p) (hq : Sm k q) (hj : 0 < j) (hk : 0 < k) (h : j + k ≤ 1900) : (M (n + 3)).call f_law_fr_minus [ratD p, ratD q] s = .ok (ratD (p - q)) s := by
  obtain ⟨m1, m2, m3⟩ := parts_mul hp hq hj hk (by omega)
  obtain ⟨b1, b2, b3⟩ := sum_bits hp hq
  refine eq_of_w (w_call g_law_fr_minus rfl ?_)
  unfold B_law_fr_minus
  simp [startS, ratD, mul_i, m1, m2, m3]
  have e : ((p.den : Int) * (q.den : Int)) = ((p.den * q.den : Nat) : Int) := by omega
  rw [e]
  refine w_ok (fr_eq (den_mul_pos p q) b2 b3 (by omega)) ?_
  simp [Rat.sub_def', ratD]
theorem total_of {f g : Nat} (hf : S1.prog.fns f = some ⟨.plain, 1, 3, .seq (.asg (.v 1) (.tup (.cons (.lit (.int 0)) (.cons (.lit (.int 1)) .nil))) []) (.seq (.for_ .plain (.cons (.var 0) .nil) (.v 2) (.seq (.asg (.v 1) (.call g (.cons (.var 1) (.cons (.var 2) .nil))) []) .skip) []) (.seq (.ret (.var 1) []) .skip))⟩)
    (hg : ∀ (n : Nat) (s : RS) (p q : Rat) (j k : Nat), Sm j p → Sm k q → 0 < j → 0 < k → j + k ≤ 1900 → (M (n + 3)).call g [ratD p, ratD q] s = .ok (ratD (p + q)) s) {src : D} {qs : List Rat} {k : Nat} (hs : src = .tup (qs.map ratD) ∨ src = .lst (qs.map ratD)) (hq : ∀ q ∈ qs, Sm k q) (hk : 0 < k) (hl : (k + 1) * (qs.length + 1) ≤ 1900) : (M (n + 4)).call f [src] s = .ok (ratD (rsum qs)) s := by
  refine eq_of_w (w_call hf rfl ?_)
  simp [startS]
  have hi : itemsD .plain [src] = some (qs.map ratD) := by rcases hs with rfl | rfl <;> rfl
  refine optR_i hi ?_
  refine wS_forI (fun j σ s' => s' = s ∧ ∃ a, σ = [.val src, .val (ratD (rsum (qs.take j))), a] ∧ Sm ((k + 1) * j + 1) (rsum (qs.take j))) _ (fun j x σ s' hx hI => ?_) ⟨rfl, _, rfl, by simp [rsum, Sm]⟩ fun σ s' hI => ?_
  · obtain ⟨rfl, a, rfl, hsm⟩ := hI
    rw [List.getElem?_map] at hx
    obtain ⟨q, hqj, rfl⟩ := Option.map_eq_some_iff.mp hx
    obtain ⟨hj, e⟩ := List.getElem?_eq_some_iff.mp hqj
    have hm : q ∈ qs := by
      rw [← e]
      exact List.getElem_mem hj
    have hb : (k + 1) * j + (k + 1) = (k + 1) * (j + 1) := by rw [Nat.mul_succ]
    have hb2 : (k + 1) * (j + 1) ≤ (k + 1) * qs.length := Nat.mul_le_mul_left _ hj
    have hb3 : (k + 1) * (qs.length + 1) = (k + 1) * qs.length + (k + 1) := by rw [Nat.mul_succ]
    have hsum : rsum (qs.take (j + 1)) = rsum (qs.take j) + q := by
      unfold rsum
      rw [List.take_succ, hqj]
      simp
    simp
    refine w_ok (hg _ _ _ _ _ _ hsm (hq q hm) (by omega) hk (by omega)) ?_
    simp
    rw [hsum]
    exact ⟨rfl, (hsm.add (hq q hm)).mono (by omega)⟩
  · obtain ⟨rfl, a, rfl, hsm⟩ := hI
    rw [List.length_map, List.take_length]
    simp
theorem total_eq {src : D} {qs : List Rat} {k : Nat} (hs : src = .tup (qs.map ratD) ∨ src = .lst (qs.map ratD)) (hq : ∀ q ∈ qs, Sm k q) (hk : 0 < k) (hl : (k + 1) * (qs.length + 1) ≤ 1900) : (M (n + 4)).call f_total [src] s = .ok (ratD (rsum qs)) s :=
  total_of g_total (fun n s p q j k h1 h2 h3 h4 h5 => summed_eq h1 h2 h3 h4 h5) hs hq hk hl
theorem nat_eq1 (G : Nat) : ((G : Int) == 1) = decide (G = 1) := by
  by_cases h : G = 1
  · simp [h]
  · simp [h]
    omega
theorem is_int_eq {d : D} (h : typed Cl d = true) : (M (n + 1)).call f_is_int [d] s = .ok (.bl d.isInt) s := by
  refine eq_of_w (w_call g_is_int rfl ?_)
  unfold B_is_int
  have e1 := isa_int h
  have e2 := isa_bool h
  cases d <;> simp [startS, e1, e2, D.isInt, D.isBool]
theorem is_fraction_eq {d : D} {k : Nat} (h : d.good = true) (hb : ∀ a b, d = .tup [.int a, .int b] → a.natAbs < 2 ^ k ∧ b.natAbs < 2 ^ k) (hk : k ≤ 2000) : (M (n + 2)).call f_is_fraction [d] s = .ok (.bl (fracD d)) s := by
  refine eq_of_w (w_call g_is_fraction rfl ?_)
  unfold B_is_fraction
  have e1 := isa_tuple (T := Cl) (good_typed h)
  simp [startS, e1]
  cases d with
  | tup xs =>
    have hg := goods_mem (xs := xs) (by simpa [D.good] using h)
    match xs, hg, hb with
    | [], _, _ => simp [D.isTup, fracD]
    | [x], _, _ => simp [D.isTup, fracD]
    | x :: y :: z :: r, _, _ =>
      rw [show fracD (.tup (x :: y :: z :: r)) = false from by cases x <;> cases y <;> rfl]
      simp [D.isTup]
      refine cnd_i (fun h => ?_) fun h => ?_
      · simp
      · simp at h
        omega
    | [x, y], hg, hb =>
      simp [D.isTup]
      refine w_ok (is_int_eq (good_typed (hg x (by simp)))) ?_
      cases x with
      | int a =>
        simp [D.isInt]
        refine w_ok (is_int_eq (good_typed (hg y (by simp)))) ?_
        cases y with
        | int b =>
          obtain ⟨h1, h2⟩ := hb a b rfl
          simp [D.isInt, fracD]
          refine cnd_i (fun h3 => ?_) fun h3 => ?_
          · simp at h3
            simp
            refine w_ok (common_eq (mul_lt h1 h2) (by omega)) ?_
            simp [h3]
            exact nat_eq1 _
          · simp at h3
            have h4 : ¬ 1 ≤ b := by omega
            simp [h4]
        | _ => simp [D.isInt, fracD]
      | _ => simp [D.isInt, fracD]
  | _ => simp [D.isTup, fracD]
theorem fr_is_eq {d : D} {k : Nat} (h : d.good = true) (hb : ∀ a b, d = .tup [.int a, .int b] → a.natAbs < 2 ^ k ∧ b.natAbs < 2 ^ k) (hk : k ≤ 2000) : (M (n + 2)).call f_law_fr_is [d] s = .ok (.bl (fracD d)) s := by
  refine eq_of_w (w_call g_law_fr_is rfl ?_)
  unfold B_law_fr_is
  have e1 := isa_tuple (T := Cl) (good_typed h)
  simp [startS, e1]
  cases d with
  | tup xs =>
    have hg := goods_mem (xs := xs) (by simpa [D.good] using h)
    match xs, hg, hb with
    | [], _, _ => simp [D.isTup, fracD]
    | [x], _, _ => simp [D.isTup, fracD]
    | x :: y :: z :: r, _, _ =>
      rw [show fracD (.tup (x :: y :: z :: r)) = false from by cases x <;> cases y <;> rfl]
      simp [D.isTup]
      refine cnd_i (fun h => ?_) fun h => ?_
      · simp
      · simp at h
        omega
    | [x, y], hg, hb =>
      have a1 := isa_int (T := Cl) (good_typed (hg x (by simp)))
      have a2 := isa_bool (T := Cl) (good_typed (hg x (by simp)))
      have c1 := isa_int (T := Cl) (good_typed (hg y (by simp)))
      have c2 := isa_bool (T := Cl) (good_typed (hg y (by simp)))
      simp [D.isTup]
      have key : ∀ (q : WS), (x.isInt = false → q.rt (.bl false) s) → (x.isInt = true → y.isInt = false → q.rt (.bl false) s) → (x.isInt = true → y.isInt = true → ∀ b, q.nx [.val (.tup [x, y]), b] s) → ∀ b, wS (forL (loopB (M (n + 1)) WB (.v 1) (.seq (.ite (.or (.not (.isa (.var 1) .int)) (.isa (.var 1) .bool)) (.seq (.ret (.lit (.bl false)) []) .skip) .skip []) .skip)) [x, y] [.val (.tup [x, y]), b] s) q := fun q q1 q2 q3 b => by
        refine wS_forI (fun j σ s' => s' = s ∧ (∃ b, σ = [.val (.tup [x, y]), b]) ∧ (1 ≤ j → x.isInt = true) ∧ (2 ≤ j → y.isInt = true)) _ (fun j z σ s' hz hI => ?_) ⟨rfl, ⟨_, rfl⟩, by omega, by omega⟩ fun σ s' hI => ?_
        · obtain ⟨rfl, ⟨b, rfl⟩, i1, i2⟩ := hI
          match j, hz with
          | 0, hz =>
            cases (Option.some.inj hz)
            cases x with
            | int i => simp [a1, a2, D.isInt, D.isBool]
            | _ =>
              simp [a1, a2, D.isInt, D.isBool]
              exact q1 rfl
          | 1, hz =>
            cases (Option.some.inj hz)
            have i3 := i1 (by omega)
            cases y with
            | int i =>
              simp [c1, c2, D.isInt, D.isBool]
              exact i3
            | _ =>
              simp [c1, c2, D.isInt, D.isBool]
              exact q2 i3 rfl
          | j + 2, hz => simp at hz
        · obtain ⟨rfl, ⟨b, rfl⟩, i1, i2⟩ := hI
          exact q3 (i1 (by simp)) (i2 (by simp)) b
      refine key _ (fun h => ?_) (fun h1 h2 => ?_) (fun h1 h2 b => ?_) _
      · simp
        cases x <;> first | (simp [fracD]; done) | (simp [D.isInt] at h)
      · simp
        cases x <;> cases y <;> first | (simp [fracD]; done) | (simp [D.isInt] at h2)
      · cases x with
        | int a =>
          cases y with
          | int b2 =>
            obtain ⟨h3, h4⟩ := hb a b2 rfl
            simp [fracD]
            refine cnd_i (fun h5 => ?_) fun h5 => ?_
            · simp at h5
              simp
              refine w_ok (fr_common_eq (mul_lt h3 h4) (by omega)) ?_
              simp [h5]
              exact nat_eq1 _
            · simp at h5
              have h6 : ¬ 1 ≤ b2 := by omega
              simp [h6]
          | _ => simp [D.isInt] at h2
        | _ => simp [D.isInt] at h1
  | _ => simp [D.isTup, fracD]
end
end Lw

/-! MG: groups' numbers, worths, judges of tables and groups. -/
namespace Lw
open PySem Fw
/-- a group's number -/
def numG (g : List Nat) : Nat := (g.map (2 ^ ·)).sum
theorem numG_app (a b : List Nat) : numG (a ++ b) = numG a + numG b := by simp [numG, List.sum_append]
theorem numG_lt : ∀ n, ∀ g ∈ gps n, numG g < 2 ^ n
  | 0, g, h => by
    simp [gps] at h
    simp [h, numG]
  | n + 1, g, h => by
    unfold gps at h
    have e : 2 ^ (n + 1) = 2 ^ n + 2 ^ n := by rw [Nat.pow_succ]; omega
    rcases List.mem_append.mp h with h | h
    · have := numG_lt n g h
      omega
    · obtain ⟨g', h', rfl⟩ := List.mem_map.mp h
      have := numG_lt n g' h'
      rw [numG_app]
      have e2 : numG [n] = 2 ^ n := by simp [numG]
      omega
theorem numG_range : ∀ n, numG (List.range n) + 1 = 2 ^ n
  | 0 => rfl
  | n + 1 => by
    rw [List.range_succ, numG_app]
    have e2 : numG [n] = 2 ^ n := by simp [numG]
    have e : 2 ^ (n + 1) = 2 ^ n + 2 ^ n := by rw [Nat.pow_succ]; omega
    have := numG_range n
    omega
/-- what a group earns -/
def wG (ws : List Int) (g : List Nat) : Int := ws.getD (numG g) 0
def risI : List Int → Bool
  | a :: b :: r => decide (a < b) && risI (b :: r)
  | _ => true
theorem risI_zip : ∀ l : List Int, (l.zip l.tail).all (fun p => decide (p.1 < p.2)) = risI l
  | [] => rfl
  | [_] => rfl
  | a :: b :: r => by
    have := risI_zip (b :: r)
    simp [risI] at this ⊢
    rw [← this]
theorem risI_app : ∀ (l : List Int) (x : Int), risI l = true → (∀ y ∈ l, y < x) → risI (l ++ [x]) = true
  | [], x, _, _ => rfl
  | [a], x, _, h => by
    have := h a (by simp)
    simp [risI, this]
  | a :: b :: r, x, h, hy => by
    have h' : a < b ∧ risI (b :: r) = true := by simpa [risI] using h
    have := risI_app (b :: r) x h'.2 fun y hy' => hy y (List.mem_cons_of_mem _ hy')
    simp only [List.cons_append] at this ⊢
    simp [risI, h'.1] at this ⊢
    exact this
theorem gps_ris : ∀ n, ∀ g ∈ gps n, risI (g.map fun x : Nat => (x : Int)) = true
  | 0, g, h => by
    simp [gps] at h
    simp [h, risI]
  | n + 1, g, h => by
    unfold gps at h
    rcases List.mem_append.mp h with h | h
    · exact gps_ris n g h
    · obtain ⟨g', h', rfl⟩ := List.mem_map.mp h
      rw [List.map_append]
      refine risI_app _ _ (gps_ris n g' h') fun y hy => ?_
      obtain ⟨z, hz, rfl⟩ := List.mem_map.mp hy
      have := (gps_small n g' h').2 z hz
      show (z : Int) < (n : Int)
      omega
theorem sum_cast : ∀ g : List Nat, (g.map fun x : Nat => ((2 ^ x : Nat) : Int)).sum = ((numG g : Nat) : Int)
  | [] => rfl
  | x :: g => by
    have := sum_cast g
    simp only [List.map_cons, List.sum_cons, this, numG]
    omega
section
variable {n : Nat} {s : RS} {P : D → RS → Prop} {X : Nat → List D → RS → Prop}
theorem pow_idx {x : Nat} (h : x < 6) : idxD (.lst [.int 1, .int 2, .int 4, .int 8, .int 16, .int 32]) (.int (x : Nat)) = some (.int ((2 ^ x : Nat) : Int)) := by
  match x, h with
  | 0, _ => exact idx_l rfl
  | 1, _ => exact idx_l rfl
  | 2, _ => exact idx_l rfl
  | 3, _ => exact idx_l rfl
  | 4, _ => exact idx_l rfl
  | 5, _ => exact idx_l rfl
theorem wG_get {m : Int} {k : Nat} {ws : List Int} (h : OkT m k ws) {g : List Nat} (hg : numG g < 2 ^ k) : ws[numG g]? = some (wG ws g) := by
  have hl : numG g < ws.length := by
    rw [h.len]
    exact hg
  unfold wG
  rw [List.getD_eq_getElem?_getD, List.getElem?_eq_getElem hl]
  rfl
theorem wG_bd {m : Int} {k : Nat} {ws : List Int} (h : OkT m k ws) {g : List Nat} (hg : numG g < 2 ^ k) : -m ≤ wG ws g ∧ wG ws g ≤ m := h.bd _ (List.mem_of_getElem? (wG_get h hg))
theorem idx_wG {m : Int} {k : Nat} {ws : List Int} (h : OkT m k ws) {g : List Nat} (hg : numG g < 2 ^ k) : idxD (.tup (ws.map D.int)) (.int (numG g : Nat)) = some (.int (wG ws g)) := by
  refine idx_t ?_
  rw [List.getElem?_map, wG_get h hg]
  rfl
/-- what is_group_of tells -/
def grpOk (k : Nat) : D → Bool
  | .tup xs => xs.all (numD 0 ((k : Int) - 1)) && risI ((intsD xs).getD [])
  | _ => false
theorem grpOk_gps {k : Nat} (hk : k ≤ 5) {g : List Nat} (hg : g ∈ gps k) : grpOk k (grpD g) = true := by
  have h1 : (g.map natD) = (g.map fun x : Nat => (x : Int)).map D.int := by simp
  unfold grpD
  rw [grpOk, Bool.and_eq_true]
  refine ⟨?_, ?_⟩
  · rw [List.all_eq_true]
    intro d hd
    obtain ⟨x, hx, rfl⟩ := List.mem_map.mp hd
    have := (gps_small k g hg).2 x hx
    simp [numD]
    omega
  · rw [h1, intsD_map]
    exact gps_ris k g hg
theorem grp_good (g : List Nat) : (grpD g).good = true := by
  rw [grpD, D.good]
  exact goods_iff fun x hx => by
    obtain ⟨y, _, rfl⟩ := List.mem_map.mp hx
    rfl
end
end Lw

/-! MH: sharings, complaints. -/
namespace Lw
open PySem Fw
section
variable {n : Nat} {s : RS} {P : D → RS → Prop} {X : Nat → List D → RS → Prop}
theorem rat_eqv (p q : Rat) : (ratD p).eqv (ratD q) = decide (p = q) := by
  unfold ratD
  simp only [D.eqv, D.eqvs, Bool.and_true]
  by_cases h : p = q
  · subst h
    simp
  · have : ¬ (p.num = q.num ∧ p.den = q.den) := fun z => h (Rat.ext z.1 z.2)
    simp only [h, decide_false, Bool.and_eq_false_iff, beq_eq_false_iff_ne, ne_eq]
    by_cases h1 : p.num = q.num
    · exact .inr fun z => this ⟨h1, by omega⟩
    · exact .inl h1
theorem rat_pln (p : Rat) : (ratD p).pln = true := rfl
theorem rat_ok (p q : Rat) : eqOk (ratD p) (ratD q) = true := by simp [eqOk, ratD, D.pln, D.plns, D.dle, D.dles]
@[simp] theorem c_rat_eq {m : Mod} (p q : Rat) : wR (cmpE m .eq (ratD p) (ratD q) s) P X = P (.bl (decide (p = q))) s := by
  have h : cmpE m .eq (ratD p) (ratD q) s = liftO ((cmpD .eq (ratD p) (ratD q)).map D.bl) s := cmp_tup _ _ _
  rw [h]
  refine c_liftB _ _ ?_
  rw [cmpD_eq (rat_ok p q), rat_eqv]
@[simp] theorem c_rat_ne {m : Mod} (p q : Rat) : wR (cmpE m .ne (ratD p) (ratD q) s) P X = P (.bl (!decide (p = q))) s := by
  have h : cmpE m .ne (ratD p) (ratD q) s = liftO ((cmpD .ne (ratD p) (ratD q)).map D.bl) s := cmp_tup _ _ _
  rw [h]
  refine c_liftB _ _ ?_
  rw [cmpD_ne (rat_ok p q), rat_eqv]
end
end Lw

/-! MI: shares and complaints. -/
namespace Lw
open PySem Fw
/-- a sharing of numbers of k bits -/
structure ShOk (k nn : Nat) (ws : List Int) (qs : List Rat) : Prop where
  len : qs.length = nn
  sm : ∀ q ∈ qs, Sm k q
  sum : rsum qs = (wG ws (List.range nn) : Rat)
theorem ShOk.gb {k nn : Nat} {ws : List Int} {qs : List Rat} (h : ∀ q ∈ qs, Sm k q) : (D.tup (qs.map ratD)).gb k = true := by
  rw [D.gb]
  refine gbs_iff.mpr fun x hx => ?_
  obtain ⟨q, hq, rfl⟩ := List.mem_map.mp hx
  exact gb_rat.mpr (h q hq)
theorem map_ratOf (qs : List Rat) : (qs.map ratD).map ratOf = qs := by
  rw [List.map_map]
  conv => rhs; rw [← List.map_id qs]
  exact List.map_congr_left fun q _ => ratOf_ratD q
theorem shrOk_rats (nn : Nat) (w : Int) (qs : List Rat) : shrOk nn w (.tup (qs.map ratD)) = (decide (qs.length = nn) && decide (rsum qs = (w : Rat))) := by
  have h : (qs.map ratD).all fracD = true := by
    rw [List.all_eq_true]
    intro x hx
    obtain ⟨q, _, rfl⟩ := List.mem_map.mp hx
    exact rat_frac q
  simp only [shrOk, h, map_ratOf, List.length_map, Bool.true_and]
theorem ShOk.ok {k nn : Nat} {ws : List Int} {qs : List Rat} (h : ShOk k nn ws qs) : shrOk nn (wG ws (List.range nn)) (.tup (qs.map ratD)) = true := by
  rw [shrOk_rats, h.len, h.sum]
  simp
theorem getD_sm {k : Nat} {qs : List Rat} (h : ∀ q ∈ qs, Sm k q) (hk : 0 < k) (x : Nat) : Sm k (qs.getD x 0) := by
  rw [List.getD_eq_getElem?_getD]
  cases e : qs[x]? with
  | none =>
    have h1 : 1 < 2 ^ k := Nat.one_lt_two_pow (by omega)
    exact ⟨by show 0 < 2 ^ k; omega, h1⟩
  | some q => exact h q (List.mem_of_getElem? e)
theorem shG_sm {k : Nat} {qs : List Rat} (h : ∀ q ∈ qs, Sm k q) (hk : 0 < k) {g : List Nat} (hg : g.length ≤ 5) : Sm ((k + 1) * 5 + 1) (shG qs g) := by
  refine (rsum_sm (k := k) _ fun q hq => ?_).mono (by rw [List.length_map]; have := Nat.mul_le_mul_left (k + 1) hg; omega)
  obtain ⟨x, _, rfl⟩ := List.mem_map.mp hq
  exact getD_sm h hk x
theorem sm_w {m : Int} {k : Nat} {ws : List Int} (h : OkT m k ws) (hm : m ≤ 1000000) {g : List Nat} (hg : numG g < 2 ^ k) : Sm 21 ((wG ws g : Int) : Rat) := by
  have := wG_bd h hg
  exact sm_int (by omega) (by decide)
section
variable {n : Nat} {s : RS} {P : D → RS → Prop} {X : Nat → List D → RS → Prop}
theorem idx_rats {src : D} {qs : List Rat} (hs : src = .tup (qs.map ratD) ∨ src = .lst (qs.map ratD)) {x : Nat} (hx : x < qs.length) : idxD src (.int (x : Nat)) = some (ratD (qs.getD x 0)) := by
  have e : (qs.map ratD)[x]? = some (ratD (qs.getD x 0)) := by
    rw [List.getElem?_map, List.getD_eq_getElem?_getD, List.getElem?_eq_getElem hx]
    rfl
  rcases hs with rfl | rfl
  · exact idx_t e
  · exact idx_l e
theorem share_of_code {f t : Nat} (hf : S1.prog.fns f = some ⟨.plain, 2, 3, .seq (.ret (.call t (.cons (.comp .plain (.cons (.var 1) .nil) [2] (.v 2) (.lit (.bl true)) (.idx (.var 0) (.var 2))) .nil)) []) .skip⟩)
    (ht : ∀ (n : Nat) (s : RS) (qs : List Rat) (k : Nat), (∀ q ∈ qs, Sm k q) → 0 < k → (k + 1) * (qs.length + 1) ≤ 1900 → (M (n + 4)).call t [.lst (qs.map ratD)] s = .ok (ratD (rsum qs)) s) {src : D} {qs : List Rat} {k : Nat} (hs : src = .tup (qs.map ratD) ∨ src = .lst (qs.map ratD)) (hq : ∀ q ∈ qs, Sm k q) (hk : 0 < k) (hk2 : (k + 1) * 6 ≤ 1900) {g : List Nat} (hg : g.length ≤ 5) (hx : ∀ x ∈ g, x < qs.length) : (M (n + 5)).call f [src, grpD g] s = .ok (ratD (shG qs g)) s := by
  refine eq_of_w (w_call hf rfl ?_)
  simp [startS]
  refine wR_cmap natD (fun x => ratD (qs.getD x 0)) _ (fun x hx2 => ?_) ?_
  · rw [compB_w]
    simp
    refine optR_i (idx_rats hs (hx x hx2)) ?_
    simp
  · simp
    have e : (g.map fun x => ratD (qs.getD x 0)) = (g.map fun x => qs.getD x 0).map ratD := by rw [List.map_map]; rfl
    have hl : (k + 1) * ((g.map fun x => qs.getD x 0).length + 1) ≤ 1900 := by
      rw [List.length_map]
      exact Nat.le_trans (Nat.mul_le_mul_left _ (by omega)) hk2
    have z := ht n s (g.map fun x => qs.getD x 0) k (fun q hq2 => by
      obtain ⟨x, _, rfl⟩ := List.mem_map.mp hq2
      exact getD_sm hq hk x) hk hl
    rw [← e] at z
    simp at z
    refine w_ok z ?_
    simp [shG]
variable {m : Int} {k nn : Nat} {ws : List Int} {qs : List Rat} {g : List Nat}
/-- a group of the table -/
structure GrOk (nn : Nat) (g : List Nat) : Prop where
  mem : g ∈ gps nn
  n5 : nn ≤ 5
theorem GrOk.len (h : GrOk nn g) : g.length ≤ 5 := Nat.le_trans (gps_small nn g h.mem).1 h.n5
theorem GrOk.lt (h : GrOk nn g) : ∀ x ∈ g, x < nn := (gps_small nn g h.mem).2
theorem GrOk.six (h : GrOk nn g) : ∀ x ∈ g, x < 6 := fun x hx => by
  have := h.lt x hx
  have := h.n5
  omega
theorem GrOk.num (h : GrOk nn g) : numG g < 2 ^ nn := numG_lt nn g h.mem
end
end Lw

/-! MJ: bent values, odd ones. -/
namespace Lw
open PySem Fw
section
variable {n : Nat} {s : RS} {P : D → RS → Prop} {X : Nat → List D → RS → Prop}
theorem w_oddb {k b : Nat} (hb0 : 60 ≤ b) (hB : Bd (k + 1) s) (h : ∀ d s', d.gb b = true → Bd k s' → P d s') : wR ((M (n + 4)).call f_law_odd [.st] s) P X := by
  refine w_call g_law_odd rfl ?_
  unfold B_law_odd
  simp [startS]
  refine w_pickL (k := k) (by simp) (by simp) hB fun d s' hd hb => ?_
  refine h d s' (gb_mono hb0 d (gbs_iff.mp ?_ d hd)) hb
  decide +kernel
theorem w_bent : ∀ (e : Nat) {N b k : Nat} {d : D} {s : RS} {P : D → RS → Prop}, e + 5 ≤ N → d.gb b = true → 60 ≤ b → d.pln = true → d.wid 1000 = true → d.dep ≤ e → Bd (k + 5 * (e + 1)) s → (∀ d' s', d'.gb (b + 1) = true → Bd k s' → P d' s') → wR ((M N).call f_law_bent [.st, d] s) P X := by
  intro e
  induction e with
  | zero =>
    intro N b k d s P hN hg hb hp hw hd hB h
    obtain ⟨n, rfl⟩ : ∃ n, N = n + 5 := ⟨N - 5, by omega⟩
    have ht : d.isTup = false := by cases d <;> first | rfl | (simp [D.dep] at hd)
    refine w_call g_law_bent rfl ?_
    unfold B_law_bent
    simp [startS, isa_tuple (T := Cl) (good_typed (gb_good d hg)), ht]
    refine w_oddb (b := b + 1) (by omega) (hB.le (by omega)) fun d s' h1 h2 => h d s' h1 h2
  | succ e ih =>
    intro N b k d s P hN hg hb hp hw hd hB h
    obtain ⟨n, rfl⟩ : ∃ n, N = n + 5 := ⟨N - 5, by omega⟩
    refine w_call g_law_bent rfl ?_
    unfold B_law_bent
    have e1 := isa_tuple (T := Cl) (good_typed (gb_good d hg))
    by_cases ht : d.isTup = true
    · cases d with
      | tup xs =>
        have hgs : D.gbs b xs = true := by simpa [D.gb] using hg
        have hgs1 : D.gbs (b + 1) xs = true := gbs_mono (by omega) xs hgs
        have hps : D.plns xs = true := by simpa [D.pln] using hp
        have hws : xs.length ≤ 1000 ∧ D.wids 1000 xs = true := by simpa [D.wid] using hw
        have hds : D.deps xs ≤ e := by simpa [D.dep] using hd
        have hl := hws.1
        simp [startS, e1, D.isTup, c_tup_nil hps]
        refine cnd_i (fun h0 => ?_) fun h0 => ?_
        · simp
          refine w_oddb (b := b + 1) (by omega) (hB.le (by omega)) fun d s' h1 h2 => h d s' h1 h2
        have hne : 0 < xs.length := by
          cases xs with
          | nil => simp at h0
          | cons x xs => simp
        simp
        refine w_draws (k := k + 5 * (e + 1) + 4) (by omega) (by omega) (hB.le (by omega)) fun r s1 _ _ hb1 => ?_
        simp
        refine cnd_i (fun _ => ?_) fun _ => ?_
        · simp
          refine w_oddb (b := b + 1) (by omega) (hb1.le (by omega)) fun d s' h1 h2 => h d s' h1 h2
        simp
        refine w_draws (k := k + 5 * (e + 1) + 3) (by omega) (by omega) (hb1.le (by omega)) fun at_ s2 a0 a1 hb2 => ?_
        obtain ⟨i, rfl⟩ := Int.eq_ofNat_of_zero_le a0
        have hil : i < xs.length := by omega
        have hx : xs[i]? = some xs[i] := List.getElem?_eq_getElem hil
        have hmem := List.getElem_mem hil
        simp
        refine w_draws (k := k + 5 * (e + 1) + 2) (by omega) (by omega) hb2 fun way s3 _ _ hb3 => ?_
        simp
        refine cnd_i (fun _ => ?_) fun _ => ?_
        · simp [cut_to, idx_t hx]
          refine ih (k := k) (by omega) (gbs_iff.mp hgs _ hmem) hb (plns_iff.mp hps _ hmem) (wids_iff.mp hws.2 _ hmem) (deps_le.mp hds _ hmem) (hb3.le (by omega)) fun d' s4 g4 hb4 => ?_
          simp
          refine o_add_t (by simp; omega) ?_
          simp [cut_s]
          refine o_add_t (by simp; omega) ?_
          simp
          refine h _ s4 ?_ hb4
          rw [D.gb]
          refine gbs_app (gbs_take hgs1 _) ?_
          rw [D.gbs, g4, gbs_drop hgs1]
          rfl
        simp
        refine cnd_i (fun _ => ?_) fun _ => ?_
        · simp [cut_to, cut_s]
          refine o_add_t (by simp; omega) ?_
          refine h _ s3 ?_ (hb3.le (by omega))
          rw [D.gb]
          exact gbs_app (gbs_take hgs1 _) (gbs_drop hgs1 _)
        simp
        refine cnd_i (fun _ => ?_) fun _ => ?_
        · simp [cut_to]
          have em : cutD xs (some (i : Int)) (some ((i : Int) + 1)) = (xs.drop (min i xs.length)).take (min (i + 1) xs.length - min i xs.length) := cut_mid xs i (i + 1)
          rw [em]
          refine o_add_t (by simp; omega) ?_
          simp [cut_from]
          refine o_add_t (by simp; omega) ?_
          simp
          refine h _ s3 ?_ (hb3.le (by omega))
          rw [D.gb]
          exact gbs_app (gbs_take hgs1 _) (gbs_app (gbs_take (gbs_drop hgs1 _) _) (gbs_drop hgs1 _))
        simp only [s_skip, s_seq, s_ite]
        refine w_val (v := .bl (way == 6 && (xs[i]).isInt)) (t := s3) ?_ ?_
        · simp [idx_t hx]
          refine cnd_i (fun h1 => ?_) fun h1 => ?_
          · simp [idx_t hx]
            refine w_ok (law_is_whole_eq (good_typed (gb_good _ (gbs_iff.mp hgs _ hmem)))) ?_
            simp [h1]
          · simp [h1]
        · simp only [asB_bl, optR_some]
          refine cnd_i (fun h1 => ?_) fun h1 => ?_
          · have h2 : (xs[i]).isInt = true := by simp at h1; exact h1.2
            obtain ⟨v, hv⟩ : ∃ v, xs[i] = .int v := by
              cases hq : xs[i] <;> rw [hq] at h2 <;> first | exact ⟨_, rfl⟩ | (simp [D.isInt] at h2)
            have hv2 : v.natAbs < 2 ^ b := by
              have := gbs_iff.mp hgs _ hmem
              rw [hv] at this
              simpa [D.gb] using this
            have hpow : 2 ^ (b + 1) = 2 ^ b + 2 ^ b := by rw [Nat.pow_succ]; omega
            simp [cut_to, idx_t hx, hv]
            refine w_pickI (is := [1, -1]) (k := k) (by simp) (by simp) (hb3.le (by omega)) fun z s4 hz hb4 => ?_
            simp
            refine o_add_t (by simp; omega) ?_
            simp [cut_s]
            refine o_add_t (by simp; omega) ?_
            refine h _ s4 ?_ hb4
            rw [D.gb]
            simp at hz
            have h3 : (v + z).natAbs < 2 ^ (b + 1) := by omega
            exact gbs_app (gbs_app (gbs_take hgs1 _) (by simp [D.gbs, D.gb, h3])) (gbs_drop hgs1 _)
          · simp
            refine cnd_i (fun _ => ?_) fun _ => ?_
            · simp [revD]
              refine h _ s3 ?_ (hb3.le (by omega))
              rw [D.gb]
              exact gbs_iff.mpr fun x hx => gbs_iff.mp hgs1 x (by simpa using hx)
            · simp
              refine h _ s3 ?_ (hb3.le (by omega))
              rw [D.gb]
              exact hgs1
      | _ => simp [D.isTup] at ht
    · have ht' : d.isTup = false := by simpa using ht
      simp [startS, e1, ht']
      refine w_oddb (b := b + 1) (by omega) (hB.le (by omega)) fun d s' h1 h2 => h d s' h1 h2
end
end Lw

/-! MK: no tables, no groups, no sharings; sharings drawn. -/
namespace Lw
open PySem Fw
theorem cut_m1 (xs : List D) (h : xs ≠ []) : cutD xs none (some (-1)) = xs.dropLast := by
  have hl : 0 < xs.length := List.length_pos_iff.mpr h
  have e : HT.sIx xs.length xs.length (some (-1)) = xs.length - 1 := by
    show (if (-1 : Int) < 0 then ((-1 : Int) + (xs.length : Int)).toNat else min (-1 : Int).toNat xs.length) = _
    rw [if_pos (by decide)]
    omega
  unfold cutD
  rw [e, HT.sIx_none]
  simp [List.dropLast_eq_take]
theorem idx_m1 {ws : List Int} (h : ws ≠ []) : idxD (.tup (ws.map D.int)) (.int (-1)) = some (.int (ws.getD (ws.length - 1) 0)) := by
  have hl : 0 < ws.length := List.length_pos_iff.mpr h
  have e : L2.ixN (ws.map D.int).length (-1) = some (ws.length - 1) := by
    unfold L2.ixN
    rw [List.length_map, if_neg (by decide), if_pos (by omega)]
    congr 1
    omega
  have h2 : ws.length - 1 < ws.length := by omega
  simp only [idxD, e, Option.bind_some]
  rw [List.getElem?_map, List.getD_eq_getElem?_getD, List.getElem?_eq_getElem h2]
  rfl
theorem idx_last {m : Int} {k : Nat} {ws : List Int} (h : OkT m k ws) : idxD (.tup (ws.map D.int)) (.int (-1)) = some (.int (wG ws (List.range k))) := by
  have hp := h.pos
  rw [idx_m1 (by intro z; rw [z] at hp; simp at hp)]
  have := numG_range k
  have e : ws.length - 1 = numG (List.range k) := by
    rw [h.len]
    omega
  unfold wG
  rw [e]
section
variable {n : Nat} {s : RS} {P : D → RS → Prop} {X : Nat → List D → RS → Prop}
/-- what no_sharing's draws are made of -/
def goodS (nn : Nat) (w : Int) : List D := if 0 < nn then List.replicate (nn - 1) (.tup [.int 0, .int 1]) ++ [.tup [.int w, .int 1]] else []
theorem goodS_len (nn : Nat) (w : Int) : (goodS nn w).length = nn := by
  unfold goodS
  split
  · simp
    omega
  · simp
    omega
theorem goodS_init {nn : Nat} {w : Int} (h : 0 < nn) : (goodS nn w).dropLast = List.replicate (nn - 1) (.tup [.int 0, .int 1]) := by
  unfold goodS
  rw [if_pos h, List.dropLast_concat]
theorem frac01 : fracD (.tup [.int 0, .int 1]) = true := rfl
theorem rat01 : ratOf (.tup [.int 0, .int 1]) = 0 := by
  show mkRat 0 1 = 0
  exact Rat.zero_mkRat 1
theorem rsum_zeros : ∀ k : Nat, rsum (List.replicate k (0 : Rat)) = 0
  | 0 => rfl
  | k + 1 => by rw [List.replicate_succ, rsum_cons, rsum_zeros k, Rat.zero_add]
/-- not a sharing: one part in place of the last one -/
theorem noSh_last {nn : Nat} {w : Int} {x : D} (hx : fracD x = false ∨ ratOf x ≠ (w : Rat)) : shrOk nn w (.tup (List.replicate (nn - 1) (.tup [.int 0, .int 1]) ++ [x])) = false := by
  unfold shrOk
  simp only [List.all_append, List.all_cons, List.all_nil, Bool.and_true, List.map_append, List.map_cons, List.map_nil, List.map_replicate, rat01, rsum_snoc, rsum_zeros, Rat.zero_add]
  rcases hx with hx | hx
  · simp [hx]
  · simp [hx]
theorem noSh_len {nn : Nat} {w : Int} {xs : List D} (h : xs.length ≠ nn) : shrOk nn w (.tup xs) = false := by
  unfold shrOk
  simp [h]
theorem zeros_gb (k : Nat) : D.gbs 60 (List.replicate k (.tup [.int 0, .int 1])) = true := gbs_iff.mpr fun x hx => by
  rw [List.eq_of_mem_replicate hx]
  decide +kernel
theorem goodS_gb {nn : Nat} {w : Int} (hw : w.natAbs < 2 ^ 60) : D.gbs 60 (goodS nn w) = true := by
  unfold goodS
  split
  · exact gbs_app (zeros_gb _) (by simp [D.gbs, D.gb]; omega)
  · rfl
theorem mul_lst1 {x : D} {j : Int} (h0 : 0 ≤ j) (h : j ≤ 1000) : binD .mul (.lst [x]) (.int j) = some (.lst (List.replicate j.toNat x)) := by
  have e : binD .mul (.lst [x]) (.int j) = if decide (-(2 ^ 63) ≤ j) && decide (j < 2 ^ 63) && szOk ([x].length * j.toNat) then some (.lst (List.replicate j.toNat [x]).flatten) else none := rfl
  have h1 : szOk ([x].length * j.toNat) = true := szOk_of (by simp; omega)
  have h2 : -(2 ^ 63) ≤ j := by omega
  have h3 : j < 2 ^ 63 := by omega
  rw [e, h1, decide_eq_true h2, decide_eq_true h3]
  simp
end
end Lw

/-! ML: two tables together; kinds. -/
namespace Lw
open PySem Fw
def addW (a b : List Int) : List Int := (a.zip b).map fun p => p.1 + p.2
theorem addW_get (a b : List Int) (i : Nat) (h : a.length = b.length) : (addW a b).getD i 0 = a.getD i 0 + b.getD i 0 := by
  unfold addW
  simp only [List.getD_eq_getElem?_getD, List.getElem?_map, List.getElem?_zip_eq_some]
  by_cases hi : i < a.length
  · have hb : i < b.length := by omega
    have hz : i < (a.zip b).length := by rw [List.length_zip]; omega
    rw [List.getElem?_eq_getElem hz, List.getElem?_eq_getElem hi, List.getElem?_eq_getElem hb]
    simp
  · have hb : ¬ i < b.length := by omega
    have hz : ¬ i < (a.zip b).length := by rw [List.length_zip]; omega
    rw [List.getElem?_eq_none (by omega), List.getElem?_eq_none (by omega), List.getElem?_eq_none (by omega)]
    simp
theorem addW_len (a b : List Int) (h : a.length = b.length) : (addW a b).length = a.length := by simp [addW, h]
theorem addW_ok {m1 m2 : Int} {n : Nat} {a b : List Int} (ha : OkT m1 n a) (hb : OkT m2 n b) : OkT (m1 + m2) n (addW a b) := by
  have hl : a.length = b.length := by rw [ha.len, hb.len]
  refine ⟨ha.n5, by rw [addW_len a b hl, ha.len], ?_, fun w hw => ?_⟩
  · have h1 := ha.hd
    have h2 := hb.hd
    cases a with
    | nil => simp at h1
    | cons x a =>
      cases b with
      | nil => simp at h2
      | cons y b =>
        simp at h1 h2
        subst h1 h2
        rfl
  · obtain ⟨⟨x, y⟩, hp, rfl⟩ := List.mem_map.mp hw
    have h1 := ha.bd x (List.of_mem_zip hp).1
    have h2 := hb.bd y (List.of_mem_zip hp).2
    show -(m1 + m2) ≤ x + y ∧ x + y ≤ m1 + m2
    omega
theorem wG_add {m1 m2 : Int} {n : Nat} {a b : List Int} (ha : OkT m1 n a) (hb : OkT m2 n b) (g : List Nat) : wG (addW a b) g = wG a g + wG b g := addW_get a b _ (by rw [ha.len, hb.len])
section
variable {n : Nat} {s : RS} {P : D → RS → Prop} {X : Nat → List D → RS → Prop}
theorem is_bb (a b : Bool) : cmpD .isN (.bl a) (.bl b) = some (a == b) := (rfl)
theorem not_bb (a b : Bool) : cmpD .notN (.bl a) (.bl b) = some (a != b) := (rfl)
theorem pow_10_5 : binD .pow (.int 10) (.int 5) = some (.int 100000) := by rw [pow_i (by decide) (by decide) (by decide)]; rfl
theorem truth_eq (a b : Bool) : (M (n + 1)).call f_law_is_truth [.bl a, .bl b] s = .ok (.bl (a == b)) s := by
  refine eq_of_w (w_call g_law_is_truth rfl ?_)
  unfold B_law_is_truth
  simp [startS]
  cases b <;> cases a <;> simp [cmp_bl, is_bb, wR_lift']
theorem maxI_ge : ∀ (l : List Int) (m : Int), m ≤ maxI m l ∧ ∀ x ∈ l, x ≤ maxI m l
  | [], m => ⟨Int.le_refl _, by simp⟩
  | y :: l, m => by
    obtain ⟨h1, h2⟩ := maxI_ge l (if m < y then y else m)
    have h3 : m ≤ (if m < y then y else m) ∧ y ≤ (if m < y then y else m) := by split <;> omega
    refine ⟨Int.le_trans h3.1 h1, fun x hx => ?_⟩
    rcases List.mem_cons.mp hx with rfl | hx
    · exact Int.le_trans h3.2 h1
    · exact h2 x hx
/-- the greatest of some numbers -/
theorem blt_maxl {ws : List Int} (h : ws ≠ []) : ∃ m, bltD .maxl [.lst (ws.map D.int)] = some (.int m) ∧ ∀ x ∈ ws, x ≤ m := by
  cases ws with
  | nil => exact absurd rfl h
  | cons a l =>
    refine ⟨maxI a l, by simp [bltD, intsD_map, intsD], fun x hx => ?_⟩
    obtain ⟨h1, h2⟩ := maxI_ge l a
    rcases List.mem_cons.mp hx with rfl | hx
    · exact h1
    · exact h2 x hx
theorem rp_rat2 {q : Rat} {k : Nat} (h : Sm k q) (hk : k ≤ 1800) : rpD (.lst [ratD q, ratD q]) = some (.str (toPy (.lst [ratD q, ratD q])).shown) := by
  have h1 : q.num.natAbs.log2 < 1900 := log2_of (Nat.lt_of_lt_of_le h.1 (Nat.pow_le_pow_right (by decide) (by omega))) (by decide)
  have h2 : q.den.log2 < 1900 := log2_of (Nat.lt_of_lt_of_le h.2 (Nat.pow_le_pow_right (by decide) (by omega))) (by decide)
  refine rp_ok ?_ ?_ ?_
  · simp [ratD, D.shw, D.shws, h1, h2]
  · simp [ratD, D.wt, D.wts]
    omega
  · simp [ratD, D.dep, D.deps]
end
end Lw

/-! MM: groups and the others, sums of sharings. -/
namespace Lw
open PySem Fw
theorem rats_pln : ∀ qs : List Rat, D.plns (qs.map ratD) = true := fun qs => plns_iff.mpr fun x hx => by
  obtain ⟨q, _, rfl⟩ := List.mem_map.mp hx
  rfl
theorem rats_wid : ∀ qs : List Rat, D.wids 1000 (qs.map ratD) = true := fun qs => wids_iff.mpr fun x hx => by
  obtain ⟨q, _, rfl⟩ := List.mem_map.mp hx
  simp [ratD, D.wid, D.wids]
theorem rats_dep : ∀ qs : List Rat, D.deps (qs.map ratD) ≤ 1 := fun qs => deps_le.mpr fun x hx => by
  obtain ⟨q, _, rfl⟩ := List.mem_map.mp hx
  simp [ratD, D.dep, D.deps]
theorem gps_all (p : Nat → Bool) : ∀ n, (List.range n).filter p ∈ gps n
  | 0 => by simp [gps]
  | n + 1 => by
    have ih := gps_all p n
    unfold gps
    rw [List.range_succ, List.filter_append]
    by_cases h : p n = true
    · have e : [n].filter p = [n] := by simp [h]
      rw [e]
      exact List.mem_append_right _ (List.mem_map_of_mem ih)
    · have e : [n].filter p = [] := by simp [h]
      rw [e, List.append_nil]
      exact List.mem_append_left _ ih
/-- the others -/
def oth (n : Nat) (g : List Nat) : List Nat := (List.range n).filter fun x => !decide (x ∈ g)
theorem oth_mem (n : Nat) (g : List Nat) : oth n g ∈ gps n := gps_all _ n
theorem oth_sum (f : Nat → Rat) : ∀ n, ∀ g ∈ gps n, rsum (g.map f) + rsum ((oth n g).map f) = rsum ((List.range n).map f)
  | 0, g, hg => by
    simp [gps] at hg
    subst hg
    simp [oth, rsum]
    grind
  | n + 1, g, hg => by
    unfold gps at hg
    have key : ∀ g' ∈ gps n, oth n g' = (List.range n).filter fun x => !decide (x ∈ g' ++ [n]) := fun g' h => by
      unfold oth
      refine List.filter_congr fun x hx => ?_
      have hx := List.mem_range.mp hx
      have h2 : ¬ x = n := by omega
      simp [h2]
    rcases List.mem_append.mp hg with h | h
    · have ih := oth_sum f n g h
      have hn : n ∉ g := fun hh => by have := (gps_small n g h).2 n hh; omega
      have e : oth (n + 1) g = oth n g ++ [n] := by
        unfold oth
        rw [List.range_succ, List.filter_append]
        congr 1
        simp [hn]
      rw [e, List.range_succ, List.map_append, List.map_append, rsum_app, rsum_app, ← ih, Rat.add_assoc]
    · obtain ⟨g', h', rfl⟩ := List.mem_map.mp h
      have ih := oth_sum f n g' h'
      have e : oth (n + 1) (g' ++ [n]) = oth n g' := by
        rw [key g' h']
        unfold oth
        rw [List.range_succ, List.filter_append]
        simp
      rw [e, List.range_succ, List.map_append, List.map_append, rsum_app, rsum_app, ← ih, Rat.add_assoc, Rat.add_assoc, Rat.add_comm (rsum (List.map f [n]))]
theorem rsum_range (qs : List Rat) : rsum ((List.range qs.length).map fun x => qs.getD x 0) = rsum qs := by
  congr 1
  refine List.ext_getElem (by simp) fun i h1 h2 => ?_
  simp [List.getD_eq_getElem?_getD, List.getElem?_eq_getElem h2]
theorem shG_oth {nn : Nat} {qs : List Rat} (hl : qs.length = nn) {g : List Nat} (hg : g ∈ gps nn) : shG qs g + shG qs (oth nn g) = rsum qs := by
  subst hl
  have z := oth_sum (fun x => qs.getD x 0) qs.length g hg
  rw [rsum_range] at z
  exact z
def addQ (a b : List Rat) : List Rat := (a.zip b).map fun p => p.1 + p.2
theorem addQ_len {a b : List Rat} (h : a.length = b.length) : (addQ a b).length = a.length := by simp [addQ, h]
theorem addQ_get (a b : List Rat) (i : Nat) (h : a.length = b.length) : (addQ a b).getD i 0 = a.getD i 0 + b.getD i 0 := by
  unfold addQ
  by_cases hi : i < a.length
  · have hb : i < b.length := by omega
    have hz : i < (a.zip b).length := by rw [List.length_zip]; omega
    simp only [List.getD_eq_getElem?_getD, List.getElem?_map]
    rw [List.getElem?_eq_getElem hz, List.getElem?_eq_getElem hi, List.getElem?_eq_getElem hb]
    simp
  · have hb : ¬ i < b.length := by omega
    have hz : ¬ i < (a.zip b).length := by rw [List.length_zip]; omega
    simp only [List.getD_eq_getElem?_getD, List.getElem?_map]
    rw [List.getElem?_eq_none (by omega), List.getElem?_eq_none (by omega), List.getElem?_eq_none (by omega)]
    simp
    grind
theorem rsum_add2 (f g : Nat → Rat) : ∀ l : List Nat, rsum (l.map fun x => f x + g x) = rsum (l.map f) + rsum (l.map g)
  | [] => by
    simp [rsum]
    grind
  | x :: l => by
    simp only [List.map_cons, rsum_cons, rsum_add2 f g l]
    grind
theorem shG_add {a b : List Rat} (h : a.length = b.length) (g : List Nat) : shG (addQ a b) g = shG a g + shG b g := by
  unfold shG
  rw [← rsum_add2]
  congr 1
  exact List.map_congr_left fun x _ => addQ_get a b x h
theorem rsum_addQ {a b : List Rat} (h : a.length = b.length) : rsum (addQ a b) = rsum a + rsum b := by
  have z := shG_add h (List.range a.length)
  unfold shG at z
  have e1 := rsum_range (addQ a b)
  rw [addQ_len h] at e1
  rw [e1, rsum_range a, h, rsum_range b] at z
  exact z
theorem ShOk.add {nn : Nat} {m1 m2 : Int} {a b : List Int} {j k : Nat} {p q : List Rat} (oa : OkT m1 nn a) (ob : OkT m2 nn b) (ha : ShOk j nn a p) (hb : ShOk k nn b q) : ShOk (j + k + 1) nn (addW a b) (addQ p q) := by
  have hl : p.length = q.length := by rw [ha.len, hb.len]
  refine ⟨by rw [addQ_len hl, ha.len], fun x hx => ?_, ?_⟩
  · obtain ⟨⟨y, z⟩, hm, rfl⟩ := List.mem_map.mp hx
    exact (ha.sm y (List.of_mem_zip hm).1).add (hb.sm z (List.of_mem_zip hm).2)
  · rw [rsum_addQ hl, ha.sum, hb.sum, wG_add oa ob]
    simp
theorem gps_ne (n : Nat) : gps n ≠ [] := List.ne_nil_of_mem (gps_all (fun _ => false) n)
theorem it_gps (n : Nat) : itemsD .plain [gpsD n] = some ((gps n).map grpD) := rfl
/-- is it a tuple of many fractions -/
def prtOk (nn : Nat) : D → Bool
  | .tup xs => decide (xs.length = nn) && xs.all fracD
  | _ => false
theorem prt_no {nn : Nat} {w : Int} {d : D} (h : prtOk nn d = false) : shrOk nn w d = false := by
  cases d with
  | tup xs =>
    have h : (decide (xs.length = nn) && xs.all fracD) = false := h
    simp only [shrOk]
    rw [← Bool.and_assoc, h]
    rfl
  | _ => rfl
theorem prt_yes {nn : Nat} {d : D} (h : prtOk nn d = true) : ∃ qs : List Rat, d = .tup (qs.map ratD) ∧ qs.length = nn := by
  cases d with
  | tup xs =>
    have h : (decide (xs.length = nn) && xs.all fracD) = true := h
    rw [Bool.and_eq_true] at h
    have e := rats_of h.2
    exact ⟨xs.map ratOf, by rw [← e], by simpa using h.1⟩
  | _ => cases h
theorem both_law (a b c x y : Rat) (h : x + y = c) : (a - x) + (b - y) = a + b - c := by grind
theorem both_law2 (a b x y : Rat) : (a + b) - (x + y) = (a - x) + (b - y) := by grind
theorem wS_cut {r : SRes} {p : WS} (Q : List Sl → RS → Prop) (h : wS r ⟨Q, p.rt, p.bk, p.ct, p.er⟩) (k : ∀ σ s, Q σ s → p.nx σ s) : wS r p := wS_imp h k (fun _ _ z => z) (fun _ _ z => z) (fun _ _ z => z) fun _ _ _ z => z
section
variable {n : Nat} {s : RS} {P : D → RS → Prop} {X : Nat → List D → RS → Prop} {m : Int} {k nn : Nat} {ws : List Int} {qs : List Rat}
end
end Lw

/-! NA: products and comparisons of fractions, sums of products. -/
namespace Lw
open PySem Fw
section
variable {n : Nat} {s : RS} {P : D → RS → Prop} {X : Nat → List D → RS → Prop}
theorem sm_mul {p q : Rat} {j k : Nat} (hp : Sm j p) (hq : Sm k q) : Sm (j + k) (p * q) := by
  rw [Rat.mul_def']
  exact mkRat_sm (Nat.ne_of_gt (den_mul_pos p q)) (imul_lt hp.1 hq.1) (mul_lt hp.2 hq.2)
theorem multiplied_eq {p q : Rat} {j k : Nat} (hp : Sm j p) (hq : Sm k q) (hj : 0 < j) (hk : 0 < k) (h : j + k ≤ 1900) : (M (n + 3)).call f_multiplied [ratD p, ratD q] s = .ok (ratD (p * q)) s := by
  obtain ⟨m1, m2, m3⟩ := parts_mul hp hq hj hk (by omega)
  have m4 : mulOk p.num q.num = true := mulOk_b hp.1 hq.1 hj hk (by omega)
  refine eq_of_w (w_call g_multiplied rfl ?_)
  unfold B_multiplied
  simp [startS, ratD, mul_i, m3, m4]
  have e : ((p.den : Int) * (q.den : Int)) = ((p.den * q.den : Nat) : Int) := by omega
  rw [e]
  refine w_ok (lowest_eq (den_mul_pos p q) (imul_lt hp.1 hq.1) (mul_lt hp.2 hq.2) (by omega)) ?_
  simp [Rat.mul_def', ratD]
theorem fr_times_eq {p q : Rat} {j k : Nat} (hp : Sm j p) (hq : Sm k q) (hj : 0 < j) (hk : 0 < k) (h : j + k ≤ 1900) : (M (n + 3)).call f_law_fr_times [ratD p, ratD q] s = .ok (ratD (p * q)) s := by
  obtain ⟨m1, m2, m3⟩ := parts_mul hp hq hj hk (by omega)
  have m4 : mulOk p.num q.num = true := mulOk_b hp.1 hq.1 hj hk (by omega)
  refine eq_of_w (w_call g_law_fr_times rfl ?_)
  unfold B_law_fr_times
  simp [startS, ratD, mul_i, m3, m4]
  have e : ((p.den : Int) * (q.den : Int)) = ((p.den * q.den : Nat) : Int) := by omega
  rw [e]
  refine w_ok (fr_eq (den_mul_pos p q) (imul_lt hp.1 hq.1) (mul_lt hp.2 hq.2) (by omega)) ?_
  simp [Rat.mul_def', ratD]
theorem below_eq {p q : Rat} {j k : Nat} (hp : Sm j p) (hq : Sm k q) (hj : 0 < j) (hk : 0 < k) (h : j + k ≤ 3000) : (M (n + 1)).call f_below [ratD p, ratD q] s = .ok (.bl (decide (p < q))) s := by
  obtain ⟨m1, m2, m3⟩ := parts_mul hp hq hj hk h
  refine eq_of_w (w_call g_below rfl ?_)
  unfold B_below
  simp [startS, ratD, mul_i, m1, m2, Rat.lt_iff]
theorem fr_below_eq {p q : Rat} {j k : Nat} (hp : Sm j p) (hq : Sm k q) (hj : 0 < j) (hk : 0 < k) (h : j + k ≤ 3000) : (M (n + 1)).call f_law_fr_below [ratD p, ratD q] s = .ok (.bl (decide (p < q))) s := by
  obtain ⟨m1, m2, m3⟩ := parts_mul hp hq hj hk h
  refine eq_of_w (w_call g_law_fr_below rfl ?_)
  unfold B_law_fr_below
  simp [startS, ratD, mul_i, m1, m2, Rat.lt_iff]
/-- the sum of the products of two rows -/
def dotQ (a b : List Rat) : Rat := rsum ((a.zip b).map fun p => p.1 * p.2)
theorem dotQ_nil (b : List Rat) : dotQ [] b = 0 := rfl
theorem dotQ_cons (x y : Rat) (a b : List Rat) : dotQ (x :: a) (y :: b) = x * y + dotQ a b := by
  unfold dotQ
  rw [List.zip_cons_cons, List.map_cons, rsum_cons]
theorem zip_le {α β : Type} (a : List α) (b : List β) : (a.zip b).length ≤ a.length := by
  rw [List.length_zip]
  omega
/-- a row: a tuple or a list of fractions -/
def isRow (src : D) (qs : List Rat) : Prop := src = .tup (qs.map ratD) ∨ src = .lst (qs.map ratD)
theorem it_zip {src src2 : D} {a b : List Rat} (h : isRow src a) (h2 : isRow src2 b) : itemsD .zip [src, src2] = some ((a.zip b).map fun p => .tup [ratD p.1, ratD p.2]) := by
  have e := zipD_map ratD ratD a b
  rcases h with rfl | rfl <;> rcases h2 with rfl | rfl <;> first | exact congrArg some e | exact (congrArg some e :)
theorem sum_of_eq {src src2 : D} {a b : List Rat} {j k : Nat} (h : isRow src a) (h2 : isRow src2 b) (ha : ∀ q ∈ a, Sm j q) (hb : ∀ q ∈ b, Sm k q) (hj : 0 < j) (hk : 0 < k) (hl : (j + k + 1) * (a.length + 1) ≤ 1900) : (M (n + 5)).call f_sum_of [src, src2] s = .ok (ratD (dotQ a b)) s := by
  have hl1 : j + k + 1 ≤ (j + k + 1) * (a.length + 1) := Nat.le_mul_of_pos_right _ (by omega)
  have hz := zip_le a b
  have hl2 : (j + k + 1) * ((a.zip b).length + 1) ≤ (j + k + 1) * (a.length + 1) := Nat.mul_le_mul_left _ (by omega)
  refine eq_of_w (w_call g_sum_of rfl ?_)
  unfold B_sum_of
  simp [startS]
  refine optR_i (it_zip h h2) ?_
  refine wR_cmap (fun p : Rat × Rat => .tup [ratD p.1, ratD p.2]) (fun p => ratD (p.1 * p.2)) _ (fun p hp => ?_) ?_
  · rw [compB_w]
    simp
    refine w_ok (multiplied_eq (ha _ (List.of_mem_zip hp).1) (hb _ (List.of_mem_zip hp).2) hj hk (by omega)) ?_
    simp
  have e : (a.zip b).map (fun p => ratD (p.1 * p.2)) = ((a.zip b).map fun p => p.1 * p.2).map ratD := by
    rw [List.map_map]
    rfl
  rw [e]
  simp [-List.map_map]
  refine w_ok (total_eq (k := j + k) (.inr rfl) (fun q hq => ?_) (by omega) (by rw [List.length_map]; omega)) ?_
  · obtain ⟨p, hp, rfl⟩ := List.mem_map.mp hq
    exact sm_mul (ha _ (List.of_mem_zip hp).1) (hb _ (List.of_mem_zip hp).2)
  exact ⟨rfl, rfl⟩
theorem num_ne (p : Rat) : (p.num != 0) = !decide (p = 0) := by
  by_cases h : p = 0
  · subst h
    rfl
  · have : p.num ≠ 0 := fun z => h (Rat.num_eq_zero.mp z)
    simp [h, this]
theorem fma_eq (f p q : Rat) : mkRat (f.num * p.den * q.den + p.num * q.num * f.den) (f.den * p.den * q.den) = f + p * q := by
  have e1 : f = mkRat f.num f.den := (Rat.mkRat_self f).symm
  have e2 := Rat.mul_def' p q
  rw [e2]
  conv => rhs; rw [e1]
  rw [Rat.mkRat_add_mkRat _ _ f.den_nz (Nat.ne_of_gt (den_mul_pos p q))]
  congr 1
  · rw [Int.natCast_mul, Int.mul_assoc]
  · rw [Nat.mul_assoc]
theorem dot_sm {a b : List Rat} {j k : Nat} (ha : ∀ q ∈ a, Sm j q) (hb : ∀ q ∈ b, Sm k q) : Sm ((j + k + 1) * a.length + 1) (dotQ a b) := by
  refine (rsum_sm (k := j + k) _ fun q hq => ?_).mono ?_
  · obtain ⟨p, hp, rfl⟩ := List.mem_map.mp hq
    exact sm_mul (ha _ (List.of_mem_zip hp).1) (hb _ (List.of_mem_zip hp).2)
  · have := zip_le a b
    rw [List.length_map]
    have h2 : (j + k + 1) * (a.zip b).length ≤ (j + k + 1) * a.length := Nat.mul_le_mul_left _ this
    omega
end
end Lw

/-! NB: rows, limits, weights: what is asked, by both. -/
namespace Lw
open PySem Fw
/-- so many fractions -/
def frs (n : Nat) : D → Option (List Rat)
  | .tup xs => if xs.length = n ∧ xs.all fracD = true then some (xs.map ratOf) else none
  | _ => none
theorem frs_t (n : Nat) (xs : List D) : frs n (.tup xs) = if xs.length = n ∧ xs.all fracD = true then some (xs.map ratOf) else none := rfl
theorem frs_some {n : Nat} {d : D} {qs : List Rat} (h : frs n d = some qs) : d = .tup (qs.map ratD) ∧ qs.length = n := by
  cases d with
  | tup xs =>
    rw [frs_t] at h
    by_cases hc : xs.length = n ∧ xs.all fracD = true
    · rw [if_pos hc] at h
      cases h
      exact ⟨by rw [← rats_of hc.2], by rw [List.length_map]; exact hc.1⟩
    · rw [if_neg hc] at h
      cases h
  | _ => cases h
theorem frs_rats (qs : List Rat) : frs qs.length (.tup (qs.map ratD)) = some qs := by
  rw [frs_t, if_pos ⟨by rw [List.length_map], List.all_eq_true.mpr fun x hx => by
    obtain ⟨q, _, rfl⟩ := List.mem_map.mp hx
    exact rat_frac q⟩, map_ratOf]
section
variable {n : Nat} {s : RS} {P : D → RS → Prop} {X : Nat → List D → RS → Prop}
theorem are_fractions_eq {k m : Nat} {d : D} (h : d.gb k = true) (hk : k ≤ 2000) : (M (n + 3)).call f_are_fractions [.int m, d] s = .ok (.bl (frs m d).isSome) s := by
  refine eq_of_w (w_call g_are_fractions rfl ?_)
  unfold B_are_fractions
  have e1 := isa_tuple (T := Cl) (good_typed (gb_good d h))
  simp [startS, e1]
  cases d with
  | tup xs =>
    have hg : ∀ x ∈ xs, x.gb k = true := gbs_iff.mp (by simpa [D.gb] using h)
    simp [D.isTup]
    refine cnd_i (fun h2 => ?_) fun h2 => ?_
    · simp at h2
      have h3 : xs.length = m := by omega
      simp
      refine wR_cmapD (fun d => .bl (fracD d)) _ (fun d hd => ?_) ?_
      · rw [compB_w]
        simp
        refine w_ok (is_fraction_eq (gb_good d (hg d hd)) (gb_frac (hg d hd)) hk) ?_
        simp
      · simp
        refine optR_i (blt_all_map _ _) ?_
        rw [frs_t]
        by_cases h4 : xs.all fracD = true
        · simp [h3, h4]
        · simp [h3, h4]
    · simp at h2
      have h3 : ¬ xs.length = m := by omega
      simp [h3, frs_t]
  | _ => simp [D.isTup, frs]
theorem hb_are_eq {k m : Nat} {d : D} (h : d.gb k = true) (hk : k ≤ 2000) : (M (n + 3)).call f_law_hb_are [.int m, d] s = .ok (.bl (frs m d).isSome) s := by
  refine eq_of_w (w_call g_law_hb_are rfl ?_)
  unfold B_law_hb_are
  have e1 := isa_tuple (T := Cl) (good_typed (gb_good d h))
  simp [startS, e1]
  cases d with
  | tup xs =>
    have hg : ∀ x ∈ xs, x.gb k = true := gbs_iff.mp (by simpa [D.gb] using h)
    simp [D.isTup]
    refine cnd_i (fun h2 => ?_) fun h2 => ?_
    · simp at h2
      have h3 : xs.length = m := by omega
      simp
      refine wR_cfilD (fun y => !fracD y) (fun _ => .int 1) _ (fun y hy => ?_) ?_
      · rw [compB_w]
        simp
        refine w_ok (fr_is_eq (gb_good y (hg y hy)) (gb_frac (hg y hy)) hk) ?_
        cases fracD y <;> simp
      · have e2 : (frs m (.tup xs)).isSome = xs.all fracD := by
          rw [frs_t]
          by_cases h4 : xs.all fracD = true
          · rw [if_pos ⟨h3, h4⟩, h4]
            rfl
          · rw [if_neg fun z => h4 z.2]
            simp at h4 ⊢
            exact h4
        rw [e2]
        simp
        rw [Bool.eq_iff_iff]
        simp
    · simp at h2
      have h3 : ¬ xs.length = m := by omega
      simp [h3, frs_t]
  | _ => simp [D.isTup, frs]
theorem hb_times_eq {src src2 : D} {a b : List Rat} {j k : Nat} (h : isRow src a) (h2 : isRow src2 b) (ha : ∀ q ∈ a, Sm j q) (hb : ∀ q ∈ b, Sm k q) (hj : 0 < j) (hk : 0 < k) (hl : (j + k + 1) * (a.length + 1) ≤ 1900) : (M (n + 5)).call f_law_hb_times [src, src2] s = .ok (ratD (dotQ a b)) s := by
  have hz := zip_le a b
  refine eq_of_w (w_call g_law_hb_times rfl ?_)
  unfold B_law_hb_times
  simp [startS]
  refine optR_i (it_zip h h2) ?_
  refine wS_forI (fun i σ s' => s' = s ∧ ∃ x y, σ = [.val src, .val src2, .val (ratD (rsum (((a.zip b).map fun p => p.1 * p.2).take i))), x, y] ∧ Sm ((j + k + 1) * i + 1) (rsum (((a.zip b).map fun p => p.1 * p.2).take i))) _ (fun i x σ s' hx hI => ?_) ⟨rfl, _, _, rfl, by simp [rsum, Sm]⟩ fun σ s' hI => ?_
  · obtain ⟨rfl, x1, y1, rfl, hsm⟩ := hI
    rw [List.getElem?_map] at hx
    obtain ⟨p, hpi, rfl⟩ := Option.map_eq_some_iff.mp hx
    obtain ⟨hi, e⟩ := List.getElem?_eq_some_iff.mp hpi
    have hm : p ∈ a.zip b := e ▸ List.getElem_mem hi
    have hp := ha _ (List.of_mem_zip hm).1
    have hq := hb _ (List.of_mem_zip hm).2
    have hsum : rsum (((a.zip b).map fun p => p.1 * p.2).take (i + 1)) = rsum (((a.zip b).map fun p => p.1 * p.2).take i) + p.1 * p.2 := by
      unfold rsum
      rw [List.take_succ, List.getElem?_map, hpi]
      simp
    have hb1 : (j + k + 1) * (i + 1) ≤ (j + k + 1) * a.length := Nat.mul_le_mul_left _ (by omega)
    have hb2 : (j + k + 1) * (a.length + 1) = (j + k + 1) * a.length + (j + k + 1) := Nat.mul_succ _ _
    have hb3 : (j + k + 1) * (i + 1) = (j + k + 1) * i + (j + k + 1) := Nat.mul_succ _ _
    rw [hsum]
    generalize rsum (((a.zip b).map fun p => p.1 * p.2).take i) = f at hsm ⊢
    have hc : Sm ((j + k + 1) * (i + 1) + 1) (f + p.1 * p.2) := (hsm.add (sm_mul hp hq)).mono (by omega)
    obtain ⟨p1, p2⟩ := p
    simp only at hp hq hc ⊢
    by_cases h0 : p1 = 0 ∨ p2 = 0
    · have e0 : f + p1 * p2 = f := by
        rcases h0 with h0 | h0 <;> rw [h0] <;> grind
      rw [e0] at hc ⊢
      simp [ratD]
      rcases h0 with h0 | h0
      · have n1 : p1.num = 0 := Rat.num_eq_zero.mpr h0
        simp [n1]
        exact hc
      · have n2 : p2.num = 0 := Rat.num_eq_zero.mpr h0
        refine cnd_i (fun _ => ?_) fun _ => ?_
        · simp [n2]
          exact hc
        · simp
          exact hc
    · have n1 : ¬ p1.num = 0 := fun z => h0 (.inl (Rat.num_eq_zero.mp z))
      have n2 : ¬ p2.num = 0 := fun z => h0 (.inr (Rat.num_eq_zero.mp z))
      have n1 : (p1.num == 0) = false := by simpa using n1
      have n2 : (p2.num == 0) = false := by simpa using n2
      have fd : ((f.den : Nat) : Int).natAbs < 2 ^ ((j + k + 1) * i + 1) := by rw [Int.natAbs_natCast]; exact hsm.2
      have d1 : ((p1.den : Nat) : Int).natAbs < 2 ^ j := by rw [Int.natAbs_natCast]; exact hp.2
      have d2 : ((p2.den : Nat) : Int).natAbs < 2 ^ k := by rw [Int.natAbs_natCast]; exact hq.2
      have u1 := imul_lt hsm.1 d1
      have u2 := imul_lt hp.1 hq.1
      have u3 := imul_lt fd d1
      have v1 := imul_lt u1 d2
      have v2 := imul_lt u2 fd
      have v3 := imul_lt u3 d2
      have m1 : mulOk f.num p1.den = true := mulOk_b hsm.1 d1 (by omega) hj (by omega)
      have m2 : mulOk (f.num * p1.den) p2.den = true := mulOk_b u1 d2 (by omega) hk (by omega)
      have m3 : mulOk p1.num p2.num = true := mulOk_b hp.1 hq.1 hj hk (by omega)
      have m4 : mulOk (p1.num * p2.num) f.den = true := mulOk_b u2 fd (by omega) (by omega) (by omega)
      have m5 : mulOk f.den p1.den = true := mulOk_b fd d1 (by omega) hj (by omega)
      have m6 : mulOk (f.den * p1.den) p2.den = true := mulOk_b u3 d2 (by omega) hk (by omega)
      have w2 : (p1.num * p2.num * f.den).natAbs < 2 ^ ((j + k + 1) * i + 1 + j + k) := Nat.lt_of_lt_of_le v2 (Nat.pow_le_pow_right (by decide) (by omega))
      have w1 := iadd_lt v1 w2
      have hpos : 0 < f.den * p1.den * p2.den := Nat.mul_pos (den_mul_pos f p1) (den_pos p2)
      have w3 : f.den * p1.den * p2.den < 2 ^ ((j + k + 1) * i + 1 + j + k + 1) := by
        have z : (f.den * p1.den * p2.den) < 2 ^ ((j + k + 1) * i + 1 + j + k) := mul_lt (mul_lt hsm.2 hp.2) hq.2
        exact Nat.lt_of_lt_of_le z (Nat.pow_le_pow_right (by decide) (by omega))
      have e : ((f.den : Int) * (p1.den : Int) * (p2.den : Int)) = ((f.den * p1.den * p2.den : Nat) : Int) := by rw [Int.natCast_mul, Int.natCast_mul]
      have call := fr_eq (n := n + 2) (s := s') hpos w1 w3 (by omega)
      rw [fma_eq] at call
      simp [ratD, n1, n2, mul_i, m1, m2, m3, m4, m5, m6]
      rw [e]
      refine w_ok call ?_
      simp [ratD]
      exact hc
  · obtain ⟨rfl, x1, y1, rfl, hsm⟩ := hI
    rw [List.length_map, List.take_of_length_le (by simp)]
    simp
    exact rfl
end
end Lw

/-! NC: limits and weights. -/
namespace Lw
open PySem Fw
/-- a limit: just, or least; parts; bound -/
structure Lim where
  w : Bool
  p : List Rat
  b : Rat
def wordS (w : Bool) : Str := if w then ("just" : Str) else ("least" : Str)
theorem word_just (w : Bool) : (wordS w == ("just" : Str)) = w := by cases w <;> kernel_rfl
theorem word_least (w : Bool) : (wordS w == ("least" : Str)) = !w := by cases w <;> kernel_rfl
def limD (l : Lim) : D := .tup [.str (wordS l.w), .tup (l.p.map ratD), ratD l.b]
def isLims (src : D) (ls : List Lim) : Prop := src = .tup (ls.map limD) ∨ src = .lst (ls.map limD)
structure LimOk (n : Nat) (l : Lim) : Prop where
  len : l.p.length = n
  sm : ∀ q ∈ l.p, Sm 13 q
  bd : Sm 61 l.b
/-- does a setting keep one limit -/
def keep1 (x : List Rat) (l : Lim) : Bool := !decide (dotQ l.p x < l.b) && (!l.w || decide (dotQ l.p x = l.b))
def keepsQ (ls : List Lim) (x : List Rat) : Bool := ls.all (keep1 x)
def wgtQ (ls : List Lim) (ws : List Rat) : Bool := (ls.zip ws).all fun p => p.1.w || decide (0 ≤ p.2)
def colQ (ls : List Lim) (i : Nat) (ws : List Rat) : Rat := dotQ (ls.map fun l => l.p.getD i 0) ws
def bndQ (ls : List Lim) (ws : List Rat) : Rat := dotQ (ls.map (·.b)) ws
theorem it_lims {src : D} {ls : List Lim} (h : isLims src ls) : itemsD .plain [src] = some (ls.map limD) := by rcases h with rfl | rfl <;> rfl
section
variable {n nn : Nat} {s : RS} {P : D → RS → Prop} {X : Nat → List D → RS → Prop} {ls : List Lim} {x ws : List Rat} {V : Nat}
theorem dot_b (l : Lim) (hl : LimOk nn l) (hn : nn ≤ 8) (hx : ∀ q ∈ x, Sm V q) (hV : V ≤ 141) : Sm 1241 (dotQ l.p x) := by
  refine (dot_sm hl.sm hx).mono ?_
  rw [hl.len]
  have := Nat.mul_le_mul (show 13 + V + 1 ≤ 155 by omega) hn
  omega
theorem keeps_eq {src src2 : D} (h : isLims src ls) (h2 : isRow src2 x) (hl : ∀ l ∈ ls, LimOk nn l) (hn : nn ≤ 8) (hx : ∀ q ∈ x, Sm V q) (hV0 : 0 < V) (hV : V ≤ 141) : (M (n + 6)).call f_keeps [src, src2] s = .ok (.bl (keepsQ ls x)) s := by
  refine eq_of_w (w_call g_keeps rfl ?_)
  unfold B_keeps
  simp [startS]
  refine optR_i (it_lims h) ?_
  refine wS_forI (fun i σ s' => s' = s ∧ (∃ a b c d, σ = [.val src, .val src2, a, b, c, d]) ∧ (ls.take i).all (keep1 x) = true) _ (fun i y σ s' hx' hI => ?_) ⟨rfl, ⟨_, _, _, _, rfl⟩, rfl⟩ fun σ s' hI => ?_
  · obtain ⟨rfl, ⟨a, b, c, d, rfl⟩, hall⟩ := hI
    rw [List.getElem?_map] at hx'
    obtain ⟨l, hli, rfl⟩ := Option.map_eq_some_iff.mp hx'
    have hm : l ∈ ls := List.mem_of_getElem? hli
    have hlo := hl l hm
    have hd := dot_b l hlo hn hx hV
    have hb9 := Nat.mul_le_mul (show 13 + V + 1 ≤ 155 by omega) (show l.p.length + 1 ≤ 9 by rw [hlo.len]; omega)
    have fin : (ls.take (i + 1)).all (keep1 x) = keep1 x l := by
      rw [List.take_succ, hli, List.all_append, hall]
      simp
    have bad : keep1 x l = false → keepsQ ls x = false := fun z => by
      cases e : keepsQ ls x with
      | false => rfl
      | true =>
        have := List.all_eq_true.mp e l hm
        rw [z] at this
        cases this
    rw [fin]
    simp [limD]
    refine w_ok (sum_of_eq (.inl rfl) h2 hlo.sm hx (by omega) hV0 (by omega)) ?_
    simp
    refine w_ok (below_eq hd hlo.bd (by omega) (by omega) (by omega)) ?_
    simp
    refine cnd_i (fun h3 => ?_) fun h3 => ?_
    · simp
      refine bad ?_
      simp at h3
      simp [keep1, h3]
    · simp at h3
      simp [word_just]
      refine cnd_i (fun h4 => ?_) fun h4 => ?_
      · simp
        refine cnd_i (fun h5 => ?_) fun h5 => ?_
        · simp
          refine bad ?_
          simp at h5
          simp [keep1, h4, h5]
        · simp at h5
          simp [keep1, h4, h5]
      · simp [keep1, h4, h3]
  · obtain ⟨rfl, ⟨a, b, c, d, rfl⟩, hall⟩ := hI
    rw [List.length_map, List.take_length] at hall
    simp
    exact hall
theorem hb_keeps_eq {src src2 : D} (h : isLims src ls) (h2 : isRow src2 x) (hl : ∀ l ∈ ls, LimOk nn l) (hn : nn ≤ 8) (hx : ∀ q ∈ x, Sm V q) (hV0 : 0 < V) (hV : V ≤ 141) : (M (n + 6)).call f_law_hb_keeps [src, src2] s = .ok (.bl (keepsQ ls x)) s := by
  refine eq_of_w (w_call g_law_hb_keeps rfl ?_)
  unfold B_law_hb_keeps
  simp [startS]
  refine optR_i (it_lims h) ?_
  refine wS_forI (fun i σ s' => s' = s ∧ (∃ a b c d, σ = [.val src, .val src2, a, b, c, d]) ∧ (ls.take i).all (keep1 x) = true) _ (fun i y σ s' hx' hI => ?_) ⟨rfl, ⟨_, _, _, _, rfl⟩, rfl⟩ fun σ s' hI => ?_
  · obtain ⟨rfl, ⟨a, b, c, d, rfl⟩, hall⟩ := hI
    rw [List.getElem?_map] at hx'
    obtain ⟨l, hli, rfl⟩ := Option.map_eq_some_iff.mp hx'
    have hm : l ∈ ls := List.mem_of_getElem? hli
    have hlo := hl l hm
    have hd := dot_b l hlo hn hx hV
    have hb9 := Nat.mul_le_mul (show 13 + V + 1 ≤ 155 by omega) (show l.p.length + 1 ≤ 9 by rw [hlo.len]; omega)
    have fin : (ls.take (i + 1)).all (keep1 x) = keep1 x l := by
      rw [List.take_succ, hli, List.all_append, hall]
      simp
    have bad : keep1 x l = false → keepsQ ls x = false := fun z => by
      cases e : keepsQ ls x with
      | false => rfl
      | true =>
        have := List.all_eq_true.mp e l hm
        rw [z] at this
        cases this
    rw [fin]
    simp [limD]
    refine w_ok (hb_times_eq (.inl rfl) h2 hlo.sm hx (by omega) hV0 (by omega)) ?_
    simp
    refine w_ok (fr_below_eq hd hlo.bd (by omega) (by omega) (by omega)) ?_
    simp
    refine cnd_i (fun h3 => ?_) fun h3 => ?_
    · simp
      refine bad ?_
      simp at h3
      simp [keep1, h3]
    · simp at h3
      simp [word_just]
      refine cnd_i (fun h4 => ?_) fun h4 => ?_
      · simp
        refine cnd_i (fun h5 => ?_) fun h5 => ?_
        · simp
          refine bad ?_
          simp at h5
          simp [keep1, h4, h5]
        · simp at h5
          simp [keep1, h4, h5]
      · simp [keep1, h4, h3]
  · obtain ⟨rfl, ⟨a, b, c, d, rfl⟩, hall⟩ := hI
    rw [List.length_map, List.take_length] at hall
    simp
    exact hall
end
end Lw

/-! ND: weights, and what limits come to with weights. -/
namespace Lw
open PySem Fw
section
variable {n nn : Nat} {s : RS} {P : D → RS → Prop} {X : Nat → List D → RS → Prop} {ls : List Lim} {ws : List Rat} {V : Nat}
theorem num_nn (q : Rat) : decide (0 ≤ q.num) = decide (0 ≤ q) := by
  by_cases h : 0 ≤ q
  · simp [h, Rat.num_nonneg.mpr h]
  · have : ¬ 0 ≤ q.num := fun z => h (Rat.num_nonneg.mp z)
    simp [h, this]
theorem num_neg (q : Rat) : decide (q.num < 0) = !decide (0 ≤ q) := by
  rw [← num_nn]
  by_cases h : 0 ≤ q.num
  · have : ¬ q.num < 0 := by omega
    simp [h, this]
  · have : q.num < 0 := by omega
    simp [h, this]
theorem num_pos (q : Rat) : decide (0 < q.num) = decide (0 < q) := by
  have e : (0 < q) ↔ 0 < q.num := by simp [Rat.lt_iff]
  simp [e]
/-- the weights that are right -/
def wgts (ls : List Lim) (d : D) : Option (List Rat) := (frs ls.length d).bind fun ws => if wgtQ ls ws then some ws else none
theorem it_lw {ls : List Lim} {ws : List Rat} : itemsD .zip [.tup (ls.map limD), .tup (ws.map ratD)] = some ((ls.zip ws).map fun p => .tup [limD p.1, ratD p.2]) := congrArg some (zipD_map limD ratD ls ws)
theorem are_weights_eq {d : D} (h : d.gb V = true) (hV : V ≤ 141) (hl : ls.length ≤ 1000) : (M (n + 4)).call f_are_limit_weights [.tup (ls.map limD), d] s = .ok (.bl (wgts ls d).isSome) s := by
  refine eq_of_w (w_call g_are_limit_weights rfl ?_)
  unfold B_are_limit_weights
  simp [startS]
  refine w_ok (are_fractions_eq (m := ls.length) h (by omega)) ?_
  simp
  cases e : frs ls.length d with
  | none => simp [wgts, e]
  | some ws =>
    obtain ⟨rfl, hlen⟩ := frs_some e
    simp [zipD_map]
    refine wR_cmap (fun p : Lim × Rat => .tup [limD p.1, ratD p.2]) (fun p => .bl (p.1.w || decide (0 ≤ p.2))) _ (fun p hp => ?_) ?_
    · rw [compB_w]
      simp [limD, ratD, word_just]
      refine cnd_i (fun h3 => ?_) fun h3 => ?_
      · simp [h3]
      · simp [h3, num_nn]
    simp
    refine optR_i (blt_all_map _ _) ?_
    simp [wgts, e]
    unfold wgtQ
    cases ((ls.zip ws).all fun p => p.1.w || decide (0 ≤ p.2)) <;> simp
theorem hb_weights_eq {d : D} (h : d.gb V = true) (hV : V ≤ 141) (hl : ls.length ≤ 1000) : (M (n + 4)).call f_law_hb_are_weights [.tup (ls.map limD), d] s = .ok (.bl (wgts ls d).isSome) s := by
  refine eq_of_w (w_call g_law_hb_are_weights rfl ?_)
  unfold B_law_hb_are_weights
  simp [startS]
  refine w_ok (hb_are_eq (m := ls.length) h (by omega)) ?_
  simp
  cases e : frs ls.length d with
  | none => simp [wgts, e]
  | some ws =>
    obtain ⟨rfl, hlen⟩ := frs_some e
    simp [zipD_map]
    refine wR_cfil (fun p : Lim × Rat => .tup [limD p.1, ratD p.2]) (fun p => !(p.1.w || decide (0 ≤ p.2))) (fun _ => .int 1) _ (fun p hp => ?_) ?_
    · rw [compB_w]
      simp [limD, ratD, word_least]
      refine cnd_i (fun h3 => ?_) fun h3 => ?_
      · simp at h3
        simp [h3, num_neg]
        cases decide (0 ≤ p.2) <;> simp [h3]
      · simp at h3
        simp [h3]
    simp [wgts, e]
    unfold wgtQ
    by_cases hz : ((ls.zip ws).all fun p => p.1.w || decide (0 ≤ p.2)) = true
    · simp [hz]
      simp at hz
      intro a b hm hw
      rcases hz a b hm with z | z
      · rw [hw] at z
        cases z
      · exact z
    · simp [hz]
      simpa using hz
theorem wgts_some {d : D} (h : wgts ls d = some ws) : d = .tup (ws.map ratD) ∧ ws.length = ls.length := by
  unfold wgts at h
  obtain ⟨ws', e, h2⟩ := Option.bind_eq_some_iff.mp h
  split at h2
  · cases h2
    exact frs_some e
  · cases h2
theorem row_gb {qs : List Rat} (h : (D.tup (qs.map ratD)).gb V = true) : ∀ q ∈ qs, Sm V q := fun q hq => gb_rat.mp (gbs_iff.mp (show D.gbs V (qs.map ratD) = true by simpa [D.gb] using h) _ (List.mem_map_of_mem hq))
/-- what the parts and the bounds come to -/
def weighD (nn : Nat) (ls : List Lim) (ws : List Rat) : D := .tup [.tup ((List.range nn).map fun i => ratD (colQ ls i ws)), ratD (bndQ ls ws)]
theorem col_sm (hl : ∀ l ∈ ls, LimOk nn l) {i : Nat} (hi : i < nn) : ∀ q ∈ ls.map fun l => l.p.getD i 0, Sm 13 q := fun q hq => by
  obtain ⟨l, hm, rfl⟩ := List.mem_map.mp hq
  exact getD_sm (hl l hm).sm (by omega) i
theorem bnd_sm (hl : ∀ l ∈ ls, LimOk nn l) : ∀ q ∈ ls.map (·.b), Sm 61 q := fun q hq => by
  obtain ⟨l, hm, rfl⟩ := List.mem_map.mp hq
  exact (hl l hm).bd
theorem weighed_eq {src : D} (h2 : isRow src ws) (hl : ∀ l ∈ ls, LimOk nn l) (h7 : ls.length ≤ 7) (hn : nn ≤ 8) (hx : ∀ q ∈ ws, Sm V q) (hV0 : 0 < V) (hV : V ≤ 141) : (M (n + 6)).call f_weighed [.int nn, .tup (ls.map limD), src] s = .ok (weighD nn ls ws) s := by
  have hb1 := Nat.mul_le_mul (show 13 + V + 1 ≤ 155 by omega) (show ls.length + 1 ≤ 8 by omega)
  have hb2 := Nat.mul_le_mul (show 61 + V + 1 ≤ 203 by omega) (show ls.length + 1 ≤ 8 by omega)
  refine eq_of_w (w_call g_weighed rfl ?_)
  unfold B_weighed
  simp [startS]
  refine optR_i (it_rng1n (show nn ≤ 16777216 by omega)) ?_
  refine wR_cmap natD (fun i => ratD (colQ ls i ws)) _ (fun i hi => ?_) ?_
  · rw [List.mem_range] at hi
    rw [compB_w]
    simp
    refine wR_cmap limD (fun l => ratD (l.p.getD i 0)) _ (fun l hm => ?_) ?_
    · rw [compB_w]
      simp [limD]
      refine optR_i (idx_rats (qs := l.p) (.inl rfl) (by rw [(hl l hm).len]; exact hi)) ?_
      simp
    have e : (ls.map fun l => ratD (l.p.getD i 0)) = (ls.map fun l => l.p.getD i 0).map ratD := by
      rw [List.map_map]
      rfl
    simp [-List.map_map]
    refine w_ok (sum_of_eq (a := ls.map fun l => l.p.getD i 0) (.inr (by rw [List.map_map]; rfl)) h2 (col_sm hl hi) hx (by omega) hV0 (by rw [List.length_map]; omega)) ?_
    simp [colQ]
  simp [-List.map_map]
  refine wR_cmap limD (fun l => ratD l.b) _ (fun l hm => ?_) ?_
  · rw [compB_w]
    simp [limD]
  have e : (ls.map fun l => ratD l.b) = (ls.map (·.b)).map ratD := by
    rw [List.map_map]
    rfl
  simp [-List.map_map]
  refine w_ok (sum_of_eq (a := ls.map (·.b)) (.inr (by rw [List.map_map]; rfl)) h2 (bnd_sm hl) hx (by omega) hV0 (by rw [List.length_map]; omega)) ?_
  simp [weighD, bndQ]
end
end Lw

/-! NE: papers, judged by both. -/
namespace Lw
open PySem Fw
theorem rows_eqv : ∀ a b : List Rat, D.eqvs (a.map ratD) (b.map ratD) = decide (a = b)
  | [], [] => by simp [D.eqvs]
  | [], y :: b => by simp [D.eqvs]
  | x :: a, [] => by simp [D.eqvs]
  | x :: a, y :: b => by
    rw [List.map_cons, List.map_cons, D.eqvs, rat_eqv, rows_eqv a b]
    by_cases h : x = y <;> by_cases h2 : a = b <;> simp [h, h2]
theorem rats_dles (k : Nat) : ∀ a : List Rat, D.dles (k + 1) (a.map ratD) = true
  | [] => rfl
  | x :: a => by
    rw [List.map_cons, D.dles, rats_dles k a]
    simp [ratD, D.dle, D.dles]
theorem rows_ok (a b : List Rat) : eqOk (.tup (a.map ratD)) (.tup (b.map ratD)) = true := by
  have e : D.dle 20 (.tup (a.map ratD)) = D.dles 19 (a.map ratD) := by rw [D.dle]
  unfold eqOk
  rw [D.pln, D.pln, rats_pln, rats_pln, e, rats_dles 18]
  rfl
theorem neg_iff (q : Rat) : q.num < 0 ↔ q < 0 := by simp [Rat.lt_iff]
section
variable {n nn : Nat} {s : RS} {P : D → RS → Prop} {X : Nat → List D → RS → Prop} {ls : List Lim} {ws goal : List Rat} {V : Nat}
theorem c_rows {m : Mod} (a b : List Rat) : wR (cmpE m .eq (.tup (a.map ratD)) (.tup (b.map ratD)) s) P X = P (.bl (decide (a = b))) s := by
  refine c_liftB _ _ ?_
  rw [cmpD_eq (rows_ok a b)]
  congr 1
  rw [D.eqv, rows_eqv]
/-- (row, fraction) == (row, fraction) -/
theorem c_row2 {m : Mod} (a b : List Rat) (p q : Rat) : wR (cmpE m .eq (.tup [.tup (a.map ratD), ratD p]) (.tup [.tup (b.map ratD), ratD q]) s) P X = P (.bl (decide (a = b) && decide (p = q))) s := by
  refine c_liftB _ _ ?_
  have ok : eqOk (.tup [.tup (a.map ratD), ratD p]) (.tup [.tup (b.map ratD), ratD q]) = true := by
    have e : D.dle 20 (.tup [.tup (a.map ratD), ratD p]) = (D.dles 18 (a.map ratD) && (D.dle 19 (ratD p) && true)) := by rw [D.dle, D.dles, D.dle, D.dles, D.dles]
    unfold eqOk
    rw [e, rats_dles 17]
    simp [D.pln, D.plns, rats_pln, rat_pln, ratD, D.dle, D.dles]
  rw [cmpD_eq ok]
  congr 1
  rw [D.eqv, D.eqvs, D.eqvs, D.eqvs, D.eqv, rows_eqv, rat_eqv]
  simp
theorem zeros_mul (h1 : 1 ≤ nn) (h8 : nn ≤ 8) : binD .mul (.tup [.tup [.int 0, .int 1]]) (.int (nn : Nat)) = some (.tup ((List.replicate nn (0 : Rat)).map ratD)) := by
  have e : nn = 1 ∨ nn = 2 ∨ nn = 3 ∨ nn = 4 ∨ nn = 5 ∨ nn = 6 ∨ nn = 7 ∨ nn = 8 := by omega
  rcases e with rfl | rfl | rfl | rfl | rfl | rfl | rfl | rfl <;> rfl
def colsQ (nn : Nat) (ls : List Lim) (ws : List Rat) : List Rat := (List.range nn).map fun i => colQ ls i ws
theorem weighD_eq : weighD nn ls ws = .tup [.tup ((colsQ nn ls ws).map ratD), ratD (bndQ ls ws)] := by
  unfold weighD colsQ
  rw [List.map_map]
  rfl
/-- a program: a goal and limits -/
structure PrgOk (goal : List Rat) (ls : List Lim) : Prop where
  n1 : 1 ≤ goal.length
  n8 : goal.length ≤ 8
  gs : ∀ q ∈ goal, Sm 13 q
  l7 : ls.length ≤ 7
  lo : ∀ l ∈ ls, LimOk goal.length l
def flatL (l : Lim) : Lim := ⟨l.w, l.p, 0⟩
def noneQ (nn : Nat) (ls : List Lim) (v : D) : Bool := match wgts ls v with
  | some ws => decide (colsQ nn ls ws = List.replicate nn 0) && decide (0 < bndQ ls ws)
  | none => false
def endQ (goal : List Rat) (ls : List Lim) (a b : D) : Bool := match frs goal.length a with
  | some x => match frs goal.length b with
    | some y => keepsQ ls x && (keepsQ (ls.map flatL) y && decide (dotQ goal y < 0))
    | none => false
  | none => false
theorem is_none_eq {v : D} (hp : PrgOk goal ls) (h : v.gb V = true) (hV0 : 0 < V) (hV : V ≤ 141) : (M (n + 7)).call f_is_none_paper [.int goal.length, .tup (ls.map limD), v] s = .ok (.bl (noneQ goal.length ls v)) s := by
  have h7 := hp.l7
  refine eq_of_w (w_call g_is_none_paper rfl ?_)
  unfold B_is_none_paper
  simp [startS]
  refine w_ok (are_weights_eq h hV (by omega)) ?_
  simp
  cases e : wgts ls v with
  | none => simp [noneQ, e]
  | some ws =>
    obtain ⟨rfl, hlen⟩ := wgts_some e
    simp
    refine w_ok (weighed_eq (.inl rfl) hp.lo hp.l7 hp.n8 (row_gb h) hV0 hV) ?_
    rw [weighD_eq]
    simp [-List.map_map]
    refine optR_i (zeros_mul hp.n1 hp.n8) ?_
    rw [c_rows]
    simp
    refine cnd_i (fun h3 => ?_) fun h3 => ?_
    · simp at h3
      simp [noneQ, e, h3, ratD, num_pos]
    · simp at h3
      simp [noneQ, e, h3]
theorem flat_ok (hp : PrgOk goal ls) : ∀ l ∈ ls.map flatL, LimOk goal.length l := fun l hl => by
  obtain ⟨k, hk, rfl⟩ := List.mem_map.mp hl
  exact ⟨(hp.lo k hk).len, (hp.lo k hk).sm, (⟨by decide, by decide⟩ : Sm 61 (0 : Rat))⟩
theorem is_endless_eq {a b : D} (hp : PrgOk goal ls) (ha : a.gb V = true) (hb : b.gb V = true) (hV0 : 0 < V) (hV : V ≤ 141) : (M (n + 7)).call f_is_endless_paper [.tup (goal.map ratD), .tup (ls.map limD), a, b] s = .ok (.bl (endQ goal ls a b)) s := by
  have h8 := hp.n8
  have hb9 := Nat.mul_le_mul (show 13 + V + 1 ≤ 155 by omega) (show goal.length + 1 ≤ 9 by omega)
  refine eq_of_w (w_call g_is_endless_paper rfl ?_)
  unfold B_is_endless_paper
  simp [startS]
  refine w_ok (are_fractions_eq ha (by omega)) ?_
  simp
  cases e1 : frs goal.length a with
  | none => simp [endQ, e1]
  | some x =>
    obtain ⟨rfl, hl1⟩ := frs_some e1
    simp
    refine w_ok (are_fractions_eq hb (by omega)) ?_
    simp
    cases e2 : frs goal.length b with
    | none => simp [endQ, e1, e2]
    | some y =>
      obtain ⟨rfl, hl2⟩ := frs_some e2
      simp
      refine w_ok (keeps_eq (.inl rfl) (.inl rfl) hp.lo hp.n8 (row_gb ha) hV0 hV) ?_
      simp
      refine cnd_i (fun h3 => ?_) fun h3 => ?_
      · simp at h3
        simp [endQ, e1, e2, h3]
      · simp at h3
        simp
        refine w_ok (sum_of_eq (.inl rfl) (.inl rfl) hp.gs (row_gb hb) (by omega) hV0 (by omega)) ?_
        simp [ratD]
        refine cnd_i (fun h4 => ?_) fun h4 => ?_
        · have h5 : ¬ dotQ goal y < 0 := by
            simp at h4
            exact Rat.not_lt.mpr h4
          simp [endQ, e1, e2, h3, h5]
        · have h5 : dotQ goal y < 0 := by
            simp at h4
            first | exact h4 | exact Rat.not_le.mp h4
          simp
          refine wR_cmap limD (fun l => limD (flatL l)) _ (fun l hm => ?_) ?_
          · rw [compB_w]
            simp [limD, flatL]
            rfl
          simp
          refine w_ok (keeps_eq (ls := ls.map flatL) (.inr (by rw [List.map_map]; rfl)) (.inl rfl) (flat_ok hp) hp.n8 (row_gb hb) hV0 hV) ?_
          simp [endQ, e1, e2, h3, h5]
end
end Lw

/-! NF: is_least_sum, by the package and by the law. -/
namespace Lw
open PySem Fw
def D.isStr : D → Bool
  | .str _ => true
  | _ => false
theorem isa_str {T : ClsT} {d : D} (h : typed T d = true) : isaD T d .str = some (D.isStr d) := by
  have h2 := typed_ins h
  cases d <;> simp [isaD, tyOk, h2, D.isStr] <;> simp [typed] at h
def leastQ (goal : List Rat) (ls : List Lim) (v a b : D) : Bool := fracD v && match frs goal.length a with
  | some x => match wgts ls b with
    | some ws => keepsQ ls x && (decide (dotQ goal x = ratOf v) && (decide (colsQ goal.length ls ws = goal) && decide (bndQ ls ws = ratOf v)))
    | none => false
  | none => false
/-- what is asked of a told value -/
def sumOk (goal : List Rat) (ls : List Lim) : D → Bool
  | .tup [.str w, v] => (w == ("none" : Str)) && noneQ goal.length ls v
  | .tup [.str w, a, b] => (w == ("endless" : Str)) && endQ goal ls a b
  | .tup [.str w, v, a, b] => (w == ("least" : Str)) && leastQ goal ls v a b
  | _ => false
theorem w_ne : (("none" : Str) == ("endless" : Str)) = false := by kernel_rfl
theorem w_nl : (("none" : Str) == ("least" : Str)) = false := by kernel_rfl
theorem w_el : (("endless" : Str) == ("least" : Str)) = false := by kernel_rfl
theorem w_en : (("endless" : Str) == ("none" : Str)) = false := by kernel_rfl
theorem w_ln : (("least" : Str) == ("none" : Str)) = false := by kernel_rfl
theorem w_le : (("least" : Str) == ("endless" : Str)) = false := by kernel_rfl
section
variable {n nn : Nat} {s : RS} {P : D → RS → Prop} {X : Nat → List D → RS → Prop} {ls : List Lim} {ws goal : List Rat} {V : Nat}
theorem row_gd {qs : List Rat} {k : Nat} (h : ∀ q ∈ qs, Sm k q) : (D.tup (qs.map ratD)).gb k = true := by
  rw [D.gb]
  exact gbs_iff.mpr fun x hx => by
    obtain ⟨q, hq, rfl⟩ := List.mem_map.mp hx
    exact gb_rat.mpr (h q hq)
theorem word_in (w : Bool) : cmpD .inn (.str (wordS w)) (.tup [.str ("least" : Str), .str ("just" : Str)]) = some true := by cases w <;> kernel_rfl
theorem c_word {m : Mod} (w : Bool) : wR (cmpE m .inn (.str (wordS w)) (.tup [.str ("least" : Str), .str ("just" : Str)]) s) P X = P (.bl true) s := by
  have e : cmpE m .inn (.str (wordS w)) (.tup [.str ("least" : Str), .str ("just" : Str)]) s = liftO ((cmpD .inn (.str (wordS w)) (.tup [.str ("least" : Str), .str ("just" : Str)])).map D.bl) s := rfl
  rw [e, word_in w]
  simp
theorem is_limit_eq {l : Lim} (h : LimOk nn l) : (M (n + 4)).call f_is_limit [.int nn, limD l] s = .ok (.bl true) s := by
  refine eq_of_w (w_call g_is_limit rfl ?_)
  unfold B_is_limit
  have t1 : typed Cl (limD l) = true := rfl
  have t2 : typed Cl (.str (wordS l.w)) = true := rfl
  have e1 := isa_tuple t1
  have e2 := isa_str t2
  have e3 := h.len
  have hr := frs_rats l.p
  rw [e3] at hr
  simp [startS, e1]
  simp [limD, D.isTup, e2, D.isStr, c_word]
  refine w_ok (are_fractions_eq (k := 61) (row_gd fun q hq => (h.sm q hq).mono (by decide)) (by decide)) ?_
  simp [hr]
  refine w_ok (is_fraction_eq (k := 61) (gb_good _ (gb_rat.mpr h.bd)) (gb_frac (gb_rat.mpr h.bd)) (by decide)) ?_
  simp [rat_frac]
theorem need_goal_ok (hp : PrgOk goal ls) : (M (n + 4)).call f_need_goal [.tup (goal.map ratD)] s = .ok .non s := by
  have h1 := hp.n1
  have h8 := hp.n8
  refine eq_of_w (w_call g_need_goal rfl ?_)
  unfold B_need_goal
  have e1 := isa_tuple (T := Cl) (d := .tup (goal.map ratD)) rfl
  simp [startS, e1, D.isTup]
  have z1 : (1 : Int) ≤ (goal.length : Int) := by omega
  have z2 : (goal.length : Int) ≤ 8 := by omega
  simp [z1, z2]
  refine w_ok (are_fractions_eq (k := 13) (row_gd hp.gs) (by decide)) ?_
  simp [frs_rats]
theorem need_program_ok (hp : PrgOk goal ls) : (M (n + 5)).call f_need_program [.tup (goal.map ratD), .tup (ls.map limD)] s = .ok .non s := by
  have h7 := hp.l7
  refine eq_of_w (w_call g_need_program rfl ?_)
  unfold B_need_program
  have e1 := isa_tuple (T := Cl) (d := .tup (ls.map limD)) rfl
  simp [startS]
  refine w_ok (need_goal_ok hp) ?_
  have z1 : ¬ (40 : Int) < (ls.length : Int) := by omega
  simp [e1, D.isTup, z1]
  refine wR_cmap limD (fun _ => .bl true) _ (fun l hl => ?_) ?_
  · rw [compB_w]
    simp
    refine w_ok (is_limit_eq (hp.lo l hl)) ?_
    simp
  have ea : (ls.all fun _ => true) = true := by simp
  simp only [e_nil, optR_some, asTup]
  refine optR_i (blt_all_map (fun _ => true) ls) ?_
  simp [ea]
def rowsD (ls : List Lim) : D := .lst (ls.map fun l => .tup ((l.p ++ [l.b]).map ratD))
theorem come_row (hl : ∀ l ∈ ls, LimOk nn l) (hx : ws.length = ws.length) : ((List.range (nn + 1)).map fun i => ratD (dotQ (ls.map fun l => (l.p ++ [l.b]).getD i 0) ws)) = (colsQ nn ls ws ++ [bndQ ls ws]).map ratD := by
  rw [List.range_succ, List.map_append, List.map_append]
  congr 1
  · unfold colsQ
    rw [List.map_map]
    refine List.map_congr_left fun i hi => ?_
    rw [List.mem_range] at hi
    show ratD _ = ratD (colQ ls i ws)
    unfold colQ
    congr 2
    refine List.map_congr_left fun l hm => ?_
    have := (hl l hm).len
    rw [List.getD_eq_getElem?_getD, List.getElem?_append_left (by omega), ← List.getD_eq_getElem?_getD]
  · simp only [List.map_cons, List.map_nil]
    congr 2
    unfold bndQ
    congr 1
    refine List.map_congr_left fun l hm => ?_
    have := (hl l hm).len
    rw [List.getD_eq_getElem?_getD, List.getElem?_append_right (by omega)]
    simp [this]
theorem come_eq {src : D} (h2 : isRow src ws) (hl : ∀ l ∈ ls, LimOk nn l) (h7 : ls.length ≤ 7) (hn : nn ≤ 8) (hx : ∀ q ∈ ws, Sm V q) (hV0 : 0 < V) (hV : V ≤ 141) : (M (n + 6)).call f_law_hb_come [.int ((nn : Nat) + 1), rowsD ls, src] s = .ok (.tup ((colsQ nn ls ws ++ [bndQ ls ws]).map ratD)) s := by
  have hb2 := Nat.mul_le_mul (show 61 + V + 1 ≤ 203 by omega) (show ls.length + 1 ≤ 8 by omega)
  have e : ((nn : Nat) : Int) + 1 = ((nn + 1 : Nat) : Int) := by omega
  rw [e, ← come_row hl rfl]
  refine eq_of_w (w_call g_law_hb_come rfl ?_)
  unfold B_law_hb_come
  simp [startS, -List.map_map]
  refine optR_i (it_rng1n (show nn + 1 ≤ 16777216 by omega)) ?_
  refine wR_cmap natD (fun i => ratD (dotQ (ls.map fun l => (l.p ++ [l.b]).getD i 0) ws)) _ (fun i hi => ?_) ?_
  · rw [List.mem_range] at hi
    rw [compB_w]
    simp [rowsD, -List.map_append]
    refine wR_cmap (fun l : Lim => .tup ((l.p ++ [l.b]).map ratD)) (fun l => ratD ((l.p ++ [l.b]).getD i 0)) _ (fun l hm => ?_) ?_
    · rw [compB_w]
      simp [-List.map_append]
      refine optR_i (idx_rats (qs := l.p ++ [l.b]) (.inl rfl) (by rw [List.length_append, (hl l hm).len]; simpa using hi)) ?_
      simp
    simp [-List.map_map]
    refine w_ok (hb_times_eq (a := ls.map fun l => (l.p ++ [l.b]).getD i 0) (j := 61) (.inr (by rw [List.map_map]; rfl)) h2 (fun q hq => ?_) hx (by omega) hV0 (by rw [List.length_map]; omega)) ?_
    · obtain ⟨l, hm, rfl⟩ := List.mem_map.mp hq
      refine getD_sm (fun x hx => ?_) (by omega) i
      rcases List.mem_append.mp hx with z | z
      · exact ((hl l hm).sm x z).mono (by decide)
      · rw [List.mem_singleton.mp z]
        exact (hl l hm).bd
    simp
  simp
end
end Lw

/-! NG: the two judges. -/
namespace Lw
open PySem Fw
@[simp] theorem idx_c3 (x y z w : D) (xs : List D) : idxD (.tup (x :: y :: z :: w :: xs)) (.int 3) = some w := idx_t (k := 3) rfl
section
variable {n nn : Nat} {s : RS} {P : D → RS → Prop} {X : Nat → List D → RS → Prop} {ls : List Lim} {ws goal : List Rat} {V : Nat}
theorem sum_len1 (w : Str) : sumOk goal ls (.tup [.str w]) = false := rfl
theorem sum_len2 (w : Str) (v : D) : sumOk goal ls (.tup [.str w, v]) = ((w == ("none" : Str)) && noneQ goal.length ls v) := rfl
theorem sum_len3 (w : Str) (a b : D) : sumOk goal ls (.tup [.str w, a, b]) = ((w == ("endless" : Str)) && endQ goal ls a b) := rfl
theorem sum_len4 (w : Str) (v a b : D) : sumOk goal ls (.tup [.str w, v, a, b]) = ((w == ("least" : Str)) && leastQ goal ls v a b) := rfl
theorem sum_len5 (w : Str) (a b c d : D) (r : List D) : sumOk goal ls (.tup (.str w :: a :: b :: c :: d :: r)) = false := rfl
theorem sum_no {x : D} {r : List D} (h : D.isStr x = false) : sumOk goal ls (.tup (x :: r)) = false := by
  cases x with
  | str w => cases h
  | _ => rfl
theorem is_least_sum_eq (hp : PrgOk goal ls) {d : D} (hd : d.gb V = true) (hV0 : 0 < V) (hV : V ≤ 141) : (M (n + 8)).call f_is_least_sum [.tup (goal.map ratD), .tup (ls.map limD), d] s = .ok (.bl (sumOk goal ls d)) s := by
  have h7 := hp.l7
  have h8 := hp.n8
  have hb9 := Nat.mul_le_mul (show 13 + V + 1 ≤ 155 by omega) (show goal.length + 1 ≤ 9 by omega)
  refine eq_of_w (w_call g_is_least_sum rfl ?_)
  unfold B_is_least_sum
  have e1 := isa_tuple (T := Cl) (good_typed (gb_good d hd))
  simp [startS]
  refine w_ok (need_program_ok hp) ?_
  simp [e1]
  cases d with
  | tup xs =>
    have hg : ∀ x ∈ xs, x.gb V = true := gbs_iff.mp (by simpa [D.gb] using hd)
    simp [D.isTup, c_nil]
    cases xs with
    | nil => simp [sumOk]
    | cons x r =>
      have e2 := isa_str (T := Cl) (good_typed (gb_good x (hg x (List.mem_cons_self ..))))
      simp [e2]
      by_cases hs : D.isStr x = true
      · cases x with
        | str w =>
          simp [D.isStr]
          match r, hg with
          | [], _ =>
            rw [sum_len1]
            cases hn : (w == ("none" : Str)) <;> cases he : (w == ("endless" : Str)) <;> cases hl : (w == ("least" : Str)) <;> simp [hn, he, hl]
          | [v], hg =>
            rw [sum_len2]
            cases hn : (w == ("none" : Str))
            · cases he : (w == ("endless" : Str)) <;> cases hl : (w == ("least" : Str)) <;> simp [hn, he, hl]
            · simp [hn]
              refine w_ok (is_none_eq hp (hg v (by simp)) hV0 hV) ?_
              simp
          | [a, b], hg =>
            rw [sum_len3]
            cases hn : (w == ("endless" : Str))
            · cases hm : (w == ("none" : Str)) <;> cases hl : (w == ("least" : Str)) <;> simp [hn, hm, hl]
            · have fin : wR ((M (n + 7)).call f_is_endless_paper [.tup (goal.map ratD), .tup (ls.map limD), a, b] s) (fun d' s' => d' = .bl (endQ goal ls a b) ∧ s' = s) (fun _ _ _ => False) := w_ok (is_endless_eq hp (hg a (by simp)) (hg b (by simp)) hV0 hV) ⟨rfl, rfl⟩
              cases hm : (w == ("none" : Str))
              · simp [hn, hm]
                exact fin
              · simp [hn, hm]
                exact fin
          | a :: b :: c :: e :: r, _ =>
            rw [sum_len5]
            have z2 : ((r.length : Int) + 1 + 1 + 1 + 1 + 1 == 2) = false := by simp; omega
            have z3 : ((r.length : Int) + 1 + 1 + 1 + 1 + 1 == 3) = false := by simp; omega
            have z4 : ((r.length : Int) + 1 + 1 + 1 + 1 + 1 == 4) = false := by simp; omega
            cases hn : (w == ("none" : Str)) <;> cases he : (w == ("endless" : Str)) <;> cases hl : (w == ("least" : Str)) <;> simp [z2, z3, z4, hn, he, hl]
          | [v, a, b], hg =>
            rw [sum_len4]
            have gv := hg v (by simp)
            have ga := hg a (by simp)
            have gb := hg b (by simp)
            cases hn : (w == ("least" : Str))
            · cases hm : (w == ("none" : Str)) <;> cases he : (w == ("endless" : Str)) <;> simp [hn, hm, he]
            · cases hm : (w == ("none" : Str)) <;> cases he : (w == ("endless" : Str)) <;> simp [hn, hm, he]
              all_goals
                refine w_ok (is_fraction_eq (gb_good v gv) (gb_frac gv) (by omega)) ?_
                simp
                cases hv : fracD v
                · simp [leastQ, hv]
                · obtain ⟨q, rfl⟩ := frac_rat hv
                  simp
                  refine w_ok (are_fractions_eq ga (by omega)) ?_
                  simp
                  cases h1 : frs goal.length a with
                  | none => simp [leastQ, h1]
                  | some x =>
                    obtain ⟨rfl, hl1⟩ := frs_some h1
                    simp
                    refine w_ok (are_weights_eq (ls := ls) gb hV (by omega)) ?_
                    simp
                    cases h2 : wgts ls b with
                    | none => simp [leastQ, h1, h2]
                    | some ws =>
                      obtain ⟨rfl, hl2⟩ := wgts_some h2
                      simp
                      refine w_ok (keeps_eq (.inl rfl) (.inl rfl) hp.lo hp.n8 (row_gb ga) hV0 hV) ?_
                      simp
                      cases h3 : keepsQ ls x
                      · simp [leastQ, h1, h2, h3]
                      · simp
                        refine w_ok (sum_of_eq (.inl rfl) (.inl rfl) hp.gs (row_gb ga) (by omega) hV0 (by omega)) ?_
                        simp
                        by_cases h4 : dotQ goal x = q
                        · simp [h4]
                          refine w_ok (weighed_eq (.inl rfl) hp.lo hp.l7 hp.n8 (row_gb gb) hV0 hV) ?_
                          rw [weighD_eq]
                          simp [-List.map_map]
                          rw [c_row2]
                          simp [leastQ, hv, h1, h2, h3, h4, ratOf_ratD]
                        · simp [h4, leastQ, hv, h1, h2, h3, ratOf_ratD]
        | _ => cases hs
      · have hs' : D.isStr x = false := by simpa using hs
        rw [sum_no hs', hs']
        simp
  | _ => simp [D.isTup, sumOk]
end
end Lw

/-! NH: rows, drawn and made of others. -/
namespace Lw
open PySem Fw
section
variable {n : Nat} {s : RS} {P : D → RS → Prop} {X : Nat → List D → RS → Prop} {j k : Nat} {a b : List Rat}
def rowD (qs : List Rat) : D := .tup (qs.map ratD)
def allSm (k : Nat) (qs : List Rat) : Prop := ∀ q ∈ qs, Sm k q
theorem w_row {many most : Nat} (h1 : 1 ≤ most) (h5 : most ≤ 5) (h8 : many ≤ 8) (hB : Bd (k + 25) s) (h : ∀ qs s', qs.length = many → allSm 3 qs → Bd k s' → P (.tup (qs.map ratD)) s') : wR ((M (n + 4)).call f_law_hb_row [.st, .int many, .int most] s) P X := by
  refine w_call g_law_hb_row rfl ?_
  unfold B_law_hb_row
  have e0 : startS 7 ([D.st, .int many, .int most].map Sl.val) = [.val .st, .val (.int many), .val (.int most), .un, .un, .un, .un] := rfl
  rw [e0]
  simp [setF]
  have hz : (4 : Int) < 2 ^ 64 := by decide
  refine w_draws (z := 4) (k := k + 24) ?_ ?_ ?_ fun way s1 _ _ hb1 => ?_
  · decide
  · exact hz
  · exact hB
  simp [setF]
  refine optR_i (it_rng1n (show many ≤ 16777216 by omega)) ?_
  refine wS_forI (fun i σ s' => Bd (k + 3 * (8 - i)) s' ∧ ∃ (qs : List Rat) (a b : Sl), qs.length = i ∧ allSm 3 qs ∧ σ = [.val .st, .val (.int many), .val (.int most), .own (.lst (qs.map ratD)), .val (.int way), a, b]) _ (fun i x σ s' hx hI => ?_) ⟨hb1, [], _, _, rfl, (fun q hq => nomatch hq), rfl⟩ fun σ s' hI => ?_
  · obtain ⟨hb, qs, a, b, hl, hsm, rfl⟩ := hI
    have hi : i < many := by
      have := (List.getElem?_eq_some_iff.mp hx).1
      simpa using this
    have hM : binD .mul (.int 2) (.int (most : Nat)) = some (.int (2 * (most : Int))) := by simp [mul_i, mulOk_l]
    simp
    refine optR_i hM ?_
    simp
    refine w_draws (k := k + 3 * (8 - (i + 1)) + 2) (by omega) (by omega) (hb.le (by omega)) fun r s2 r0 r1 hb2 => ?_
    have hnum : ∀ v : Int, v.natAbs ≤ 5 → Sm 3 (v : Rat) ∧ v.natAbs < 2 ^ 3 := fun v hv => ⟨sm_int (by omega) (by omega), by omega⟩
    obtain ⟨v0, hv, hv5⟩ : ∃ v : Int, v = r - most ∧ v.natAbs ≤ 5 := ⟨_, rfl, by omega⟩
    simp
    rw [← hv]
    refine cnd_i (fun h1 => ?_) fun h1 => ?_
    · simp
      refine w_draws (k := k + 3 * (8 - (i + 1)) + 1) (by omega) (by omega) (hb2.le (by omega)) fun r2 s3 _ _ hb3 => ?_
      have hw : (way == 1) = false := by
        have : way = 0 := by simpa using h1
        rw [this]
        rfl
      simp
      refine cnd_i (fun h2 => ?_) fun h2 => ?_
      · simp [hw]
        refine ⟨by omega, hb3.le (by omega), qs ++ [((0 : Int) : Rat)], by simp [hl], fun q hq => ?_, ?_⟩
        rotate_left
        · rw [List.map_append]
          rfl
        rcases List.mem_append.mp hq with z | z
        · exact hsm q z
        · rw [List.mem_singleton.mp z]
          exact (hnum 0 (by decide)).1
      · simp [hw]
        refine ⟨by omega, hb3.le (by omega), qs ++ [(v0 : Rat)], by simp [hl], fun q hq => ?_, ?_⟩
        rotate_left
        · rw [List.map_append]
          rfl
        rcases List.mem_append.mp hq with z | z
        · exact hsm q z
        · rw [List.mem_singleton.mp z]
          exact (hnum v0 hv5).1
    · simp
      refine cnd_i (fun h2 => ?_) fun h2 => ?_
      · simp
        refine w_draws (k := k + 3 * (8 - (i + 1))) (by omega) (by omega) (hb2.le (by omega)) fun r2 s3 z0 z1 hb3 => ?_
        obtain ⟨d, rfl⟩ := Int.eq_ofNat_of_zero_le z0
        have hd : d < 5 := by omega
        have e : (1 : Int) + (d : Nat) = ((1 + d : Nat) : Int) := by omega
        have sm := mkRat_sm (n := v0) (d := 1 + d) (k := 3) (by omega) (hnum v0 hv5).2 (by omega)
        simp
        rw [e]
        refine w_ok (fr_eq (k := 3) (by omega) (hnum v0 hv5).2 (by omega) (by omega)) ?_
        simp
        refine ⟨by omega, hb3.le (by omega), qs ++ [mkRat v0 (1 + d)], by simp [hl], fun q hq => ?_, ?_⟩
        rotate_left
        · rw [List.map_append]
          rfl
        rcases List.mem_append.mp hq with z | z
        · exact hsm q z
        · rw [List.mem_singleton.mp z]
          exact sm
      · simp
        refine ⟨by omega, hb2.le (by omega), qs ++ [(v0 : Rat)], by simp [hl], fun q hq => ?_, ?_⟩
        rotate_left
        · rw [List.map_append]
          rfl
        rcases List.mem_append.mp hq with z | z
        · exact hsm q z
        · rw [List.mem_singleton.mp z]
          exact (hnum v0 hv5).1
  · obtain ⟨hb, qs, a, b, hl, hsm, rfl⟩ := hI
    simp at hl
    simp [-List.map_map]
    exact h qs s' hl hsm (hb.le (by omega))
theorem neg_D (q : Rat) : D.tup [.int (0 - q.num), .int (q.den : Nat)] = ratD (-q) := by simp [ratD]
theorem neg_D2 (q : Rat) : D.tup [.int (-q.num), .int (q.den : Nat)] = ratD (-q) := by simp [ratD]
theorem sm_neg {q : Rat} (h : Sm k q) : Sm k (-q) := by
  obtain ⟨h1, h2⟩ := h
  exact ⟨by simpa using h1, by simpa using h2⟩
theorem turned_eq : (M (n + 1)).call f_law_hb_turned [.tup (a.map ratD)] s = .ok (.tup ((a.map fun q => -q).map ratD)) s := by
  refine eq_of_w (w_call g_law_hb_turned rfl ?_)
  unfold B_law_hb_turned
  simp [startS]
  refine wR_cmap ratD (fun q => ratD (-q)) _ (fun q hq => ?_) ?_
  · rw [compB_w]
    simp [ratD]
  simp
theorem scaled_eq {q : Rat} (ha : allSm j a) (hq : Sm k q) (hj : 0 < j) (hk : 0 < k) (hjk : j + k ≤ 1900) : (M (n + 4)).call f_law_hb_scaled [.tup (a.map ratD), ratD q] s = .ok (.tup ((a.map fun x => x * q).map ratD)) s := by
  refine eq_of_w (w_call g_law_hb_scaled rfl ?_)
  unfold B_law_hb_scaled
  simp [startS]
  refine wR_cmap ratD (fun x => ratD (x * q)) _ (fun x hx => ?_) ?_
  · rw [compB_w]
    simp
    refine w_ok (fr_times_eq (ha x hx) hq hj hk hjk) ?_
    simp
  simp
theorem plus_eq (ha : allSm j a) (hb : allSm k b) (hj : 0 < j) (hk : 0 < k) (hjk : j + k ≤ 1900) : (M (n + 4)).call f_law_hb_plus [.tup (a.map ratD), .tup (b.map ratD)] s = .ok (.tup ((addQ a b).map ratD)) s := by
  refine eq_of_w (w_call g_law_hb_plus rfl ?_)
  unfold B_law_hb_plus
  simp [startS, zipD_map]
  refine wR_cmap (fun p : Rat × Rat => .tup [ratD p.1, ratD p.2]) (fun p => ratD (p.1 + p.2)) _ (fun p hp => ?_) ?_
  · rw [compB_w]
    simp
    refine w_ok (fr_plus_eq (ha _ (List.of_mem_zip hp).1) (hb _ (List.of_mem_zip hp).2) hj hk hjk) ?_
    simp
  simp [addQ]
end
end Lw

/-! NI: the law's judge. -/
namespace Lw
open PySem Fw
section
variable {n nn : Nat} {s : RS} {P : D → RS → Prop} {X : Nat → List D → RS → Prop} {ls : List Lim} {ws goal : List Rat} {V : Nat}
theorem take_cols : ((colsQ nn ls ws ++ [bndQ ls ws]).map ratD).take nn = (colsQ nn ls ws).map ratD := by
  have : (colsQ nn ls ws).length = nn := by simp [colsQ]
  rw [List.map_append, List.take_append_of_le_length (by rw [List.length_map]; omega), List.take_of_length_le (by rw [List.length_map]; omega)]
theorem at_bnd : idxD (.tup ((colsQ nn ls ws ++ [bndQ ls ws]).map ratD)) (.int (nn : Nat)) = some (ratD (bndQ ls ws)) := by
  have : (colsQ nn ls ws).length = nn := by simp [colsQ]
  refine idx_t ?_
  rw [List.map_append, List.getElem?_append_right (by rw [List.length_map]; omega), List.length_map, this]
  simp
theorem snoc_eq (a b : List Rat) (p q : Rat) : decide (a ++ [p] = b ++ [q]) = (decide (a = b) && decide (p = q)) := by
  rw [Bool.eq_iff_iff, Bool.and_eq_true, decide_eq_true_eq, decide_eq_true_eq, decide_eq_true_eq]
  constructor
  · intro h
    obtain ⟨h1, h2⟩ := List.append_inj' h rfl
    cases h2
    exact ⟨h1, rfl⟩
  · rintro ⟨rfl, rfl⟩
    rfl
theorem sum_words {w : Str} {r : List D} (hn : (w == ("none" : Str)) = false) (he : (w == ("endless" : Str)) = false) (hl : (w == ("least" : Str)) = false) : sumOk goal ls (.tup (.str w :: r)) = false := by
  match r with
  | [] => rfl
  | [v] => rw [sum_len2, hn]; rfl
  | [a, b] => rw [sum_len3, he]; rfl
  | [a, b, c] => rw [sum_len4, hl]; rfl
  | a :: b :: c :: d :: r => rfl
theorem n_others {w : Str} (h : (w == ("none" : Str)) = true) : (w == ("endless" : Str)) = false ∧ (w == ("least" : Str)) = false := by
  have := eq_of_beq h
  subst this
  exact ⟨w_ne, w_nl⟩
theorem e_others {w : Str} (h : (w == ("endless" : Str)) = true) : (w == ("least" : Str)) = false := by
  have := eq_of_beq h
  subst this
  exact w_el
theorem rows_e (ls : List Lim) : (.lst (ls.map fun l => .tup (l.p.map ratD ++ [ratD l.b])) : D) = rowsD ls := by simp [rowsD]
theorem come_eq2 {src : D} (h2 : isRow src ws) (hl : ∀ l ∈ ls, LimOk nn l) (h7 : ls.length ≤ 7) (hn : nn ≤ 8) (hx : ∀ q ∈ ws, Sm V q) (hV0 : 0 < V) (hV : V ≤ 141) : (M (n + 6)).call f_law_hb_come [.int ((nn : Nat) + 1), .lst (ls.map fun l => .tup (l.p.map ratD ++ [ratD l.b])), src] s = .ok (.tup ((colsQ nn ls ws ++ [bndQ ls ws]).map ratD)) s := by
  rw [rows_e]
  exact come_eq h2 hl h7 hn hx hV0 hV
theorem sum_none {w : Str} {r : List D} (h : (w == ("none" : Str)) = true) (hl : r.length ≠ 1) : sumOk goal ls (.tup (.str w :: r)) = false := by
  obtain ⟨z1, z2⟩ := n_others h
  match r, hl with
  | [], _ => rfl
  | [v], hl => exact absurd rfl hl
  | [a, b], _ => rw [sum_len3, z1]; rfl
  | [a, b, c], _ => rw [sum_len4, z2]; rfl
  | a :: b :: c :: d :: r, _ => rfl
theorem sum_end {w : Str} {r : List D} (h1 : (w == ("none" : Str)) = false) (h : (w == ("endless" : Str)) = true) (hl : r.length ≠ 2) : sumOk goal ls (.tup (.str w :: r)) = false := by
  have z2 := e_others h
  match r, hl with
  | [], _ => rfl
  | [v], hl => rw [sum_len2, h1]; rfl
  | [a, b], hl => exact absurd rfl hl
  | [a, b, c], _ => rw [sum_len4, z2]; rfl
  | a :: b :: c :: d :: r, _ => rfl
theorem sum_least {w : Str} {r : List D} (h1 : (w == ("none" : Str)) = false) (h : (w == ("endless" : Str)) = false) (hl : r.length ≠ 3) : sumOk goal ls (.tup (.str w :: r)) = false := by
  match r, hl with
  | [], _ => rfl
  | [v], hl => rw [sum_len2, h1]; rfl
  | [a, b], hl => rw [sum_len3, h]; rfl
  | [a, b, c], hl => exact absurd rfl hl
  | a :: b :: c :: d :: r, _ => rfl
theorem is_sum_eq (hp : PrgOk goal ls) {d : D} (hd : d.gb V = true) (hV0 : 0 < V) (hV : V ≤ 141) : (M (n + 8)).call f_law_hb_is_sum [.tup (goal.map ratD), .tup (ls.map limD), d] s = .ok (.bl (sumOk goal ls d)) s := by
  have h7 := hp.l7
  have h8 := hp.n8
  have hb9 := Nat.mul_le_mul (show 13 + V + 1 ≤ 155 by omega) (show goal.length + 1 ≤ 9 by omega)
  refine eq_of_w (w_call g_law_hb_is_sum rfl ?_)
  unfold B_law_hb_is_sum
  have e1 := isa_tuple (T := Cl) (good_typed (gb_good d hd))
  simp [startS]
  simp [e1]
  cases d with
  | tup xs =>
    have hg : ∀ x ∈ xs, x.gb V = true := gbs_iff.mp (by simpa [D.gb] using hd)
    simp [D.isTup]
    cases xs with
    | nil => simp [sumOk]
    | cons x r =>
      have e2 := isa_str (T := Cl) (good_typed (gb_good x (hg x (List.mem_cons_self ..))))
      simp [e2]
      refine cnd_i (fun hr => ?_) fun hr => ?_
      · have : r = [] := by
          cases r with
          | nil => rfl
          | cons y r =>
            simp at hr
            omega
        subst this
        cases hs : D.isStr x
        · rw [sum_no hs]
          simp
        · cases x with
          | str w =>
            rw [sum_len1]
            simp
          | _ => cases hs
      have hr2 : 1 ≤ r.length := by
        simp at hr
        omega
      by_cases hs : D.isStr x = true
      · cases x with
        | str w =>
          have e3 : isaD Cl (.str w) .str = some true := e2
          simp [e3]
          refine wR_cmap limD (fun l => .tup ((l.p ++ [l.b]).map ratD)) _ (fun l hl => ?_) ?_
          · have := (hp.lo l hl).len
            rw [compB_w]
            simp [limD]
            refine o_add_t (by simp; omega) ?_
            simp
          have er : (.lst (ls.map fun l => .tup ((l.p ++ [l.b]).map ratD)) : D) = rowsD ls := rfl
          cases hn : (w == ("none" : Str))
          · cases he : (w == ("endless" : Str))
            · cases hl : (w == ("least" : Str))
              · rw [sum_words hn he hl]
                simp [hn, he, hl]
              · simp [hn, he, hl]
                refine cnd_i (fun h2 => ?_) fun h2 => ?_
                · rw [sum_least hn he (by simp at h2; omega)]
                  simp
                have hr3 : r.length = 3 := by
                  simp at h2
                  omega
                match r, hr3, hg with
                | [v, a, b], _, hg =>
                rw [sum_len4, hl]
                have gv := hg v (by simp)
                have ga := hg a (by simp)
                have gb := hg b (by simp)
                simp
                refine w_ok (fr_is_eq (gb_good v gv) (gb_frac gv) (by omega)) ?_
                simp
                cases hv : fracD v
                · simp [leastQ, hv]
                · obtain ⟨q, rfl⟩ := frac_rat hv
                  simp
                  refine w_ok (hb_are_eq ga (by omega)) ?_
                  simp
                  cases h1 : frs goal.length a with
                  | none => simp [leastQ, h1]
                  | some x =>
                    obtain ⟨rfl, hl1⟩ := frs_some h1
                    simp
                    refine w_ok (hb_weights_eq (ls := ls) gb hV (by omega)) ?_
                    simp
                    cases h2 : wgts ls b with
                    | none => simp [leastQ, h1, h2]
                    | some ws =>
                      obtain ⟨rfl, hl2⟩ := wgts_some h2
                      simp
                      refine w_ok (hb_keeps_eq (.inl rfl) (.inl rfl) hp.lo hp.n8 (row_gb ga) hV0 hV) ?_
                      simp
                      cases h3 : keepsQ ls x
                      · simp [leastQ, h1, h2, h3]
                      · simp
                        refine w_ok (hb_times_eq (.inl rfl) (.inl rfl) hp.gs (row_gb ga) (by omega) hV0 (by omega)) ?_
                        simp
                        by_cases h4 : dotQ goal x = q
                        · simp [h4]
                          refine w_ok (come_eq2 (ls := ls) (.inl rfl) hp.lo hp.l7 hp.n8 (row_gb gb) hV0 hV) ?_
                          simp [-List.map_append]
                          refine o_add_t (by rw [List.length_map]; simp; omega) ?_
                          have eg : goal.map ratD ++ [ratD q] = (goal ++ [q]).map ratD := by simp
                          rw [eg, c_rows, snoc_eq]
                          simp [leastQ, hv, h1, h2, h3, h4, ratOf_ratD]
                        · simp [h4, leastQ, hv, h1, h2, h3, ratOf_ratD]
            · simp [hn, he]
              refine cnd_i (fun h2 => ?_) fun h2 => ?_
              · rw [sum_end hn he (by simp at h2; omega)]
                simp
              have hr3 : r.length = 2 := by
                simp at h2
                omega
              match r, hr3, hg with
              | [a, b], _, hg =>
              rw [sum_len3, he]
              have ga := hg a (by simp)
              have gb := hg b (by simp)
              simp
              refine w_ok (hb_are_eq ga (by omega)) ?_
              simp
              cases h1 : frs goal.length a with
              | none => simp [endQ, h1]
              | some x =>
                obtain ⟨rfl, hl1⟩ := frs_some h1
                simp
                refine w_ok (hb_are_eq gb (by omega)) ?_
                simp
                cases h3 : frs goal.length b with
                | none => simp [endQ, h1, h3]
                | some y =>
                  obtain ⟨rfl, hl2⟩ := frs_some h3
                  simp
                  refine wR_cmap limD (fun l => limD (flatL l)) _ (fun l hm => ?_) ?_
                  · rw [compB_w]
                    simp [limD, flatL]
                    rfl
                  simp
                  refine w_ok (hb_keeps_eq (.inl rfl) (.inl rfl) hp.lo hp.n8 (row_gb ga) hV0 hV) ?_
                  simp
                  cases h5 : keepsQ ls x
                  · simp [endQ, h1, h3, h5]
                  · simp
                    refine w_ok (hb_keeps_eq (ls := ls.map flatL) (.inr (by rw [List.map_map]; rfl)) (.inl rfl) (flat_ok hp) hp.n8 (row_gb gb) hV0 hV) ?_
                    simp
                    cases h6 : keepsQ (ls.map flatL) y
                    · simp [endQ, h1, h3, h5, h6]
                    · simp
                      refine w_ok (hb_times_eq (.inl rfl) (.inl rfl) hp.gs (row_gb gb) (by omega) hV0 (by omega)) ?_
                      simp [ratD, endQ, h1, h3, h5, h6, neg_iff]
          · simp [hn]
            refine cnd_i (fun h2 => ?_) fun h2 => ?_
            · rw [sum_none hn (by simp at h2; omega)]
              simp
            have hr3 : r.length = 1 := by
              simp at h2
              omega
            match r, hr3, hg with
            | [v], _, hg =>
            rw [sum_len2, hn]
            have gv := hg v (by simp)
            simp
            refine w_ok (hb_weights_eq (ls := ls) gv hV (by omega)) ?_
            simp
            cases h3 : wgts ls v with
            | none => simp [noneQ, h3]
            | some ws =>
              obtain ⟨rfl, hl2⟩ := wgts_some h3
              simp
              refine w_ok (come_eq2 (ls := ls) (.inl rfl) hp.lo hp.l7 hp.n8 (row_gb gv) hV0 hV) ?_
              simp [-List.map_append, cut_to]
              rw [take_cols]
              refine optR_i (zeros_mul hp.n1 hp.n8) ?_
              rw [c_rows]
              simp [-List.map_append]
              refine cnd_i (fun h5 => ?_) fun h5 => ?_
              · simp at h5
                simp [-List.map_append]
                refine optR_i at_bnd ?_
                simp [noneQ, h3, h5, ratD, num_pos]
              · simp at h5
                simp [noneQ, h3, h5]
        | _ => cases hs
      · have hs' : D.isStr x = false := by simpa using hs
        rw [sum_no hs']
        simp [e2, hs']
  | _ => simp [D.isTup, sumOk]
end
end Lw

/-! NJ: programs of the law's own making: right papers. -/
namespace Lw
open PySem Fw
theorem dot_lin : ∀ (a b c : List Rat) (x y : Rat), a.length = c.length → b.length = c.length → dotQ (addQ (a.map (· * x)) (b.map (· * y))) c = dotQ a c * x + dotQ b c * y
  | [], [], [], x, y, _, _ => by
    show (0 : Rat) = 0 * x + 0 * y
    grind
  | p :: a, q :: b, r :: c, x, y, h1, h2 => by
    have ih := dot_lin a b c x y (by simpa using h1) (by simpa using h2)
    have e : addQ ((p :: a).map (· * x)) ((q :: b).map (· * y)) = (p * x + q * y) :: addQ (a.map (· * x)) (b.map (· * y)) := rfl
    rw [e, dotQ_cons, dotQ_cons, dotQ_cons, ih]
    grind
  | [], q :: b, [], x, y, _, h2 => by simp at h2
  | [], _, r :: c, x, y, h1, _ => by simp at h1
  | p :: a, _, [], x, y, h1, _ => by simp at h1
  | p :: a, [], r :: c, x, y, _, h2 => by simp at h2
theorem dot_zero : ∀ (n : Nat) (c : List Rat), dotQ (List.replicate n 0) c = 0
  | 0, c => rfl
  | n + 1, [] => rfl
  | n + 1, x :: c => by
    rw [List.replicate_succ, dotQ_cons, dot_zero n c]
    grind
theorem dot_neg : ∀ a c : List Rat, dotQ (a.map fun q => -q) c = -dotQ a c
  | [], c => by
    show (0 : Rat) = -0
    grind
  | x :: a, [] => by
    show (0 : Rat) = -0
    grind
  | x :: a, y :: c => by
    rw [List.map_cons, dotQ_cons, dotQ_cons, dot_neg a c]
    grind
theorem getD_mul (a : List Rat) (x : Rat) (i : Nat) : (a.map (· * x)).getD i 0 = a.getD i 0 * x := by
  rw [List.getD_eq_getElem?_getD, List.getD_eq_getElem?_getD, List.getElem?_map]
  cases a[i]? with
  | none =>
    show (0 : Rat) = 0 * x
    grind
  | some v => rfl
theorem getD_neg (a : List Rat) (i : Nat) : (a.map fun q => -q).getD i 0 = -a.getD i 0 := by
  rw [List.getD_eq_getElem?_getD, List.getD_eq_getElem?_getD, List.getElem?_map]
  cases a[i]? with
  | none =>
    show (0 : Rat) = -0
    grind
  | some v => rfl
theorem getD_rep (n i : Nat) : (List.replicate n (0 : Rat)).getD i 0 = 0 := by
  rw [List.getD_eq_getElem?_getD, List.getElem?_replicate]
  split <;> rfl
theorem cols_is {nn : Nat} {ls : List Lim} {ws goal : List Rat} (h : goal.length = nn) (e : ∀ i, i < nn → colQ ls i ws = goal.getD i 0) : colsQ nn ls ws = goal := by
  unfold colsQ
  refine List.ext_getElem? fun i => ?_
  rw [List.getElem?_map]
  by_cases hi : i < nn
  · have h2 : i < goal.length := by omega
    rw [List.getElem?_range hi, List.getElem?_eq_getElem h2]
    simp only [Option.map_some]
    rw [e i hi, List.getD_eq_getElem?_getD, List.getElem?_eq_getElem h2]
    rfl
  · rw [List.getElem?_eq_none (by simpa using hi), List.getElem?_eq_none (by omega)]
    rfl
/-- a half -/
def half : Rat := mkRat 1 2
theorem half_D : D.tup [.int 1, .int 2] = ratD half := rfl
theorem half_half : half + half = 1 := by decide +kernel
theorem half_pos : 0 < half := by decide +kernel
section
variable {nn : Nat} {st parts other loose flat : List Rat} {one two : Rat}
def leastLs (nn : Nat) (st parts other loose flat : List Rat) : List Lim := [⟨false, parts, dotQ parts st⟩, ⟨false, parts, dotQ parts st⟩, ⟨true, other, dotQ other st⟩, ⟨false, loose, dotQ loose st - half⟩, ⟨false, flat, 0⟩, ⟨false, List.replicate nn 0, -1⟩]
def leastG (parts other : List Rat) (one two : Rat) : List Rat := addQ (parts.map (· * one)) (other.map (· * two))
def leastV (q : Rat) (st ws : List Rat) : D := .tup [.str ("least" : Str), ratD q, .tup (st.map ratD), .tup (ws.map ratD)]
theorem leastG_len (h1 : parts.length = nn) (h2 : other.length = nn) : (leastG parts other one two).length = nn := by simp [leastG, addQ, h1, h2]
theorem least_keeps (hf : 0 ≤ dotQ flat st) : keepsQ (leastLs nn st parts other loose flat) st = true := by
  have z1 : ¬ dotQ loose st < dotQ loose st - half := by
    have := half_pos
    grind
  have z2 : ¬ dotQ flat st < 0 := Rat.not_lt.mpr hf
  have z3 : ¬ (0 : Rat) < -1 := by decide
  have z4 : ∀ q : Rat, ¬ q < q := fun q => by grind
  simp [keepsQ, keep1, leastLs, dot_zero, z1, z2, z3, z4]
theorem least_wgt (w1 w2 : Rat) (h1 : 0 ≤ w1) (h2 : 0 ≤ w2) : wgtQ (leastLs nn st parts other loose flat) [w1, w2, two, 0, 0, 0] = true := by
  have z : (0 : Rat) ≤ 0 := by decide
  simp [wgtQ, leastLs, h1, h2, z]
theorem leastQ_of {goal : List Rat} {ls : List Lim} {q : Rat} {st ws : List Rat} (h1 : st.length = goal.length) (h2 : ws.length = ls.length) (h3 : wgtQ ls ws = true) (h4 : keepsQ ls st = true) (h5 : dotQ goal st = q) (h6 : colsQ goal.length ls ws = goal) (h7 : bndQ ls ws = q) : sumOk goal ls (leastV q st ws) = true := by
  have e1 := frs_rats st
  rw [h1] at e1
  have e2 := frs_rats ws
  rw [h2] at e2
  have e3 : wgts ls (.tup (ws.map ratD)) = some ws := by simp [wgts, e2, h3]
  unfold leastV
  rw [sum_len4]
  simp [leastQ, rat_frac, e1, e3, h4, h5, h6, h7, ratOf_ratD]
theorem least_right (hp : parts.length = nn) (ho : other.length = nn) (hl : loose.length = nn) (hfl : flat.length = nn) (hs : st.length = nn) (hf : 0 ≤ dotQ flat st) (w1 w2 : Rat) (h1 : 0 ≤ w1) (h2 : 0 ≤ w2) (h12 : w1 + w2 = one) :
    sumOk (leastG parts other one two) (leastLs nn st parts other loose flat) (leastV (dotQ (leastG parts other one two) st) st [w1, w2, two, 0, 0, 0]) = true := by
  have hg := leastG_len (one := one) (two := two) hp ho
  have hd : dotQ (leastG parts other one two) st = dotQ parts st * one + dotQ other st * two := dot_lin _ _ _ _ _ (by omega) (by omega)
  refine leastQ_of (by omega) rfl (least_wgt w1 w2 h1 h2) (least_keeps hf) rfl ?_ ?_
  · rw [hg]
    refine cols_is hg fun i hi => ?_
    have e : (leastG parts other one two).getD i 0 = parts.getD i 0 * one + other.getD i 0 * two := by
      unfold leastG
      rw [addQ_get _ _ _ (by simp; omega), getD_mul, getD_mul]
    rw [e, ← h12]
    simp only [colQ, leastLs, List.map_cons, List.map_nil, dotQ_cons, dotQ_nil, getD_rep]
    grind
  · rw [hd, ← h12]
    simp only [bndQ, leastLs, List.map_cons, List.map_nil, dotQ_cons, dotQ_nil]
    grind
end
end Lw

/-! NK: programs, drawn. -/
namespace Lw
open PySem Fw
section
variable {n : Nat} {s : RS} {P : D → RS → Prop} {X : Nat → List D → RS → Prop} {k many : Nat}
theorem num_ge (q : Rat) : (decide (0 ≤ q.num)) = decide (0 ≤ q) := num_nn q
theorem zerosN (h1 : 1 ≤ many) (h8 : many ≤ 8) : binD .mul (.tup [.tup [.int 0, .int 1]]) (.int (many : Nat)) = some (.tup ((List.replicate many (0 : Rat)).map ratD)) := zeros_mul h1 h8
theorem sm_map_mul {a : List Rat} {x : Rat} {i j : Nat} (ha : allSm i a) (hx : Sm j x) : allSm (i + j) (a.map (· * x)) := fun q hq => by
  obtain ⟨y, hy, rfl⟩ := List.mem_map.mp hq
  exact sm_mul (ha y hy) hx
theorem sm_addQ {a b : List Rat} {i j : Nat} (ha : allSm i a) (hb : allSm j b) : allSm (i + j + 1) (addQ a b) := fun q hq => by
  obtain ⟨⟨y, z⟩, hm, rfl⟩ := List.mem_map.mp hq
  exact (ha y (List.of_mem_zip hm).1).add (hb z (List.of_mem_zip hm).2)
theorem leastG_sm {parts other : List Rat} {one two : Rat} (sp : allSm 3 parts) (so : allSm 3 other) (s1 : Sm 3 one) (s2 : Sm 3 two) : allSm 13 (leastG parts other one two) :=
  sm_addQ (sm_map_mul sp s1) (sm_map_mul so s2)
/-- what is known of the drawn parts of a least sum -/
structure LeastOk (many : Nat) (st parts other loose flat : List Rat) (one two : Rat) : Prop where
  ls : st.length = many
  lp : parts.length = many
  lo : other.length = many
  ll : loose.length = many
  lf : flat.length = many
  ss : allSm 3 st
  sp : allSm 3 parts
  so : allSm 3 other
  sl : allSm 3 loose
  sf : allSm 3 flat
  fl : 0 ≤ dotQ flat st
  o0 : 0 ≤ one
  s1 : Sm 3 one
  s2 : Sm 3 two
set_option maxHeartbeats 0 in
theorem w_least (h1 : 1 ≤ many) (h8 : many ≤ 8) (hB : Bd (k + 200) s) (h : ∀ st parts other loose flat one two s', LeastOk many st parts other loose flat one two → Bd k s' →
    P (.tup [.tup ((leastG parts other one two).map ratD), .tup ((leastLs many st parts other loose flat).map limD), leastV (dotQ (leastG parts other one two) st) st [one, 0, two, 0, 0, 0]]) s') : wR ((M (n + 6)).call f_law_k09_least [.st, .int many] s) P X := by
  refine w_call g_law_k09_least rfl ?_
  unfold B_law_k09_least
  simp [startS]
  refine w_row (most := 5) (k := k + 170) (by omega) (by omega) h8 (hB.le (by omega)) fun st s1 ls ss hb1 => ?_
  simp [-List.map_map]
  refine w_row (most := 4) (k := k + 140) (by omega) (by omega) h8 (hb1.le (by omega)) fun parts s2 lp sp hb2 => ?_
  simp [-List.map_map]
  refine w_row (most := 4) (k := k + 110) (by omega) (by omega) h8 (hb2.le (by omega)) fun other s3 lo so hb3 => ?_
  simp [-List.map_map, setF]
  refine w_row (most := 3) (k := k + 80) (by omega) (by omega) h8 (hb3.le (by omega)) fun flat0 s4 lf0 sf0 hb4 => ?_
  have hd : ∀ a : List Rat, a.length = many → (3 + 3 + 1) * (a.length + 1) ≤ 1900 := fun a e => by rw [e]; omega
  obtain ⟨flat, lf, sf, fl, hfl⟩ : ∃ flat : List Rat, flat.length = many ∧ allSm 3 flat ∧ 0 ≤ dotQ flat st ∧ flat = if 0 ≤ dotQ flat0 st then flat0 else flat0.map fun q => -q := by
    by_cases hz : 0 ≤ dotQ flat0 st
    · exact ⟨flat0, lf0, sf0, hz, by rw [if_pos hz]⟩
    · refine ⟨flat0.map fun q => -q, by rw [List.length_map]; exact lf0, fun q hq => ?_, ?_, by rw [if_neg hz]⟩
      · obtain ⟨x, hx, rfl⟩ := List.mem_map.mp hq
        exact sm_neg (sf0 x hx)
      · rw [dot_neg]
        grind
  simp [-List.map_map, -e_ite]
  refine w_val (v := .tup (flat.map ratD)) (t := s4) ?_ ?_
  · simp
    refine w_ok (hb_times_eq (.inl rfl) (.inl rfl) sf0 ss (by omega) (by omega) (hd _ lf0)) ?_
    simp [ratD]
    refine cnd_i (fun h2 => ?_) fun h2 => ?_
    · simp at h2
      rw [if_pos h2] at hfl
      simp [hfl]
    · have h2 : ¬ 0 ≤ dotQ flat0 st := by simpa using h2
      rw [if_neg h2] at hfl
      simp
      refine w_ok turned_eq ?_
      rw [hfl]
      exact ⟨rfl, rfl⟩
  simp [-List.map_map]
  refine w_draws (k := k + 79) (by omega) (by omega) (hb4.le (by omega)) fun r1 s5 a0 a1 hb5 => ?_
  simp [-List.map_map]
  refine w_draws (k := k + 78) (by omega) (by omega) (hb5.le (by omega)) fun r2 s6 b0 b1 hb6 => ?_
  simp [-List.map_map]
  refine w_draws (k := k + 77) (by omega) (by omega) (hb6.le (by omega)) fun r3 s7 c0 c1 hb7 => ?_
  obtain ⟨p1, rfl⟩ := Int.eq_ofNat_of_zero_le a0
  obtain ⟨p2, rfl⟩ := Int.eq_ofNat_of_zero_le b0
  have q1 : p1 < 5 := by omega
  have q2 : p2 < 2 := by omega
  have e1 : (1 : Int) + (p1 : Nat) = ((1 + p1 : Nat) : Int) := by omega
  have e2 : (1 : Int) + (p2 : Nat) = ((1 + p2 : Nat) : Int) := by omega
  have s1 : Sm 3 (mkRat ((1 + p1 : Nat) : Int) (1 + p2)) := mkRat_sm (by omega) (by omega) (by omega)
  have o0 : 0 ≤ mkRat ((1 + p1 : Nat) : Int) (1 + p2) := by
    rw [← Rat.divInt_ofNat]
    exact Rat.divInt_nonneg (by omega) (by omega)
  obtain ⟨v, hv, hv3⟩ : ∃ v : Int, v = r3 - 3 ∧ v.natAbs < 2 ^ 3 := ⟨_, rfl, by omega⟩
  have s2' : Sm 3 (v : Rat) := sm_int hv3 (by omega)
  have hb8 : Bd (k + 77) s7 := hb7
  simp [-List.map_map]
  rw [e1, e2, ← hv]
  refine w_ok (fr_eq (k := 3) (by omega) (by omega) (by omega) (by omega)) ?_
  generalize mkRat ((1 + p1 : Nat) : Int) (1 + p2) = one at s1 o0 ⊢
  have eT : D.tup [.int v, .int 1] = ratD (v : Rat) := rfl
  simp [-List.map_map]
  rw [eT]
  generalize (v : Rat) = two at s2' ⊢
  refine w_ok (hb_times_eq (.inl rfl) (.inl rfl) sp ss (by omega) (by omega) (hd _ lp)) ?_
  simp [-List.map_map]
  refine w_ok (hb_times_eq (.inl rfl) (.inl rfl) so ss (by omega) (by omega) (hd _ lo)) ?_
  simp [-List.map_map]
  refine w_row (most := 4) (k := k + 50) (by omega) (by omega) h8 (hb8.le (by omega)) fun loose s8 ll sl hb9 => ?_
  simp [-List.map_map]
  refine w_ok (hb_times_eq (.inl rfl) (.inl rfl) sl ss (by omega) (by omega) (hd _ ll)) ?_
  simp [-List.map_map]
  rw [half_D]
  have dsm : Sm 57 (dotQ loose st) := (dot_sm sl ss).mono (by rw [ll]; omega)
  refine w_ok (fr_minus_eq dsm (show Sm 3 half from ⟨by decide +kernel, by decide +kernel⟩) (by omega) (by omega) (by omega)) ?_
  simp [-List.map_map]
  refine optR_i (zerosN h1 h8) ?_
  simp [-List.map_map]
  refine o_add_l (by simp) ?_
  simp [-List.map_map]
  refine w_ok (scaled_eq sp s1 (by omega) (by omega) (by omega)) ?_
  simp [-List.map_map]
  refine w_ok (scaled_eq so s2' (by omega) (by omega) (by omega)) ?_
  simp [-List.map_map]
  refine w_ok (plus_eq (sm_map_mul sp s1) (sm_map_mul so s2') (by omega) (by omega) (by omega)) ?_
  have eG : addQ (parts.map (· * one)) (other.map (· * two)) = leastG parts other one two := rfl
  rw [eG]
  have gl := leastG_len (one := one) (two := two) lp lo
  have gs := leastG_sm sp so s1 s2'
  simp [-List.map_map]
  refine w_ok (hb_times_eq (.inl rfl) (.inl rfl) gs ss (by omega) (by omega) (by rw [gl]; omega)) ?_
  have fin := h st parts other loose flat one two s8 ⟨ls, lp, lo, ll, lf, ss, sp, so, sl, sf, fl, o0, s1, s2'⟩ (hb9.le (by omega))
  simp [-List.map_map]
  rw [← List.map_replicate]
  exact fin
end
end Lw

/-! NL: papers that nothing keeps limits. -/
namespace Lw
open PySem Fw
def tripD (goal : List Rat) (ls : List Lim) (v : D) : D := .tup [.tup (goal.map ratD), .tup (ls.map limD), v]
def TripOk (T : D) : Prop := ∃ goal ls v, T = tripD goal ls v ∧ PrgOk goal ls ∧ v.gb 140 = true
structure First (goal : List Rat) (ls : List Lim) (v : D) : Prop where
  ok : PrgOk goal ls
  gb : v.gb 140 = true
  pl : v.pln = true
  wd : v.wid 1000 = true
  dp : v.dep ≤ 3
  rt : sumOk goal ls v = true
/-- a list of programs and papers, the first one right -/
def Ones (fs : List D) : Prop := ∃ goal ls v rest, fs = tripD goal ls v :: rest ∧ First goal ls v ∧ (∀ T ∈ rest, TripOk T) ∧ rest.length ≤ 40
theorem noneQ_of {goal : List Rat} {ls : List Lim} {ws : List Rat} (h2 : ws.length = ls.length) (h3 : wgtQ ls ws = true) (h6 : colsQ goal.length ls ws = List.replicate goal.length 0) (h7 : 0 < bndQ ls ws) : sumOk goal ls (.tup [.str ("none" : Str), .tup (ws.map ratD)]) = true := by
  have e2 := frs_rats ws
  rw [h2] at e2
  have e3 : wgts ls (.tup (ws.map ratD)) = some ws := by simp [wgts, e2, h3]
  rw [sum_len2]
  simp [noneQ, e3, h6, h7]
section
variable {nn : Nat} {parts : List Rat} {first gap : Rat}
def negQ (a : List Rat) : List Rat := a.map fun q => -q
def freeL (nn : Nat) : Lim := ⟨false, List.replicate nn 0, -1⟩
def bothL (nn : Nat) (parts : List Rat) (first gap : Rat) : List Lim := [⟨false, parts, first⟩, ⟨false, negQ parts, gap - first⟩, freeL nn]
def metL (nn : Nat) (parts : List Rat) (first : Rat) : List Lim := [⟨false, parts, first⟩, ⟨false, negQ parts, -first⟩, freeL nn]
def justL (nn : Nat) (parts : List Rat) (first gap : Rat) : List Lim := [⟨true, parts, first + gap⟩, ⟨true, parts, first⟩, freeL nn]
theorem none_right {goal : List Rat} (hg : goal.length = nn) (hp : parts.length = nn) (h : 0 < gap) : sumOk goal (bothL nn parts first gap) (.tup [.str ("none" : Str), .tup ([1, 1, 0].map ratD)]) = true := by
  refine noneQ_of rfl ?_ ?_ ?_
  · have z1 : (0 : Rat) ≤ 1 := by decide +kernel
    have z2 : (0 : Rat) ≤ 0 := by decide +kernel
    simp [wgtQ, bothL, freeL, z1, z2]
  · rw [hg]
    refine cols_is (by simp) fun i hi => ?_
    simp only [colQ, bothL, freeL, negQ, List.map_cons, List.map_nil, dotQ_cons, dotQ_nil, getD_rep, getD_neg]
    grind
  · simp only [bndQ, bothL, freeL, List.map_cons, List.map_nil, dotQ_cons, dotQ_nil]
    grind
theorem lim_zero (h : Sm 61 (0 : Rat)) {b : Rat} {w : Bool} (hb : Sm 61 b) : LimOk nn ⟨w, List.replicate nn 0, b⟩ := ⟨by simp, fun q hq => by
  rw [(List.mem_replicate.mp hq).2]
  exact ⟨by decide, by decide⟩, hb⟩
theorem sm0 : Sm 61 (0 : Rat) := ⟨by decide, by decide⟩
theorem smm1 : Sm 61 (-1 : Rat) := ⟨by decide, by decide⟩
theorem free_ok : LimOk nn (freeL nn) := lim_zero sm0 smm1
theorem neg_ok {b : Rat} {w : Bool} (h : LimOk nn ⟨w, parts, b⟩) {c : Rat} (hc : Sm 61 c) : LimOk nn ⟨w, negQ parts, c⟩ := ⟨by simpa [negQ] using h.len, fun q hq => by
  obtain ⟨x, hx, rfl⟩ := List.mem_map.mp hq
  exact sm_neg (h.sm x hx), hc⟩
theorem prg3 {goal : List Rat} {a b c : Lim} (h1 : 1 ≤ nn) (h8 : nn ≤ 8) (hg : goal.length = nn) (gs : allSm 13 goal) (ha : LimOk nn a) (hb : LimOk nn b) (hc : LimOk nn c) : PrgOk goal [a, b, c] :=
  ⟨by omega, by omega, gs, by simp, fun l hl => by
    rw [hg]
    simp only [List.mem_cons, List.not_mem_nil, or_false] at hl
    rcases hl with rfl | rfl | rfl
    · exact ha
    · exact hb
    · exact hc⟩
end
@[simp] theorem idx_r0 (q : Rat) : idxD (ratD q) (.int 0) = some (.int q.num) := idx_t (k := 0) rfl
@[simp] theorem idx_r1 (q : Rat) : idxD (ratD q) (.int 1) = some (.int (q.den : Nat)) := idx_t (k := 1) rfl
section
variable {n : Nat} {s : RS} {P : D → RS → Prop} {X : Nat → List D → RS → Prop} {k many : Nat}
set_option maxHeartbeats 0 in
theorem w_none (h1 : 1 ≤ many) (h8 : many ≤ 8) (hB : Bd (k + 80) s) (h : ∀ fs s', Ones fs → Bd k s' → P (.lst fs) s') : wR ((M (n + 6)).call f_law_k09_none_ones [.st, .int many] s) P X := by
  refine w_call g_law_k09_none_ones rfl ?_
  unfold B_law_k09_none_ones
  simp [startS]
  refine w_row (most := 3) (k := k + 55) (by omega) (by omega) h8 (hB.le (by omega)) fun goal s1 lg sg hb1 => ?_
  simp [-List.map_map]
  refine w_row (most := 4) (k := k + 30) (by omega) (by omega) h8 (hb1.le (by omega)) fun parts s2 lp sp hb2 => ?_
  simp [-List.map_map]
  refine w_row (many := 1) (most := 5) (k := k + 5) (by omega) (by omega) (by omega) (hb2.le (by omega)) fun fr s3 lf sf hb3 => ?_
  obtain ⟨first, rfl⟩ : ∃ q, fr = [q] := by
    match fr, lf with
    | [q], _ => exact ⟨q, rfl⟩
  have sf1 : Sm 3 first := sf first (by simp)
  simp [-List.map_map, -List.map_replicate]
  refine w_pickL (k := k + 4) (by simp) (by simp) hb3 fun d s4 hd hb4 => ?_
  obtain ⟨gap, rfl, sg1, gp⟩ : ∃ g : Rat, d = ratD g ∧ Sm 3 g ∧ 0 < g := by
    simp only [List.mem_cons, List.not_mem_nil, or_false] at hd
    rcases hd with rfl | rfl | rfl
    · exact ⟨1, rfl, ⟨by decide, by decide⟩, by decide +kernel⟩
    · exact ⟨mkRat 1 5, rfl, ⟨by decide +kernel, by decide +kernel⟩, by decide +kernel⟩
    · exact ⟨3, rfl, ⟨by decide, by decide⟩, by decide +kernel⟩
  simp [-List.map_map, -List.map_replicate]
  refine w_ok (fr_minus_eq sg1 sf1 (by omega) (by omega) (by omega)) ?_
  simp [-List.map_map, -List.map_replicate]
  refine optR_i (zerosN h1 h8) ?_
  simp [-List.map_map, -List.map_replicate]
  refine w_ok turned_eq ?_
  simp [-List.map_map, -List.map_replicate]
  refine w_ok turned_eq ?_
  simp [-List.map_map, -List.map_replicate]
  refine w_ok (fr_plus_eq sf1 sg1 (by omega) (by omega) (by omega)) ?_
  simp [-List.map_map, -List.map_replicate]
  refine optR_i (zerosN (many := 3) (by omega) (by omega)) ?_
  simp [-List.map_map, -List.map_replicate]
  refine o_add_l (by simp) ?_
  simp [-List.map_map, -List.map_replicate]
  refine o_add_l (by simp) ?_
  simp [-List.map_map, -List.map_replicate]
  refine o_add_l (by simp) ?_
  simp [-List.map_map, -List.map_replicate]
  refine wR_cmapD (fun a => match a with
    | .tup [x, y] => .tup [.tup (goal.map ratD), x, .tup [.str ("none" : Str), y]]
    | a => a) _ (fun a ha => ?_) ?_
  · obtain ⟨x, y, rfl⟩ : ∃ x y, a = .tup [x, y] := by
      simp only [List.mem_cons, List.not_mem_nil, or_false] at ha
      rcases ha with rfl | rfl | rfl | rfl | rfl | rfl | rfl | rfl | rfl | rfl | rfl | rfl | rfl | rfl | rfl
      all_goals exact ⟨_, _, rfl⟩
    rw [compB_w]
    simp
  simp [-List.map_map, -List.map_replicate]
  refine o_add_l (by simp) ?_
  simp only [List.cons_append, List.nil_append]
  have gs : allSm 13 goal := fun q hq => (sg q hq).mono (by decide)
  have lk : ∀ (w : Bool) (b : Rat), Sm 61 b → LimOk many ⟨w, parts, b⟩ := fun w b hb => ⟨lp, fun q hq => (sp q hq).mono (by decide), hb⟩
  have sb : Sm 61 (gap - first) := (sg1.sub sf1).mono (by decide)
  have sc : Sm 61 (first + gap) := (sf1.add sg1).mono (by decide)
  have sd : Sm 61 first := sf1.mono (by decide)
  have pb : PrgOk goal (bothL many parts first gap) := prg3 h1 h8 lg gs (lk _ _ sd) (neg_ok (lk false _ sd) sb) free_ok
  have pm : PrgOk goal (metL many parts first) := prg3 h1 h8 lg gs (lk _ _ sd) (neg_ok (lk false _ sd) (sm_neg sd)) free_ok
  have pj : PrgOk goal (justL many parts first gap) := prg3 h1 h8 lg gs (lk _ _ sc) (lk _ _ sd) free_ok
  refine h _ s4 ⟨goal, bothL many parts first gap, .tup [.str ("none" : Str), .tup ([1, 1, 0].map ratD)], _, rfl, ⟨pb, by decide +kernel, by decide +kernel, by decide +kernel, by decide +kernel, none_right lg lp gp⟩, fun T hT => ?_, by simp⟩ (hb4.le (by omega))
  simp only [List.mem_cons, List.not_mem_nil, or_false] at hT
  rcases hT with rfl | rfl | rfl | rfl | rfl | rfl | rfl | rfl | rfl | rfl | rfl | rfl | rfl | rfl | rfl
  all_goals first
    | exact ⟨goal, bothL many parts first gap, _, rfl, pb, by decide +kernel⟩
    | exact ⟨goal, metL many parts first, _, rfl, pm, by decide +kernel⟩
    | exact ⟨goal, justL many parts first gap, _, rfl, pj, by decide +kernel⟩
end
end Lw

/-! NM: endless ways. -/
namespace Lw
open PySem Fw
def setQ (a : List Rat) (i : Nat) (v : Rat) : List Rat := a.take i ++ [v] ++ a.drop (i + 1)
theorem setQ_len {a : List Rat} {i : Nat} {v : Rat} (h : i < a.length) : (setQ a i v).length = a.length := by
  simp [setQ]
  omega
theorem setQ_sm {a : List Rat} {i k : Nat} {v : Rat} (ha : allSm k a) (hv : Sm k v) : allSm k (setQ a i v) := fun q hq => by
  rcases List.mem_append.mp hq with z | z
  · rcases List.mem_append.mp z with z | z
    · exact ha q (List.mem_of_mem_take z)
    · rw [List.mem_singleton.mp z]
      exact hv
  · exact ha q (List.mem_of_mem_drop z)
theorem setQ_at {a : List Rat} {i : Nat} {v : Rat} (h : i < a.length) : (setQ a i v)[i]? = some v := by
  unfold setQ
  rw [List.append_assoc, List.getElem?_append_right (by simp; omega)]
  have : i - (a.take i).length = 0 := by simp; omega
  rw [this]
  rfl
theorem setQ_D (a : List Rat) (i : Nat) (v : Rat) : ((a.map ratD).take i ++ [ratD v]) ++ (a.map ratD).drop (i + 1) = (setQ a i v).map ratD := by
  simp [setQ, List.map_take, List.map_drop]
def alongQ (nn i : Nat) : List Rat := (List.range nn).map fun j => if j = i then (1 : Rat) else 0
theorem along_len (nn i : Nat) : (alongQ nn i).length = nn := by simp [alongQ]
theorem along_sm (nn i : Nat) : allSm 1 (alongQ nn i) := fun q hq => by
  obtain ⟨j, _, rfl⟩ := List.mem_map.mp hq
  split <;> exact ⟨by decide, by decide⟩
theorem dot_nonneg : ∀ a b : List Rat, (∀ p ∈ a.zip b, 0 ≤ p.1 * p.2) → 0 ≤ dotQ a b
  | [], b, _ => by
    show (0 : Rat) ≤ 0
    decide +kernel
  | x :: a, [], _ => by
    show (0 : Rat) ≤ 0
    decide +kernel
  | x :: a, y :: b, h => by
    rw [dotQ_cons]
    exact Rat.add_nonneg (h (x, y) (by simp)) (dot_nonneg a b fun p hp => h p (by simp [hp]))
theorem dot_pos : ∀ a b : List Rat, (∀ p ∈ a.zip b, 0 ≤ p.1 * p.2) → (∃ p ∈ a.zip b, 0 < p.1 * p.2) → 0 < dotQ a b
  | [], b, _, ⟨p, hp, _⟩ => by simp at hp
  | x :: a, [], _, ⟨p, hp, _⟩ => by simp at hp
  | x :: a, y :: b, h, ⟨p, hp, hpp⟩ => by
    rw [dotQ_cons]
    have h1 := h (x, y) (by simp)
    have h2 : ∀ p ∈ a.zip b, 0 ≤ p.1 * p.2 := fun p hp => h p (by simp [hp])
    simp only [List.zip_cons_cons, List.mem_cons] at hp
    rcases hp with rfl | hp
    · have := dot_nonneg a b h2
      simp only at hpp
      grind
    · have := dot_pos a b h2 ⟨p, hp, hpp⟩
      simp only at h1
      grind
theorem sq_nn (q : Rat) : 0 ≤ q * q := by
  rcases Rat.nonneg_total q with h | h
  · exact Rat.mul_nonneg h h
  · have := Rat.mul_nonneg h h
    grind
theorem dot_self {a : List Rat} {v : Rat} (h : v ∈ a) (hv : 0 < v * v) : 0 < dotQ a a := by
  refine dot_pos a a (fun p hp => ?_) ?_
  · obtain ⟨i, hi, e⟩ := List.mem_iff_getElem.mp hp
    rw [List.getElem_zip] at e
    rw [← e]
    exact sq_nn _
  · obtain ⟨i, hi, e⟩ := List.mem_iff_getElem.mp h
    refine ⟨(v, v), List.mem_iff_getElem.mpr ⟨i, by simpa using hi, ?_⟩, hv⟩
    rw [List.getElem_zip, e]
theorem dot_along {nn i : Nat} {w : List Rat} {v : Rat} (hv : 0 ≤ v) (hw : w[i]? = some v) : 0 ≤ dotQ (alongQ nn i) w := by
  refine dot_nonneg _ _ fun p hp => ?_
  obtain ⟨j, hj, e⟩ := List.mem_iff_getElem.mp hp
  rw [List.getElem_zip] at e
  rw [← e]
  simp only [alongQ, List.getElem_map, List.getElem_range]
  by_cases h : j = i
  · subst h
    have h2 : w[j]'(by simp at hj; omega) = v := by
      obtain ⟨h3, h4⟩ := List.getElem?_eq_some_iff.mp hw
      exact h4
    rw [h2, if_pos rfl]
    grind
  · rw [if_neg h]
    grind
section
variable {nn i : Nat} {st way : List Rat} {v : Rat}
def endLs (nn i : Nat) (st : List Rat) : List Lim := [⟨false, alongQ nn i, dotQ (alongQ nn i) st⟩, ⟨false, List.replicate nn 0, 0⟩]
def endV (st way : List Rat) : D := .tup [.str ("endless" : Str), .tup (st.map ratD), .tup (way.map ratD)]
theorem end_right (hs : st.length = nn) (hw : way.length = nn) (hv : 0 < v) (hat : way[i]? = some v) : sumOk (negQ way) (endLs nn i st) (endV st way) = true := by
  have hl : (negQ way).length = nn := by simp [negQ, hw]
  have e1 : frs (negQ way).length (.tup (st.map ratD)) = some st := by
    have := frs_rats st
    rw [hs] at this
    rw [hl]
    exact this
  have e2 : frs (negQ way).length (.tup (way.map ratD)) = some way := by
    have := frs_rats way
    rw [hw] at this
    rw [hl]
    exact this
  have z1 := dot_along (nn := nn) (Rat.le_of_lt hv) hat
  have z2 : ¬ dotQ (alongQ nn i) way < 0 := Rat.not_lt.mpr z1
  have z3 : dotQ (negQ way) way < 0 := by
    have := dot_self (List.mem_of_getElem? hat) (Rat.mul_pos hv hv)
    unfold negQ
    rw [dot_neg]
    grind
  have z4 : ∀ q : Rat, ¬ q < q := fun q => by grind
  unfold endV
  rw [sum_len3]
  simp [endQ, e1, e2, keepsQ, keep1, endLs, flatL, dot_zero, z2, z3, z4]
theorem prg_of {goal : List Rat} {ls : List Lim} (h1 : 1 ≤ nn) (h8 : nn ≤ 8) (hg : goal.length = nn) (gs : allSm 13 goal) (hl : ls.length ≤ 7) (h : ∀ l ∈ ls, LimOk nn l) : PrgOk goal ls :=
  ⟨by omega, by omega, gs, hl, fun l hm => by rw [hg]; exact h l hm⟩
end
end Lw

/-! NN: endless ways, drawn. -/
namespace Lw
open PySem Fw
section
variable {n : Nat} {s : RS} {P : D → RS → Prop} {X : Nat → List D → RS → Prop} {k many : Nat}
theorem lfs_rats (qs : List Rat) : D.lfs (qs.map ratD) = true := lfs_of (fun _ => rfl) qs
theorem lf_rat (q : Rat) : (ratD q).lf = true := rfl
def q53 : Rat := mkRat 5 3
def q19 : Rat := mkRat 1 9
theorem ed53 : D.tup [.int 5, .int 3] = ratD q53 := rfl
theorem ed19 : D.tup [.int 1, .int 9] = ratD q19 := rfl
theorem ed41 : D.tup [.int 4, .int 1] = ratD 4 := rfl
theorem s53 : Sm 3 q53 := ⟨by decide +kernel, by decide +kernel⟩
theorem s19 : Sm 4 q19 := ⟨by decide +kernel, by decide +kernel⟩
theorem s41 : Sm 3 (4 : Rat) := ⟨by decide, by decide⟩
theorem scaled_D {a : List Rat} {q : Rat} {d : D} {j k : Nat} (e : d = ratD q) (ha : allSm j a) (hq : Sm k q) (hj : 0 < j) (hk : 0 < k) (hjk : j + k ≤ 1900) : (M (n + 4)).call f_law_hb_scaled [.tup (a.map ratD), d] s = .ok (.tup ((a.map fun x => x * q).map ratD)) s := by
  subst e
  exact scaled_eq ha hq hj hk hjk
theorem plus_D {p q : Rat} {d : D} {j k : Nat} (e : d = ratD q) (hp : Sm j p) (hq : Sm k q) (hj : 0 < j) (hk : 0 < k) (h : j + k ≤ 1900) : (M (n + 3)).call f_law_fr_plus [ratD p, d] s = .ok (ratD (p + q)) s := by
  subst e
  exact fr_plus_eq hp hq hj hk h
theorem minus_D {p q : Rat} {c d : D} {j k : Nat} (e0 : c = ratD p) (e : d = ratD q) (hp : Sm j p) (hq : Sm k q) (hj : 0 < j) (hk : 0 < k) (h : j + k ≤ 1900) : (M (n + 3)).call f_law_fr_minus [c, d] s = .ok (ratD (p - q)) s := by
  subst e0 e
  exact fr_minus_eq hp hq hj hk h
theorem times_D {p q : Rat} {d : D} {j k : Nat} (e : d = ratD q) (hp : Sm j p) (hq : Sm k q) (hj : 0 < j) (hk : 0 < k) (h : j + k ≤ 1900) : (M (n + 3)).call f_law_fr_times [ratD p, d] s = .ok (ratD (p * q)) s := by
  subst e
  exact fr_times_eq hp hq hj hk h
set_option maxHeartbeats 0 in
theorem w_endless (h1 : 1 ≤ many) (h8 : many ≤ 8) (hB : Bd (k + 80) s) (h : ∀ fs s', Ones fs → Bd k s' → P (.lst fs) s') : wR ((M (n + 6)).call f_law_k09_endless_ones [.st, .int many] s) P X := by
  refine w_call g_law_k09_endless_ones rfl ?_
  unfold B_law_k09_endless_ones
  simp [startS]
  refine w_row (most := 4) (k := k + 55) (by omega) (by omega) h8 (hB.le (by omega)) fun st s1 lst sst hb1 => ?_
  simp [-List.map_map]
  refine w_row (most := 3) (k := k + 30) (by omega) (by omega) h8 (hb1.le (by omega)) fun way0 s2 lw0 sw0 hb2 => ?_
  simp [-List.map_map]
  refine w_draws (z := many) (k := k + 29) ?_ ?_ ?_ fun r s3 r0 r1 hb3 => ?_
  · omega
  · omega
  · exact hb2
  obtain ⟨i, rfl⟩ := Int.eq_ofNat_of_zero_le r0
  have hi : i < many := by omega
  simp [-List.map_map, -List.map_replicate, cut_to]
  refine w_draws (z := 3) (k := k + 28) ?_ ?_ ?_ fun r s4 c0 c1 hb4 => ?_
  · omega
  · omega
  · exact hb3
  simp [-List.map_map, -List.map_replicate]
  obtain ⟨z, hz, hz3, hz0⟩ : ∃ z : Int, z = 1 + r ∧ z.natAbs < 2 ^ 3 ∧ 0 < z := ⟨_, rfl, by omega, by omega⟩
  have vp : (0 : Rat) < (z : Rat) := by
    have e := num_pos (z : Rat)
    have e2 : ((z : Rat)).num = z := rfl
    rw [e2, decide_eq_true hz0] at e
    exact of_decide_eq_true e.symm
  have v3 : Sm 3 (z : Rat) := sm_int hz3 (by omega)
  have eT : D.tup [.int z, .int 1] = ratD (z : Rat) := rfl
  rw [← hz, eT]
  generalize (z : Rat) = v at vp v3
  refine o_add_t (by simp; omega) ?_
  simp [-List.map_map, -List.map_replicate, cut_s, -List.map_append]
  refine o_add_t (by simp; omega) ?_
  have ew := setQ_D way0 i v
  rw [ew]
  have lw : (setQ way0 i v).length = many := by rw [setQ_len (by omega), lw0]
  have sw : allSm 3 (setQ way0 i v) := setQ_sm sw0 v3
  have aw : (setQ way0 i v)[i]? = some v := setQ_at (by omega)
  generalize setQ way0 i v = way at lw sw aw
  simp [-List.map_map, -List.map_replicate]
  refine w_ok turned_eq ?_
  simp [-List.map_map, -List.map_replicate]
  refine optR_i (it_rng1n (show many ≤ 16777216 by omega)) ?_
  refine wR_cmap natD (fun j => ratD (if j = i then 1 else 0)) _ (fun j hj => ?_) ?_
  · rw [compB_w]
    simp
    refine cnd_i (fun h2 => ?_) fun h2 => ?_
    · have h3 : j = i := by
        simp at h2
        omega
      simp [h3]
      rfl
    · have h3 : ¬ j = i := by
        intro e
        simp [e] at h2
      simp [h3]
      rfl
  have ea : (List.range many).map (fun j => ratD (if j = i then 1 else 0)) = (alongQ many i).map ratD := by
    unfold alongQ
    rw [List.map_map]
    rfl
  rw [ea]
  have la := along_len many i
  have sa := along_sm many i
  simp [-List.map_map, -List.map_replicate]
  refine w_ok (hb_times_eq (j := 1) (.inl rfl) (.inl rfl) sa sst (by omega) (by omega) (by rw [la]; omega)) ?_
  simp [-List.map_map, -List.map_replicate]
  refine optR_i (zerosN h1 h8) ?_
  simp [-List.map_map, -List.map_replicate]
  have esm : Sm 41 (dotQ (alongQ many i) st) := (dot_sm sa sst).mono (by rw [la]; omega)
  refine optR_i (zerosN h1 h8) ?_
  simp [-List.map_map, -List.map_replicate]
  refine o_add_t (by simp) ?_
  simp [-List.map_map, -List.map_replicate]
  refine optR_i (zerosN h1 h8) ?_
  simp [-List.map_map, -List.map_replicate]
  refine o_add_t (by simp) ?_
  simp [-List.map_map, -List.map_replicate]
  refine w_ok (scaled_D ed53 sw s53 (by omega) (by omega) (by omega)) ?_
  simp [-List.map_map, -List.map_replicate]
  refine w_ok (plus_D ed19 esm s19 (by omega) (by omega) (by omega)) ?_
  simp [-List.map_map, -List.map_replicate]
  refine optR_i (zerosN h1 h8) ?_
  simp [-List.map_map, -List.map_replicate]
  refine w_ok turned_eq ?_
  simp [-List.map_map, -List.map_replicate]
  refine w_ok (minus_D (neg_D2 _) ed41 (sm_neg esm) s41 (by omega) (by omega) (by omega)) ?_
  simp [-List.map_map, -List.map_replicate]
  refine wR_cmapD (fun a => match a with
    | .tup [x, y, z, w] => .tup [x, y, .tup [.str ("endless" : Str), z, w]]
    | a => a) _ (fun a ha => ?_) ?_
  · obtain ⟨x, y, z, w, rfl⟩ : ∃ x y z w, a = .tup [x, y, z, w] := by
      simp only [List.mem_cons, List.not_mem_nil, or_false] at ha
      rcases ha with rfl | rfl | rfl | rfl | rfl | rfl | rfl | rfl | rfl
      all_goals exact ⟨_, _, _, _, rfl⟩
    rw [compB_w]
    simp
  simp [-List.map_map, -List.map_replicate, D.lfs, D.lf, lfs_rats, lf_rat]
  refine o_add_l (by simp) ?_
  simp [-List.map_map, -List.map_replicate]
  have gst : D.gbs 140 (st.map ratD) = true := by simpa [D.gb] using row_gd (fun q hq => (sst q hq).mono (show 3 ≤ 140 by omega))
  have gw : D.gbs 140 (way.map ratD) = true := by simpa [D.gb] using row_gd (fun q hq => (sw q hq).mono (show 3 ≤ 140 by omega))
  have sd : allSm 3 (way.map fun q => -q) := fun q hq => by
    obtain ⟨x, hx, rfl⟩ := List.mem_map.mp hq
    exact sm_neg (sw x hx)
  have gd : D.gbs 140 ((way.map fun q => -q).map ratD) = true := by simpa [D.gb] using row_gd (fun q hq => (sd q hq).mono (show 3 ≤ 140 by omega))
  have sc : allSm 6 (way.map fun x => x * q53) := sm_map_mul sw s53
  have gc : D.gbs 140 ((way.map fun x => x * q53).map ratD) = true := by simpa [D.gb] using row_gd (fun q hq => (sc q hq).mono (show 6 ≤ 140 by omega))
  have gt : D.gbs 140 ((way.map ratD).drop 1) = true := gbs_drop gw 1
  have gt2 : D.gbs 140 (way.map ratD).tail = true := by rw [← List.drop_one]; exact gt
  have la2 : LimOk many ⟨false, alongQ many i, dotQ (alongQ many i) st⟩ := ⟨la, fun q hq => (sa q hq).mono (by omega), esm.mono (by omega)⟩
  have lz : ∀ (w : Bool) (b : Rat), Sm 61 b → LimOk many ⟨w, List.replicate many 0, b⟩ := fun w b hb => lim_zero sm0 hb
  have ll : ∀ (w : Bool) (b : Rat), Sm 61 b → LimOk many ⟨w, alongQ many i, b⟩ := fun w b hb => ⟨la, fun q hq => (sa q hq).mono (by omega), hb⟩
  have sE : Sm 61 (dotQ (alongQ many i) st) := esm.mono (by omega)
  have gA : allSm 13 (negQ way) := fun q hq => (sd q hq).mono (by omega)
  have gB : allSm 13 way := fun q hq => (sw q hq).mono (by omega)
  have gC : allSm 13 (List.replicate many (0 : Rat)) := fun q hq => by
    rw [(List.mem_replicate.mp hq).2]
    exact ⟨by decide, by decide⟩
  have lA : (negQ way).length = many := by simp [negQ, lw]
  have lC : (List.replicate many (0 : Rat)).length = many := by simp
  have h0 : ∀ l ∈ endLs many i st, LimOk many l := fun l hl => by
    simp only [endLs, List.mem_cons, List.not_mem_nil, or_false] at hl
    rcases hl with rfl | rfl
    · exact ll _ _ sE
    · exact lz _ _ sm0
  have pr : ∀ {goal : List Rat}, goal.length = many → allSm 13 goal → PrgOk goal (endLs many i st) := fun hg gs => prg_of h1 h8 hg gs (by simp [endLs]) h0
  have p4 : PrgOk (negQ way) (endLs many i st ++ [⟨true, alongQ many i, dotQ (alongQ many i) st⟩]) := prg_of h1 h8 lA gA (by simp [endLs]) fun l hl => by
    rcases List.mem_append.mp hl with z | z
    · exact h0 l z
    · rw [List.mem_singleton.mp z]
      exact ll _ _ sE
  have p5 : PrgOk (negQ way) (⟨true, List.replicate many 0, 0⟩ :: endLs many i st) := prg_of h1 h8 lA gA (by simp [endLs]) fun l hl => by
    rcases List.mem_cons.mp hl with rfl | z
    · exact lz _ _ sm0
    · exact h0 l z
  have p1 : ∀ {L : Lim}, LimOk many L → PrgOk (negQ way) [L] := fun hL => prg_of h1 h8 lA gA (by simp) fun l hl => by
    rw [List.mem_singleton.mp hl]
    exact hL
  have p6 : PrgOk (negQ way) [⟨false, alongQ many i, dotQ (alongQ many i) st + q19⟩] := p1 (ll _ _ ((esm.add s19).mono (by omega)))
  have p7 : PrgOk (negQ way) [⟨true, List.replicate many 0, q19⟩] := p1 (lz _ _ (s19.mono (by omega)))
  have p8 : PrgOk (negQ way) [⟨false, negQ (alongQ many i), -dotQ (alongQ many i) st - 4⟩] := p1 (neg_ok (ll false _ sE) (((sm_neg esm).sub s41).mono (by omega)))
  refine h _ s4 ⟨negQ way, endLs many i st, endV st way, _, rfl, ⟨pr lA gA, by simp [endV, D.gb, D.gbs, gst, gw], by simp [endV, D.pln, D.plns, rats_pln], by simp [endV, D.wid, D.wids, rats_wid, lst, lw]; omega, ?_, end_right lst lw vp aw⟩, fun T hT => ?_, by simp⟩ (hb4.le (by omega))
  · have q1 := rats_dep st
    have q2 := rats_dep way
    simp [endV, D.dep, D.deps]
    omega
  simp only [List.mem_cons, List.not_mem_nil, or_false] at hT
  rcases hT with rfl | rfl | rfl | rfl | rfl | rfl | rfl | rfl | rfl | rfl | rfl | rfl
  · exact ⟨way, endLs many i st, _, rfl, pr lw gB, by simp [D.gb, D.gbs, gst, gw]⟩
  · exact ⟨List.replicate many 0, endLs many i st, _, rfl, pr lC gC, by simp [D.gb, D.gbs, gst, gw]⟩
  · exact ⟨way, endLs many i st, _, rfl, pr lw gB, by simp [-List.map_map, D.gb, D.gbs, gst, gd]⟩
  · exact ⟨negQ way, _, _, rfl, p4, by simp [D.gb, D.gbs, gst, gw]⟩
  · exact ⟨negQ way, _, _, rfl, p5, by simp [-List.map_map, D.gb, D.gbs, gst, gc]⟩
  · exact ⟨negQ way, _, _, rfl, p6, by simp [D.gb, D.gbs, gst, gw]⟩
  · exact ⟨negQ way, _, _, rfl, p7, by simp [D.gb, D.gbs, gst, gw]⟩
  · exact ⟨negQ way, _, _, rfl, p8, by simp [D.gb, D.gbs, gst, gw]⟩
  · exact ⟨negQ way, endLs many i st, _, rfl, pr lA gA, by simp [D.gb, D.gbs, gst, gw]⟩
  · exact ⟨negQ way, endLs many i st, _, rfl, pr lA gA, by simp [D.gb, D.gbs, gst, gw]⟩
  · exact ⟨negQ way, endLs many i st, _, rfl, pr lA gA, by simp [D.gb, D.gbs, gst, gt, gt2]⟩
  · exact ⟨negQ way, endLs many i st, _, rfl, pr lA gA, by simp [D.gb, D.gbs, gst, gw]⟩
end
end Lw

/-! NO: least sums, right ones and wrong ones. -/
namespace Lw
open PySem Fw
/-- .. the first two right -/
def OnesL (fs : List D) : Prop := ∃ goal ls v v1 rest, fs = tripD goal ls v :: tripD goal ls v1 :: rest ∧ First goal ls v ∧ v1.gb 140 = true ∧ sumOk goal ls v1 = true ∧ (∀ T ∈ rest, TripOk T) ∧ rest.length ≤ 60
theorem cut_2 (xs : List D) : cutD xs (some 2) none = xs.drop 2 := cut_from xs 2
theorem cut_t4 (xs : List D) : cutD xs none (some 4) = xs.take 4 := cut_to xs 4
theorem cut_t5 (xs : List D) : cutD xs none (some 5) = xs.take 5 := cut_to xs 5
theorem cut_m6 (a b c d e f : D) : cutD [a, b, c, d, e, f] none (some (-1)) = [a, b, c, d, e] := by
  rw [cut_m1 _ (by simp)]
  rfl
theorem rat_wid (q : Rat) : (ratD q).wid 1000 = true := rfl
theorem rat_dep (q : Rat) : (ratD q).dep = (ratD 0).dep := rfl
theorem rat_dep0 : (ratD 0).dep = 1 := by decide +kernel
theorem half_sm : Sm 3 half := ⟨by decide +kernel, by decide +kernel⟩
theorem one_D : D.tup [.int 1, .int 1] = ratD 1 := rfl
theorem one_sm : Sm 1 (1 : Rat) := ⟨by decide, by decide⟩
def third : Rat := mkRat 1 3
theorem third_D : D.tup [.int 1, .int 3] = ratD third := rfl
theorem third_sm : Sm 2 third := ⟨by decide +kernel, by decide +kernel⟩
def sev : Rat := mkRat 1 7
theorem sev_D : D.tup [.int 1, .int 7] = ratD sev := rfl
theorem sev_sm : Sm 3 sev := ⟨by decide +kernel, by decide +kernel⟩
section
variable {n : Nat} {s : RS} {P : D → RS → Prop} {X : Nat → List D → RS → Prop} {k many : Nat}
theorem prg_least {goal st parts other loose flat : List Rat} {one two : Rat} (h1 : 1 ≤ many) (h8 : many ≤ 8) (L : LeastOk many st parts other loose flat one two) (gl : goal.length = many) (gs : allSm 13 goal) : PrgOk goal (leastLs many st parts other loose flat) := by
  have d : ∀ a : List Rat, a.length = many → allSm 3 a → Sm 57 (dotQ a st) := fun a ha sa => (dot_sm sa L.ss).mono (by rw [ha]; omega)
  have l : ∀ (w : Bool) (a : List Rat) (b : Rat), a.length = many → allSm 3 a → Sm 61 b → LimOk many ⟨w, a, b⟩ := fun w a b ha sa hb => ⟨ha, fun q hq => (sa q hq).mono (by omega), hb⟩
  refine prg_of h1 h8 gl gs (by simp [leastLs]) fun x hx => ?_
  simp only [leastLs, List.mem_cons, List.not_mem_nil, or_false] at hx
  rcases hx with rfl | rfl | rfl | rfl | rfl | rfl
  · exact l _ _ _ L.lp L.sp ((d _ L.lp L.sp).mono (by omega))
  · exact l _ _ _ L.lp L.sp ((d _ L.lp L.sp).mono (by omega))
  · exact l _ _ _ L.lo L.so ((d _ L.lo L.so).mono (by omega))
  · exact l _ _ _ L.ll L.sl (((d _ L.ll L.sl).sub half_sm).mono (by omega))
  · exact l _ _ _ L.lf L.sf sm0
  · exact lim_zero sm0 smm1
set_option maxHeartbeats 0 in
theorem w_leasts (h1 : 1 ≤ many) (h8 : many ≤ 8) (hB : Bd (k + 240) s) (h : ∀ fs s', OnesL fs → Bd k s' → P (.lst fs) s') : wR ((M (n + 7)).call f_law_k09_least_ones [.st, .int many] s) P X := by
  refine w_call g_law_k09_least_ones rfl ?_
  unfold B_law_k09_least_ones
  simp [startS]
  refine w_least (k := k + 40) h1 h8 (hB.le (by omega)) fun st parts other loose flat one two s1 L hb1 => ?_
  have gl := leastG_len (one := one) (two := two) L.lp L.lo
  have gs := leastG_sm L.sp L.so L.s1 L.s2
  have dsm : Sm 137 (dotQ (leastG parts other one two) st) := (dot_sm gs L.ss).mono (by rw [gl]; omega)
  have rt0 := least_right (two := two) L.lp L.lo L.ll L.lf L.ls L.fl (one := one) one 0 L.o0 (by decide +kernel) (by grind)
  have rt1 := least_right (two := two) L.lp L.lo L.ll L.lf L.ls L.fl (one * half) (one * half) (Rat.mul_nonneg L.o0 (Rat.le_of_lt half_pos)) (Rat.mul_nonneg L.o0 (Rat.le_of_lt half_pos)) (one := one) (by
    have := half_half
    grind)
  have pl := prg_least h1 h8 L gl gs
  generalize leastG parts other one two = goal at gl gs dsm rt0 rt1 pl ⊢
  have ll : (leastLs many st parts other loose flat).length = 6 := rfl
  generalize leastLs many st parts other loose flat = lims at pl ll rt0 rt1 ⊢
  generalize dotQ goal st = wo at dsm rt0 rt1 ⊢
  simp [leastV, -List.map_map, -List.map_replicate]
  refine w_ok (times_D half_D L.s1 half_sm (by omega) (by omega) (by omega)) ?_
  simp [-List.map_map, -List.map_replicate]
  refine w_ok (plus_D one_D L.s1 one_sm (by omega) (by omega) (by omega)) ?_
  simp [-List.map_map, -List.map_replicate, cut_2, cut_t4, cut_t5]
  refine o_add_t (by simp) ?_
  simp [-List.map_map, -List.map_replicate, cut_2, cut_t4, cut_t5]
  refine o_add_t (by simp) ?_
  simp [-List.map_map, -List.map_replicate, cut_2, cut_t4, cut_t5]
  refine o_add_t (by simp) ?_
  simp [-List.map_map, -List.map_replicate, cut_2, cut_t4, cut_t5]
  refine o_add_t (by simp) ?_
  simp [-List.map_map, -List.map_replicate, cut_2, cut_t4, cut_t5]
  refine w_ok (plus_D third_D dsm third_sm (by omega) (by omega) (by omega)) ?_
  simp [-List.map_map, -List.map_replicate]
  refine w_row (most := 4) (k := k + 10) (by omega) (by omega) h8 (hb1.le (by omega)) fun far s2 lf sf hb2 => ?_
  simp [-List.map_map, -List.map_replicate]
  refine w_ok (hb_times_eq (.inl rfl) (.inl rfl) sf L.ss (by omega) (by omega) (by rw [lf]; omega)) ?_
  have esm : Sm 57 (dotQ far st) := (dot_sm sf L.ss).mono (by rw [lf]; omega)
  simp [-List.map_map, -List.map_replicate]
  refine w_ok (plus_D sev_D esm sev_sm (by omega) (by omega) (by omega)) ?_
  simp [-List.map_map, -List.map_replicate]
  refine w_ok (minus_D rfl sev_D esm sev_sm (by omega) (by omega) (by omega)) ?_
  simp [-List.map_map, -List.map_replicate]
  refine w_ok (plus_D sev_D esm sev_sm (by omega) (by omega) (by omega)) ?_
  simp [-List.map_map, -List.map_replicate]
  have gst : D.gbs 140 (st.map ratD) = true := by simpa [D.gb] using row_gd (fun q hq => (L.ss q hq).mono (show 3 ≤ 140 by omega))
  have r1 : (ratD wo).gb 140 = true := gb_rat.mpr (dsm.mono (by omega))
  have r2 : (ratD one).gb 140 = true := gb_rat.mpr (L.s1.mono (by omega))
  have r3 : (ratD two).gb 140 = true := gb_rat.mpr (L.s2.mono (by omega))
  have r4 : (ratD (one * half)).gb 140 = true := gb_rat.mpr ((sm_mul L.s1 half_sm).mono (by omega))
  have r5 : (ratD (one + 1)).gb 140 = true := gb_rat.mpr ((L.s1.add one_sm).mono (by omega))
  have r6 : (ratD (wo + third)).gb 140 = true := gb_rat.mpr ((dsm.add third_sm).mono (by omega))
  have r0 : (ratD 0).gb 140 = true := by decide +kernel
  have tp : ∀ v : D, v.gb 140 = true → TripOk (.tup [.tup (goal.map ratD), .tup (lims.map limD), v]) := fun v hv => ⟨goal, lims, v, rfl, pl, hv⟩
  have lfar : ∀ (w : Bool) (b : Rat), Sm 61 b → LimOk many ⟨w, far, b⟩ := fun w b hb => ⟨lf, fun q hq => (sf q hq).mono (by omega), hb⟩
  refine wS_for (fun xs σ s' => s' = s2 ∧ (∀ x ∈ xs, ∃ l, x = limD l ∧ LimOk many l) ∧ ∃ (fs : List D) (a15 : Sl), (∀ T ∈ fs, TripOk T) ∧ fs.length + xs.length ≤ 9 ∧
    σ = [.val .st, .val (.int many), .val (.tup (goal.map ratD)), .val (.tup (lims.map limD)), .val (.tup [.str ("least" : Str), ratD wo, .tup (st.map ratD), .tup [ratD one, ratD 0, ratD two, ratD 0, ratD 0, ratD 0]]), .val (ratD wo), .val (.tup (st.map ratD)), .val (.tup [ratD one, ratD 0, ratD two, ratD 0, ratD 0, ratD 0]), .val (ratD one), .val (ratD two), .val (ratD (one * half)), .val (ratD (one + 1)),
      .own (.lst (.tup [.tup (goal.map ratD), .tup (lims.map limD), .tup [.str ("least" : Str), ratD wo, .tup (st.map ratD), .tup [ratD one, ratD 0, ratD two, ratD 0, ratD 0, ratD 0]]] :: .tup [.tup (goal.map ratD), .tup (lims.map limD), .tup [.str ("least" : Str), ratD wo, .tup (st.map ratD), .tup [ratD (one * half), ratD (one * half), ratD two, ratD 0, ratD 0, ratD 0]]] :: fs)),
      .val (.tup (far.map ratD)), .val (ratD (dotQ far st)), a15, .un, .un, .un, .un, .un, .un, .un, .un, .un, .un]) _ (fun x xs σ s' _ hI => ?_) ⟨rfl, ?_, [_, _, _, _], _, ?_, ?_, rfl⟩ fun σ s' hI => ?_
  · obtain ⟨rfl, hx, fs, a15, hfs, hlen, rfl⟩ := hI
    obtain ⟨l, rfl, hl⟩ := hx x (List.mem_cons_self ..)
    have hx2 : ∀ x ∈ xs, ∃ l, x = limD l ∧ LimOk many l := fun y hy => hx y (List.mem_cons_of_mem _ hy)
    simp [-List.map_map, -List.map_replicate]
    refine o_add_t (by simp; omega) ?_
    simp [-List.map_map, -List.map_replicate]
    refine o_add_t (by simp) ?_
    simp [-List.map_map, -List.map_replicate]
    have pl2 : PrgOk goal (lims ++ [l]) := prg_of h1 h8 gl gs (by simp; omega) fun y hy => by
      rcases List.mem_append.mp hy with z | z
      · have := pl.lo y z
        rw [gl] at this
        exact this
      · rw [List.mem_singleton.mp z]
        exact hl
    refine ⟨by omega, hx2, fun T hT => ?_, by simp at hlen; omega⟩
    rcases hT with z | rfl
    · exact hfs T z
    · have e : lims.map limD ++ [limD l] = (lims ++ [l]).map limD := by simp
      rw [e]
      exact ⟨goal, lims ++ [l], _, rfl, pl2, by simp [D.gb, D.gbs, gst, r0, r1, r2, r3]⟩
  · intro x hx
    simp only [List.mem_cons, List.not_mem_nil, or_false] at hx
    have s57 : Sm 61 (dotQ far st) := esm.mono (by omega)
    have sp7 : Sm 61 (dotQ far st + sev) := (esm.add sev_sm).mono (by omega)
    have sm7 : Sm 61 (dotQ far st - sev) := (esm.sub sev_sm).mono (by omega)
    rcases hx with rfl | rfl | rfl | rfl | rfl
    · exact ⟨⟨false, far, _⟩, rfl, lfar _ _ s57⟩
    · exact ⟨⟨false, far, _⟩, rfl, lfar _ _ sp7⟩
    · exact ⟨⟨true, far, _⟩, rfl, lfar _ _ sm7⟩
    · exact ⟨⟨true, far, _⟩, rfl, lfar _ _ s57⟩
    · exact ⟨⟨true, far, _⟩, rfl, lfar _ _ sp7⟩
  · intro T hT
    simp only [List.mem_cons, List.not_mem_nil, or_false] at hT
    rcases hT with rfl | rfl | rfl | rfl
    · exact tp _ (by simp [D.gb, D.gbs, gst, r0, r1, r2, r3, r4, r5, r6])
    · exact tp _ (by simp [D.gb, D.gbs, gst, r0, r1, r2, r3, r4, r5, r6])
    · exact tp _ (by simp [D.gb, D.gbs, gst, r0, r1, r2, r3, r4, r5, r6])
    · exact tp _ (by simp [D.gb, D.gbs, gst, r0, r1, r2, r3, r4, r5, r6])
  · simp
  obtain ⟨rfl, _, fs, a15, hfs, hlen, rfl⟩ := hI
  simp [-List.map_map, -List.map_replicate]
  refine w_draws (z := many) (k := k + 9) ?_ ?_ ?_ fun r s3 c0 c1 hb3 => ?_
  · omega
  · omega
  · exact hb2
  obtain ⟨i, rfl⟩ := Int.eq_ofNat_of_zero_le c0
  have hi : i < many := by omega
  have hix : idxD (.tup (st.map ratD)) (.int (i : Nat)) = some (ratD (st.getD i 0)) := idx_rats (.inl rfl) (by rw [L.ls]; exact hi)
  have sat : Sm 3 (st.getD i 0) := getD_sm L.ss (by omega) i
  generalize st.getD i 0 = q0 at hix sat
  have lst := L.ls
  have sst := L.ss
  simp [-List.map_map, -List.map_replicate, cut_to]
  refine optR_i hix ?_
  simp [-List.map_map, -List.map_replicate]
  refine w_ok (plus_D one_D sat one_sm (by omega) (by omega) (by omega)) ?_
  simp [-List.map_map, -List.map_replicate]
  refine o_add_t (by simp; omega) ?_
  simp [-List.map_map, -List.map_replicate, cut_s, -List.map_append]
  refine o_add_t (by simp; omega) ?_
  rw [setQ_D]
  have lup : (setQ st i (q0 + 1)).length = many := by rw [setQ_len (by omega), lst]
  have sup : allSm 7 (setQ st i (q0 + 1)) := setQ_sm (fun q hq => (sst q hq).mono (by omega)) ((sat.add one_sm).mono (by omega))
  generalize setQ st i (q0 + 1) = up at lup sup ⊢
  simp [-List.map_map, -List.map_replicate, cut_to]
  refine optR_i hix ?_
  simp [-List.map_map, -List.map_replicate]
  refine w_ok (minus_D rfl one_D sat one_sm (by omega) (by omega) (by omega)) ?_
  simp [-List.map_map, -List.map_replicate]
  refine o_add_t (by simp; omega) ?_
  simp [-List.map_map, -List.map_replicate, cut_s, -List.map_append]
  refine o_add_t (by simp; omega) ?_
  rw [setQ_D]
  have llo : (setQ st i (q0 - 1)).length = many := by rw [setQ_len (by omega), lst]
  have slo : allSm 7 (setQ st i (q0 - 1)) := setQ_sm (fun q hq => (sst q hq).mono (by omega)) ((sat.sub one_sm).mono (by omega))
  generalize setQ st i (q0 - 1) = lo at llo slo ⊢
  simp [-List.map_map, -List.map_replicate]
  refine optR_i (it_rng1n (show many ≤ 16777216 by omega)) ?_
  refine wR_cmap natD (fun j => ratD (if j = i then 1 else 0)) _ (fun j hj => ?_) ?_
  · rw [compB_w]
    simp
    refine cnd_i (fun h2 => ?_) fun h2 => ?_
    · have h3 : j = i := by
        simp at h2
        omega
      simp [h3]
      rfl
    · have h3 : ¬ j = i := by
        intro e
        simp [e] at h2
      simp [h3]
      rfl
  have ea : (List.range many).map (fun j => ratD (if j = i then 1 else 0)) = (alongQ many i).map ratD := by
    unfold alongQ
    rw [List.map_map]
    rfl
  rw [ea]
  have la := along_len many i
  have sa := along_sm many i
  simp [-List.map_map, -List.map_replicate]
  refine optR_i (zerosN h1 h8) ?_
  simp [-List.map_map, -List.map_replicate]
  refine optR_i hix ?_
  simp [-List.map_map, -List.map_replicate]
  have pq : PrgOk (alongQ many i) [⟨false, alongQ many i, q0⟩, ⟨false, List.replicate many 0, -2⟩] := prg_of h1 h8 la (fun q hq => (sa q hq).mono (by omega)) (by simp) fun l hl => by
    simp only [List.mem_cons, List.not_mem_nil, or_false] at hl
    rcases hl with rfl | rfl
    · exact ⟨la, fun q hq => (sa q hq).mono (by omega), sat.mono (by omega)⟩
    · exact lim_zero sm0 ⟨by decide, by decide⟩
  refine wS_for (fun xs σ s' => s' = s3 ∧ (∀ x ∈ xs, ∃ a : List Rat, x = .tup (a.map ratD) ∧ a.length = many ∧ allSm 7 a) ∧ ∃ (fs : List D) (a23 a24 : Sl), (∀ T ∈ fs, TripOk T) ∧ fs.length + 2 * xs.length ≤ 15 ∧
    σ = [.val .st, .val (.int many), .val (.tup (goal.map ratD)), .val (.tup (lims.map limD)), .val (.tup [.str ("least" : Str), ratD wo, .tup (st.map ratD), .tup [ratD one, ratD 0, ratD two, ratD 0, ratD 0, ratD 0]]), .val (ratD wo), .val (.tup (st.map ratD)), .val (.tup [ratD one, ratD 0, ratD two, ratD 0, ratD 0, ratD 0]), .val (ratD one), .val (ratD two), .val (ratD (one * half)), .val (ratD (one + 1)),
      .own (.lst (.tup [.tup (goal.map ratD), .tup (lims.map limD), .tup [.str ("least" : Str), ratD wo, .tup (st.map ratD), .tup [ratD one, ratD 0, ratD two, ratD 0, ratD 0, ratD 0]]] :: .tup [.tup (goal.map ratD), .tup (lims.map limD), .tup [.str ("least" : Str), ratD wo, .tup (st.map ratD), .tup [ratD (one * half), ratD (one * half), ratD two, ratD 0, ratD 0, ratD 0]]] :: fs)),
      .val (.tup (far.map ratD)), .val (ratD (dotQ far st)), a15, .val (.int (i : Nat)), .val (.tup (up.map ratD)), .val (.tup (lo.map ratD)), .val (.tup ((alongQ many i).map ratD)), .val (.tup [.str ("least" : Str), .tup ((List.replicate many (0 : Rat)).map ratD), .tup [.int (-2), .int 1]]), .un, .val (.tup [.tup [.str ("least" : Str), .tup ((alongQ many i).map ratD), ratD q0], .tup [.str ("least" : Str), .tup ((List.replicate many (0 : Rat)).map ratD), .tup [.int (-2), .int 1]]]), a23, a24, .un]) _ (fun x xs σ s' _ hI => ?_) ⟨rfl, ?_, fs, _, _, hfs, by simp at hlen ⊢; omega, rfl⟩ fun σ s' hI => ?_
  · obtain ⟨rfl, hx, fs, a23, a24, hfs, hlen, rfl⟩ := hI
    obtain ⟨a, rfl, lena, sma⟩ := hx x (List.mem_cons_self ..)
    have hx2 : ∀ x ∈ xs, ∃ a : List Rat, x = .tup (a.map ratD) ∧ a.length = many ∧ allSm 7 a := fun y hy => hx y (List.mem_cons_of_mem _ hy)
    have hia : idxD (.tup (a.map ratD)) (.int (i : Nat)) = some (ratD (a.getD i 0)) := idx_rats (.inl rfl) (by rw [lena]; exact hi)
    have sai : Sm 7 (a.getD i 0) := getD_sm sma (by omega) i
    generalize a.getD i 0 = q1 at hia sai
    simp [-List.map_map, -List.map_replicate]
    refine optR_i hix ?_
    simp [-List.map_map, -List.map_replicate]
    refine optR_i hia ?_
    simp [-List.map_map, -List.map_replicate]
    have ga : D.gbs 140 (a.map ratD) = true := by simpa [D.gb] using row_gd (fun q hq => (sma q hq).mono (show 7 ≤ 140 by omega))
    refine wS_for (fun ys σ s'' => s'' = s' ∧ (∀ y ∈ ys, ∃ q, y = ratD q ∧ Sm 7 q) ∧ ∃ (fs : List D) (a24 : Sl), (∀ T ∈ fs, TripOk T) ∧ fs.length + ys.length + 2 * xs.length ≤ 15 ∧
      σ = [.val .st, .val (.int many), .val (.tup (goal.map ratD)), .val (.tup (lims.map limD)), .val (.tup [.str ("least" : Str), ratD wo, .tup (st.map ratD), .tup [ratD one, ratD 0, ratD two, ratD 0, ratD 0, ratD 0]]), .val (ratD wo), .val (.tup (st.map ratD)), .val (.tup [ratD one, ratD 0, ratD two, ratD 0, ratD 0, ratD 0]), .val (ratD one), .val (ratD two), .val (ratD (one * half)), .val (ratD (one + 1)),
      .own (.lst (.tup [.tup (goal.map ratD), .tup (lims.map limD), .tup [.str ("least" : Str), ratD wo, .tup (st.map ratD), .tup [ratD one, ratD 0, ratD two, ratD 0, ratD 0, ratD 0]]] :: .tup [.tup (goal.map ratD), .tup (lims.map limD), .tup [.str ("least" : Str), ratD wo, .tup (st.map ratD), .tup [ratD (one * half), ratD (one * half), ratD two, ratD 0, ratD 0, ratD 0]]] :: fs)),
      .val (.tup (far.map ratD)), .val (ratD (dotQ far st)), a15, .val (.int (i : Nat)), .val (.tup (up.map ratD)), .val (.tup (lo.map ratD)), .val (.tup ((alongQ many i).map ratD)), .val (.tup [.str ("least" : Str), .tup ((List.replicate many (0 : Rat)).map ratD), .tup [.int (-2), .int 1]]), .un, .val (.tup [.tup [.str ("least" : Str), .tup ((alongQ many i).map ratD), ratD q0], .tup [.str ("least" : Str), .tup ((List.replicate many (0 : Rat)).map ratD), .tup [.int (-2), .int 1]]]), .val (.tup (a.map ratD)), a24, .un]) _ (fun y ys σ s'' _ hI => ?_) ⟨rfl, ?_, fs, _, hfs, by simp at hlen ⊢; omega, rfl⟩ fun σ s'' hI => ?_
    · obtain ⟨rfl, hy, fs, a24, hfs, hlen, rfl⟩ := hI
      obtain ⟨q, rfl, sq⟩ := hy y (List.mem_cons_self ..)
      have hy2 : ∀ x ∈ ys, ∃ q, x = ratD q ∧ Sm 7 q := fun x hx => hy x (List.mem_cons_of_mem _ hx)
      have gq : (ratD q).gb 140 = true := gb_rat.mpr (sq.mono (by omega))
      simp [-List.map_map, -List.map_replicate]
      refine ⟨by omega, hy2, fun T hT => ?_, by simp at hlen; omega⟩
      rcases hT with z | rfl
      · exact hfs T z
      · exact ⟨alongQ many i, [⟨false, alongQ many i, q0⟩, ⟨false, List.replicate many 0, -2⟩], _, rfl, pq, by simp [D.gb, D.gbs, ga, gq]⟩
    · intro y hy
      simp only [List.mem_cons, List.not_mem_nil, or_false] at hy
      rcases hy with rfl | rfl
      · exact ⟨q0, rfl, sat.mono (by omega)⟩
      · exact ⟨q1, rfl, sai⟩
    obtain ⟨rfl, _, fs, a24, hfs, hlen, rfl⟩ := hI
    simp [-List.map_map, -List.map_replicate]
    exact ⟨hx2, hfs, by simpa using hlen⟩
  · intro x hx
    simp only [List.mem_cons, List.not_mem_nil, or_false] at hx
    rcases hx with rfl | rfl | rfl
    · exact ⟨st, rfl, lst, fun q hq => (sst q hq).mono (by omega)⟩
    · exact ⟨up, rfl, lup, sup⟩
    · exact ⟨lo, rfl, llo, slo⟩
  obtain ⟨rfl, _, fs, a23, a24, hfs, hlen, rfl⟩ := hI
  simp [-List.map_map, -List.map_replicate]
  refine wS_for (fun xs σ s'' => s'' = s' ∧ (∀ x ∈ xs, x.gb 140 = true) ∧ ∃ (fs : List D) (a25 : Sl), (∀ T ∈ fs, TripOk T) ∧ fs.length + xs.length ≤ 20 ∧
    σ = [.val .st, .val (.int many), .val (.tup (goal.map ratD)), .val (.tup (lims.map limD)), .val (.tup [.str ("least" : Str), ratD wo, .tup (st.map ratD), .tup [ratD one, ratD 0, ratD two, ratD 0, ratD 0, ratD 0]]), .val (ratD wo), .val (.tup (st.map ratD)), .val (.tup [ratD one, ratD 0, ratD two, ratD 0, ratD 0, ratD 0]), .val (ratD one), .val (ratD two), .val (ratD (one * half)), .val (ratD (one + 1)),
      .own (.lst (.tup [.tup (goal.map ratD), .tup (lims.map limD), .tup [.str ("least" : Str), ratD wo, .tup (st.map ratD), .tup [ratD one, ratD 0, ratD two, ratD 0, ratD 0, ratD 0]]] :: .tup [.tup (goal.map ratD), .tup (lims.map limD), .tup [.str ("least" : Str), ratD wo, .tup (st.map ratD), .tup [ratD (one * half), ratD (one * half), ratD two, ratD 0, ratD 0, ratD 0]]] :: fs)),
      .val (.tup (far.map ratD)), .val (ratD (dotQ far st)), a15, .val (.int (i : Nat)), .val (.tup (up.map ratD)), .val (.tup (lo.map ratD)), .val (.tup ((alongQ many i).map ratD)), .val (.tup [.str ("least" : Str), .tup ((List.replicate many (0 : Rat)).map ratD), .tup [.int (-2), .int 1]]), .un, .val (.tup [.tup [.str ("least" : Str), .tup ((alongQ many i).map ratD), ratD q0], .tup [.str ("least" : Str), .tup ((List.replicate many (0 : Rat)).map ratD), .tup [.int (-2), .int 1]]]), a23, a24, a25]) _ (fun x xs σ s'' _ hI => ?_) ⟨rfl, ?_, fs, _, hfs, by simp at hlen ⊢; omega, rfl⟩ fun σ s'' hI => ?_
  · obtain ⟨rfl, hx, fs, a25, hfs, hlen, rfl⟩ := hI
    have hx1 := hx x (List.mem_cons_self ..)
    have hx2 : ∀ y ∈ xs, y.gb 140 = true := fun y hy => hx y (List.mem_cons_of_mem _ hy)
    simp [-List.map_map, -List.map_replicate]
    refine ⟨by omega, hx2, fun T hT => ?_, by simp at hlen; omega⟩
    rcases hT with z | rfl
    · exact hfs T z
    · exact tp x hx1
  · intro x hx
    simp only [List.mem_cons, List.not_mem_nil, or_false] at hx
    rcases hx with rfl | rfl | rfl | rfl | rfl <;> simp [D.gb, D.gbs, gst, r0, r1, r2, r3]
  obtain ⟨rfl, _, fs, a25, hfs, hlen, rfl⟩ := hI
  simp [-List.map_map, -List.map_replicate]
  refine ⟨by simp at hlen; omega, o_add_t (by simp; omega) ?_⟩
  simp [-List.map_map, -List.map_replicate, cut_m6]
  refine ⟨by simp at hlen; omega, o_add_t (by simp) ?_⟩
  simp [-List.map_map, -List.map_replicate, cut_m6, mul_i, mulOk_l]
  have hl := hlen
  simp at hl
  have F : First goal lims (leastV wo st [one, 0, two, 0, 0, 0]) := by
    refine ⟨pl, by simp [leastV, D.gb, D.gbs, gst, r0, r1, r2, r3], by simp [leastV, D.pln, D.plns, rats_pln, rat_pln], ?_, ?_, rt0⟩
    · simp [leastV, D.wid, D.wids, rats_wid, rat_wid, lst]
      omega
    · have q1 := rats_dep st
      simp [leastV, D.dep, D.deps, rat_dep, rat_dep0]
      omega
  have gwo : (2 * wo.num).natAbs < 2 ^ 140 ∧ (2 * (wo.den : Int)).natAbs < 2 ^ 140 := by
    obtain ⟨z1, z2⟩ := dsm
    have e : (2 : Nat) ^ 140 = 8 * 2 ^ 137 := by decide
    rw [e]
    generalize 2 ^ 137 = z at z1 z2
    omega
  have r7 : (D.int (2 * wo.num)).gb 140 = true := by simp [D.gb, gwo.1]
  have r8 : (D.int (2 * (wo.den : Int))).gb 140 = true := by simp [D.gb, gwo.2]
  have gst2 : D.gbs 140 (st.map ratD ++ [D.tup [.int 0, .int 1]]) = true := gbs_app gst (by decide +kernel)
  refine ⟨by omega, by omega, h _ s'' ⟨goal, lims, leastV wo st [one, 0, two, 0, 0, 0], leastV wo st [one * half, one * half, two, 0, 0, 0], _, rfl, F, by simp [leastV, D.gb, D.gbs, gst, r0, r1, r2, r3, r4], rt1, fun T hT => ?_, by simp; omega⟩ (hb3.le (by omega))⟩
  rcases List.mem_append.mp hT with z | z
  · exact hfs T z
  · simp only [List.mem_cons, List.not_mem_nil, or_false] at z
    rcases z with rfl | rfl | rfl | rfl
    · exact tp _ (by simp [D.gb, D.gbs, gst, r0, r1, r2, r3])
    · exact tp _ (by simp [-List.map_append, D.gb, D.gbs, gst2, r0, r1, r2, r3])
    · exact tp _ (by simp [D.gb, D.gbs, gst, r0, r1, r2, r3])
    · exact tp _ (by simp only [D.gb, D.gbs, gst, r0, r1, r2, r3, r7, r8]; simp [gwo.1, gwo.2])
end
end Lw

/-! NP: the law k09. -/
namespace Lw
open PySem Fw
theorem pureZ_of {zz : Bool} {m : Mod} {w slots : Nat} {bd : Sd} (h : ∀ ns : List Int, ns.length ≤ 63 → wS (evS m w bd (startS slots (hdV zz ns.length)) (rs0 ns)) ⟨no2, fun d _ => d = .bl true, no2, no2, fun _ _ _ => False⟩) : PureZ zz m w slots bd := fun ns hn => by
  have z := h ns hn
  rw [wS_un] at z
  cases hr : evS m w bd (startS slots (hdV zz ns.length)) (rs0 ns) with
  | rt d s' =>
    rw [hr] at z
    exact ⟨s', by rw [show d = .bl true from z]⟩
  | nx _ _ => rw [hr] at z; exact z.elim
  | bk _ _ => rw [hr] at z; exact z.elim
  | ct _ _ => rw [hr] at z; exact z.elim
  | err _ _ _ => rw [hr] at z; exact z.elim
  | stuck => rw [hr] at z; exact z.elim
/-- a list of programs and papers, so many at its head right -/
def OnesC (c : Nat) (fs : List D) : Prop := c ≤ 2 ∧ 1 ≤ c ∧ ∃ goal ls v rest, fs = tripD goal ls v :: rest ∧ First goal ls v ∧ (∀ T ∈ rest, TripOk T) ∧ rest.length ≤ 61 ∧ (2 ≤ c → ∃ v1 r2, rest = tripD goal ls v1 :: r2 ∧ sumOk goal ls v1 = true)
theorem Ones.c {fs : List D} (h : Ones fs) : OnesC 1 fs := by
  obtain ⟨goal, ls, v, rest, e, F, h1, h2⟩ := h
  exact ⟨by omega, by omega, goal, ls, v, rest, e, F, h1, by omega, fun z => absurd z (by omega)⟩
theorem OnesL.c {fs : List D} (h : OnesL fs) : OnesC 2 fs := by
  obtain ⟨goal, ls, v, v1, rest, e, F, g1, r1, h1, h2⟩ := h
  refine ⟨by omega, by omega, goal, ls, v, _, e, F, fun T hT => ?_, by simp; omega, fun _ => ⟨v1, rest, rfl, r1⟩⟩
  rcases List.mem_cons.mp hT with rfl | z
  · exact ⟨goal, ls, v1, rfl, F.ok, g1⟩
  · exact h1 T z
theorem OnesC.all {c : Nat} {fs : List D} (h : OnesC c fs) : ∀ T ∈ fs, TripOk T := by
  obtain ⟨_, _, goal, ls, v, rest, rfl, F, h1, _, _⟩ := h
  intro T hT
  rcases List.mem_cons.mp hT with rfl | z
  · exact ⟨goal, ls, v, rfl, F.ok, F.gb⟩
  · exact h1 T z
theorem OnesC.get {c : Nat} {fs : List D} (h : OnesC c fs) {i : Nat} {T : D} (hT : fs[i]? = some T) : ∃ g l v, T = tripD g l v ∧ PrgOk g l ∧ v.gb 140 = true ∧ (i < c → sumOk g l v = true) := by
  have hall := h.all T (List.mem_of_getElem? hT)
  obtain ⟨hc, _, goal, ls, v, rest, rfl, F, h1, _, h2⟩ := h
  match i, hT with
  | 0, hT =>
    cases hT
    exact ⟨goal, ls, v, rfl, F.ok, F.gb, fun _ => F.rt⟩
  | 1, hT =>
    by_cases hc2 : 2 ≤ c
    · obtain ⟨v1, r2, rfl, r1⟩ := h2 hc2
      cases hT
      obtain ⟨g2, l2, v2, e, p2, gb2⟩ := h1 _ (List.mem_cons_self ..)
      have ev : v1 = v2 := by
        unfold tripD at e
        simp only [D.tup.injEq, List.cons.injEq] at e
        exact e.2.2.1
      subst ev
      exact ⟨goal, ls, v1, rfl, F.ok, gb2, fun _ => r1⟩
    · obtain ⟨g, l, w, e, p, gb⟩ := hall
      exact ⟨g, l, w, e, p, gb, fun z => absurd z (by omega)⟩
  | i + 2, _ =>
    obtain ⟨g, l, w, e, p, gb⟩ := hall
    exact ⟨g, l, w, e, p, gb, fun z => absurd z (by omega)⟩
theorem cut_t3 (xs : List D) : cutD xs none (some 3) = xs.take 3 := cut_to xs 3
@[simp] theorem idx_l0 (x : D) (xs : List D) : idxD (.lst (x :: xs)) (.int 0) = some x := idx_l (k := 0) rfl
@[simp] theorem idx_l1 (x y : D) (xs : List D) : idxD (.lst (x :: y :: xs)) (.int 1) = some y := idx_l (k := 1) rfl
set_option maxHeartbeats 0 in
theorem pureM : PureZ true (S1.prog.mod WB 14) WB lawN.length lawB := by
  rw [← M_eq]
  refine pureZ_of fun ns hns => ?_
  have el : lawN.length = 14 := rfl
  rw [el]
  unfold lawB
  simp [startS, hdV]
  rw [it_rng1 (by split <;> omega) (by split <;> omega)]
  simp
  refine wS_forI (fun j σ s1 => Bd (1000 * (8 - j)) s1 ∧ ∃ (r : Int) (b3 b4 b5 b6 b7 b8 b9 b10 b11 b12 b13 : Sl), 4 * (j : Int) ≤ r ∧ σ = [.val (.scr ns.length), .val .st, .val (.int r), b3, b4, b5, b6, b7, b8, b9, b10, b11, b12, b13]) _ (fun j x σ s1 hx hI => ?_) ⟨Bd0 _ (by decide), 0, _, _, _, _, _, _, _, _, _, _, _, by omega, rfl⟩ fun σ s1 hI => ?_
  · obtain ⟨hb, r, b3, b4, b5, b6, b7, b8, b9, b10, b11, b12, b13, hr, rfl⟩ := hI
    have hj : j < 8 := by
      have := (List.getElem?_eq_some_iff.mp hx).1
      simp at this
      split at this <;> omega
    clear hx
    generalize hK : 1000 * (8 - (j + 1)) = K
    have hK2 : Bd (K + 1000) s1 := hb.le (by omega)
    simp
    refine w_pickI (is := [1, 2, 3, 8]) (k := K + 998) (by simp) (by simp) (hK2.le (by omega)) fun z s2 hz hb2 => ?_
    have hz8 : 1 ≤ z ∧ z ≤ 8 := by
      simp at hz
      omega
    simp
    refine w_draws (z := z) (k := K + 997) ?_ ?_ ?_ fun q s3 q0 q1 hb3 => ?_
    · omega
    · omega
    · exact hb2
    obtain ⟨many, hm, h1, h8⟩ : ∃ many : Nat, (1 : Int) + q = (many : Nat) ∧ 1 ≤ many ∧ many ≤ 8 := ⟨(1 + q).toNat, by omega, by omega, by omega⟩
    simp
    rw [hm]
    refine w_leasts (k := K + 700) h1 h8 (hb3.le (by omega)) fun fs s4 hfs hb4 => ?_
    obtain ⟨goal, ls, v, v1, rest, rfl, F, g1, rt1, hrest, hlen⟩ := id hfs
    simp [tripD, -List.map_map]
    refine w_ok (is_sum_eq F.ok F.gb (by omega) (by omega)) ?_
    simp [F.rt, -List.map_map]
    refine w_ok (is_sum_eq F.ok g1 (by omega) (by omega)) ?_
    simp [rt1, -List.map_map]
    have hc1 := hfs.c
    have htrip := hc1.all
    unfold tripD at hc1 htrip
    generalize D.tup [.tup (goal.map ratD), .tup (ls.map limD), v] = T0 at hc1 htrip ⊢
    generalize D.tup [.tup (goal.map ratD), .tup (ls.map limD), v1] = T1 at hc1 htrip ⊢
    refine w_none (k := K + 620) h1 h8 (hb4.le (by omega)) fun f2 s5 hf2 hb5 => ?_
    simp [-List.map_map]
    refine w_endless (k := K + 540) h1 h8 (hb5.le (by omega)) fun f3 s6 hf3 hb6 => ?_
    simp [-List.map_map]
    refine wS_forI (fun i σ s' => Bd (K + 130 * (3 - i)) s' ∧ ∃ (r' : Int) (c6 c7 c8 c9 c10 c11 c12 c13 : Sl), r + (if i = 0 then 0 else (i : Int) + 1) ≤ r' ∧ σ = [.val (.scr ns.length), .val .st, .val (.int r'), .val x, .val (.int many), .val (.lst (T0 :: T1 :: rest)), c6, c7, c8, c9, c10, c11, c12, c13]) _ (fun i y σ s' hy hI => ?_) ⟨hb6.le (by omega), r, _, _, _, _, _, _, _, _, by simp, rfl⟩ fun σ s' hI => ?_
    · obtain ⟨hb7, r', c6, c7, c8, c9, c10, c11, c12, c13, hr', rfl⟩ := hI
      obtain ⟨hi3, gs, c, rfl, hgs, hci⟩ : i < 3 ∧ ∃ gs c, y = .lst gs ∧ OnesC c gs ∧ (i = 0 → c = 2) := by
        match i, hy with
        | 0, hy =>
          cases hy
          exact ⟨by omega, _, 2, rfl, hc1, fun _ => rfl⟩
        | 1, hy =>
          cases hy
          exact ⟨by omega, _, 1, rfl, hf2.c, fun z => absurd z (by omega)⟩
        | 2, hy =>
          cases hy
          exact ⟨by omega, _, 1, rfl, hf3.c, fun z => absurd z (by omega)⟩
        | i + 3, hy => simp at hy
      clear hy
      have hget := @OnesC.get c gs hgs
      obtain ⟨hc2, hc0, g0, l0, v0, rs, rfl, F0, hrs, hrl, hsec⟩ := hgs
      have hcl : c ≤ rs.length + 1 := by
        by_cases h2 : 2 ≤ c
        · obtain ⟨v1', r2', rfl, _⟩ := hsec h2
          simp
          omega
        · omega
      clear hsec
      have hgl : ((tripD g0 l0 v0 :: rs).length : Int) ≤ 62 := by simp; omega
      simp [tripD, -List.map_map]
      refine w_ok (is_least_sum_eq F0.ok F0.gb (by omega) (by omega)) ?_
      simp [F0.rt, cmp_bl, not_bb, wR_lift', -List.map_map]
      refine wS_forI (fun i2 σ s'' => s'' = s' ∧ ∃ (r2 : Int) (c7 c8 c9 c10 : Sl), r' + (if i2 < c then (i2 : Int) else c) ≤ r2 ∧ σ = [.val (.scr ns.length), .val .st, .val (.int r2), .val x, .val (.int many), .val (.lst (T0 :: T1 :: rest)), .val (.lst (.tup [.tup (g0.map ratD), .tup (l0.map limD), v0] :: rs)), c7, c8, c9, c10, c11, c12, c13]) _ (fun i2 y σ s'' hy hI => ?_) ⟨rfl, r', _, _, _, _, by split <;> omega, rfl⟩ fun σ s'' hI => ?_
      · obtain ⟨rfl, r2, c7, c8, c9, c10, hr2, rfl⟩ := hI
        obtain ⟨g2, l2, v2, rfl, p2, gb2, rt2⟩ := hget hy
        clear hy
        simp [tripD, -List.map_map]
        refine w_ok (is_sum_eq p2 gb2 (by omega) (by omega)) ?_
        simp [-List.map_map]
        refine cnd_i (fun h2 => ?_) fun h2 => ?_
        · simp [-List.map_map]
          refine w_ok (is_least_sum_eq p2 gb2 (by omega) (by omega)) ?_
          simp [-List.map_map]
          refine w_ok (truth_eq _ _) ?_
          simp [-List.map_map]
          split at hr2 <;> split <;> omega
        · have h3 : ¬ i2 < c := fun z => by
            rw [rt2 z] at h2
            cases h2
          simp [-List.map_map]
          refine w_ok (is_least_sum_eq p2 gb2 (by omega) (by omega)) ?_
          simp [-List.map_map]
          refine w_ok (truth_eq _ _) ?_
          simp [-List.map_map]
          split at hr2 <;> split <;> omega
      obtain ⟨rfl, r2, c7, c8, c9, c10, hr2, rfl⟩ := hI
      have hr3 : r + ((i : Int) + 2) ≤ r2 := by
        simp at hr2
        by_cases hi0 : i = 0
        · have := hci hi0
          subst hi0
          simp at hr'
          split at hr2 <;> omega
        · rw [if_neg hi0] at hr'
          split at hr2 <;> omega
      clear hget
      simp [-List.map_map]
      refine optR_i (it_rng1 (by omega) (by omega)) ?_
      refine wS_forI (fun i3 σ s1 => Bd (K + 130 * (3 - (i + 1)) + 20 * (6 - i3)) s1 ∧ ∃ (c11 c12 : Sl), σ = [.val (.scr ns.length), .val .st, .val (.int r2), .val x, .val (.int many), .val (.lst (T0 :: T1 :: rest)), .val (.lst (.tup [.tup (g0.map ratD), .tup (l0.map limD), v0] :: rs)), .val (.tup (g0.map ratD)), .val (.tup (l0.map limD)), .val v0, c10, c11, c12, c13]) _ (fun i3 y σ s1 hy hI => ?_) ⟨hb7.le (by omega), _, _, rfl⟩ fun σ s1 hI => ?_
      · obtain ⟨hb8, c11, c12, rfl⟩ := hI
        have hi6 : i3 < 6 := by
          have := (List.getElem?_eq_some_iff.mp hy).1
          simpa using this
        clear hy
        simp [-List.map_map]
        refine w_bent 3 (k := K + 130 * (3 - (i + 1)) + 20 * (6 - (i3 + 1))) (b := 140) (by omega) F0.gb (by omega) F0.pl F0.wd F0.dp (hb8.le (by omega)) fun d s2 gd hb9 => ?_
        have gd' : d.gb 141 = true := gd
        simp [asTupN, -List.map_map]
        refine w_ok (is_least_sum_eq F0.ok gd' (by omega) (by omega)) ?_
        simp [-List.map_map]
        refine w_ok (is_sum_eq F0.ok gd' (by omega) (by omega)) ?_
        simp [-List.map_map]
        refine w_ok (truth_eq _ _) ?_
        simp [-List.map_map]
        exact hb9.le (by omega)
      obtain ⟨hb8, c11, c12, rfl⟩ := hI
      simp [-List.map_map, cut_t3]
      have g3 : ∀ T ∈ T0 :: T1 :: List.take 1 rest, TripOk T := fun T hT => htrip T (by
        rcases List.mem_cons.mp hT with z | z
        · rw [z]; exact List.mem_cons_self ..
        · rcases List.mem_cons.mp z with z | z
          · rw [z]; exact List.mem_cons_of_mem _ (List.mem_cons_self ..)
          · exact List.mem_cons_of_mem _ (List.mem_cons_of_mem _ (List.mem_of_mem_take z)))
      refine o_add_l (by simp; omega) ?_
      have hall : ∀ y ∈ (T0 :: T1 :: List.take 1 rest) ++ [D.tup [.tup (g0.map ratD), .tup (l0.map limD), .non], D.tup [.tup (g0.map ratD), .tup (l0.map limD), .tup []], D.tup [.tup (g0.map ratD), .tup (l0.map limD), .tup [.str ("least" : Str)]], D.tup [.tup (g0.map ratD), .tup (l0.map limD), .tup [v0]], D.tup [.tup (g0.map ratD), .tup (l0.map limD), .int 0]], ∃ a b w, y = .tup [a, b, w] ∧ w.gb 140 = true := fun y hy => by
        rcases List.mem_append.mp hy with z | z
        · obtain ⟨g, l, w, rfl, _, gw⟩ := g3 y z
          exact ⟨_, _, w, rfl, gw⟩
        · simp only [List.mem_cons, List.not_mem_nil, or_false] at z
          rcases z with rfl | rfl | rfl | rfl | rfl
          · exact ⟨_, _, _, rfl, rfl⟩
          · exact ⟨_, _, _, rfl, rfl⟩
          · exact ⟨_, _, _, rfl, by decide +kernel⟩
          · exact ⟨_, _, _, rfl, by simp [D.gb, D.gbs, F0.gb]⟩
          · exact ⟨_, _, _, rfl, by decide +kernel⟩
      generalize (T0 :: T1 :: List.take 1 rest) ++ [D.tup [.tup (g0.map ratD), .tup (l0.map limD), .non], D.tup [.tup (g0.map ratD), .tup (l0.map limD), .tup []], D.tup [.tup (g0.map ratD), .tup (l0.map limD), .tup [.str ("least" : Str)]], D.tup [.tup (g0.map ratD), .tup (l0.map limD), .tup [v0]], D.tup [.tup (g0.map ratD), .tup (l0.map limD), .int 0]] = others at hall ⊢
      simp [-List.map_map]
      refine wS_for (fun ys σ s2 => s2 = s1 ∧ (∀ y ∈ ys, ∃ a b w, y = .tup [a, b, w] ∧ w.gb 140 = true) ∧ ∃ (c13 : Sl), σ = [.val (.scr ns.length), .val .st, .val (.int r2), .val x, .val (.int many), .val (.lst (T0 :: T1 :: rest)), .val (.lst (.tup [.tup (g0.map ratD), .tup (l0.map limD), v0] :: rs)), .val (.tup (g0.map ratD)), .val (.tup (l0.map limD)), .val v0, c10, c11, c12, c13]) _ (fun y ys σ s2 _ hI => ?_) ⟨rfl, hall, _, rfl⟩ fun σ s2 hI => ?_
      · obtain ⟨rfl, hy, c13, rfl⟩ := hI
        obtain ⟨a, b, w, rfl, gw⟩ := hy y (List.mem_cons_self ..)
        have hy2 : ∀ y ∈ ys, ∃ a b w, y = .tup [a, b, w] ∧ w.gb 140 = true := fun z hz => hy z (List.mem_cons_of_mem _ hz)
        simp [-List.map_map]
        refine w_ok (is_least_sum_eq F0.ok gw (by omega) (by omega)) ?_
        simp [-List.map_map]
        refine w_ok (is_sum_eq F0.ok gw (by omega) (by omega)) ?_
        simp [-List.map_map]
        refine w_ok (truth_eq _ _) ?_
        simp [-List.map_map]
        exact hy2
      obtain ⟨rfl, _, c13, rfl⟩ := hI
      simp
      exact ⟨hb8.le (by omega), by omega⟩
    · obtain ⟨hb7, r', c6, c7, c8, c9, c10, c11, c12, c13, hr', rfl⟩ := hI
      simp at hr'
      simp
      exact ⟨hb7.le (by omega), by omega⟩
  · obtain ⟨hb, r, b3, b4, b5, b6, b7, b8, b9, b10, b11, b12, b13, hr, rfl⟩ := hI
    simp at hr
    simp
    split at hr <;> omega
end Lw

namespace Lw
open PySem PySem.W PySem.Calls PyProof.Rows Fw
theorem pure : PureZ true (S1.prog.mod 5000 14) 5000 lawN.length lawB := pureM
end Lw
open PySem PySem.W PySem.Calls PyProof.Rows
set_option maxHeartbeats 0 in
theorem PySem.Challenge.cw_sharesheld_k09_whole_judge_of_programs_holds : PySem.Challenge.rw_sharesheld_k09_whole_judge_of_programs.Holds := by
  w_on; o_law
  refine HandSHeadRun.head_any (r := OpenLaw.row PySem.Challenge.rw_sharesheld_k09_whole_judge_of_programs) (q := view (OpenLaw.row PySem.Challenge.rw_sharesheld_k09_whole_judge_of_programs).prog [57]) (H := Lw.hk) (ob := Lw.ob) (M := 20000) (loose := Lw.loose) (d := HandSHeadRun.topDef (OpenLaw.row PySem.Challenge.rw_sharesheld_k09_whole_judge_of_programs).prog 57) (kwd := []) Lw.ob_eq
    (by kernel_rfl) (fun s => by kernel_rfl) Lw.run (by kernel_rfl) (by kernel_rfl) (by kernel_rfl) (by rfl) (by first | assumption | decide +kernel) (by decide +kernel) ⟨rfl, rfl, rfl, rfl, rfl, by decide +kernel⟩ ?hw ?hc
  case hw => w_witness2
  case hc =>
    refine Fw.walk_G (l := PySem.Challenge.rw_sharesheld_k09_whole_judge_of_programs) rfl (by kernel_rfl) ?F
    intro w mg fa h Y G hmg0
    have hmg : mg ("law" : PySem.Str) = some (.ref fa) := by
      have e : (HandSHeadRun.topDef (OpenLaw.row PySem.Challenge.rw_sharesheld_k09_whole_judge_of_programs).prog 57).name = ("law" : PySem.Str) := by kernel_rfl
      rw [← e]
      exact hmg0
    exact Fw.law_at (L := Lw.L1) (n := 14) (wb := 5000) rfl Lw.ok1 Lw.wf1 Lw.cmps Lw.cLaw Lw.pure ⟨rfl, by decide, by decide⟩ Y G hmg
